import PyProof.Rows.All
import Wide.All
import OpenK.AllK
import Wide.FinOn
import HandS.ForMost
import HandS.Exc
import HandS.WordsExc
import HandS.TryOnly
import HandS.ExcOwn
import HandS.CallSlots
import HandS.Wide
import HandS.Gcd
import HandS.TupSets
import HandS.Conv
import HandS.Star
import HandS.TupAny
import HandS.IsInst
import HandS.Zip
import HandS.Flow
import HandS.Deep
import HandS.Lambda
import HandS.Slots
import HandS.Style
import HandS.SortInts
import HandS.Defaults
import HandS.Dict
import HandS.Sort
import KE.KSortTupUse
import KE.KExcSuper
import KE.KExcInit
import HandS.ExcInit
import HandS.ExcField
import HandS.EndTab
import KE.RegKTryMore
import KE.RegKSuper
import KE.KExcLine
import HandS.TupMul
import HandS.GenYield
import HandS.GenList
import HandS.DictComp
import HandS.TupLen
import HandS.WordsDict
import PyProof.SumWalkG
import PyProof.WalksMore
import PyProof.ReprLen
import PyProof.Rows.RegStrFacts
import PySem.Challenge.RW_tangentrows_k34_cross_ratios_of_four_spo
set_option Elab.async false
set_option linter.all false
set_option maxRecDepth 100000
set_option maxHeartbeats 4000000
/-! MI: pure functions over plain data D that a text's defs are shown to compute; each rule ties a construct of the text to a combinator. -/
namespace MI
open PySem PySem.Spec
open PyProof.Rows L2

/-- plain data; cell n: the n-th thing that is changed in place (dcell: a dict); obj: an instance with slots; th: a thing of the module -/
inductive D where
  | non | bl (b : Bool) | int (i : Int) | str (s : Str) | ty (n : String) | th (n : Nat)
  | tup (l : List D) | lst (l : List D) | cell (n : Nat) | dcell (n : Nat) | scr (l : List Int) | dic (ks l : List D)
  | dct (ks l : List D) | frd (ks l : List D) | obj (c : Nat) (l : List D) | adr (a : Addr) | unset | ctp (l : List Int)

mutual
def D.eqb : D → D → Bool
  | .non, .non => true
  | .bl a, .bl b => a == b
  | .int a, .int b => a == b
  | .str a, .str b => a == b
  | .ty a, .ty b => a == b
  | .th a, .th b => a == b
  | .adr a, .adr b => a == b
  | .tup a, .tup b => Ds.eqb a b
  | .lst a, .lst b => Ds.eqb a b
  | .cell a, .cell b => a == b
  | .dcell a, .dcell b => a == b
  | .scr a, .scr b => decide (a = b)
  | .ctp a, .ctp b => decide (a = b)
  | .dic k a, .dic l b => Ds.eqb k l && Ds.eqb a b
  | .dct k a, .dct l b => Ds.eqb k l && Ds.eqb a b
  | .frd k a, .frd l b => Ds.eqb k l && Ds.eqb a b
  | .obj c a, .obj d b => c == d && Ds.eqb a b
  | .unset, .unset => true
  | _, _ => false
def Ds.eqb : List D → List D → Bool
  | [], [] => true
  | a :: r, b :: s => D.eqb a b && Ds.eqb r s
  | _, _ => false
end
mutual
theorem D.eqb_eq : ∀ {a b : D}, D.eqb a b = true → a = b
  | .non, b, h => by cases b <;> simp_all [D.eqb]
  | .bl _, b, h => by cases b <;> simp_all [D.eqb]
  | .int _, b, h => by cases b <;> simp_all [D.eqb]
  | .str _, b, h => by cases b <;> simp_all [D.eqb]
  | .ty _, b, h => by cases b <;> simp_all [D.eqb]
  | .th _, b, h => by cases b <;> simp_all [D.eqb]
  | .adr _, b, h => by cases b <;> simp_all [D.eqb]
  | .cell _, b, h => by cases b <;> simp_all [D.eqb]
  | .dcell _, b, h => by cases b <;> simp_all [D.eqb]
  | .scr _, b, h => by cases b <;> simp_all [D.eqb]
  | .ctp _, b, h => by cases b <;> simp_all [D.eqb]
  | .unset, b, h => by cases b <;> simp_all [D.eqb]
  | .dic ks l, b, h => by
    cases b with
    | dic ls m =>
      rw [D.eqb, Bool.and_eq_true] at h
      rw [Ds.eqb_eq h.2, Ds.eqb_eq h.1]
    | _ => simp [D.eqb] at h
  | .dct ks l, b, h => by
    cases b with
    | dct ls m =>
      rw [D.eqb, Bool.and_eq_true] at h
      rw [Ds.eqb_eq h.2, Ds.eqb_eq h.1]
    | _ => simp [D.eqb] at h
  | .frd ks l, b, h => by
    cases b with
    | frd ls m =>
      rw [D.eqb, Bool.and_eq_true] at h
      rw [Ds.eqb_eq h.2, Ds.eqb_eq h.1]
    | _ => simp [D.eqb] at h
  | .obj c l, b, h => by
    cases b with
    | obj d m =>
      rw [D.eqb, Bool.and_eq_true] at h
      rw [Ds.eqb_eq h.2, beq_iff_eq.mp h.1]
    | _ => simp [D.eqb] at h
  | .tup l, b, h => by
    cases b with
    | tup m => rw [D.eqb] at h; rw [Ds.eqb_eq h]
    | _ => simp [D.eqb] at h
  | .lst l, b, h => by
    cases b with
    | lst m => rw [D.eqb] at h; rw [Ds.eqb_eq h]
    | _ => simp [D.eqb] at h
theorem Ds.eqb_eq : ∀ {a b : List D}, Ds.eqb a b = true → a = b
  | [], b, h => by cases b <;> simp_all [Ds.eqb]
  | x :: r, b, h => by
    cases b with
    | nil => simp [Ds.eqb] at h
    | cons y s =>
      rw [Ds.eqb, Bool.and_eq_true] at h
      rw [D.eqb_eq h.1, Ds.eqb_eq h.2]
end

/-- what is changed in place: the items of a list; [dct ..] for a dict, [frd ..] while it is walked -/
abbrev MH := List (List D)
/-- where the cells stand; the things that are being made; which cells are dicts -/
structure Ph where
  c : List Addr
  g : List Addr
  m : List Addr
def Ph.has (φ : Ph) (a : Addr) : Prop := a ∈ φ.c ∨ a ∈ φ.g
def Ph.lc (φ : Ph) (n : Nat) (a : Addr) : Prop := φ.c[n]? = some a ∧ a ∉ φ.m
def Ph.dc (φ : Ph) (n : Nat) (a : Addr) : Prop := φ.c[n]? = some a ∧ a ∈ φ.m
/-- the text's written part; its things (classes, defs) by number -/
structure Rm where
  K : PySem.W.Frag
  th : Nat → Addr

/-- a list, a tuple that stands still: no cell, or a thing of the module -/
def FL (φ : Ph) (H : Hp) (a : Addr) (xs : List V) : Prop := H a = some (.lst xs) ∧ ¬ φ.has a
def FS (K : PySem.W.Frag) (φ : Ph) (H : Hp) (a : Addr) (xs : List V) : Prop := (Rd H a (.lst xs) ∧ ¬ φ.has a) ∨ SqL K (fun _ => none) a xs
def FT (K : PySem.W.Frag) (φ : Ph) (H : Hp) (a : Addr) (xs : List V) : Prop := H a = some (.tup xs) ∧ ¬ φ.has a
theorem FL.sq {K : PySem.W.Frag} {φ : Ph} {H : Hp} {a : Addr} {xs : List V} (h : FL φ H a xs) : SqL K H a xs := SqL.of h.1
theorem FS.sq {K : PySem.W.Frag} {φ : Ph} {H : Hp} {a : Addr} {xs : List V} (h : FS K φ H a xs) : SqL K H a xs := by
  rcases h with h | (h | ⟨o, h⟩) | h
  · exact .inl h.1
  · cases h
  · cases h
  · exact .inr h
theorem FT.sq {K : PySem.W.Frag} {φ : Ph} {H : Hp} {a : Addr} {xs : List V} (h : FT K φ H a xs) : SqT K H a xs := .inl (.inl h.1)
theorem ctp_sq {K : PySem.W.Frag} {H : Hp} {a : Addr} {xs : List V} (h : SqT K (fun _ => none) a xs) : SqT K H a xs := by
  rcases h with (h | ⟨o, h⟩) | h
  · cases h
  · cases h
  · exact .inr h
/-- an instance of C at a, its own dict at dx: new, or with slots -/
def Ins (H : Hp) (a C dx : Addr) (vs : List (Option V)) : Prop := dx ≠ a ∧ ((H a = some (.ins C dx []) ∧ H dx = some (.own a) ∧ vs = []) ∨ (H a = some (SlX.SlO a C dx vs) ∧ H dx = some (.xd [])))
theorem Ins.slt {H : Hp} {a C dx : Addr} {vs : List (Option V)} (h : Ins H a C dx vs) : SlX.Slt H a C dx vs := by
  rcases h with ⟨_, h | h⟩
  · exact .inl ⟨h.1, h.2.2⟩
  · exact .inr h
theorem Ins.a {H : Hp} {a C dx : Addr} {vs : List (Option V)} (h : Ins H a C dx vs) : H a ≠ none := by
  rcases h with ⟨_, h | h⟩ <;> rw [h.1] <;> exact fun z => by cases z
theorem Ins.d {H : Hp} {a C dx : Addr} {vs : List (Option V)} (h : Ins H a C dx vs) : H dx ≠ none := by
  rcases h with ⟨_, h | h⟩
  · rw [h.2.1]; exact fun z => by cases z
  · rw [h.2]; exact fun z => by cases z
theorem Ins.eqAt {H H' : Hp} {a C dx : Addr} {vs : List (Option V)} (h : Ins H a C dx vs) (e1 : H' a = H a) (e2 : H' dx = H dx) : Ins H' a C dx vs := by
  obtain ⟨n, h⟩ := h
  refine ⟨n, ?_⟩
  rw [e1, e2]
  exact h
/-- more slots are stored -/
def Gr (vs ws : List (Option V)) : Prop := ∀ (i : Nat) (v : V), vs[i]? = some (some v) → ws[i]? = some (some v)
theorem Gr.refl {vs : List (Option V)} : Gr vs vs := fun _ _ h => h
theorem Gr.trans {vs ws xs : List (Option V)} (a : Gr vs ws) (b : Gr ws xs) : Gr vs xs := fun i v h => b i v (a i v h)
def keyD : Key → D
  | .inl i => .int i
  | .inr s => .str s
section
variable (g : Rm) (φ : Ph) (H : Hp)
mutual
inductive Rep : V → D → Prop
  | non : Rep .non .non
  | bl (b : Bool) : Rep (.bl b) (.bl b)
  | int (i : Int) : Rep (.int i) (.int i)
  | str (s : Str) : Rep (.str s) (.str s)
  | ty (n : String) : Rep (.ty n) (.ty n)
  | th (n : Nat) : Rep (.ref (g.th n)) (.th n)
  | adr (a : Addr) : Rep (.ref a) (.adr a)
  | tup {a : Addr} {xs : List V} {ds : List D} (h : FT g.K φ H a xs) (r : Reps xs ds) : Rep (.ref a) (.tup ds)
  | lst {a : Addr} {xs : List V} {ds : List D} (h : FL φ H a xs) (r : Reps xs ds) : Rep (.ref a) (.lst ds)
  | scr {a : Addr} {l : List Int} (h : FS g.K φ H a (l.map V.int)) : Rep (.ref a) (.scr l)
  | dic {a : Addr} {kvs : List (Key × V)} {ks : List D} {ds : List D} (h : Rd H a (.dK kvs)) (n : ¬ φ.has a) (e : kvs.map (fun p => keyD p.1) = ks) (r : Reps (kvs.map (·.2)) ds) : Rep (.ref a) (.dic ks ds)
  | dicT {a : Addr} {kvs : List (List Key × V)} {ks : List D} {ds : List D} (h : Rd H a (.dT kvs)) (n : ¬ φ.has a) (e : kvs.map (fun p => D.tup (p.1.map keyD)) = ks) (r : Reps (kvs.map (·.2)) ds) : Rep (.ref a) (.dic ks ds)
  | ctp {a : Addr} {l : List Int} (h : SqT g.K (fun _ => none) a (l.map V.int)) : Rep (.ref a) (.ctp l)
  | cell {a : Addr} {n : Nat} (h : φ.lc n a) : Rep (.ref a) (.cell n)
  | dcell {a : Addr} {n : Nat} (h : φ.dc n a) : Rep (.ref a) (.dcell n)
  | obj {a dx : Addr} {c : Nat} {vs : List (Option V)} {fs : List D} (h : Ins H a (g.th c) dx vs) (n1 : ¬ φ.has a) (n2 : ¬ φ.has dx) (r : RepsO vs fs) : Rep (.ref a) (.obj c fs)
inductive Reps : List V → List D → Prop
  | nil : Reps [] []
  | cons {x : V} {d : D} {xs : List V} {ds : List D} (h : Rep x d) (r : Reps xs ds) : Reps (x :: xs) (d :: ds)
inductive RepsO : List (Option V) → List D → Prop
  | nil {vs : List (Option V)} : RepsO vs []
  | miss {fs : List D} (r : RepsO [] fs) : RepsO [] (.unset :: fs)
  | unset {o : Option V} {vs : List (Option V)} {fs : List D} (r : RepsO vs fs) : RepsO (o :: vs) (.unset :: fs)
  | cons {v : V} {d : D} {vs : List (Option V)} {fs : List D} (h : Rep v d) (r : RepsO vs fs) : RepsO (some v :: vs) (d :: fs)
end
/-- what a dict holds -/
def DHas (u : HO) (ks ds : List D) : Prop := (∃ kvs : List (Key × V), u = .dK kvs ∧ kvs.map (fun p => keyD p.1) = ks ∧ Reps g φ H (kvs.map (·.2)) ds) ∨ (∃ kvs : List (List Key × V), u = .dT kvs ∧ kvs.map (fun p => D.tup (p.1.map keyD)) = ks ∧ Reps g φ H (kvs.map (·.2)) ds)
end
/-- what stands still -/
def Stl0 : HO → Prop
  | .lst _ => True
  | .tup _ => True
  | .frz _ (.lst _) => True
  | .frz _ (.tup _) => True
  | .xd (_ :: _) => True
  | _ => False
def Stl (o : HO) : Prop := Stl0 o ∨ ∃ c q, o = LamX.CodeO c q
def Dc : HO → Prop
  | .dK _ => True
  | .dT _ => True
  | _ => False
/-- what is represented stays so -/
structure Tr (φ : Ph) (H : Hp) (φ' : Ph) (H' : Hp) : Prop where
  keep : ∀ a o, H a = some o → ¬ φ.has a → Stl o → H' a = some o ∧ ¬ φ'.has a
  keepD : ∀ a u, Rd H a u → ¬ φ.has a → Dc u → Rd H' a u ∧ ¬ φ'.has a
  grow : ∀ a C dx vs, Ins H a C dx vs → ¬ φ.has a → ¬ φ.has dx → ∃ ws, Ins H' a C dx ws ∧ Gr vs ws ∧ ¬ φ'.has a ∧ ¬ φ'.has dx
  lc : ∀ n a, φ.lc n a → φ'.lc n a
  dc : ∀ n a, φ.dc n a → φ'.dc n a
/-- no table, no code object -/
def Pl (o : HO) : Prop := (∀ ps, o ≠ .tbl ps) ∧ ∀ c q, o ≠ LamX.CodeO c q
/-- .., its exception classes by number, the tables of its code objects, what is known besides -/
structure Gm where
  r : Rm
  ex : Nat → Value
  T : List (Addr × Str)
  iv : Ph → Hp → Prop
  ivm : ∀ φ H φ' H', Tr φ H φ' H' → iv φ H → iv φ' H'
abbrev Gm.K (g : Gm) : PySem.W.Frag := g.r.K
/-- the cells stand -/
structure Hok (g : Gm) (φ : Ph) (H : Hp) (h : MH) : Prop where
  nd : φ.c.Nodup
  len : φ.c.length = h.length
  gs : ∀ a ∈ φ.g, a ∉ φ.c ∧ ∃ o, H a = some o ∧ Pl o
  at_ : ∀ (n : Nat) (a : Addr) (ds : List D), φ.lc n a → h[n]? = some ds → ∃ xs, H a = some (.lst xs) ∧ Reps g.r φ H xs ds
  atD : ∀ (n : Nat) (a : Addr) (ds : List D), φ.dc n a → h[n]? = some ds → ∃ ks vs u, DHas g.r φ H u ks vs ∧ ((ds = [.dct ks vs] ∧ H a = some u) ∨ (ds = [.frd ks vs] ∧ ∃ o, H a = some (.frz o u)))
  tb : LamX.Tabs g.T H
  iv : g.iv φ H
/-- .., the cells may turn -/
structure Ext (φ : Ph) (H : Hp) (φ' : Ph) (H' : Hp) : Prop where
  tr : Tr φ H φ' H'
  pre : ∃ m, φ'.c = φ.c ++ m
  gh : ∀ a ∈ φ.g, a ∈ φ'.g
  gk : ∀ a ∈ φ.g, H' a = H a
section
variable {g : Rm} {φ φ' φ2 : Ph} {H H' H2 : Hp} {x v : V} {d : D} {xs : List V} {ds : List D} 
theorem Tr.refl : Tr φ H φ H := ⟨fun _ _ e n _ => ⟨e, n⟩, fun _ _ e n _ => ⟨e, n⟩, fun _ _ _ vs i n m => ⟨vs, i, Gr.refl, n, m⟩, fun _ _ e => e, fun _ _ e => e⟩
theorem Tr.trans (a : Tr φ H φ' H') (b : Tr φ' H' φ2 H2) : Tr φ H φ2 H2 where
  keep := fun x o e n s => b.keep x o (a.keep x o e n s).1 (a.keep x o e n s).2 s
  keepD := fun x o e n s => b.keepD x o (a.keepD x o e n s).1 (a.keepD x o e n s).2 s
  grow := fun x C dx vs i n m => by
    obtain ⟨ws, i1, g1, n1, m1⟩ := a.grow x C dx vs i n m
    obtain ⟨xs, i2, g2, n2, m2⟩ := b.grow x C dx ws i1 n1 m1
    exact ⟨xs, i2, g1.trans g2, n2, m2⟩
  lc := fun n x e => b.lc n x (a.lc n x e)
  dc := fun n x e => b.dc n x (a.dc n x e)
theorem Ext.refl : Ext φ H φ H := ⟨Tr.refl, ⟨[], by simp⟩, fun _ h => h, fun _ _ => rfl⟩
theorem Ext.trans (a : Ext φ H φ' H') (b : Ext φ' H' φ2 H2) : Ext φ H φ2 H2 := by
  obtain ⟨m, e⟩ := a.pre
  obtain ⟨m2, e2⟩ := b.pre
  exact ⟨a.tr.trans b.tr, ⟨m ++ m2, by rw [e2, e, List.append_assoc]⟩, fun x hx => b.gh x (a.gh x hx), fun x hx => (b.gk x (a.gh x hx)).trans (a.gk x hx)⟩
/-- all but what is changed in place stays where it is -/
theorem Tr.of {φ : Ph} {H H' : Hp} (e : ∀ a o, H a = some o → ¬ φ.has a → H' a = some o) : Tr φ H φ H' where
  keep := fun a o q n _ => ⟨e a o q n, n⟩
  keepD := fun a u q n _ => ⟨q.imp (fun q => e a _ q n) (fun ⟨o, q⟩ => ⟨o, e a _ q n⟩), n⟩
  grow := fun a C dx vs i n m => by
    refine ⟨vs, i.eqAt ?_ ?_, Gr.refl, n, m⟩
    · cases q : H a with
      | none => exact absurd q i.a
      | some o => exact e a o q n
    · cases q : H dx with
      | none => exact absurd q i.d
      | some o => exact e dx o q m
  lc := fun _ _ q => q
  dc := fun _ _ q => q
theorem Tr.upd {φ : Ph} {H : Hp} {p : Addr} {o : HO} (hp : H p = none ∨ φ.has p) : Tr φ H φ (upd H p o) := Tr.of fun a u q n => by
  rw [upd_ne]
  · exact q
  · intro z
    subst z
    rcases hp with hp | hp
    · rw [hp] at q; cases q
    · exact n hp
theorem Tr.rd {a : Addr} {u : HO} (e : Tr φ H φ' H') (r : Rd H a u) (n : ¬ φ.has a) (s : Stl u) (s' : ∀ o, Stl (.frz o u)) : Rd H' a u ∧ ¬ φ'.has a := by
  rcases r with r | ⟨o, r⟩
  · exact ⟨.inl (e.keep _ _ r n s).1, (e.keep _ _ r n s).2⟩
  · exact ⟨.inr ⟨o, (e.keep _ _ r n (s' o)).1⟩, (e.keep _ _ r n (s' o)).2⟩
theorem Tr.fl {a : Addr} (e : Tr φ H φ' H') (r : FL φ H a xs) : FL φ' H' a xs := e.keep _ _ r.1 r.2 (.inl trivial)
theorem Tr.fs {K : PySem.W.Frag} {a : Addr} (e : Tr φ H φ' H') (r : FS K φ H a xs) : FS K φ' H' a xs := by
  rcases r with r | r
  · exact .inl (e.rd r.1 r.2 (.inl trivial) fun _ => .inl trivial)
  · exact .inr r
theorem Tr.ft {K : PySem.W.Frag} {a : Addr} (e : Tr φ H φ' H') (r : FT K φ H a xs) : FT K φ' H' a xs := e.keep _ _ r.1 r.2 (.inl trivial)
theorem Ext.fl {a : Addr} (e : Ext φ H φ' H') (r : FL φ H a xs) : FL φ' H' a xs := e.tr.fl r
theorem Ext.fs {K : PySem.W.Frag} {a : Addr} (e : Ext φ H φ' H') (r : FS K φ H a xs) : FS K φ' H' a xs := e.tr.fs r
theorem Ext.ft {K : PySem.W.Frag} {a : Addr} (e : Ext φ H φ' H') (r : FT K φ H a xs) : FT K φ' H' a xs := e.tr.ft r
theorem Ext.ix {a : Addr} {n : Nat} (e : Ext φ H φ' H') (r : φ.lc n a) : φ'.lc n a := e.tr.lc n a r
theorem RepsO.gr : ∀ {fs : List D} {vs ws : List (Option V)}, RepsO g φ H vs fs → Gr vs ws → RepsO g φ H ws fs
  | [], _, _, _, _ => .nil
  | d :: fs, [], ws, r, e => by
    cases r with
    | miss r =>
      cases ws with
      | nil => exact .miss r
      | cons w ws => exact .unset (RepsO.gr r fun i v z => by simp at z)
  | d :: fs, o :: vs, [], r, e => by
    cases r with
    | unset r => exact .miss (RepsO.gr r fun i v z => by have := e (i + 1) v (by simpa using z); simp at this)
    | cons h r => have := e 0 _ rfl; simp at this
  | d :: fs, o :: vs, w :: ws, r, e => by
    cases r with
    | unset r => exact .unset (RepsO.gr r fun i v z => by simpa using e (i + 1) v (by simpa using z))
    | cons h r =>
      have e0 := e 0 _ rfl
      simp at e0
      subst e0
      exact .cons h (RepsO.gr r fun i v z => by simpa using e (i + 1) v (by simpa using z))
mutual
theorem Rep.tr (e : Tr φ H φ' H') : ∀ {v : V} {d : D}, Rep g φ H v d → Rep g φ' H' v d
  | _, _, .non => .non
  | _, _, .bl b => .bl b
  | _, _, .int b => .int b
  | _, _, .str b => .str b
  | _, _, .ty b => .ty b
  | _, _, .th b => .th b
  | _, _, .adr b => .adr b
  | _, _, .tup h r => .tup (e.ft h) (Reps.tr e r)
  | _, _, .lst h r => .lst (e.fl h) (Reps.tr e r)
  | _, _, .scr h => .scr (e.fs h)
  | _, _, .dic h n q r => .dic (e.keepD _ _ h n trivial).1 (e.keepD _ _ h n trivial).2 q (Reps.tr e r)
  | _, _, .dicT h n q r => .dicT (e.keepD _ _ h n trivial).1 (e.keepD _ _ h n trivial).2 q (Reps.tr e r)
  | _, _, .ctp h => .ctp h
  | _, _, .cell h => .cell (e.lc _ _ h)
  | _, _, .dcell h => .dcell (e.dc _ _ h)
  | _, _, .obj h n1 n2 r => by
    have r' := RepsO.tr e r
    obtain ⟨ws, i, g1, m1, m2⟩ := e.grow _ _ _ _ h n1 n2
    exact .obj i m1 m2 (r'.gr g1)
theorem Reps.tr (e : Tr φ H φ' H') : ∀ {xs : List V} {ds : List D}, Reps g φ H xs ds → Reps g φ' H' xs ds
  | _, _, .nil => .nil
  | _, _, .cons h r => .cons (Rep.tr e h) (Reps.tr e r)
theorem RepsO.tr (e : Tr φ H φ' H') : ∀ {xs : List (Option V)} {ds : List D}, RepsO g φ H xs ds → RepsO g φ' H' xs ds
  | _, _, .nil => .nil
  | _, _, .miss r => .miss (RepsO.tr e r)
  | _, _, .unset r => .unset (RepsO.tr e r)
  | _, _, .cons h r => .cons (Rep.tr e h) (RepsO.tr e r)
end
theorem Rep.ext (e : Ext φ H φ' H') {v : V} {d : D} (r : Rep g φ H v d) : Rep g φ' H' v d := r.tr e.tr
theorem Reps.ext (e : Ext φ H φ' H') {xs : List V} {ds : List D} (r : Reps g φ H xs ds) : Reps g φ' H' xs ds := r.tr e.tr
theorem DHas.tr (e : Tr φ H φ' H') {u : HO} {ks : List D} (r : DHas g φ H u ks ds) : DHas g φ' H' u ks ds := by
  rcases r with ⟨kvs, e1, e2, r⟩ | ⟨kvs, e1, e2, r⟩
  · exact .inl ⟨kvs, e1, e2, r.tr e⟩
  · exact .inr ⟨kvs, e1, e2, r.tr e⟩
theorem Reps.length : ∀ {xs : List V} {ds : List D}, Reps g φ H xs ds → xs.length = ds.length
  | _, _, .nil => rfl
  | _, _, .cons _ r => by rw [List.length_cons, List.length_cons, Reps.length r]
theorem Reps.get : ∀ {xs : List V} {ds : List D} {i : Nat} {d : D}, Reps g φ H xs ds → ds[i]? = some d → ∃ x, xs[i]? = some x ∧ Rep g φ H x d
  | _, _, _, _, .nil, e => by simp at e
  | _, _, 0, _, .cons h _, e => by simp at e; subst e; exact ⟨_, by simp, h⟩
  | _, _, i + 1, _, .cons _ r, e => by
    obtain ⟨x, e1, e2⟩ := Reps.get (i := i) r (by simpa using e)
    exact ⟨x, by simpa using e1, e2⟩
theorem Reps.getL : ∀ {xs : List V} {ds : List D} {i : Nat} {x : V}, Reps g φ H xs ds → xs[i]? = some x → ∃ d, ds[i]? = some d ∧ Rep g φ H x d
  | _, _, _, _, .nil, e => by simp at e
  | _, _, 0, _, .cons h _, e => by simp at e; subst e; exact ⟨_, by simp, h⟩
  | _, _, i + 1, _, .cons _ r, e => by
    obtain ⟨x, e1, e2⟩ := Reps.getL (i := i) r (by simpa using e)
    exact ⟨x, by simpa using e1, e2⟩
theorem Reps.append : ∀ {xs ys : List V} {ds es : List D}, Reps g φ H xs ds → Reps g φ H ys es → Reps g φ H (xs ++ ys) (ds ++ es)
  | _, _, _, _, .nil, s => s
  | _, _, _, _, .cons h r, s => .cons h (Reps.append r s)
theorem Reps.take : ∀ {xs : List V} {ds : List D} (n : Nat), Reps g φ H xs ds → Reps g φ H (xs.take n) (ds.take n)
  | _, _, 0, _ => .nil
  | _, _, _ + 1, .nil => .nil
  | _, _, n + 1, .cons h r => .cons h (Reps.take n r)
theorem Reps.drop : ∀ {xs : List V} {ds : List D} (n : Nat), Reps g φ H xs ds → Reps g φ H (xs.drop n) (ds.drop n)
  | _, _, 0, r => r
  | _, _, _ + 1, .nil => .nil
  | _, _, n + 1, .cons _ r => Reps.drop n r
theorem Reps.set {y : V} {e : D} (h : Rep g φ H y e) : ∀ {xs : List V} {ds : List D} (n : Nat), Reps g φ H xs ds → Reps g φ H (xs.set n y) (ds.set n e)
  | _, _, _, .nil => .nil
  | _, _, 0, .cons _ r => .cons h r
  | _, _, n + 1, .cons q r => .cons q (Reps.set h n r)
theorem Reps.eraseIdx : ∀ {xs : List V} {ds : List D} (n : Nat), Reps g φ H xs ds → Reps g φ H (xs.eraseIdx n) (ds.eraseIdx n)
  | _, _, _, .nil => .nil
  | _, _, 0, .cons _ r => r
  | _, _, n + 1, .cons q r => .cons q (Reps.eraseIdx n r)
theorem Reps.one (h : Rep g φ H x d) : Reps g φ H [x] [d] := .cons h .nil
/-- the frame's slots -/
def Slots (g : Rm) (φ : Ph) (H : Hp) (σ : L2.St) (ρ : List (Option D)) : Prop :=
  σ.length = ρ.length ∧ ∀ (i : Nat) (d : D), ρ[i]? = some (some d) → ∃ v, σ[i]? = some (some v) ∧ Rep g φ H v d
theorem Slots.ext {σ : L2.St} {ρ : List (Option D)} (e : Ext φ H φ' H') (s : Slots g φ H σ ρ) : Slots g φ' H' σ ρ :=
  ⟨s.1, fun i d q => let ⟨v, a, b⟩ := s.2 i d q; ⟨v, a, b.ext e⟩⟩
theorem Slots.set {σ : L2.St} {ρ : List (Option D)} (s : Slots g φ H σ ρ) (r : Rep g φ H v d) (i : Nat) : Slots g φ H (σ.set i (some v)) (ρ.set i (some d)) := by
  refine ⟨by simp [s.1], fun j e q => ?_⟩
  by_cases hj : i = j
  · subst hj
    have hl : i < ρ.length := by
      have := (List.getElem?_eq_some_iff.mp q).1
      simpa using this
    rw [List.getElem?_set_self hl] at q
    cases q
    exact ⟨v, List.getElem?_set_self (by rw [s.1]; exact hl), r⟩
  · rw [List.getElem?_set_ne hj] at q
    obtain ⟨u, a, b⟩ := s.2 j e q
    exact ⟨u, by rw [List.getElem?_set_ne hj]; exact a, b⟩
theorem Slots.unset {σ : L2.St} {ρ : List (Option D)} (s : Slots g φ H σ ρ) (i : Nat) : Slots g φ H (σ.set i none) (ρ.set i none) := by
  refine ⟨by simp [s.1], fun j e q => ?_⟩
  by_cases hj : i = j
  · subst hj
    have hl : i < ρ.length := by
      have := (List.getElem?_eq_some_iff.mp q).1
      simpa using this
    rw [List.getElem?_set_self hl] at q
    cases q
  · rw [List.getElem?_set_ne hj] at q
    obtain ⟨u, a, b⟩ := s.2 j e q
    exact ⟨u, by rw [List.getElem?_set_ne hj]; exact a, b⟩
theorem Slots.start {N : List Str} (r : Reps g φ H xs ds) : Slots g φ H (L2.start N xs) (ds.map some ++ List.replicate (N.length - ds.length) none) := by
  have hl := r.length
  refine ⟨by simp [L2.start, hl], fun i d q => ?_⟩
  by_cases hi : i < ds.length
  · rw [List.getElem?_append_left (by simpa using hi), List.getElem?_map] at q
    cases e : ds[i]? with
    | none => rw [e] at q; cases q
    | some d' =>
      rw [e] at q
      cases q
      obtain ⟨x, e1, e2⟩ := r.get e
      refine ⟨x, ?_, e2⟩
      unfold L2.start
      rw [List.getElem?_append_left (by rw [List.length_map, hl]; exact hi), List.getElem?_map, e1]
      rfl
  · rw [List.getElem?_append_right (by simpa using hi)] at q
    have := List.getElem?_eq_some_iff.mp q
    obtain ⟨_, e⟩ := this
    simp at e
end
end MI
namespace MI
open PySem PySem.Spec
open PyProof.Rows L2

structure Exc where
  cls : Nat
  kept : Option (Str × D)
/-- what a computation gives -/
inductive R (α : Type) where
  | ok (a : α) (h : MH)
  | exc (e : Exc) (h : MH)
  | bad
def R.bind {α β : Type} (r : R α) (k : α → MH → R β) : R β := match r with
  | .ok a h => k a h
  | .exc e h => .exc e h
  | .bad => .bad
abbrev Env1 := List (Option D)
abbrev ME := Env1 → MH → R D
abbrev MT := Env1 → MH → R Bool
abbrev MA := Env1 → MH → R (List D)

def ExRep (g : Gm) (φ : Ph) (H : Hp) (c : Value) (dx : Option Addr) (e : Exc) : Prop :=
  c = g.ex e.cls ∧ match e.kept with
    | none => dx = none
    | some (f, d) => ∃ a v, dx = some a ∧ H a = some (.xd [(f, v)]) ∧ ¬ φ.has a ∧ Rep g.r φ H v d
section
variable (g : Gm) (W : WX) (σ : L2.St) (φ : Ph) (H : Hp)
def Out {α β : Type} (rel : Ph → Hp → β → α → Prop) (Q : β → Hp → Prop) : R α → Prop
  | .ok a h => ∀ φ' v H', Ext φ H φ' H' → rel φ' H' v a → Hok g φ' H' h → Q v H'
  | .exc e h => ∀ φ' c dx H', Ext φ H φ' H' → ExRep g φ' H' c dx e → Hok g φ' H' h → W c dx σ H'
  | .bad => False
end
section
variable {g : Gm} {W : WX} {σ : L2.St} {φ φ' : Ph} {H H' : Hp} {α β γ δ : Type} {rel : Ph → Hp → β → α → Prop} {rel' : Ph → Hp → δ → γ → Prop} {Q : β → Hp → Prop} {Q' : δ → Hp → Prop}
theorem Out.base {r : R α} (e : Ext φ H φ' H') (o : Out g W σ φ H rel Q r) : Out g W σ φ' H' rel Q r := by
  cases r with
  | ok a h => exact fun φ2 v H2 e2 => o φ2 v H2 (e.trans e2)
  | exc x h => exact fun φ2 c dx H2 e2 => o φ2 c dx H2 (e.trans e2)
  | bad => exact o
theorem Out.next {r : R γ} {k : γ → MH → R α} (o : Out g W σ φ H rel Q (r.bind k))
    (n : ∀ a h φ1 v H1, Ext φ H φ1 H1 → rel' φ1 H1 v a → Hok g φ1 H1 h → Out g W σ φ1 H1 rel Q (k a h) → Q' v H1) : Out g W σ φ H rel' Q' r := by
  cases r with
  | ok a h => exact fun φ1 v H1 e r1 m1 => n a h φ1 v H1 e r1 m1 (Out.base e o)
  | exc x h => exact o
  | bad => exact o
end
def rB : Ph → Hp → Bool → Bool → Prop := fun _ _ b a => b = a
/-- the readings -/
def tE (g : Gm) (W : WX) (m : ME) : TE := fun σ H Q => ∃ φ ρ h, Slots g.r φ H σ ρ ∧ Hok g φ H h ∧ Out g W σ φ H (Rep g.r) Q (m ρ h)
def tT (g : Gm) (W : WX) (m : MT) : TT := fun σ H Q => ∃ φ ρ h, Slots g.r φ H σ ρ ∧ Hok g φ H h ∧ Out g W σ φ H rB Q (m ρ h)
def tA (g : Gm) (W : WX) (m : MA) : TA := fun σ H Q => ∃ φ ρ h, Slots g.r φ H σ ρ ∧ Hok g φ H h ∧ Out g W σ φ H (Reps g.r) Q (m ρ h)
section
variable {X : Cx} {e : Expr}
theorem pe_imp {t t' : TE} (h : PE X e t) (i : ∀ σ H Q, t' σ H Q → t σ H Q) : PE X e t' := ⟨fun pins s σ H Q I q => h.run pins s σ H Q I (i _ _ _ q)⟩
theorem pt_imp {t t' : TT} (h : PT X e t) (i : ∀ σ H Q, t' σ H Q → t σ H Q) : PT X e t' := ⟨fun pins s σ H Q I q => h.run pins s σ H Q I (i _ _ _ q)⟩
theorem pw_imp {t t' : TT} (h : PW X e t) (i : ∀ σ H Q, t' σ H Q → t σ H Q) : PW X e t' := ⟨fun w pins s σ H Q I q => h.run w pins s σ H Q I (i _ _ _ q)⟩
theorem pa_imp {es : List Expr} {t t' : TA} (h : PA X es t) (i : ∀ σ H Q, t' σ H Q → t σ H Q) : PA X es t' := ⟨fun p pins s σ H Q I q => h.run p pins s σ H Q I (i _ _ _ q)⟩
end

/-! ### combinators -/
def mVar (i : Nat) : ME := fun ρ h => match ρ[i]? with
  | some (some d) => .ok d h
  | _ => .bad
def mC (d : D) : ME := fun _ h => .ok d h
def mBin (f : D → D → MH → R D) (a b : ME) : ME := fun ρ h => (a ρ h).bind fun x h1 => (b ρ h1).bind fun y h2 => f x y h2
def mUn (f : D → MH → R D) (a : ME) : ME := fun ρ h => (a ρ h).bind f
def mNil : MA := fun _ h => .ok [] h
def mCons (a : ME) (r : MA) : MA := fun ρ h => (a ρ h).bind fun x h1 => (r ρ h1).bind fun xs h2 => .ok (x :: xs) h2
def mCall (f : List D → MH → R D) (a : MA) : ME := fun ρ h => (a ρ h).bind f
def asB : D → MH → R Bool
  | .bl b, h => .ok b h
  | _, _ => .bad
/-- a test that is a value True or False -/
def mTest (a : ME) : MT := fun ρ h => (a ρ h).bind asB
def mNotT (t : MT) : MT := fun ρ h => (t ρ h).bind fun b h1 => .ok (!b) h1
def mAndT (t u : MT) : MT := fun ρ h => (t ρ h).bind fun b h1 => match b with
  | true => u ρ h1
  | false => .ok false h1
def mOrT (t u : MT) : MT := fun ρ h => (t ρ h).bind fun b h1 => match b with
  | true => .ok true h1
  | false => u ρ h1
def mIf (t : MT) (a b : ME) : ME := fun ρ h => (t ρ h).bind fun k h1 => match k with
  | true => a ρ h1
  | false => b ρ h1
/-- a and b, a or b, not a, the values True or False -/
def mAnd (a b : ME) : ME := fun ρ h => (a ρ h).bind fun x h1 => match x with
  | .bl true => b ρ h1
  | .bl false => .ok (.bl false) h1
  | _ => .bad
def mOr (a b : ME) : ME := fun ρ h => (a ρ h).bind fun x h1 => match x with
  | .bl true => .ok (.bl true) h1
  | .bl false => b ρ h1
  | _ => .bad
def vNot : D → MH → R D
  | .bl b, h => .ok (.bl (!b)) h
  | _, _ => .bad

/-- by values -/
def Op2 (g : Gm) (r : R2) (f : D → D → MH → R D) : Prop := ∀ {W : WX} {σ : L2.St} {φ : Ph} {H : Hp} {h : MH} {x y : V} {d e : D} {Q : VK}, Rep g.r φ H x d → Rep g.r φ H y e → Hok g φ H h → Out g W σ φ H (Rep g.r) Q (f d e h) → r x y H Q
def Op1 (g : Gm) (r : V → Hp → VK → Prop) (f : D → MH → R D) : Prop := ∀ {W : WX} {σ : L2.St} {φ : Ph} {H : Hp} {h : MH} {x : V} {d : D} {Q : VK}, Rep g.r φ H x d → Hok g φ H h → Out g W σ φ H (Rep g.r) Q (f d h) → r x H Q
def OpN (g : Gm) (r : List V → Hp → VK → Prop) (f : List D → MH → R D) : Prop := ∀ {W : WX} {σ : L2.St} {φ : Ph} {H : Hp} {h : MH} {xs : List V} {ds : List D} {Q : VK}, Reps g.r φ H xs ds → Hok g φ H h → Out g W σ φ H (Rep g.r) Q (f ds h) → r xs H Q
section
variable {g : Gm} {W : WX} {X : Cx} {ma mb mc : ME} {mt mu : MT} {mas : MA} {ta tb : TE}
theorem imp_bin {r : R2} {f : D → D → MH → R D} (ho : Op2 g r f) (σ : L2.St) (H : Hp) (Q : VK) (t : tE g W (mBin f ma mb) σ H Q) : tOp r (tE g W ma) (tE g W mb) σ H Q := by
  obtain ⟨φ, ρ, h, s, m, o⟩ := t
  refine ⟨φ, ρ, h, s, m, Out.next o fun x h1 φ1 v H1 e1 r1 m1 o1 => ?_⟩
  refine ⟨φ1, ρ, h1, s.ext e1, m1, Out.next o1 fun y h2 φ2 u H2 e2 r2 m2 o2 => ?_⟩
  exact ho (r1.ext e2) r2 m2 o2
theorem imp_un {r : V → Hp → VK → Prop} {f : D → MH → R D} (ho : Op1 g r f) (σ : L2.St) (H : Hp) (Q : VK) (t : tE g W (mUn f ma) σ H Q) : tUn r (tE g W ma) σ H Q := by
  obtain ⟨φ, ρ, h, s, m, o⟩ := t
  exact ⟨φ, ρ, h, s, m, Out.next o fun x h1 φ1 v H1 e1 r1 m1 o1 => ho r1 m1 o1⟩
theorem imp_cb {r : List V → Hp → VK → Prop} {f : List D → MH → R D} (ho : OpN g r f) (σ : L2.St) (H : Hp) (Q : VK) (t : tE g W (mCall f mas) σ H Q) : tCB r (tA g W mas) σ H Q := by
  obtain ⟨φ, ρ, h, s, m, o⟩ := t
  exact ⟨φ, ρ, h, s, m, Out.next o fun x h1 φ1 v H1 e1 r1 m1 o1 => ho r1 m1 o1⟩

/-! ### names, constants, operators -/
theorem imp_var {i : Nat} (σ : L2.St) (H : Hp) (Q : VK) (t : tE g W (mVar i) σ H Q) : tVar i σ H Q := by
  obtain ⟨φ, ρ, h, s, m, o⟩ := t
  unfold mVar at o
  split at o
  · rename_i d hd
    obtain ⟨v, e1, e2⟩ := s.2 i d hd
    exact ⟨v, e1, o φ v H Ext.refl e2 m⟩
  · exact o.elim
theorem imp_c {v : V} {d : D} (r : ∀ φ H, Rep g.r φ H v d) (σ : L2.St) (H : Hp) (Q : VK) (t : tE g W (mC d) σ H Q) : tC v σ H Q := by
  obtain ⟨φ, ρ, h, s, m, o⟩ := t
  exact o φ v H Ext.refl (r _ _) m
theorem sv (i : Nat) {x : Str} {pos : Pos} (hN : X.N[i]? = some x := by rfl) (hv : Vis X.env.scope x := by first | exact Or.inl rfl | exact Or.inr (Or.inl rfl) | exact Or.inr (Or.inr rfl)) (hd : (x == ("__debug__" : Str)) = false := by decide)
    (hcd : (x == ("__classdict__" : Str)) = false := by decide) : PE X (.Name x pos) (tE g W (mVar i)) := pe_imp (pe_var hN hv hd hcd) imp_var
theorem sc_int {i : Int} {j : Nat} {pos : Pos} : PE X (.Constant (.int i) j pos) (tE g W (mC (.int i))) := pe_imp pe_int (imp_c fun _ _ => .int _)
theorem sc_bl {b : Bool} {j : Nat} {pos : Pos} : PE X (.Constant (.bool b) j pos) (tE g W (mC (.bl b))) := pe_imp pe_bl (imp_c fun _ _ => .bl _)
theorem sc_non {j : Nat} {pos : Pos} : PE X (.Constant .none j pos) (tE g W (mC .non)) := pe_imp pe_non (imp_c fun _ _ => .non)
theorem sc_str {z : Str} {j : Nat} {pos : Pos} : PE X (.Constant (.str z) j pos) (tE g W (mC (.str z))) := pe_imp pe_str (imp_c fun _ _ => .str _)
/-- a module's constant -/
theorem sc_glob {x : Str} {v : V} {u : Value} {d : D} {pos : Pos} (hg : Gl X x) (hm : X.mg x = some u) (r : RelV v u) (rd : ∀ φ H, Rep g.r φ H v d) (hd : (x == ("__debug__" : Str)) = false := by decide) : PE X (.Name x pos) (tE g W (mC d)) :=
  pe_imp (pe_glob hg hm r hd) (imp_c rd)
theorem sc_ty {x : Str} {n : String} {pos : Pos} (hg : Gl X x) (hm : X.mg x = none) (hv : bootBuiltins x = some (.type n)) (hn : x ≠ "__name__" := by decide) (hd : (x == ("__debug__" : Str)) = false := by decide) : PE X (.Name x pos) (tE g W (mC (.ty n))) :=
  pe_imp (pe_bltn hg hm hv (v := .ty n) rfl hn hd) (imp_c fun _ _ => .ty _)
variable {a b c : Expr} {pos : Pos} {rest : List Expr}
theorem se_bin {op : Operator} {r : R2} {f : D → D → MH → R D} (ho : OpR X (binaryOp op) r) (hv : Op2 g r f) (ha : PE X a (tE g W ma)) (hb : PE X b (tE g W mb)) : PE X (.BinOp a op b pos) (tE g W (mBin f ma mb)) := pe_imp (pe_op ho ha hb) (imp_bin hv)
theorem se_un {op : UnaryOp} {r : V → Hp → VK → Prop} {f : D → MH → R D} (ho : UnR X (unaryOp op) r) (hv : Op1 g r f) (ha : PE X a (tE g W ma)) : PE X (.UnaryOp op a pos) (tE g W (mUn f ma)) := pe_imp (pe_un ho ha) (imp_un hv)
theorem se_cmp {op : CmpOp} {r : R2} {f : D → D → MH → R D} (ho : OpR X (compareOp op) r) (hv : Op2 g r f) (ha : PE X a (tE g W ma)) (hb : PE X b (tE g W mb)) (hm : behindInMarks op b = false) : PE X (.Compare a [op] [b] pos) (tE g W (mBin f ma mb)) :=
  pe_imp (pe_cmpR ho ha hb hm) (imp_bin hv)
/-- a test: a value True or False -/
theorem imp_test (σ : L2.St) (H : Hp) (Q : Bool → Hp → Prop) (t : tT g W (mTest ma) σ H Q) : tB (tE g W ma) σ H Q := by
  obtain ⟨φ, ρ, h, s, m, o⟩ := t
  refine ⟨φ, ρ, h, s, m, Out.next o fun x h1 φ1 v H1 e1 r1 m1 o1 => ?_⟩
  cases r1 with
  | bl k => exact ⟨k, rfl, o1 φ1 k H1 Ext.refl rfl m1⟩
  | _ => exact o1.elim
theorem st_val (ha : PE X a (tE g W ma)) (he : ∀ whole, isTrue a X.env whole = (do let v ← whole; standAt a.pos; holding [v] (truthy v)) := by intro _; rfl) : PT X a (tT g W (mTest ma)) := pt_imp (pt_val ha he) imp_test
theorem st_cmp {op : CmpOp} {r : R2} {f : D → D → MH → R D} (ho : OpR X (compareOp op) r) (hv : Op2 g r f) (ha : PE X a (tE g W ma)) (hb : PE X b (tE g W mb)) (hm : behindInMarks op b = false) : PT X (.Compare a [op] [b] pos) (tT g W (mTest (mBin f ma mb))) :=
  pt_imp (pt_cmpR ho ha hb hm) fun σ H Q t => imp_bin hv σ H _ (show tE g W (mBin f ma mb) σ H _ from imp_test σ H Q t)
theorem imp_if (σ : L2.St) (H : Hp) (Q : VK) (t : tE g W (mIf mt ma mb) σ H Q) : tIf (tT g W mt) (tE g W ma) (tE g W mb) σ H Q := by
  obtain ⟨φ, ρ, h, s, m, o⟩ := t
  refine ⟨φ, ρ, h, s, m, Out.next (rel' := rB) o fun x h1 φ1 v H1 e1 r1 m1 o1 => ?_⟩
  cases (show v = x from r1)
  cases x with
  | true => exact ⟨φ1, ρ, h1, s.ext e1, m1, o1⟩
  | false => exact ⟨φ1, ρ, h1, s.ext e1, m1, o1⟩
theorem se_if (hc : PT X c (tT g W mt)) (ha : PE X a (tE g W ma)) (hb : PE X b (tE g W mb)) : PE X (.IfExp c a b pos) (tE g W (mIf mt ma mb)) := pe_imp (pe_ifExp hc ha hb) imp_if
theorem st_not (hc : PT X a (tT g W mt)) : PT X (.UnaryOp .Not a pos) (tT g W (mNotT mt)) := pt_imp (pt_not hc) fun σ H Q t => by
  obtain ⟨φ, ρ, h, s, m, o⟩ := t
  refine ⟨φ, ρ, h, s, m, Out.next (rel' := rB) o fun x h1 φ1 v H1 e1 r1 m1 o1 => ?_⟩
  cases (show v = x from r1)
  exact o1 φ1 _ H1 Ext.refl rfl m1
theorem sw_one (hc : PT X a (tT g W mt)) : PW X (.BoolOp .And [a] pos) (tT g W mt) := pw_and1 hc
theorem sw_oneO (hc : PT X a (tT g W mt)) : PW X (.BoolOp .Or [a] pos) (tT g W mt) := pw_or1 hc
theorem sw_and (ha : PT X a (tT g W mt)) (hb : PW X (.BoolOp .And (b :: rest) pos) (tT g W mu)) : PW X (.BoolOp .And (a :: b :: rest) pos) (tT g W (mAndT mt mu)) := pw_imp (pw_and ha hb) fun σ H Q t => by
  obtain ⟨φ, ρ, h, s, m, o⟩ := t
  refine ⟨φ, ρ, h, s, m, Out.next (rel' := rB) o fun x h1 φ1 v H1 e1 r1 m1 o1 => ?_⟩
  cases (show v = x from r1)
  cases x with
  | true => exact ⟨φ1, ρ, h1, s.ext e1, m1, o1⟩
  | false => exact o1 φ1 _ H1 Ext.refl rfl m1
theorem sw_or (ha : PT X a (tT g W mt)) (hb : PW X (.BoolOp .Or (b :: rest) pos) (tT g W mu)) : PW X (.BoolOp .Or (a :: b :: rest) pos) (tT g W (mOrT mt mu)) := pw_imp (pw_or ha hb) fun σ H Q t => by
  obtain ⟨φ, ρ, h, s, m, o⟩ := t
  refine ⟨φ, ρ, h, s, m, Out.next (rel' := rB) o fun x h1 φ1 v H1 e1 r1 m1 o1 => ?_⟩
  cases (show v = x from r1)
  cases x with
  | false => exact ⟨φ1, ρ, h1, s.ext e1, m1, o1⟩
  | true => exact o1 φ1 _ H1 Ext.refl rfl m1
/-- and, or, not as values True or False -/
theorem se_one {op : BoolOp} (ha : PE X a (tE g W ma)) : PE X (.BoolOp op [a] pos) (tE g W ma) := pe_one ha
theorem se_and (ha : PE X a (tE g W ma)) (hb : PE X (.BoolOp .And (b :: rest) pos) (tE g W mb)) : PE X (.BoolOp .And (a :: b :: rest) pos) (tE g W (mAnd ma mb)) := pe_imp (pe_and ha hb) fun σ H Q t => by
  obtain ⟨φ, ρ, h, s, m, o⟩ := t
  refine ⟨φ, ρ, h, s, m, Out.next o fun x h1 φ1 v H1 e1 r1 m1 o1 => ?_⟩
  cases r1 with
  | bl k =>
    refine ⟨k, rfl, ?_⟩
    cases k with
    | true => exact ⟨φ1, ρ, h1, s.ext e1, m1, o1⟩
    | false => exact o1 φ1 _ H1 Ext.refl (.bl _) m1
  | _ => exact o1.elim
theorem se_or (ha : PE X a (tE g W ma)) (hb : PE X (.BoolOp .Or (b :: rest) pos) (tE g W mb)) : PE X (.BoolOp .Or (a :: b :: rest) pos) (tE g W (mOr ma mb)) := pe_imp (pe_or ha hb) fun σ H Q t => by
  obtain ⟨φ, ρ, h, s, m, o⟩ := t
  refine ⟨φ, ρ, h, s, m, Out.next o fun x h1 φ1 v H1 e1 r1 m1 o1 => ?_⟩
  cases r1 with
  | bl k =>
    refine ⟨k, rfl, ?_⟩
    cases k with
    | false => exact ⟨φ1, ρ, h1, s.ext e1, m1, o1⟩
    | true => exact o1 φ1 _ H1 Ext.refl (.bl _) m1
  | _ => exact o1.elim
theorem se_not (ha : PE X a (tE g W ma)) : PE X (.UnaryOp .Not a pos) (tE g W (mUn vNot ma)) := pe_imp (pe_not ha) fun σ H Q t => by
  obtain ⟨φ, ρ, h, s, m, o⟩ := t
  refine ⟨φ, ρ, h, s, m, Out.next o fun x h1 φ1 v H1 e1 r1 m1 o1 => ?_⟩
  cases r1 with
  | bl k => exact ⟨k, rfl, o1 φ1 _ H1 Ext.refl (.bl _) m1⟩
  | _ => exact o1.elim

/-! ### arguments, displays -/
theorem sa_nil : PA X [] (tA g W mNil) := pa_imp pa_nil fun σ H Q t => by
  obtain ⟨φ, ρ, h, s, m, o⟩ := t
  exact o φ [] H Ext.refl .nil m
theorem sa_cons {es : List Expr} (ha : PE X a (tE g W ma)) (hr : PA X es (tA g W mas)) (hs : starEach (a :: es) X.env = (false, eval a X.env) :: starEach es X.env := by rfl) : PA X (a :: es) (tA g W (mCons ma mas)) := pa_imp (pa_cons ha hr hs) fun σ H Q t => by
  obtain ⟨φ, ρ, h, s, m, o⟩ := t
  refine ⟨φ, ρ, h, s, m, Out.next o fun x h1 φ1 v H1 e1 r1 m1 o1 => ?_⟩
  refine ⟨φ1, ρ, h1, s.ext e1, m1, Out.next o1 fun y h2 φ2 u H2 e2 r2 m2 o2 => ?_⟩
  exact o2 φ2 _ H2 Ext.refl (.cons (r1.ext e2) r2) m2
/-- *e in a display or a call: a list or tuple of items -/
def seqOf (h : MH) : D → Option (List D)
  | .tup l => some l
  | .lst l => some l
  | .cell n => h[n]?
  | .scr l => some (l.map .int)
  | .ctp l => some (l.map .int)
  | _ => none
theorem reps_ints {g : Gm} {φ : Ph} {H : Hp} : ∀ l : List Int, Reps g.r φ H (l.map V.int) (l.map D.int)
  | [] => .nil
  | i :: r => .cons (.int i) (reps_ints r)
def mStar (a : ME) (r : MA) : MA := fun ρ h => (a ρ h).bind fun x h1 => match seqOf h1 x with
  | some l => (r ρ h1).bind fun xs h2 => .ok (l ++ xs) h2
  | none => .bad
theorem seqOf_sq {φ : Ph} {h : MH} {v : V} {d : D} {l : List D} {H : Hp} (r : Rep g.r φ H v d) (m : Hok g φ H h) (e : seqOf h d = some l) :
    ∃ a xs, v = .ref a ∧ (SqT g.r.K H a xs ∨ SqL g.r.K H a xs) ∧ Reps g.r φ H xs l := by
  cases r with
  | tup q r => cases e; exact ⟨_, _, rfl, .inl q.sq, r⟩
  | lst q r => cases e; exact ⟨_, _, rfl, .inr q.sq, r⟩
  | scr q => cases e; exact ⟨_, _, rfl, .inr q.sq, reps_ints _⟩
  | ctp q => cases e; exact ⟨_, _, rfl, .inl (ctp_sq q), reps_ints _⟩
  | cell q =>
    obtain ⟨xs, e1, r⟩ := m.at_ _ _ _ q e
    exact ⟨_, xs, rfl, .inr (SqL.of e1), r⟩
  | _ => cases e
theorem sa_star {es : List Expr} {p : Pos} (hk : g.r.K = X.K) (ha : PE X a (tE g W ma)) (hr : PA X es (tA g W mas)) (hs : starEach (.Starred a p :: es) X.env = (true, eval a X.env) :: starEach es X.env := by rfl) : PA X (.Starred a p :: es) (tA g W (mStar ma mas)) := pa_imp (StX.pa_star ha hr hs) fun σ H Q t => by
  obtain ⟨φ, ρ, h, s, m, o⟩ := t
  refine ⟨φ, ρ, h, s, m, Out.next o fun x h1 φ1 v H1 e1 r1 m1 o1 => ?_⟩
  cases hl : seqOf h1 x with
  | none => rw [hl] at o1; exact o1.elim
  | some l =>
    rw [hl] at o1
    obtain ⟨a, xs, ea, q, r⟩ := seqOf_sq r1 m1 hl
    refine ⟨a, xs, ea, by rw [← hk]; exact q, φ1, ρ, h1, s.ext e1, m1, Out.next o1 fun y h2 φ2 u H2 e2 r2 m2 o2 => ?_⟩
    exact o2 φ2 _ H2 Ext.refl ((r.ext e2).append r2) m2
/-- a new list that stands, a new tuple, a new cell -/
def mTup (a : MA) : ME := fun ρ h => (a ρ h).bind fun xs h1 => if xs.length ≤ 16777216 then .ok (.tup xs) h1 else .bad
def mLst (a : MA) : ME := fun ρ h => (a ρ h).bind fun xs h1 => if xs.length ≤ 16777216 then .ok (.lst xs) h1 else .bad
def mCell (a : MA) : ME := fun ρ h => (a ρ h).bind fun xs h1 => if xs.length ≤ 16777216 then .ok (.cell h1.length) (h1 ++ [xs]) else .bad
theorem line_of_le {n : Nat} (h : n ≤ 16777216) : n ≤ sizeLine := by rw [sizeLine_eq]; exact h
theorem Pl.lst {xs : List V} : Pl (.lst xs) := ⟨fun _ z => (by cases z), fun _ _ z => (by unfold LamX.CodeO at z; cases z)⟩
theorem Pl.dK {xs : List (Key × V)} : Pl (.dK xs) := ⟨fun _ z => (by cases z), fun _ _ z => (by unfold LamX.CodeO at z; cases z)⟩
theorem Pl.dT {xs : List (List Key × V)} : Pl (.dT xs) := ⟨fun _ z => (by cases z), fun _ _ z => (by unfold LamX.CodeO at z; cases z)⟩
theorem Pl.frz {o : Obj} {u : HO} : Pl (.frz o u) := ⟨fun _ z => (by cases z), fun _ _ z => (by unfold LamX.CodeO at z; cases z)⟩
theorem Pl.ins {C dx : Addr} {fs : List (Str × V)} : Pl (.ins C dx fs) := ⟨fun _ z => (by cases z), fun _ _ z => (by unfold LamX.CodeO at z; cases z)⟩
theorem Pl.own {a : Addr} : Pl (.own a) := ⟨fun _ z => (by cases z), fun _ _ z => (by unfold LamX.CodeO at z; cases z)⟩
theorem Pl.xd {fs : List (Str × V)} : Pl (.xd fs) := ⟨fun _ z => (by cases z), fun _ _ z => (by unfold LamX.CodeO at z; cases z)⟩
theorem DHas.pl {g : Rm} {φ : Ph} {H : Hp} {u : HO} {ks ds : List D} (r : DHas g φ H u ks ds) : Pl u := by
  rcases r with ⟨kvs, e, _⟩ | ⟨kvs, e, _⟩ <;> subst e
  · exact .dK
  · exact .dT
/-- the tables stay where something plain is written -/
theorem Tabs.upd {T : List (Addr × Str)} {H : Hp} {p : Addr} {o : HO} (t : LamX.Tabs T H) (hp : ∀ u, H p = some u → Pl u) : LamX.Tabs T (upd H p o) := fun q hq => by
  obtain ⟨ps, h1, h2, h3⟩ := t q hq
  refine ⟨ps, ?_, h2, fun pos cv hc => ?_⟩
  · rw [upd_ne fun z => (hp (.tbl ps) (by rw [← z]; exact h1)).1 ps rfl]; exact h1
  · obtain ⟨c, e1, e2⟩ := h3 pos cv hc
    exact ⟨c, e1, by rw [upd_ne fun z => (hp _ (by rw [← z]; exact e2)).2 c q.2 rfl]; exact e2⟩
theorem Hok.notin {φ : Ph} {h : MH} {H : Hp} {p : Addr} (m : Hok g φ H h) (hp : H p = none) : ¬ φ.has p := fun z => by
  rcases z with z | z
  · obtain ⟨i, e⟩ := List.getElem?_of_mem z
    have hl : i < h.length := by rw [← m.len]; exact (List.getElem?_eq_some_iff.mp e).1
    by_cases hm : p ∈ φ.m
    · obtain ⟨_, _, u, _, q⟩ := m.atD i p h[i] ⟨e, hm⟩ (by simp [hl])
      rcases q with ⟨_, q⟩ | ⟨_, o, q⟩ <;> (rw [hp] at q; cases q)
    · obtain ⟨xs, q, _⟩ := m.at_ i p h[i] ⟨e, hm⟩ (by simp [hl])
      rw [hp] at q
      cases q
  · obtain ⟨_, o, q, _⟩ := m.gs p z
    rw [hp] at q; cases q
/-- what is tracked as a cell, or is being made, is plain -/
theorem Hok.pl {φ : Ph} {h : MH} {H : Hp} {p : Addr} (m : Hok g φ H h) (hp : φ.has p) : ∀ u, H p = some u → Pl u := fun u hu => by
  rcases hp with z | z
  · obtain ⟨i, e⟩ := List.getElem?_of_mem z
    have hl : i < h.length := by rw [← m.len]; exact (List.getElem?_eq_some_iff.mp e).1
    by_cases hm : p ∈ φ.m
    · obtain ⟨_, _, v, r, q⟩ := m.atD i p h[i] ⟨e, hm⟩ (by simp [hl])
      rcases q with ⟨_, q⟩ | ⟨_, o, q⟩ <;> (rw [hu] at q; cases q)
      · exact r.pl
      · exact .frz
    · obtain ⟨xs, q, _⟩ := m.at_ i p h[i] ⟨e, hm⟩ (by simp [hl])
      rw [hu] at q
      cases q
      exact .lst
  · obtain ⟨_, o, q, pl⟩ := m.gs p z
    rw [hu] at q; cases q
    exact pl
theorem Ext.new {φ : Ph} {H : Hp} {p : Addr} {o : HO} (hp : H p = none) (n : ¬ φ.has p) : Ext φ H φ (upd H p o) := ⟨Tr.upd (.inl hp), ⟨[], by simp⟩, fun _ h => h, fun a ha => upd_ne fun z => n (.inr (by rw [← z]; exact ha))⟩
/-- the cells through a change elsewhere -/
theorem Hok.to {φ : Ph} {h : MH} {H H' : Hp} (m : Hok g φ H h) (t : Tr φ H φ H') (e : ∀ a, φ.has a → H' a = H a) (tb : LamX.Tabs g.T H') : Hok g φ H' h :=
  ⟨m.nd, m.len, fun a ha => ⟨(m.gs a ha).1, by rw [e a (.inr ha)]; exact (m.gs a ha).2⟩, fun n a ds e1 e2 => by
    obtain ⟨xs, q, r⟩ := m.at_ n a ds e1 e2
    exact ⟨xs, by rw [e a (.inl (List.mem_of_getElem? e1.1))]; exact q, r.tr t⟩, fun n a ds e1 e2 => by
    obtain ⟨ks, vs, u, r, q⟩ := m.atD n a ds e1 e2
    exact ⟨ks, vs, u, r.tr t, by rw [e a (.inl (List.mem_of_getElem? e1.1))]; exact q⟩, tb, g.ivm _ _ _ _ t m.iv⟩
/-- something new beside the cells -/
theorem Hok.new {φ : Ph} {h : MH} {H : Hp} {p : Addr} {o : HO} (m : Hok g φ H h) (hp : H p = none) : Hok g φ (upd H p o) h :=
  m.to (Tr.upd (.inl hp)) (fun a ha => upd_ne fun z => m.notin hp (by rw [← z]; exact ha)) (Tabs.upd m.tb fun u q => by rw [hp] at q; cases q)
theorem idx_last {α : Type} {l : List α} {p a : α} {n : Nat} (e : (l ++ [p])[n]? = some a) (h : ¬ n < l.length) : n = l.length ∧ a = p := by
  have hn' : n = l.length := by
    have := (List.getElem?_eq_some_iff.mp e).1
    simp at this
    omega
  subst hn'
  simp at e
  exact ⟨rfl, e.symm⟩
/-- one more cell: a list (mm = φ.m), or a dict -/
theorem Hok.more {φ : Ph} {h : MH} {H : Hp} {p : Addr} {o : HO} {ds : List D} {mm : List Addr} (m : Hok g φ H h) (hp : H p = none) (hmm : mm = φ.m ∧ p ∉ φ.m ∨ mm = p :: φ.m)
    (hr : p ∉ mm → ∃ xs, o = .lst xs ∧ Reps g.r φ H xs ds) (hd : p ∈ mm → ∃ ks vs, DHas g.r φ H o ks vs ∧ ds = [.dct ks vs]) : Ext φ H ⟨φ.c ++ [p], φ.g, mm⟩ (upd H p o) ∧ Hok g ⟨φ.c ++ [p], φ.g, mm⟩ (upd H p o) (h ++ [ds]) := by
  have np := m.notin hp
  have hin : ∀ a, a ≠ p → (a ∈ mm ↔ a ∈ φ.m) := fun a ha => by
    rcases hmm with ⟨e, _⟩ | e
    · rw [e]
    · rw [e, List.mem_cons]; exact ⟨fun z => z.resolve_left ha, .inr⟩
  have cne : ∀ {n : Nat} {a : Addr}, φ.c[n]? = some a → a ≠ p := fun {n a} e z => np (.inl (by rw [← z]; exact List.mem_of_getElem? e))
  have has : ∀ a, a ≠ p → ¬ φ.has a → ¬ (⟨φ.c ++ [p], φ.g, mm⟩ : Ph).has a := fun a n na z => by
    rcases z with z | z
    · rcases List.mem_append.mp z with z | z
      · exact na (.inl z)
      · exact n (by simpa using z)
    · exact na (.inr z)
  have up : ∀ {n : Nat} {a : Addr}, φ.c[n]? = some a → (φ.c ++ [p])[n]? = some a := fun {n a} e => by
    rw [List.getElem?_append_left (List.getElem?_eq_some_iff.mp e).1]; exact e
  have t0 : Tr φ H φ (upd H p o) := Tr.upd (.inl hp)
  have t : Tr φ H ⟨φ.c ++ [p], φ.g, mm⟩ (upd H p o) := by
    refine ⟨fun a u q n s => ⟨(t0.keep a u q n s).1, has a (ne_of_none q hp) n⟩, fun a u q n s => ⟨(t0.keepD a u q n s).1, has a ?_ n⟩, fun a C dx vs i n n' => ?_, fun n a e => ⟨up e.1, fun z => e.2 ((hin a (cne e.1)).mp z)⟩, fun n a e => ⟨up e.1, (hin a (cne e.1)).mpr e.2⟩⟩
    · rcases q with q | ⟨_, q⟩ <;> exact ne_of_none q hp
    · obtain ⟨ws, i', g', _, _⟩ := t0.grow a C dx vs i n n'
      exact ⟨ws, i', g', has a (fun z => i.a (by rw [z]; exact hp)) n, has dx (fun z => i.d (by rw [z]; exact hp)) n'⟩
  have e : Ext φ H ⟨φ.c ++ [p], φ.g, mm⟩ (upd H p o) := ⟨t, ⟨[p], rfl⟩, fun _ h => h, fun a ha => upd_ne fun z => np (.inr (by rw [← z]; exact ha))⟩
  refine ⟨e, ⟨?_, by simp [m.len], fun a ha => ?_, fun n a es e1 e2 => ?_, fun n a es e1 e2 => ?_, Tabs.upd m.tb (fun u q => by rw [hp] at q; cases q), g.ivm _ _ _ _ t m.iv⟩⟩
  · show (φ.c ++ [p]).Nodup
    rw [List.nodup_append]
    refine ⟨m.nd, by simp, fun a ha b hb z => ?_⟩
    have : b = p := by simpa using hb
    subst this
    subst z
    exact np (.inl ha)
  · have nap : a ≠ p := fun z => np (.inr (by rw [← z]; exact ha))
    refine ⟨fun z => ?_, by rw [upd_ne nap]; exact (m.gs a ha).2⟩
    rcases List.mem_append.mp z with z | z
    · exact (m.gs a ha).1 z
    · exact nap (by simpa using z)
  · obtain ⟨e1, k1⟩ := e1
    have e1 : (φ.c ++ [p])[n]? = some a := e1
    by_cases hn : n < φ.c.length
    · rw [List.getElem?_append_left hn] at e1
      rw [List.getElem?_append_left (by rw [← m.len]; exact hn)] at e2
      obtain ⟨ys, q, r2⟩ := m.at_ n a es ⟨e1, fun z => k1 ((hin a (cne e1)).mpr z)⟩ e2
      exact ⟨ys, by rw [upd_ne (ne_of_none q hp)]; exact q, r2.tr t⟩
    · obtain ⟨hn', ea⟩ := idx_last e1 hn
      subst hn'
      subst ea
      rw [m.len] at e2
      simp at e2
      subst e2
      obtain ⟨xs, eo, r⟩ := hr k1
      subst eo
      exact ⟨xs, upd_same, r.tr t⟩
  · obtain ⟨e1, k1⟩ := e1
    have e1 : (φ.c ++ [p])[n]? = some a := e1
    by_cases hn : n < φ.c.length
    · rw [List.getElem?_append_left hn] at e1
      rw [List.getElem?_append_left (by rw [← m.len]; exact hn)] at e2
      obtain ⟨ks, vs, u, r2, q⟩ := m.atD n a es ⟨e1, (hin a (cne e1)).mp k1⟩ e2
      exact ⟨ks, vs, u, r2.tr t, by rw [upd_ne (cne e1)]; exact q⟩
    · obtain ⟨hn', ea⟩ := idx_last e1 hn
      subst hn'
      subst ea
      rw [m.len] at e2
      simp at e2
      subst e2
      obtain ⟨ks, vs, r, eo⟩ := hd k1
      exact ⟨ks, vs, o, r.tr t, .inl ⟨eo, upd_same⟩⟩
theorem Hok.mfree {φ : Ph} {h : MH} {H : Hp} {p : Addr} (m : Hok g φ H h) : Hok g ⟨φ.c, φ.g, φ.m.filter fun a => decide (a ∈ φ.c)⟩ H h ↔ True := ⟨fun _ => trivial, fun _ => by
  have hin : ∀ a, a ∈ φ.c → (a ∈ (φ.m.filter fun a => decide (a ∈ φ.c)) ↔ a ∈ φ.m) := fun a ha => by simp [ha]
  have t : Tr φ H ⟨φ.c, φ.g, φ.m.filter fun a => decide (a ∈ φ.c)⟩ H := ⟨fun a o q n _ => ⟨q, n⟩, fun a o q n _ => ⟨q, n⟩, fun a C dx vs i n n' => ⟨vs, i, Gr.refl, n, n'⟩, fun n a e => ⟨e.1, fun z => e.2 ((hin a (List.mem_of_getElem? e.1)).mp z)⟩, fun n a e => ⟨e.1, (hin a (List.mem_of_getElem? e.1)).mpr e.2⟩⟩
  refine ⟨m.nd, m.len, m.gs, fun n a ds e1 e2 => ?_, fun n a ds e1 e2 => ?_, m.tb, g.ivm _ _ _ _ t m.iv⟩
  · obtain ⟨xs, q, r⟩ := m.at_ n a ds ⟨e1.1, fun z => e1.2 ((hin a (List.mem_of_getElem? e1.1)).mpr z)⟩ e2
    exact ⟨xs, q, r.tr t⟩
  · obtain ⟨ks, vs, u, r, q⟩ := m.atD n a ds ⟨e1.1, (hin a (List.mem_of_getElem? e1.1)).mp e1.2⟩ e2
    exact ⟨ks, vs, u, r.tr t, q⟩⟩
/-- a new cell -/
theorem Hok.cell {φ : Ph} {h : MH} {H : Hp} {p : Addr} {xs : List V} {ds : List D} (m : Hok g φ H h) (hp : H p = none) (r : Reps g.r φ H xs ds) :
    ∃ φ', Ext φ H φ' (upd H p (.lst xs)) ∧ Hok g φ' (upd H p (.lst xs)) (h ++ [ds]) ∧ φ'.lc h.length p := by
  have np := m.notin hp
  have m2 := (Hok.mfree (p := p) m).mpr trivial
  have hnm : p ∉ (φ.m.filter fun a => decide (a ∈ φ.c)) := fun z => np (.inl (of_decide_eq_true (List.mem_filter.mp z).2))
  have t : Ext φ H ⟨φ.c, φ.g, φ.m.filter fun a => decide (a ∈ φ.c)⟩ H := by
    have hin : ∀ a, a ∈ φ.c → (a ∈ (φ.m.filter fun a => decide (a ∈ φ.c)) ↔ a ∈ φ.m) := fun a ha => by simp [ha]
    exact ⟨⟨fun a o q n _ => ⟨q, n⟩, fun a o q n _ => ⟨q, n⟩, fun a C dx vs i n n' => ⟨vs, i, Gr.refl, n, n'⟩, fun n a e => ⟨e.1, fun z => e.2 ((hin a (List.mem_of_getElem? e.1)).mp z)⟩, fun n a e => ⟨e.1, (hin a (List.mem_of_getElem? e.1)).mpr e.2⟩⟩, ⟨[], by simp⟩, fun _ h => h, fun _ _ => rfl⟩
  obtain ⟨e1, m3⟩ := Hok.more (o := .lst xs) (ds := ds) (mm := φ.m.filter fun a => decide (a ∈ φ.c)) m2 hp (.inl ⟨rfl, hnm⟩) (fun _ => ⟨xs, rfl, r.ext t⟩) (fun z => absurd z hnm)
  refine ⟨_, t.trans e1, m3, ?_, hnm⟩
  show (φ.c ++ [p])[h.length]? = some p
  rw [← m.len, List.getElem?_append_right (Nat.le_refl _)]
  simp
/-- a new cell that is a dict -/
theorem Hok.dcell {φ : Ph} {h : MH} {H : Hp} {p : Addr} {o : HO} {ks vs : List D} (m : Hok g φ H h) (hp : H p = none) (r : DHas g.r φ H o ks vs) :
    ∃ φ', Ext φ H φ' (upd H p o) ∧ Hok g φ' (upd H p o) (h ++ [[.dct ks vs]]) ∧ φ'.dc h.length p := by
  obtain ⟨e1, m3⟩ := Hok.more (o := o) (ds := [.dct ks vs]) (mm := p :: φ.m) m hp (.inr rfl) (fun z => absurd List.mem_cons_self z) (fun _ => ⟨ks, vs, r, rfl⟩)
  refine ⟨_, e1, m3, ?_, List.mem_cons_self⟩
  show (φ.c ++ [p])[h.length]? = some p
  rw [← m.len, List.getElem?_append_right (Nat.le_refl _)]
  simp
theorem se_tup {k : Nat} {es : List Expr} (h : PA X es (tA g W mas)) : PE X (.Tuple es k pos) (tE g W (mTup mas)) := pe_imp (pe_tup h) fun σ H Q t => by
  obtain ⟨φ, ρ, h, s, m, o⟩ := t
  refine ⟨φ, ρ, h, s, m, Out.next o fun x h1 φ1 v H1 e1 r1 m1 o1 => ?_⟩
  split at o1
  · rename_i hl
    exact ⟨by rw [r1.length]; exact line_of_le hl, fun p hp => o1 φ1 _ _ (Ext.new hp (m1.notin hp)) (.tup ⟨upd_same, m1.notin hp⟩ (r1.ext (Ext.new hp (m1.notin hp)))) (m1.new hp)⟩
  · exact o1.elim
theorem se_lst {es : List Expr} (h : PA X es (tA g W mas)) : PE X (.List es pos) (tE g W (mLst mas)) := pe_imp (pe_lst h) fun σ H Q t => by
  obtain ⟨φ, ρ, h, s, m, o⟩ := t
  refine ⟨φ, ρ, h, s, m, Out.next o fun x h1 φ1 v H1 e1 r1 m1 o1 => ?_⟩
  split at o1
  · rename_i hl
    exact ⟨by rw [r1.length]; exact line_of_le hl, fun p hp => o1 φ1 _ _ (Ext.new hp (m1.notin hp)) (.lst ⟨upd_same, m1.notin hp⟩ (r1.ext (Ext.new hp (m1.notin hp)))) (m1.new hp)⟩
  · exact o1.elim
theorem se_cell {es : List Expr} (h : PA X es (tA g W mas)) : PE X (.List es pos) (tE g W (mCell mas)) := pe_imp (pe_lst h) fun σ H Q t => by
  obtain ⟨φ, ρ, h, s, m, o⟩ := t
  refine ⟨φ, ρ, h, s, m, Out.next o fun x h1 φ1 v H1 e1 r1 m1 o1 => ?_⟩
  split at o1
  · rename_i hl
    refine ⟨by rw [r1.length]; exact line_of_le hl, fun p hp => ?_⟩
    obtain ⟨φ2, e2, m2, c2⟩ := m1.cell hp r1
    exact o1 _ _ _ e2 (.cell c2) m2
  · exact o1.elim
end
end MI
namespace MI
open PySem PySem.Spec
open PyProof.Rows L2

/-! ### by values: operators -/
def vOr (f f' : D → D → MH → R D) (d e : D) (h : MH) : R D := match f d e h with
  | .bad => f' d e h
  | r => r
def vI (F : Int → Int → D) (d e : D) (h : MH) : R D := match d, e with
  | .int i, .int j => .ok (F i j) h
  | _, _ => .bad
def vIc (c : Int → Int → Bool) (F : Int → Int → D) (d e : D) (h : MH) : R D := match d, e with
  | .int i, .int j => if c i j = true then .ok (F i j) h else .bad
  | _, _ => .bad
def lstOf (h : MH) : D → Option (List D)
  | .lst l => some l
  | .cell n => h[n]?
  | _ => none
def small (n : Nat) : Bool := decide (n ≤ 16777216)
def vCatT (d e : D) (h : MH) : R D := match d, e with
  | .tup a, .tup b => if small (a.length + b.length) = true then .ok (.tup (a ++ b)) h else .bad
  | _, _ => .bad
def vCatL (d e : D) (h : MH) : R D := match lstOf h d, lstOf h e with
  | some a, some b => if small (a.length + b.length) = true then .ok (.lst (a ++ b)) h else .bad
  | _, _ => .bad
def vCatS (d e : D) (h : MH) : R D := match d, e with
  | .str a, .str b => if small (a.length + b.length) = true then .ok (.str (a ++ b)) h else .bad
  | _, _ => .bad
def vRepL (d e : D) (h : MH) : R D := match lstOf h d, e with
  | some a, .int k => if (decide (-(2 ^ 63) ≤ k) && decide (k < 2 ^ 63) && small (a.length * k.toNat)) = true then .ok (.lst (List.replicate k.toNat a).flatten) h else .bad
  | _, _ => .bad
def cMul (i j : Int) : Bool := decide (i.natAbs.log2 + j.natAbs.log2 < 1000000)
def cDiv (_ j : Int) : Bool := decide (j ≠ 0) && decide (j.natAbs.log2 < 9000)
def cMod (_ j : Int) : Bool := decide (j ≠ 0)
def cPow (i j : Int) : Bool := decide (0 ≤ j) && decide ((Builtin.Int.intBits i : Int) * j ≤ 134217728)
/-- // and %: of a positive divisor by ediv, emod -/
def fDiv (i j : Int) : Int := if 0 < j then i / j else i.fdiv j
def fMod (i j : Int) : Int := if 0 < j then i % j else i.fmod j
def vAdd : D → D → MH → R D := vOr (vI fun i j => .int (i + j)) (vOr vCatT (vOr vCatL vCatS))
def vSub : D → D → MH → R D := vI fun i j => .int (i - j)
def vMul : D → D → MH → R D := vOr (vIc cMul fun i j => .int (i * j)) vRepL
def vDiv : D → D → MH → R D := vIc cDiv fun i j => .int (fDiv i j)
def vMod : D → D → MH → R D := vIc cMod fun i j => .int (fMod i j)
def vPow : D → D → MH → R D := vIc cPow fun i j => .int (i ^ j.toNat)
def vLt : D → D → MH → R D := vI fun i j => .bl (decide (i < j))
def vLe : D → D → MH → R D := vI fun i j => .bl (decide (i ≤ j))
def vGt : D → D → MH → R D := vI fun i j => .bl (decide (j < i))
def vGe : D → D → MH → R D := vI fun i j => .bl (decide (j ≤ i))
def vIsN (d e : D) (h : MH) : R D := match e with
  | .non => .ok (.bl (match d with | .non => true | _ => false)) h
  | _ => .bad
def vNotN (d e : D) (h : MH) : R D := match e with
  | .non => .ok (.bl (match d with | .non => false | _ => true)) h
  | _ => .bad
def vNeg (d : D) (h : MH) : R D := match d with
  | .int i => .ok (.int (-i)) h
  | _ => .bad

section
variable {g : Gm} {X : Cx}
theorem Op2.or {r r' : R2} {f f' : D → D → MH → R D} (a : Op2 g r f) (b : Op2 g r' f') : Op2 g (fun x y H Q => r x y H Q ∨ r' x y H Q) (vOr f f') := by
  intro W σ φ H h x y d e Q rx ry m o
  unfold vOr at o
  cases q : f d e h with
  | bad => rw [q] at o; exact .inr (b rx ry m o)
  | ok z h' => rw [q] at o; exact .inl (a rx ry m (by rw [q]; exact o))
  | exc z h' => rw [q] at o; exact .inl (a rx ry m (by rw [q]; exact o))
theorem o2I {G : Int → Int → V} {F : Int → Int → D} (hr : ∀ i j φ H, Rep g.r φ H (G i j) (F i j)) : Op2 g (rI0 G) (vI F) := by
  intro W σ φ H h x y d e Q rx ry m o
  cases rx with
  | int i =>
    cases ry with
    | int j => exact ⟨i, j, rfl, rfl, o φ _ H Ext.refl (hr i j φ H) m⟩
    | _ => exact o.elim
  | _ => exact o.elim
theorem o2Ic {C : Int → Int → Prop} {c : Int → Int → Bool} {G : Int → Int → V} {F : Int → Int → D} (hc : ∀ i j, c i j = true → C i j) (hr : ∀ i j φ H, c i j = true → Rep g.r φ H (G i j) (F i j)) : Op2 g (rI C G) (vIc c F) := by
  intro W σ φ H h x y d e Q rx ry m o
  cases rx with
  | int i =>
    cases ry with
    | int j =>
      have o' : Out g W σ φ H (Rep g.r) Q (if c i j = true then .ok (F i j) h else .bad) := o
      by_cases hq : c i j = true
      · rw [if_pos hq] at o'
        exact ⟨i, j, rfl, rfl, hc i j hq, o' φ _ H Ext.refl (hr i j φ H hq) m⟩
      · rw [if_neg hq] at o'
        exact o'.elim
    | _ => exact o.elim
  | _ => exact o.elim
theorem small_line {n : Nat} (h : small n = true) : n ≤ sizeLine := line_of_le (of_decide_eq_true h)
theorem lstOf_at {φ : Ph} {h : MH} {v : V} {d : D} {l : List D} {H : Hp} (r : Rep g.r φ H v d) (m : Hok g φ H h) (e : lstOf h d = some l) : ∃ a xs, v = .ref a ∧ H a = some (.lst xs) ∧ Reps g.r φ H xs l := by
  cases r with
  | lst q r => cases e; exact ⟨_, _, rfl, q.1, r⟩
  | cell q =>
    obtain ⟨xs, e1, r⟩ := m.at_ _ _ _ q e
    exact ⟨_, xs, rfl, e1, r⟩
  | _ => cases e
/-- a new tuple, a new list, told -/
theorem new_tup {W : WX} {σ : L2.St} {φ : Ph} {H : Hp} {h : MH} {Q : VK} {p : Addr} {xs : List V} {ds : List D} (m : Hok g φ H h) (hp : H p = none) (r : Reps g.r φ H xs ds) (o : Out g W σ φ H (Rep g.r) Q (.ok (.tup ds) h)) : Q (.ref p) (upd H p (.tup xs)) :=
  o φ _ _ (Ext.new hp (m.notin hp)) (.tup ⟨upd_same, m.notin hp⟩ (r.ext (Ext.new hp (m.notin hp)))) (m.new hp)
theorem new_lst {W : WX} {σ : L2.St} {φ : Ph} {H : Hp} {h : MH} {Q : VK} {p : Addr} {xs : List V} {ds : List D} (m : Hok g φ H h) (hp : H p = none) (r : Reps g.r φ H xs ds) (o : Out g W σ φ H (Rep g.r) Q (.ok (.lst ds) h)) : Q (.ref p) (upd H p (.lst xs)) :=
  o φ _ _ (Ext.new hp (m.notin hp)) (.lst ⟨upd_same, m.notin hp⟩ (r.ext (Ext.new hp (m.notin hp)))) (m.new hp)
theorem new_cell {W : WX} {σ : L2.St} {φ : Ph} {H : Hp} {h : MH} {Q : VK} {p : Addr} {xs : List V} {ds : List D} (m : Hok g φ H h) (hp : H p = none) (r : Reps g.r φ H xs ds) (o : Out g W σ φ H (Rep g.r) Q (.ok (.cell h.length) (h ++ [ds]))) : Q (.ref p) (upd H p (.lst xs)) := by
  obtain ⟨φ2, e2, m2, c2⟩ := m.cell hp r
  exact o _ _ _ e2 (.cell c2) m2
theorem o_catT (hk : g.r.K = X.K) : Op2 g (rCatA X.K) vCatT := by
  intro W σ φ H h x y d e Q rx ry m o
  cases rx with
  | tup q1 r1 =>
    cases ry with
    | tup q2 r2 =>
      rename_i a xs ds b ys es
      have o' : Out g W σ φ H (Rep g.r) Q (if small (ds.length + es.length) = true then .ok (.tup (ds ++ es)) h else .bad) := o
      by_cases hs : small (ds.length + es.length) = true
      · rw [if_pos hs] at o'
        refine ⟨a, b, xs, ys, rfl, rfl, hk ▸ q1.sq, hk ▸ q2.sq, by rw [r1.length, r2.length]; exact small_line hs, fun z => ?_, fun _ z => ?_, fun _ _ p hp => new_tup m hp (r1.append r2) o'⟩
        · subst z
          cases r1
          exact o' φ _ H Ext.refl (.tup q2 r2) m
        · subst z
          cases r2
          refine o' φ _ H Ext.refl (.tup q1 ?_) m
          rw [List.append_nil]
          exact r1
      · rw [if_neg hs] at o'
        exact o'.elim
    | _ => exact o.elim
  | _ => exact o.elim
theorem o_catL : Op2 g rCat vCatL := by
  intro W σ φ H h x y d e Q rx ry m o
  unfold vCatL at o
  cases h1 : lstOf h d with
  | none => rw [h1] at o; exact o.elim
  | some a =>
    cases h2 : lstOf h e with
    | none => rw [h1, h2] at o; exact o.elim
    | some b =>
      rw [h1, h2] at o
      obtain ⟨p, xs, e1, e2, r1⟩ := lstOf_at rx m h1
      obtain ⟨q, ys, e3, e4, r2⟩ := lstOf_at ry m h2
      dsimp only at o
      split at o
      · rename_i hs
        exact ⟨p, q, xs, ys, e1, e3, e2, e4, by rw [r1.length, r2.length]; exact small_line hs, fun l hl => new_lst m hl (r1.append r2) o⟩
      · exact o.elim
theorem o_catS : Op2 g (fun x y H Q => ∃ i j, x = .str i ∧ y = .str j ∧ i.length + j.length ≤ sizeLine ∧ Q (.str (i ++ j)) H) vCatS := by
  intro W σ φ H h x y d e Q rx ry m o
  cases rx with
  | str a =>
    cases ry with
    | str b =>
      have o' : Out g W σ φ H (Rep g.r) Q (if small (a.length + b.length) = true then .ok (.str (a ++ b)) h else .bad) := o
      by_cases hs : small (a.length + b.length) = true
      · rw [if_pos hs] at o'
        exact ⟨a, b, rfl, rfl, small_line hs, o' φ _ H Ext.refl (.str _) m⟩
      · rw [if_neg hs] at o'
        exact o'.elim
    | _ => exact o.elim
  | _ => exact o.elim
theorem Reps.repl {g : Gm} {φ : Ph} {H : Hp} {xs : List V} {ds : List D} (r : Reps g.r φ H xs ds) : ∀ n : Nat, Reps g.r φ H (List.replicate n xs).flatten (List.replicate n ds).flatten
  | 0 => .nil
  | n + 1 => by
    rw [List.replicate_succ, List.replicate_succ, List.flatten_cons, List.flatten_cons]
    exact r.append (Reps.repl r n)
theorem o_repL : Op2 g rRep vRepL := by
  intro W σ φ H h x y d e Q rx ry m o
  unfold vRepL at o
  cases h1 : lstOf h d with
  | none => rw [h1] at o; exact o.elim
  | some a =>
    rw [h1] at o
    obtain ⟨p, xs, e1, e2, r1⟩ := lstOf_at rx m h1
    cases ry with
    | int k =>
      dsimp only at o
      split at o
      · rename_i hs
        rw [Bool.and_eq_true, Bool.and_eq_true] at hs
        exact ⟨p, k, xs, e1, rfl, e2, of_decide_eq_true hs.1.1, of_decide_eq_true hs.1.2, by rw [r1.length]; exact small_line hs.2, fun l hl => new_lst m hl (r1.repl _) o⟩
      · exact o.elim
    | _ => exact o.elim
/-! the operators of the text -/
theorem opMulA : OpR X (binaryOp .Mult) (rI (fun i j => cMul i j = true) fun i j => .int (i * j)) := opI fun i j _ _ _ _ _ hc q => mul_int q (show CMulW i j from (of_decide_eq_true (show decide (i.natAbs.log2 + j.natAbs.log2 < 1000000) = true from hc) : i.natAbs.log2 + j.natAbs.log2 < 1000000)).ok
theorem opDivA : OpR X (binaryOp .FloorDiv) (rI (fun i j => cDiv i j = true) fun i j => .int (fDiv i j)) := opI fun i j _ _ _ _ _ hc q => by
  have hc' : (decide (j ≠ 0) && decide (j.natAbs.log2 < 9000)) = true := hc
  rw [Bool.and_eq_true] at hc'
  refine floordiv_int (of_decide_eq_true hc'.1) ?_ (.inl (PyProof.noPylong_of_log2 (of_decide_eq_true hc'.2)))
  have e : i.fdiv j = fDiv i j := by
    unfold fDiv
    split
    · exact Int.fdiv_eq_ediv_of_nonneg i (by omega)
    · rfl
  rw [e]
  exact q
theorem opModA : OpR X (binaryOp .Mod) (rI (fun i j => cMod i j = true) fun i j => .int (fMod i j)) := opI fun i j _ _ _ _ _ hc q => by
  refine mod_int' (of_decide_eq_true hc) ?_
  have e : i.fmod j = fMod i j := by
    unfold fMod
    split
    · exact Int.fmod_eq_emod_of_nonneg i (by omega)
    · rfl
  rw [e]
  exact q
theorem opPowA : OpR X (binaryOp .Pow) (rI (fun i j => cPow i j = true) fun i j => .int (i ^ j.toNat)) := opI fun i j _ _ _ _ _ hc q => by
  have hc' : (decide (0 ≤ j) && decide ((Builtin.Int.intBits i : Int) * j ≤ 134217728)) = true := hc
  rw [Bool.and_eq_true] at hc'
  exact pow_int (of_decide_eq_true hc'.1) (of_decide_eq_true hc'.2) q
theorem isN_o : Op2 g (fun x y H Q => y = .non ∧ Q (.bl (decide (x = .non))) H) vIsN := by
  intro W σ φ H h x y d e Q rx ry m o
  cases ry with
  | non =>
    refine ⟨rfl, o φ _ H Ext.refl ?_ m⟩
    cases rx <;> simp <;> exact .bl _
  | _ => exact o.elim
theorem notN_o : Op2 g (fun x y H Q => y = .non ∧ Q (.bl (!decide (x = .non))) H) vNotN := by
  intro W σ φ H h x y d e Q rx ry m o
  cases ry with
  | non =>
    refine ⟨rfl, o φ _ H Ext.refl ?_ m⟩
    cases rx <;> simp <;> exact .bl _
  | _ => exact o.elim
theorem neg_o : Op1 g (rU fun i => .int (-i)) vNeg := by
  intro W σ φ H h x d Q rx m o
  cases rx with
  | int i => exact ⟨i, rfl, o φ _ H Ext.refl (.int _) m⟩
  | _ => exact o.elim
variable {W : WX} {ma mb : ME} {a b : Expr} {pos : Pos}
theorem s_add (hk : g.r.K = X.K) (ha : PE X a (tE g W ma)) (hb : PE X b (tE g W mb)) : PE X (.BinOp a .Add b pos) (tE g W (mBin vAdd ma mb)) :=
  se_bin (op_add.or (op_catA.or (op_cat.or op_add_str))) (Op2.or (o2I fun _ _ _ _ => .int _) (Op2.or (o_catT hk) (Op2.or o_catL o_catS))) ha hb
theorem s_sub (ha : PE X a (tE g W ma)) (hb : PE X b (tE g W mb)) : PE X (.BinOp a .Sub b pos) (tE g W (mBin vSub ma mb)) := se_bin op_sub (o2I fun _ _ _ _ => .int _) ha hb
theorem s_mul (ha : PE X a (tE g W ma)) (hb : PE X b (tE g W mb)) : PE X (.BinOp a .Mult b pos) (tE g W (mBin vMul ma mb)) := se_bin (opMulA.or op_rep) (Op2.or (o2Ic (fun _ _ h => h) fun _ _ _ _ _ => .int _) o_repL) ha hb
theorem s_div (ha : PE X a (tE g W ma)) (hb : PE X b (tE g W mb)) : PE X (.BinOp a .FloorDiv b pos) (tE g W (mBin vDiv ma mb)) := se_bin opDivA (o2Ic (fun _ _ h => h) fun _ _ _ _ _ => .int _) ha hb
theorem s_mod (ha : PE X a (tE g W ma)) (hb : PE X b (tE g W mb)) : PE X (.BinOp a .Mod b pos) (tE g W (mBin vMod ma mb)) := se_bin opModA (o2Ic (fun _ _ h => h) fun _ _ _ _ _ => .int _) ha hb
theorem s_pow (ha : PE X a (tE g W ma)) (hb : PE X b (tE g W mb)) : PE X (.BinOp a .Pow b pos) (tE g W (mBin vPow ma mb)) := se_bin opPowA (o2Ic (fun _ _ h => h) fun _ _ _ _ _ => .int _) ha hb
theorem s_neg (ha : PE X a (tE g W ma)) : PE X (.UnaryOp .USub a pos) (tE g W (mUn vNeg ma)) := se_un un_neg neg_o ha
theorem s_lt (ha : PE X a (tE g W ma)) (hb : PE X b (tE g W mb)) : PE X (.Compare a [.Lt] [b] pos) (tE g W (mBin vLt ma mb)) := se_cmp op_lt (o2I fun _ _ _ _ => .bl _) ha hb (nomark _)
theorem s_le (ha : PE X a (tE g W ma)) (hb : PE X b (tE g W mb)) : PE X (.Compare a [.LtE] [b] pos) (tE g W (mBin vLe ma mb)) := se_cmp op_le (o2I fun _ _ _ _ => .bl _) ha hb (nomark _)
theorem s_gt (ha : PE X a (tE g W ma)) (hb : PE X b (tE g W mb)) : PE X (.Compare a [.Gt] [b] pos) (tE g W (mBin vGt ma mb)) := se_cmp op_gt (o2I fun _ _ _ _ => .bl _) ha hb (nomark _)
theorem s_ge (ha : PE X a (tE g W ma)) (hb : PE X b (tE g W mb)) : PE X (.Compare a [.GtE] [b] pos) (tE g W (mBin vGe ma mb)) := se_cmp op_ge (o2I fun _ _ _ _ => .bl _) ha hb (nomark _)
theorem s_isN (ha : PE X a (tE g W ma)) (hb : PE X b (tE g W mb)) : PE X (.Compare a [.Is] [b] pos) (tE g W (mBin vIsN ma mb)) := se_cmp op_isN isN_o ha hb (nomark _)
theorem s_notN (ha : PE X a (tE g W ma)) (hb : PE X b (tE g W mb)) : PE X (.Compare a [.IsNot] [b] pos) (tE g W (mBin vNotN ma mb)) := se_cmp op_notN notN_o ha hb (nomark _)
end
end MI
namespace MI
open PySem PySem.Spec
open PyProof.Rows L2

/-! ### ==, in -/
def pyStep (h : MH) (f : List D → Option (List PyData)) : D → Option PyData
  | .non => some .none
  | .bl b => some (.bool b)
  | .int i => some (.int i)
  | .str s => some (.str s)
  | .tup l => (f l).map .tuple
  | .lst l => (f l).map .list
  | .cell n => (h[n]?).bind fun l => (f l).map .list
  | .scr l => some (.list (l.map .int))
  | .ctp l => some (.tuple (l.map .int))
  | _ => none
def pyAll (p : D → Option PyData) : List D → Option (List PyData)
  | [] => some []
  | d :: r => (p d).bind fun x => (pyAll p r).bind fun xs => some (x :: xs)
def D.py (h : MH) : Nat → D → Option PyData
  | 0 => pyStep h fun _ => none
  | k + 1 => pyStep h (pyAll (D.py h k))
/-- as a whole: within the line of depth -/
def pyOf (h : MH) (d : D) : Option PyData := (D.py h 12 d).bind fun x => if SeqAt.shaped x = true then some x else none
def vEq (d e : D) (h : MH) : R D := match pyOf h d, pyOf h e with
  | some x, some y => .ok (.bl (PyData.eqv x y)) h
  | _, _ => .bad
def vNe (d e : D) (h : MH) : R D := match pyOf h d, pyOf h e with
  | some x, some y => .ok (.bl (!PyData.eqv x y)) h
  | _, _ => .bad
def isSeq : PyData → Option (List PyData)
  | .list l => some l
  | .tuple l => some l
  | _ => none
def vIn (d e : D) (h : MH) : R D := match pyOf h d, pyOf h e with
  | some x, some y => match isSeq y with
    | some l => .ok (.bl (l.any fun z => PyData.eqv z x)) h
    | none => .bad
  | _, _ => .bad
def vNotIn (d e : D) (h : MH) : R D := match pyOf h d, pyOf h e with
  | some x, some y => match isSeq y with
    | some l => .ok (.bl (!l.any fun z => PyData.eqv z x)) h
    | none => .bad
  | _, _ => .bad
section
variable {g : Gm} {φ : Ph} {H : Hp} {h : MH}
theorem pyAll_dp {K : PySem.W.Frag} {p : D → Option PyData} (hp : ∀ {v d x}, Rep g.r φ H v d → p d = some x → Dp K H v x) : ∀ {vs : List V} {ds : List D} {xs : List PyData}, Reps g.r φ H vs ds → pyAll p ds = some xs → DpAll K H vs xs
  | _, _, _, .nil, e => by cases e; exact .nil
  | _, _, _, .cons (d := d) (ds := ds) r rr, e => by
    unfold pyAll at e
    cases h1 : p d with
    | none => rw [h1] at e; cases e
    | some x =>
      cases h2 : pyAll p ds with
      | none => rw [h1, h2] at e; cases e
      | some ys =>
        rw [h1, h2] at e
        cases e
        exact .cons (hp r h1) (pyAll_dp hp rr h2)
theorem ints_dp {K : PySem.W.Frag} : ∀ l : List Int, DpAll K H (l.map V.int) (l.map PyData.int)
  | [] => .nil
  | i :: r => .cons (.int i) (ints_dp r)
theorem pyStep_dp {f : List D → Option (List PyData)} (m : Hok g φ H h) (hf : ∀ {vs ds xs}, Reps g.r φ H vs ds → f ds = some xs → DpAll g.r.K H vs xs) {v : V} {d : D} {x : PyData} (r : Rep g.r φ H v d) (e : pyStep h f d = some x) : Dp g.r.K H v x := by
  cases r with
  | non => cases e; exact .non
  | bl b => cases e; exact .bl b
  | int b => cases e; exact .int b
  | str b => cases e; exact .str b
  | tup q r =>
    rename_i ds
    cases h1 : f ds with
    | none => simp [pyStep, h1] at e
    | some ys =>
      simp only [pyStep, h1, Option.map_some, Option.some.injEq] at e
      subst e
      exact .tup q.sq (hf r h1)
  | lst q r =>
    rename_i ds
    cases h1 : f ds with
    | none => simp [pyStep, h1] at e
    | some ys =>
      simp only [pyStep, h1, Option.map_some, Option.some.injEq] at e
      subst e
      exact .lst q.sq (hf r h1)
  | cell q =>
    rename_i n
    cases h0 : h[n]? with
    | none => simp [pyStep, h0] at e
    | some l =>
      obtain ⟨ys, e1, r⟩ := m.at_ _ _ _ q h0
      cases h1 : f l with
      | none => simp [pyStep, h0, h1] at e
      | some zs =>
        simp only [pyStep, h0, Option.bind_some, h1, Option.map_some, Option.some.injEq] at e
        subst e
        exact .lst (SqL.of e1) (hf r h1)
  | scr q => cases e; exact .lst q.sq (ints_dp _)
  | ctp q => cases e; exact .tup (ctp_sq q) (ints_dp _)
  | _ => cases e
theorem py_dp (m : Hok g φ H h) : ∀ (k : Nat) {v : V} {d : D} {x : PyData}, Rep g.r φ H v d → D.py h k d = some x → Dp g.r.K H v x
  | 0, _, _, _, r, e => pyStep_dp m (fun _ z => by cases z) r e
  | k + 1, _, _, _, r, e => pyStep_dp m (fun rr z => pyAll_dp (fun r' e' => py_dp m k r' e') rr z) r e
theorem pyOf_dp (m : Hok g φ H h) {v : V} {d : D} {x : PyData} (r : Rep g.r φ H v d) (e : pyOf h d = some x) : Dp g.r.K H v x ∧ SeqAt.shaped x = true := by
  unfold pyOf at e
  cases h1 : D.py h 12 d with
  | none => rw [h1] at e; cases e
  | some y =>
    rw [h1] at e
    dsimp only [Option.bind_some] at e
    split at e
    · rename_i hs
      cases e
      exact ⟨py_dp m 12 r h1, hs⟩
    · cases e
end
section
variable {g : Gm} {X : Cx}
theorem eq_o (hk : g.r.K = X.K) : Op2 g (rEqD X.K) vEq := by
  intro W σ φ H h x y d e Q rx ry m o
  unfold vEq at o
  split at o
  · rename_i p q h1 h2
    obtain ⟨a1, a2⟩ := pyOf_dp m rx h1
    obtain ⟨b1, b2⟩ := pyOf_dp m ry h2
    exact ⟨p, q, hk ▸ a1, hk ▸ b1, a2, b2, o φ _ H Ext.refl (.bl _) m⟩
  · exact o.elim
theorem ne_o (hk : g.r.K = X.K) : Op2 g (rNeD X.K) vNe := by
  intro W σ φ H h x y d e Q rx ry m o
  unfold vNe at o
  split at o
  · rename_i p q h1 h2
    obtain ⟨a1, a2⟩ := pyOf_dp m rx h1
    obtain ⟨b1, b2⟩ := pyOf_dp m ry h2
    exact ⟨p, q, hk ▸ a1, hk ▸ b1, a2, b2, o φ _ H Ext.refl (.bl _) m⟩
  · exact o.elim
/-- in a list or a tuple of data -/
def rInA (K : PySem.W.Frag) (neg : Bool) : R2 := fun x y H Q => ∃ d e l, Dp K H x d ∧ Dp K H y e ∧ SeqAt.shaped d = true ∧ SeqAt.shaped e = true ∧ isSeq e = some l ∧ Q (.bl (if neg then !(l.any fun z => PyData.eqv z d) else l.any fun z => PyData.eqv z d)) H
theorem opIn (hu : X.A.units + 65 < cLine) : OpR X (compareOp .In) (rInA X.K false) := by
  intro pins s σ H x y v u Q I rx ry h
  obtain ⟨d, e, l, hd, he, sd, se, hl, q⟩ := h
  obtain ⟨as, r1⟩ := Dp.reads I d x v hd rx
  obtain ⟨bs, r2⟩ := Dp.reads I e y u he ry
  cases e with
  | list ds =>
    cases hl
    exact SeqAt.in_list_reads r2 r1 (SeqAt.canLay_of_shaped se) (SeqAt.canLay_of_shaped sd) (room_in_shaped sd hu) ⟨.bl _, H, I, rfl, q⟩
  | tuple ds =>
    cases hl
    exact SeqAt.in_tuple_reads r2 r1 (SeqAt.canLay_of_shaped se) (SeqAt.canLay_of_shaped sd) (room_in_shaped sd hu) ⟨.bl _, H, I, rfl, q⟩
  | _ => cases hl
theorem opNotIn (hu : X.A.units + 65 < cLine) : OpR X (compareOp .NotIn) (rInA X.K true) := by
  intro pins s σ H x y v u Q I rx ry h
  obtain ⟨d, e, l, hd, he, sd, se, hl, q⟩ := h
  obtain ⟨as, r1⟩ := Dp.reads I d x v hd rx
  obtain ⟨bs, r2⟩ := Dp.reads I e y u he ry
  cases e with
  | list ds =>
    cases hl
    exact SeqAt.notIn_list_reads r2 r1 (SeqAt.canLay_of_shaped se) (SeqAt.canLay_of_shaped sd) (room_in_shaped sd hu) ⟨.bl _, H, I, rfl, q⟩
  | tuple ds =>
    cases hl
    exact SeqAt.notIn_tuple_reads r2 r1 (SeqAt.canLay_of_shaped se) (SeqAt.canLay_of_shaped sd) (room_in_shaped sd hu) ⟨.bl _, H, I, rfl, q⟩
  | _ => cases hl
theorem in_o (hk : g.r.K = X.K) : Op2 g (rInA X.K false) vIn := by
  intro W σ φ H h x y d e Q rx ry m o
  unfold vIn at o
  split at o
  · rename_i p q h1 h2
    obtain ⟨a1, a2⟩ := pyOf_dp m rx h1
    obtain ⟨b1, b2⟩ := pyOf_dp m ry h2
    split at o
    · rename_i l hl
      exact ⟨p, q, l, hk ▸ a1, hk ▸ b1, a2, b2, hl, o φ _ H Ext.refl (.bl _) m⟩
    · exact o.elim
  · exact o.elim
theorem notIn_o (hk : g.r.K = X.K) : Op2 g (rInA X.K true) vNotIn := by
  intro W σ φ H h x y d e Q rx ry m o
  unfold vNotIn at o
  split at o
  · rename_i p q h1 h2
    obtain ⟨a1, a2⟩ := pyOf_dp m rx h1
    obtain ⟨b1, b2⟩ := pyOf_dp m ry h2
    split at o
    · rename_i l hl
      exact ⟨p, q, l, hk ▸ a1, hk ▸ b1, a2, b2, hl, o φ _ H Ext.refl (.bl _) m⟩
    · exact o.elim
  · exact o.elim
variable {W : WX} {ma mb mc : ME} {a b c : Expr} {pos : Pos}
theorem s_eq (hk : g.r.K = X.K) (hu : X.A.units + 64 < cLine) (ha : PE X a (tE g W ma)) (hb : PE X b (tE g W mb)) : PE X (.Compare a [.Eq] [b] pos) (tE g W (mBin vEq ma mb)) := se_cmp (op_eqD hu) (eq_o hk) ha hb (nomark _)
theorem s_ne (hk : g.r.K = X.K) (hu : X.A.units + 64 < cLine) (ha : PE X a (tE g W ma)) (hb : PE X b (tE g W mb)) : PE X (.Compare a [.NotEq] [b] pos) (tE g W (mBin vNe ma mb)) := se_cmp (op_neD hu) (ne_o hk) ha hb (nomark _)
theorem s_in (hk : g.r.K = X.K) (hu : X.A.units + 65 < cLine) (ha : PE X a (tE g W ma)) (hb : PE X b (tE g W mb)) (hm : behindInMarks .In b = false := by rfl) : PE X (.Compare a [.In] [b] pos) (tE g W (mBin vIn ma mb)) := se_cmp (opIn hu) (in_o hk) ha hb hm
theorem s_notIn (hk : g.r.K = X.K) (hu : X.A.units + 65 < cLine) (ha : PE X a (tE g W ma)) (hb : PE X b (tE g W mb)) (hm : behindInMarks .NotIn b = false := by rfl) : PE X (.Compare a [.NotIn] [b] pos) (tE g W (mBin vNotIn ma mb)) := se_cmp (opNotIn hu) (notIn_o hk) ha hb hm
/-- a test of a comparison (any of the above) -/
theorem st_c {op : CmpOp} {m : ME} {t : TE} (h : PE X (.Compare a [op] [b] pos) (tE g W m)) (he : ∀ whole, isTrue (.Compare a [op] [b] pos) X.env whole = (do let v ← whole; standAt pos; holding [v] (truthy v)) := by intro _; rfl) : PT X (.Compare a [op] [b] pos) (tT g W (mTest m)) := st_val h he
/-! ### a < b < c -/
def mChain (f f' : D → D → MH → R D) (a b c : ME) : ME := fun ρ h => (a ρ h).bind fun x h1 => (b ρ h1).bind fun y h2 => (f x y h2).bind fun z h3 => match z with
  | .bl true => (c ρ h3).bind fun w h4 => f' y w h4
  | .bl false => .ok (.bl false) h3
  | _ => .bad
theorem imp_chain {r r' : R2} {f f' : D → D → MH → R D} (hf : Op2 g r f) (hf' : Op2 g r' f') (σ : L2.St) (H : Hp) (Q : VK) (t : tE g W (mChain f f' ma mb mc) σ H Q) : tChain r r' (tE g W ma) (tE g W mb) (tE g W mc) σ H Q := by
  obtain ⟨φ, ρ, h, s, m, o⟩ := t
  refine ⟨φ, ρ, h, s, m, Out.next o fun x h1 φ1 v H1 e1 r1 m1 o1 => ?_⟩
  refine ⟨φ1, ρ, h1, s.ext e1, m1, Out.next o1 fun y h2 φ2 u H2 e2 r2 m2 o2 => ?_⟩
  refine hf (σ := σ) (W := W) (r1.ext e2) r2 m2 (Out.next (rel' := Rep g.r) o2 fun z h3 φ3 w H3 e3 r3 m3 o3 => ?_)
  cases r3 with
  | bl k =>
    refine ⟨k, rfl, ?_⟩
    cases k with
    | true => exact ⟨φ3, ρ, h3, ((s.ext e1).ext e2).ext e3, m3, Out.next o3 fun w h4 φ4 w' H4 e4 r4 m4 o4 => hf' ((r2.ext e3).ext e4) r4 m4 o4⟩
    | false => exact o3 φ3 _ H3 Ext.refl (.bl _) m3
  | _ => exact o3.elim
theorem se_chain {op op' : CmpOp} {r r' : R2} {f f' : D → D → MH → R D} (ho : OpR X (compareOp op) r) (hf : Op2 g r f) (ho' : OpR X (compareOp op') r') (hf' : Op2 g r' f') (ha : PE X a (tE g W ma)) (hb : PE X b (tE g W mb)) (hc : PE X c (tE g W mc))
    (hm : lastMarks [op, op'] [b, c] = false := by with_unfolding_all rfl) : PE X (.Compare a [op, op'] [b, c] pos) (tE g W (mChain f f' ma mb mc)) := pe_imp (pe_chain ho ho' ha hb hc hm) (imp_chain hf hf')
theorem lt_o : Op2 g (rI0 fun i j => .bl (decide (i < j))) vLt := o2I fun _ _ _ _ => .bl _
theorem le_o : Op2 g (rI0 fun i j => .bl (decide (i ≤ j))) vLe := o2I fun _ _ _ _ => .bl _
end

/-! ### items, slices -/
def strAt (z : Str) (i : Int) : Option D := if z.length ≤ 16777216 then (atI z.cps.toList i).map fun c => .str ⟨#[c]⟩ else none
def vIx (d e : D) (h : MH) : R D := match e with
  | .int i => match d with
    | .str z => match strAt z i with
      | some x => .ok x h
      | none => .bad
    | _ => match seqOf h d with
      | some l => match atI l i with
        | some x => .ok x h
        | none => .bad
      | none => .bad
  | _ => .bad
/-- a part of a list or tuple -/
def cutD (l : List D) (lo hi : Option Int) : List D := (l.drop (HT.sIx l.length 0 lo)).take (HT.sIx l.length l.length hi - HT.sIx l.length 0 lo)
def vCut (d : D) (lo hi : Option Int) (h : MH) : R D := match d with
  | .tup l => .ok (.tup (cutD l lo hi)) h
  | .lst l => .ok (.lst (cutD l lo hi)) h
  | .cell n => match h[n]? with
    | some l => .ok (.lst (cutD l lo hi)) h
    | none => .bad
  | .scr l => .ok (.lst (cutD (l.map .int) lo hi)) h
  | _ => .bad
abbrev MO := Env1 → MH → R (Option Int)
def mNoPart : MO := fun _ h => .ok none h
def mPart (a : ME) : MO := fun ρ h => (a ρ h).bind fun x h1 => match x with
  | .int i => .ok (some i) h1
  | _ => .bad
def mCut (a : ME) (lo hi : MO) : ME := fun ρ h => (a ρ h).bind fun x h1 => (lo ρ h1).bind fun l h2 => (hi ρ h2).bind fun u h3 => vCut x l u h3
def rO : Ph → Hp → Option Int → Option Int → Prop := fun _ _ b a => b = a
def tOM (g : Gm) (W : WX) (m : MO) : TO := fun σ H Q => ∃ φ ρ h, Slots g.r φ H σ ρ ∧ Hok g φ H h ∧ Out g W σ φ H rO Q (m ρ h)
section
variable {g : Gm} {X : Cx} {W : WX} {ma mb mc : ME} {a b c : Expr} {pos : Pos}
theorem Reps.at {g : Gm} {φ : Ph} {H : Hp} {xs : List V} {ds : List D} {i : Int} {d : D} (r : Reps g.r φ H xs ds) (e : atI ds i = some d) : ∃ v, atI xs i = some v ∧ Rep g.r φ H v d := by
  unfold atI at e ⊢
  rw [r.length]
  cases h : ixN ds.length i with
  | none => rw [h] at e; cases e
  | some j =>
    rw [h] at e
    obtain ⟨x, e1, e2⟩ := r.get (i := j) (by simpa using e)
    exact ⟨x, by simpa using e1, e2⟩
theorem ix_o (hk : g.r.K = X.K) : Op2 g (rIx X.K) vIx := by
  intro W σ φ H h x y d e Q rx ry m o
  cases ry with
  | int i =>
    by_cases hs : ∃ z, d = .str z
    · obtain ⟨z, rfl⟩ := hs
      cases rx
      have o' : Out g W σ φ H (Rep g.r) Q (match strAt z i with | some x => .ok x h | none => .bad) := o
      unfold strAt at o'
      by_cases hz : z.length ≤ 16777216
      · rw [if_pos hz] at o'
        cases ha : atI z.cps.toList i with
        | none => rw [ha] at o'; exact o'.elim
        | some c =>
          rw [ha] at o'
          exact .inr (.inr ⟨z, i, c, rfl, rfl, line_of_le hz, ha, o' φ _ H Ext.refl (.str _) m⟩)
      · rw [if_neg hz] at o'
        exact o'.elim
    · have e2 : vIx d (.int i) h = (match seqOf h d with
          | some l => match atI l i with
            | some x => .ok x h
            | none => .bad
          | none => .bad) := by
        cases d <;> first | rfl | exact absurd ⟨_, rfl⟩ hs
      rw [e2] at o
      cases hl : seqOf h d with
      | none => rw [hl] at o; exact o.elim
      | some l =>
        rw [hl] at o
        dsimp only at o
        cases ha : atI l i with
        | none => rw [ha] at o; exact o.elim
        | some x' =>
          rw [ha] at o
          obtain ⟨p, xs, ep, q, r⟩ := seqOf_sq rx m hl
          obtain ⟨v, e1, e3⟩ := r.at ha
          rcases q with q | q
          · exact .inr (.inl ⟨p, xs, i, v, ep, rfl, hk ▸ q, e1, o φ _ H Ext.refl e3 m⟩)
          · exact .inl ⟨p, xs, i, v, ep, rfl, hk ▸ q, e1, o φ _ H Ext.refl e3 m⟩
  | _ => exact o.elim
theorem s_ix (hk : g.r.K = X.K) (ha : PE X a (tE g W ma)) (hb : PE X b (tE g W mb)) (hs : PlainIx b := by exact fun _ _ => rfl) : PE X (.Subscript a b pos) (tE g W (mBin vIx ma mb)) := pe_imp (pe_ix ix_seq ha hb hs) (imp_bin (ix_o hk))
theorem so_none : PO X none (tOM g W mNoPart) := ⟨fun pins s σ H Q I t => po_none.run pins s σ H Q I (by
  obtain ⟨φ, ρ, h, s, m, o⟩ := t
  exact o φ none H Ext.refl rfl m)⟩
theorem so_some (ha : PE X a (tE g W ma)) : PO X (some a) (tOM g W (mPart ma)) := ⟨fun pins s σ H Q I t => (po_some ha).run pins s σ H Q I (by
  obtain ⟨φ, ρ, h, s, m, o⟩ := t
  refine ⟨φ, ρ, h, s, m, Out.next o fun x h1 φ1 v H1 e1 r1 m1 o1 => ?_⟩
  cases r1 with
  | int i => exact ⟨i, rfl, o1 φ1 _ H1 Ext.refl rfl m1⟩
  | _ => exact o1.elim)⟩
theorem Reps.cut {g : Gm} {φ : Ph} {H : Hp} {xs : List V} {ds : List D} (r : Reps g.r φ H xs ds) (lo hi : Option Int) : Reps g.r φ H (cutV xs lo hi) (cutD ds lo hi) := by
  unfold cutV cutD
  rw [r.length]
  exact (r.drop _).take _
theorem cutV_whole {xs : List V} {lo hi : Option Int} (h : HT.sIx xs.length 0 lo = 0 ∧ HT.sIx xs.length xs.length hi = xs.length) : cutV xs lo hi = xs := by
  unfold cutV
  rw [h.1, h.2]
  simp
theorem cut_o {lo hi : Option Int} {σ : L2.St} {φ : Ph} {H : Hp} {h : MH} {x : V} {d : D} {Q : VK} (hk : g.r.K = X.K) (rx : Rep g.r φ H x d) (m : Hok g φ H h) (o : Out g W σ φ H (Rep g.r) Q (vCut d lo hi h)) : rSlL X.K x lo hi H Q ∨ rSlA X.K x lo hi H Q := by
  cases rx with
  | tup q r =>
    rename_i a xs ds
    refine .inr ⟨a, xs, rfl, hk ▸ q.sq, fun hw => ?_, fun _ p hp => new_tup m hp (r.cut lo hi) o⟩
    have e := cutV_whole hw
    have rc := r.cut lo hi
    rw [e] at rc
    exact o φ _ H Ext.refl (.tup q rc) m
  | lst q r => exact .inl ⟨_, _, rfl, hk ▸ q.sq, fun p hp => new_lst m hp (r.cut lo hi) o⟩
  | scr q => exact .inl ⟨_, _, rfl, hk ▸ q.sq, fun p hp => new_lst m hp ((reps_ints _).cut lo hi) o⟩
  | cell q =>
    rename_i n
    cases h0 : h[n]? with
    | none => simp only [vCut, h0] at o; exact o.elim
    | some l =>
      simp only [vCut, h0] at o
      obtain ⟨xs, e1, r⟩ := m.at_ _ _ _ q h0
      exact .inl ⟨_, xs, rfl, SqL.of e1, fun p hp => new_lst m hp (r.cut lo hi) o⟩
  | _ => exact o.elim
theorem s_cut {lo hi : Option Expr} {ml mh : MO} {p2 : Pos} (hk : g.r.K = X.K) (ha : PE X a (tE g W ma)) (hl : PO X lo (tOM g W ml)) (hh : PO X hi (tOM g W mh)) : PE X (.Subscript a (.Slice lo hi none p2) pos) (tE g W (mCut ma ml mh)) :=
  pe_imp (pe_slice (sl_list.or sl_tupA) ha hl hh) fun σ H Q t => by
    obtain ⟨φ, ρ, h, s, m, o⟩ := t
    refine ⟨φ, ρ, h, s, m, Out.next o fun x h1 φ1 v H1 e1 r1 m1 o1 => ?_⟩
    refine ⟨φ1, ρ, h1, s.ext e1, m1, Out.next (rel' := rO) o1 fun l h2 φ2 l' H2 e2 r2 m2 o2 => ?_⟩
    refine ⟨φ2, ρ, h2, (s.ext e1).ext e2, m2, Out.next (rel' := rO) o2 fun u h3 φ3 u' H3 e3 r3 m3 o3 => ?_⟩
    cases (show l' = l from r2)
    cases (show u' = u from r3)
    exact cut_o hk ((r1.ext e2).ext e3) m3 o3
/-- xs[::-1] of a list -/
def vRevL (d : D) (h : MH) : R D := match seqOf h d, d with
  | _, .tup _ => .bad
  | some l, _ => .ok (.lst l.reverse) h
  | none, _ => .bad
end
end MI
namespace MI
open PySem PySem.Spec
open PyProof.Rows L2

/-! ### built-ins by name -/
def vOne (f : D → MH → R D) : List D → MH → R D
  | [d], h => f d h
  | _, _ => .bad
def vTwo (f : D → D → MH → R D) : List D → MH → R D
  | [d, e], h => f d e h
  | _, _ => .bad
def vLen (d : D) (h : MH) : R D := match d with
  | .str z => if small z.length = true then .ok (.int (z.length : Int)) h else .bad
  | d => match seqOf h d with
    | some l => .ok (.int (l.length : Int)) h
    | none => .bad
def tyName : D → Option String
  | .non => some "NoneType"
  | .bl _ => some "bool"
  | .int _ => some "int"
  | .str _ => some "str"
  | .tup _ => some "tuple"
  | .ctp _ => some "tuple"
  | .lst _ => some "list"
  | .cell _ => some "list"
  | .scr _ => some "list"
  | .dic _ _ => some "dict"
  | .dcell _ => some "dict"
  | _ => none
/-- isinstance of a value of the built-in type t -/
def isiB (t n : String) : Option Bool :=
  if n = "int" then some (decide (t = "int") || decide (t = "bool"))
  else if n = "bool" then some (decide (t = "bool"))
  else if n = "tuple" then some (decide (t = "tuple"))
  else if n = "list" then some (decide (t = "list"))
  else if n = "str" then some (decide (t = "str"))
  else if n = "dict" then some (decide (t = "dict"))
  else none
def vIsi (d e : D) (h : MH) : R D := match e with
  | .ty n => match tyName d with
    | some t => match isiB t n with
      | some b => .ok (.bl b) h
      | none => .bad
    | none => .bad
  | _ => .bad
def vTuple (d : D) (h : MH) : R D := match d with
  | .ctp l => .ok (.ctp l) h
  | _ => match seqOf h d with
    | some l => .ok (.tup l) h
    | none => .bad
def vList (d : D) (h : MH) : R D := match seqOf h d with
  | some l => .ok (.lst l) h
  | none => .bad
def vListC (d : D) (h : MH) : R D := match seqOf h d with
  | some l => .ok (.cell h.length) (h ++ [l])
  | none => .bad
def asInts : List D → Option (List Int)
  | [] => some []
  | .int i :: r => (asInts r).map (i :: ·)
  | _ => none
def asBools : List D → Option (List Bool)
  | [] => some []
  | .bl b :: r => (asBools r).map (b :: ·)
  | _ => none
def listOf (h : MH) : D → Option (List D)
  | .lst l => some l
  | .cell n => h[n]?
  | .scr l => some (l.map .int)
  | _ => none
def vSum (d : D) (h : MH) : R D := match (listOf h d).bind asInts with
  | some l => .ok (.int l.sum) h
  | none => .bad
def vAll (d : D) (h : MH) : R D := match (listOf h d).bind asBools with
  | some l => .ok (.bl (l.all id)) h
  | none => .bad
def vAny (d : D) (h : MH) : R D := match (listOf h d).bind asBools with
  | some l => .ok (.bl (l.any id)) h
  | none => .bad
def maxI : List Int → Int
  | [] => 0
  | [i] => i
  | i :: r => if maxI r > i then maxI r else i
def minI : List Int → Int
  | [] => 0
  | [i] => i
  | i :: r => if minI r < i then minI r else i
def vMaxL (d : D) (h : MH) : R D := match (listOf h d).bind asInts with
  | some (i :: l) => .ok (.int (maxI (i :: l))) h
  | _ => .bad
def vMinL (d : D) (h : MH) : R D := match (listOf h d).bind asInts with
  | some (i :: l) => .ok (.int (minI (i :: l))) h
  | _ => .bad
def insI (i : Int) : List Int → List Int
  | [] => [i]
  | j :: r => if i ≤ j then i :: j :: r else j :: insI i r
def isort : List Int → List Int
  | [] => []
  | i :: r => insI i (isort r)
def vSortI (d : D) (h : MH) : R D := match (listOf h d).bind asInts with
  | some l => .ok (.lst ((isort l).map .int)) h
  | none => .bad
def vAbs (d : D) (h : MH) : R D := match d with
  | .int i => .ok (.int (if i < 0 then -i else i)) h
  | _ => .bad
def vInt (d : D) (h : MH) : R D := match d with
  | .int i => .ok (.int i) h
  | .bl k => .ok (.int (if k then 1 else 0)) h
  | _ => .bad
def vMax2 (d e : D) (h : MH) : R D := match d, e with
  | .int i, .int j => .ok (.int (if j > i then j else i)) h
  | _, _ => .bad
def vMin2 (d e : D) (h : MH) : R D := match d, e with
  | .int i, .int j => .ok (.int (if j < i then j else i)) h
  | _, _ => .bad
def vGcd (d e : D) (h : MH) : R D := match d, e with
  | .int i, .int j => .ok (.int ((Nat.gcd i.natAbs j.natAbs : Nat) : Int)) h
  | _, _ => .bad
def vRepr (d : D) (h : MH) : R D := match d with
  | .bl b => .ok (.str (if b then "True" else "False")) h
  | .non => .ok (.str "None") h
  | .int i => if i.natAbs.log2 < 1920 then .ok (.str (toString i)) h else .bad
  | _ => .bad

theorem insI_perm (i : Int) : ∀ l : List Int, (insI i l).Perm (i :: l)
  | [] => .refl _
  | j :: r => by
    unfold insI
    split
    · exact .refl _
    · exact ((insI_perm i r).cons j).trans (.swap i j r)
theorem isort_perm : ∀ l : List Int, (isort l).Perm l
  | [] => .refl _
  | i :: r => (insI_perm i _).trans ((isort_perm r).cons i)
theorem insI_sorted (i : Int) : ∀ l : List Int, l.Pairwise (· ≤ ·) → (insI i l).Pairwise (· ≤ ·)
  | [], _ => by simp [insI]
  | j :: r, h => by
    unfold insI
    rw [List.pairwise_cons] at h
    split
    · rename_i hij
      refine List.pairwise_cons.mpr ⟨fun k hk => ?_, List.pairwise_cons.mpr h⟩
      rcases List.mem_cons.mp hk with e | hk
      · rw [e]; exact hij
      · exact Int.le_trans hij (h.1 k hk)
    · rename_i hij
      refine List.pairwise_cons.mpr ⟨fun k hk => ?_, insI_sorted i r h.2⟩
      rcases List.mem_cons.mp ((insI_perm i r).mem_iff.mp hk) with e | hk
      · rw [e]; omega
      · exact h.1 k hk
theorem isort_sorted : ∀ l : List Int, (isort l).Pairwise (· ≤ ·)
  | [] => .nil
  | i :: r => insI_sorted i _ (isort_sorted r)
theorem maxI_mem : ∀ (i : Int) (l : List Int), maxI (i :: l) ∈ i :: l
  | i, [] => by simp [maxI]
  | i, j :: r => by
    have ih := maxI_mem j r
    show (if maxI (j :: r) > i then maxI (j :: r) else i) ∈ i :: j :: r
    split
    · exact List.mem_cons_of_mem _ ih
    · exact List.mem_cons_self
theorem maxI_le : ∀ (i : Int) (l : List Int), ∀ k ∈ i :: l, k ≤ maxI (i :: l)
  | i, [], k, hk => by simp at hk; simp [maxI, hk]
  | i, j :: r, k, hk => by
    have ih := maxI_le j r
    show k ≤ (if maxI (j :: r) > i then maxI (j :: r) else i)
    rcases List.mem_cons.mp hk with e | hk
    · subst e; split <;> omega
    · have := ih k hk
      split <;> omega
theorem minI_mem : ∀ (i : Int) (l : List Int), minI (i :: l) ∈ i :: l
  | i, [] => by simp [minI]
  | i, j :: r => by
    have ih := minI_mem j r
    show (if minI (j :: r) < i then minI (j :: r) else i) ∈ i :: j :: r
    split
    · exact List.mem_cons_of_mem _ ih
    · exact List.mem_cons_self
theorem minI_le : ∀ (i : Int) (l : List Int), ∀ k ∈ i :: l, minI (i :: l) ≤ k
  | i, [], k, hk => by simp at hk; simp [minI, hk]
  | i, j :: r, k, hk => by
    have ih := minI_le j r
    show (if minI (j :: r) < i then minI (j :: r) else i) ≤ k
    rcases List.mem_cons.mp hk with e | hk
    · subst e; split <;> omega
    · have := ih k hk
      split <;> omega

section
variable {g : Gm} {X : Cx}
theorem oOne {r : List V → Hp → VK → Prop} {f : D → MH → R D} (ho : Op1 g (fun x H Q => r [x] H Q) f) : OpN g r (vOne f) := by
  intro W σ φ H h xs ds Q rr m o
  cases rr with
  | nil => exact o.elim
  | cons r1 rr =>
    cases rr with
    | nil => exact ho r1 m o
    | cons _ _ => exact o.elim
theorem oTwo {r : List V → Hp → VK → Prop} {f : D → D → MH → R D} (ho : Op2 g (fun x y H Q => r [x, y] H Q) f) : OpN g r (vTwo f) := by
  intro W σ φ H h xs ds Q rr m o
  cases rr with
  | nil => exact o.elim
  | cons r1 rr =>
    cases rr with
    | nil => exact o.elim
    | cons r2 rr =>
      cases rr with
      | nil => exact ho r1 r2 m o
      | cons _ _ => exact o.elim
theorem len_o (hk : g.r.K = X.K) : Op1 g (fun x H Q => ∃ x' n, [x] = [x'] ∧ LenV X.K x' H n ∧ Q (.int n) H) vLen := by
  intro W σ φ H h x d Q rx m o
  by_cases hs : ∃ z, d = .str z
  · obtain ⟨z, rfl⟩ := hs
    cases rx
    have o' : Out g W σ φ H (Rep g.r) Q (if small z.length = true then .ok (.int (z.length : Int)) h else .bad) := o
    by_cases hz : small z.length = true
    · rw [if_pos hz] at o'
      exact ⟨_, z.length, rfl, ⟨small_line hz, rfl⟩, o' φ _ H Ext.refl (.int _) m⟩
    · rw [if_neg hz] at o'
      exact o'.elim
  · have e2 : vLen d h = (match seqOf h d with
        | some l => .ok (.int (l.length : Int)) h
        | none => .bad) := by
      cases d <;> first | rfl | exact absurd ⟨_, rfl⟩ hs
    rw [e2] at o
    cases hl : seqOf h d with
    | none => rw [hl] at o; exact o.elim
    | some l =>
      rw [hl] at o
      obtain ⟨p, xs, rfl, q, r⟩ := seqOf_sq rx m hl
      refine ⟨_, l.length, rfl, ?_, o φ _ H Ext.refl (.int _) m⟩
      rcases q with q | q
      · exact .inr ⟨xs, hk ▸ q, r.length.symm⟩
      · exact .inl ⟨xs, hk ▸ q, r.length.symm⟩
def tyNames : List String := ["NoneType", "bool", "int", "str", "tuple", "list", "dict"]
theorem isi_all : (tyNames.all fun t => (["int", "bool", "tuple", "list", "str", "dict"] : List String).all fun n => kitB t n == isiB t n) = true := by decide +kernel
theorem isi_kit {t n : String} {b : Bool} (ht : t ∈ tyNames) (h : isiB t n = some b) : kitB t n = some b := by
  have q := List.all_eq_true.mp (List.all_eq_true.mp isi_all t ht)
  have hn : n ∈ (["int", "bool", "tuple", "list", "str", "dict"] : List String) := by
    unfold isiB at h
    repeat (split at h; · simp_all)
    cases h
  have := q n hn
  rw [beq_iff_eq] at this
  rw [this, h]
/-- what the isinstance rules ask, of a value of the type t -/
def TyZ (X : Cx) (H : Hp) (v : V) (t : Value) : Prop := ∀ {pins : List (Addr × Obj)} {σ : L2.St} {s : Shared} {u : Value}, Inv X pins σ H s → RelV v u → ∃ P : Heap → Prop, PySem.W.KitX X.K u t P ∧ P s.heap ∧ u ≠ .builtin "__main__.__loader__#opaque"
def rIsiZ (X : Cx) : List V → Hp → VK → Prop := fun xs H Q => ∃ (x c : V) (t u : Value) (b : Bool), xs = [x, c] ∧ ClsV c u ∧ TyZ X H x t ∧ PySem.W.kitOne X.K t u = some b ∧ Q (.bl b) H
theorem call_isiZ : CallR X (.builtin "isinstance") (rIsiZ X) := by
  intro pins s σ H xs us Q I r h
  obtain ⟨x, c, t, u, b, rfl, k, ty, e, q⟩ := h
  obtain ⟨u1, u2, rfl, r1, r2⟩ := vals2 r
  have e2 := k.eq r2
  subst e2
  obtain ⟨P, Z, p, hx⟩ := ty I r1
  exact PySem.W.kia_one Z I.kIn p e hx fun tk => ⟨.bl b, H, I.tok tk, rfl, q⟩
theorem TyZ.of {H : Hp} {v : V} {t : Value} (h : TyX X.K H v t) : TyZ X H v t := fun I r => kit_of I r h
theorem TyZ.dic {H : Hp} {a : Addr} {u : HO} (h : Rd H a u) (d : Dc u) : TyZ X H (.ref a) (.type "dict") := by
  cases u with
  | dK kvs =>
    rcases h with h | ⟨o, h⟩
    · exact TyZ.of (.base (.dK h))
    · exact TyZ.of (.fDict h)
  | dT kvs =>
    rcases h with h | ⟨ob, h⟩
    · exact TyZ.of (.base (.dT h))
    · intro pins σ s u I r
      cases (show u = Value.ref a from r)
      obtain ⟨_, _, _, xs, _, o, es, ep, h1, h2, _⟩ := (show ObjOk X.prog X.w H s.heap a (.frz ob (.dT kvs)) from I.hok a _ h)
      exact ⟨_, PySem.W.kitx_dict, ⟨o, h1, h2.1⟩, fun z => nomatch z⟩
  | _ => exact d.elim
theorem tyName_z {φ : Ph} {h : MH} {v : V} {d : D} {t : String} {H : Hp} (hk : g.r.K = X.K) (r : Rep g.r φ H v d) (m : Hok g φ H h) (e : tyName d = some t) : t ∈ tyNames ∧ TyZ X H v (.type t) := by
  have ln : ∀ {n : Nat} {a : Addr}, φ.c[n]? = some a → n < h.length := fun q => by rw [← m.len]; exact (List.getElem?_eq_some_iff.mp q).1
  cases r with
  | non => cases e; exact ⟨by decide, TyZ.of (.base .non)⟩
  | bl b => cases e; exact ⟨by decide, TyZ.of (.base (.bl b))⟩
  | int b => cases e; exact ⟨by decide, TyZ.of (.base (.int b))⟩
  | str b => cases e; exact ⟨by decide, TyZ.of (.base (.str b))⟩
  | tup q r =>
    cases e
    refine ⟨by decide, ?_⟩
    exact TyZ.of (.base (.tup q.1))
  | ctp q =>
    cases e
    refine ⟨by decide, ?_⟩
    rw [hk] at q
    rcases q with (q | ⟨o, q⟩) | ⟨o, its, n, q1, q2, _⟩
    · cases q
    · cases q
    · exact TyZ.of (.kTuple q1 q2)
  | lst q r => cases e; exact ⟨by decide, TyZ.of (.base (.lst q.1))⟩
  | scr q =>
    cases e
    refine ⟨by decide, ?_⟩
    rw [hk] at q
    rcases q with ⟨q | ⟨o, q⟩, _⟩ | (q | ⟨o, q⟩) | ⟨o, its, n, q1, q2, _⟩
    · exact TyZ.of (.base (.lst q))
    · exact TyZ.of (.base (.frz q))
    · cases q
    · cases q
    · exact TyZ.of (.kList q1 q2)
  | dic q n e1 r => cases e; exact ⟨by decide, TyZ.dic q trivial⟩
  | dicT q n e1 r => cases e; exact ⟨by decide, TyZ.dic q trivial⟩
  | cell q =>
    rename_i a n
    cases e
    obtain ⟨xs, e1, _⟩ := m.at_ n a (h[n]'(ln q.1)) q (by simp [ln q.1])
    exact ⟨by decide, TyZ.of (.base (.lst e1))⟩
  | dcell q =>
    rename_i a n
    cases e
    obtain ⟨ks, vs, u, hd, q2⟩ := m.atD n a (h[n]'(ln q.1)) q (by simp [ln q.1])
    refine ⟨by decide, ?_⟩
    have dc : Dc u := by rcases hd with ⟨_, rfl, _⟩ | ⟨_, rfl, _⟩ <;> trivial
    rcases q2 with ⟨_, q2⟩ | ⟨_, o, q2⟩
    · exact fun _ _ _ _ I r => TyZ.dic (X := X) (.inl q2) dc I r
    · exact fun _ _ _ _ I r => TyZ.dic (X := X) (.inr ⟨o, q2⟩) dc I r
  | _ => cases e
theorem isi_o (hk : g.r.K = X.K) : Op2 g (fun x y H Q => rIsiZ X [x, y] H Q) vIsi := by
  intro W σ φ H h x y d e Q rx ry m o
  cases ry with
  | ty n =>
    cases ht : tyName d with
    | none => simp only [vIsi, ht] at o; exact o.elim
    | some t =>
      cases hb : isiB t n with
      | none => simp only [vIsi, ht, hb] at o; exact o.elim
      | some b =>
        simp only [vIsi, ht, hb] at o
        obtain ⟨t1, t2⟩ := tyName_z hk rx m ht
        exact ⟨x, .ty n, .type t, .type n, b, rfl, .ty n, t2, kit_ty (isi_kit t1 hb), o φ _ H Ext.refl (.bl _) m⟩
  | _ => exact o.elim
theorem tuple_o (hk : g.r.K = X.K) : Op1 g (fun x H Q => ∃ p ys, [x] = [.ref p] ∧ ((SqL X.K H p ys ∧ ∀ l, H l = none → Q (.ref l) (upd H l (.tup ys))) ∨ (SqT X.K H p ys ∧ Q (.ref p) H))) vTuple := by
  intro W σ φ H h x d Q rx m o
  unfold vTuple at o
  split at o
  · cases rx with
    | ctp q => exact ⟨_, _, rfl, .inr ⟨hk ▸ ctp_sq q, o φ _ H Ext.refl (.ctp q) m⟩⟩
  · rename_i hn
    cases hl : seqOf h d with
    | none => rw [hl] at o; exact o.elim
    | some l =>
      rw [hl] at o
      cases rx with
      | tup q r => cases hl; exact ⟨_, _, rfl, .inr ⟨hk ▸ q.sq, o φ _ H Ext.refl (.tup q r) m⟩⟩
      | lst q r => cases hl; exact ⟨_, _, rfl, .inl ⟨hk ▸ q.sq, fun p hp => new_tup m hp r o⟩⟩
      | scr q => cases hl; exact ⟨_, _, rfl, .inl ⟨hk ▸ q.sq, fun p hp => new_tup m hp (reps_ints _) o⟩⟩
      | ctp q => exact absurd rfl (hn _)
      | cell q =>
        obtain ⟨xs, e1, r⟩ := m.at_ _ _ _ q hl
        exact ⟨_, xs, rfl, .inl ⟨SqL.of e1, fun p hp => new_tup m hp r o⟩⟩
      | _ => cases hl
def rListOf (K : PySem.W.Frag) : List V → Hp → VK → Prop := fun xs H Q => ∃ p ys, xs = [.ref p] ∧ (SqL K H p ys ∨ SqT K H p ys) ∧ ∀ l, H l = none → Q (.ref l) (upd H l (.lst ys))
theorem list_o (hk : g.r.K = X.K) : Op1 g (fun x H Q => rListOf X.K [x] H Q) vList := by
  intro W σ φ H h x d Q rx m o
  unfold vList at o
  cases hl : seqOf h d with
  | none => rw [hl] at o; exact o.elim
  | some l =>
    rw [hl] at o
    obtain ⟨p, xs, rfl, q, r⟩ := seqOf_sq rx m hl
    exact ⟨p, xs, rfl, by rw [← hk]; exact q.symm, fun l hl => new_lst m hl r o⟩
theorem listC_o (hk : g.r.K = X.K) : Op1 g (fun x H Q => rListOf X.K [x] H Q) vListC := by
  intro W σ φ H h x d Q rx m o
  unfold vListC at o
  cases hl : seqOf h d with
  | none => rw [hl] at o; exact o.elim
  | some l =>
    rw [hl] at o
    obtain ⟨p, xs, rfl, q, r⟩ := seqOf_sq rx m hl
    exact ⟨p, xs, rfl, by rw [← hk]; exact q.symm, fun l hl => new_cell m hl r o⟩
theorem asInts_map : ∀ {ds : List D} {l : List Int}, asInts ds = some l → ds = l.map D.int
  | [], l, e => by cases e; rfl
  | d :: r, l, e => by
    cases d with
    | int i =>
      rw [asInts] at e
      cases h1 : asInts r with
      | none => rw [h1] at e; cases e
      | some m => rw [h1] at e; cases e; rw [asInts_map h1]; rfl
    | _ => simp [asInts] at e
theorem asBools_map : ∀ {ds : List D} {l : List Bool}, asBools ds = some l → ds = l.map D.bl
  | [], l, e => by cases e; rfl
  | d :: r, l, e => by
    cases d with
    | bl i =>
      rw [asBools] at e
      cases h1 : asBools r with
      | none => rw [h1] at e; cases e
      | some m => rw [h1] at e; cases e; rw [asBools_map h1]; rfl
    | _ => simp [asBools] at e
theorem reps_int_v {g : Gm} {φ : Ph} {H : Hp} : ∀ {xs : List V} {l : List Int}, Reps g.r φ H xs (l.map D.int) → xs = l.map V.int
  | [], [], _ => rfl
  | _, i :: r, .cons h t => by cases h; rw [reps_int_v t]; rfl
theorem reps_bl_v {g : Gm} {φ : Ph} {H : Hp} : ∀ {xs : List V} {l : List Bool}, Reps g.r φ H xs (l.map D.bl) → xs = l.map V.bl
  | [], [], _ => rfl
  | _, i :: r, .cons h t => by cases h; rw [reps_bl_v t]; rfl
theorem listOf_at {φ : Ph} {h : MH} {v : V} {d : D} {l : List D} {H : Hp} (r : Rep g.r φ H v d) (m : Hok g φ H h) (e : listOf h d = some l) : ∃ a xs, v = .ref a ∧ SqL g.r.K H a xs ∧ Reps g.r φ H xs l := by
  cases r with
  | lst q r => cases e; exact ⟨_, _, rfl, q.sq, r⟩
  | scr q => cases e; exact ⟨_, _, rfl, q.sq, reps_ints _⟩
  | cell q =>
    obtain ⟨xs, e1, r⟩ := m.at_ _ _ _ q e
    exact ⟨_, xs, rfl, SqL.of e1, r⟩
  | _ => cases e
theorem ints_at {φ : Ph} {h : MH} {v : V} {d : D} {l : List Int} {H : Hp} (r : Rep g.r φ H v d) (m : Hok g φ H h) (e : (listOf h d).bind asInts = some l) : ∃ a, v = .ref a ∧ SqL g.r.K H a (l.map V.int) := by
  cases h1 : listOf h d with
  | none => rw [h1] at e; cases e
  | some ds =>
    rw [h1] at e
    obtain ⟨a, xs, rfl, q, rr⟩ := listOf_at r m h1
    rw [asInts_map (show asInts ds = some l from e)] at rr
    exact ⟨a, rfl, by rw [← reps_int_v rr]; exact q⟩
theorem bools_at {φ : Ph} {h : MH} {v : V} {d : D} {l : List Bool} {H : Hp} (r : Rep g.r φ H v d) (m : Hok g φ H h) (e : (listOf h d).bind asBools = some l) : ∃ a, v = .ref a ∧ SqL g.r.K H a (l.map V.bl) := by
  cases h1 : listOf h d with
  | none => rw [h1] at e; cases e
  | some ds =>
    rw [h1] at e
    obtain ⟨a, xs, rfl, q, rr⟩ := listOf_at r m h1
    rw [asBools_map (show asBools ds = some l from e)] at rr
    exact ⟨a, rfl, by rw [← reps_bl_v rr]; exact q⟩
theorem sum_o (hk : g.r.K = X.K) : Op1 g (fun x H Q => rSum X.K [x] H Q) vSum := by
  intro W σ φ H h x d Q rx m o
  unfold vSum at o
  split at o
  · rename_i l hl
    obtain ⟨a, rfl, q⟩ := ints_at rx m hl
    exact ⟨a, l, rfl, hk ▸ q, o φ _ H Ext.refl (.int _) m⟩
  · exact o.elim
theorem all_o (hk : g.r.K = X.K) : Op1 g (fun x H Q => rAll X.K [x] H Q) vAll := by
  intro W σ φ H h x d Q rx m o
  unfold vAll at o
  split at o
  · rename_i l hl
    obtain ⟨a, rfl, q⟩ := bools_at rx m hl
    exact ⟨a, l, rfl, hk ▸ q, o φ _ H Ext.refl (.bl _) m⟩
  · exact o.elim
theorem any_o (hk : g.r.K = X.K) : Op1 g (fun x H Q => rAny X.K [x] H Q) vAny := by
  intro W σ φ H h x d Q rx m o
  unfold vAny at o
  split at o
  · rename_i l hl
    obtain ⟨a, rfl, q⟩ := bools_at rx m hl
    exact ⟨a, l, rfl, hk ▸ q, o φ _ H Ext.refl (.bl _) m⟩
  · exact o.elim
theorem maxL_o (hk : g.r.K = X.K) : Op1 g (fun x H Q => rMax X.K [x] H Q) vMaxL := by
  intro W σ φ H h x d Q rx m o
  unfold vMaxL at o
  split at o
  · rename_i i l hl
    obtain ⟨a, rfl, q⟩ := ints_at rx m hl
    refine ⟨a, i :: l, rfl, hk ▸ q, by simp, fun z hz hm => ?_⟩
    have e : z = maxI (i :: l) := Int.le_antisymm (maxI_le i l z hz) (hm _ (maxI_mem i l))
    rw [e]
    exact o φ _ H Ext.refl (.int _) m
  · exact o.elim
theorem minL_o (hk : g.r.K = X.K) : Op1 g (fun x H Q => rMin X.K [x] H Q) vMinL := by
  intro W σ φ H h x d Q rx m o
  unfold vMinL at o
  split at o
  · rename_i i l hl
    obtain ⟨a, rfl, q⟩ := ints_at rx m hl
    refine ⟨a, i :: l, rfl, hk ▸ q, by simp, fun z hz hm => ?_⟩
    have e : z = minI (i :: l) := Int.le_antisymm (hm _ (minI_mem i l)) (minI_le i l z hz)
    rw [e]
    exact o φ _ H Ext.refl (.int _) m
  · exact o.elim
theorem sortI_o (hk : g.r.K = X.K) : Op1 g (fun x H Q => rSortedI X.K [x] H Q) vSortI := by
  intro W σ φ H h x d Q rx m o
  unfold vSortI at o
  split at o
  · rename_i l hl
    obtain ⟨a, rfl, q⟩ := ints_at rx m hl
    refine ⟨a, l, rfl, hk ▸ q, fun ns p hp hs hn => ?_⟩
    have e : ns = isort l := PySem.W.ksm_same (hp.trans (isort_perm l).symm) hs (isort_sorted l)
    rw [e]
    exact new_lst m hn (reps_ints _) o
  · exact o.elim
theorem abs_o : Op1 g (fun x H Q => ∃ i, [x] = [.int i] ∧ Q (.int (if i < 0 then -i else i)) H) vAbs := by
  intro W σ φ H h x d Q rx m o
  cases rx with
  | int i => exact ⟨i, rfl, o φ _ H Ext.refl (.int _) m⟩
  | _ => exact o.elim
theorem int_o : Op1 g (fun x H Q => (∃ i, [x] = [.int i] ∧ Q (.int i) H) ∨ ∃ k, [x] = [.bl k] ∧ Q (.int (if k then 1 else 0)) H) vInt := by
  intro W σ φ H h x d Q rx m o
  cases rx with
  | int i => exact .inl ⟨i, rfl, o φ _ H Ext.refl (.int _) m⟩
  | bl i => exact .inr ⟨i, rfl, o φ _ H Ext.refl (.int _) m⟩
  | _ => exact o.elim
theorem max2_o : Op2 g (fun x y H Q => ∃ i j, [x, y] = [.int i, .int j] ∧ Q (.int (if j > i then j else i)) H) vMax2 := by
  intro W σ φ H h x y d e Q rx ry m o
  cases rx with
  | int i =>
    cases ry with
    | int j => exact ⟨i, j, rfl, o φ _ H Ext.refl (.int _) m⟩
    | _ => exact o.elim
  | _ => exact o.elim
theorem min2_o : Op2 g (fun x y H Q => ∃ i j, [x, y] = [.int i, .int j] ∧ Q (.int (if j < i then j else i)) H) vMin2 := by
  intro W σ φ H h x y d e Q rx ry m o
  cases rx with
  | int i =>
    cases ry with
    | int j => exact ⟨i, j, rfl, o φ _ H Ext.refl (.int _) m⟩
    | _ => exact o.elim
  | _ => exact o.elim
theorem gcd_o : Op2 g (fun x y H Q => rGcd [x, y] H Q) vGcd := by
  intro W σ φ H h x y d e Q rx ry m o
  cases rx with
  | int i =>
    cases ry with
    | int j => exact ⟨i, j, rfl, o φ _ H Ext.refl (.int _) m⟩
    | _ => exact o.elim
  | _ => exact o.elim
def rRepr : List V → Hp → VK → Prop := fun xs H Q => (∃ i, xs = [.int i] ∧ i.natAbs.log2 < 1920 ∧ Q (.str (toString i)) H) ∨ (∃ b, xs = [.bl b] ∧ Q (.str (if b then "True" else "False")) H) ∨ (xs = [.non] ∧ Q (.str "None") H)
theorem call_repr : CallR X (.builtin "repr") rRepr := by
  intro pins s σ H xs us Q I r h
  rcases h with ⟨i, rfl, hz, q⟩ | ⟨b, rfl, q⟩ | ⟨rfl, q⟩
  · obtain ⟨u, rfl, t, rfl⟩ := vals1 r
    exact PySem.P.repr_of_int hz ⟨.str _, H, I.tok _, ⟨_, rfl⟩, q⟩
  · obtain ⟨u, rfl, rx⟩ := vals1 r
    cases rx
    exact PySem.P.repr_of_bool ⟨.str _, H, I.tok _, ⟨_, rfl⟩, q⟩
  · obtain ⟨u, rfl, rx⟩ := vals1 r
    cases rx
    exact PySem.P.repr_of_none ⟨.str _, H, I.tok _, ⟨_, rfl⟩, q⟩
theorem repr_o : Op1 g (fun x H Q => rRepr [x] H Q) vRepr := by
  intro W σ φ H h x d Q rx m o
  cases rx with
  | bl i => exact .inr (.inl ⟨i, rfl, o φ _ H Ext.refl (.str _) m⟩)
  | non => exact .inr (.inr ⟨rfl, o φ _ H Ext.refl (.str _) m⟩)
  | int i =>
    simp only [vRepr] at o
    split at o
    · rename_i hl
      exact .inl ⟨i, rfl, hl, o φ _ H Ext.refl (.str _) m⟩
    · exact o.elim
  | _ => exact o.elim

/-! the calls -/
variable {W : WX} {mas : MA} {e : Expr} {es : List Expr} {p pos : Pos} {x : Str}
theorem s_blt {id : String} {r : List V → Hp → VK → Prop} {f : List D → MH → R D} (hc : CallR X (.builtin id) r) (ho : OpN g r f) (hv : bootBuiltins x = some (.builtin id)) (hm : X.mg x = none) (ha : PA X (e :: es) (tA g W mas)) (hg : Gl X x := by rfl)
    (hn : x ≠ "__name__" := by decide) (hdb : (x == ("__debug__" : Str)) = false := by decide) (he : starEach (e :: es) X.env = (false, eval e X.env) :: starEach es X.env := by rfl) (hpl : (backTo pos (starEach es X.env)).any (·.1) = false := by rfl) :
    PE X (.Call (.Name x p) (e :: es) [] pos) (tE g W (mCall f mas)) := pe_imp (pe_callB hc hg hm hv ha hn hdb he hpl) (imp_cb ho)
theorem s_bty {T : String} {r : List V → Hp → VK → Prop} {f : List D → MH → R D} (hc : CallR X (.type T) r) (ho : OpN g r f) (hv : bootBuiltins x = some (.type T)) (hm : X.mg x = none) (ha : PA X (e :: es) (tA g W mas)) (hg : Gl X x := by rfl)
    (hn : x ≠ "__name__" := by decide) (hdb : (x == ("__debug__" : Str)) = false := by decide) (he : starEach (e :: es) X.env = (false, eval e X.env) :: starEach es X.env := by rfl) (hpl : (backTo pos (starEach es X.env)).any (·.1) = false := by rfl) :
    PE X (.Call (.Name x p) (e :: es) [] pos) (tE g W (mCall f mas)) := pe_imp (pe_callTy hc hg hm hv ha hn hdb he hpl) (imp_cb ho)
/-- a built-in that a module's name holds (gcd) -/
theorem s_bfun {id : String} {r : List V → Hp → VK → Prop} {f : List D → MH → R D} (hc : CallR X (.builtin id) r) (ho : OpN g r f) (hm : X.mg x = some (.builtin id)) (ha : PA X (e :: es) (tA g W mas)) (hg : Gl X x := by rfl)
    (hdb : (x == ("__debug__" : Str)) = false := by decide) (he : starEach (e :: es) X.env = (false, eval e X.env) :: starEach es X.env := by rfl) (hpl : (backTo pos (starEach es X.env)).any (·.1) = false := by rfl) :
    PE X (.Call (.Name x p) (e :: es) [] pos) (tE g W (mCall f mas)) := pe_imp (pe_callBfun hc hg hm ha hdb he hpl) (imp_cb ho)
end
end MI
namespace MI
open PySem PySem.Spec
open PyProof.Rows L2

/-! ### statements -/
inductive F where
  | nx (ρ : Env1) (h : MH)
  | rt (d : D) (h : MH)
  | bk (ρ : Env1) (h : MH)
  | ct (ρ : Env1) (h : MH)
  | exc (ρ : Env1) (e : Exc) (h : MH)
  | bad
abbrev MS := Env1 → MH → F
def OutS (g : Gm) (W : WX) (φ : Ph) (H : Hp) (E : Ends) : F → Prop
  | .nx ρ h => ∀ φ' σ' H', Ext φ H φ' H' → Slots g.r φ' H' σ' ρ → Hok g φ' H' h → E.nx σ' H'
  | .rt d h => ∀ φ' v H', Ext φ H φ' H' → Rep g.r φ' H' v d → Hok g φ' H' h → E.rt v H'
  | .bk ρ h => ∀ φ' σ' H', Ext φ H φ' H' → Slots g.r φ' H' σ' ρ → Hok g φ' H' h → E.bk σ' H'
  | .ct ρ h => ∀ φ' σ' H', Ext φ H φ' H' → Slots g.r φ' H' σ' ρ → Hok g φ' H' h → E.ct σ' H'
  | .exc ρ e h => ∀ φ' σ' c dx H', Ext φ H φ' H' → Slots g.r φ' H' σ' ρ → ExRep g φ' H' c dx e → Hok g φ' H' h → W c dx σ' H'
  | .bad => False
def tS (g : Gm) (W : WX) (m : MS) : TS := fun E σ H => ∃ φ ρ h, Slots g.r φ H σ ρ ∧ Hok g φ H h ∧ OutS g W φ H E (m ρ h)
theorem OutS.base {g : Gm} {W : WX} {φ φ' : Ph} {H H' : Hp} {E : Ends} {r : F} (e : Ext φ H φ' H') (o : OutS g W φ H E r) : OutS g W φ' H' E r := by
  cases r with
  | nx ρ h => exact fun φ2 σ H2 e2 => o φ2 σ H2 (e.trans e2)
  | rt d h => exact fun φ2 σ H2 e2 => o φ2 σ H2 (e.trans e2)
  | bk ρ h => exact fun φ2 σ H2 e2 => o φ2 σ H2 (e.trans e2)
  | ct ρ h => exact fun φ2 σ H2 e2 => o φ2 σ H2 (e.trans e2)
  | exc ρ x h => exact fun φ2 σ c dx H2 e2 => o φ2 σ c dx H2 (e.trans e2)
  | bad => exact o
/-- an expression, then k -/
def R.toF {α : Type} (r : R α) (ρ : Env1) (k : α → MH → F) : F := match r with
  | .ok a h => k a h
  | .exc e h => .exc ρ e h
  | .bad => .bad
def F.seq (f : F) (k : MS) : F := match f with
  | .nx ρ h => k ρ h
  | r => r
section
variable {g : Gm} {W : WX} {X : Cx} {st : Stmt} {rest : List Stmt} {pos : Pos} {a b : Expr} {ma mb : ME} {mt : MT} {ms mu : MS}
theorem OutS.expr {α β : Type} {rel : Ph → Hp → β → α → Prop} {Q : β → Hp → Prop} {σ : L2.St} {ρ : Env1} {φ : Ph} {H : Hp} {E : Ends} {r : R α} {k : α → MH → F} (s : Slots g.r φ H σ ρ) (o : OutS g W φ H E (r.toF ρ k))
    (n : ∀ a h φ1 v H1, Ext φ H φ1 H1 → rel φ1 H1 v a → Hok g φ1 H1 h → OutS g W φ1 H1 E (k a h) → Q v H1) : Out g W σ φ H rel Q r := by
  cases r with
  | ok a h => exact fun φ1 v H1 e r1 m1 => n a h φ1 v H1 e r1 m1 (OutS.base e o)
  | exc x h => exact fun φ1 c dx H1 e r1 m1 => o φ1 σ c dx H1 e (s.ext e) r1 m1
  | bad => exact o
theorem pss_imp {sts : List Stmt} {t t' : TS} (h : PSs X sts t) (i : ∀ E σ H, t' E σ H → t E σ H) : PSs X sts t' := ⟨fun pins s σ H E I q => h.run pins s σ H E I (i _ _ _ q)⟩
theorem ps_imp {t t' : TS} (h : PS X st t) (i : ∀ E σ H, t' E σ H → t E σ H) : PS X st t' := ⟨fun pins s σ H E I q => h.run pins s σ H E I (i _ _ _ q)⟩
def mNext : MS := fun ρ h => .nx ρ h
def mSeq (m u : MS) : MS := fun ρ h => (m ρ h).seq u
def mBreak : MS := fun ρ h => .bk ρ h
def mCont : MS := fun ρ h => .ct ρ h
def mRet (m : ME) : MS := fun ρ h => (m ρ h).toF ρ fun d h1 => .rt d h1
def mRetN : MS := fun _ h => .rt .non h
def mDrop (m : ME) : MS := fun ρ h => (m ρ h).toF ρ fun _ h1 => .nx ρ h1
def mIfS (t : MT) (m u : MS) : MS := fun ρ h => (t ρ h).toF ρ fun k h1 => match k with
  | true => m ρ h1
  | false => u ρ h1
def mBad : MS := fun _ _ => .bad
theorem ss_nil : PSs X [] (tS g W mNext) := pss_imp pss_nil fun E σ H t => by
  obtain ⟨φ, ρ, h, s, m, o⟩ := t
  exact o φ σ H Ext.refl s m
theorem ss_cons (h1 : PS X st (tS g W ms)) (h2 : PSs X rest (tS g W mu)) : PSs X (st :: rest) (tS g W (mSeq ms mu)) := pss_imp (pss_cons h1 h2) fun E σ H t => by
  obtain ⟨φ, ρ, h, s, m, o⟩ := t
  refine ⟨φ, ρ, h, s, m, ?_⟩
  unfold mSeq at o
  cases hr : ms ρ h with
  | nx ρ1 h1 => rw [hr] at o; exact fun φ1 σ1 H1 e s1 m1 => ⟨φ1, ρ1, h1, s1, m1, OutS.base e o⟩
  | rt d h1 => rw [hr] at o; exact o
  | bk d h1 => rw [hr] at o; exact o
  | ct d h1 => rw [hr] at o; exact o
  | exc d x h1 => rw [hr] at o; exact o
  | bad => rw [hr] at o; exact o
theorem ss_one (h1 : PS X st (tS g W ms)) : PSs X [st] (tS g W ms) := pss_one h1
theorem s_pass : PS X (.Pass pos) (tS g W mNext) := ps_imp ps_pass fun E σ H t => by
  obtain ⟨φ, ρ, h, s, m, o⟩ := t
  exact o φ σ H Ext.refl s m
theorem s_break : PS X (.Break pos) (tS g W mBreak) := ps_imp ps_break fun E σ H t => by
  obtain ⟨φ, ρ, h, s, m, o⟩ := t
  exact o φ σ H Ext.refl s m
theorem s_cont : PS X (.Continue pos) (tS g W mCont) := ps_imp ps_continue fun E σ H t => by
  obtain ⟨φ, ρ, h, s, m, o⟩ := t
  exact o φ σ H Ext.refl s m
/-- what is never come to -/
theorem s_never : PS X st (tS g W mBad) := ps_imp ps_never fun E σ H t => by
  obtain ⟨φ, ρ, h, s, m, o⟩ := t
  exact o
theorem s_ret (ha : PE X a (tE g W ma)) : PS X (.Return (some a) pos) (tS g W (mRet ma)) := ps_imp (ps_ret ha) fun E σ H t => by
  obtain ⟨φ, ρ, h, s, m, o⟩ := t
  exact ⟨φ, ρ, h, s, m, OutS.expr s o fun d h1 φ1 v H1 e1 r1 m1 o1 => o1 φ1 v H1 Ext.refl r1 m1⟩
theorem s_retN : PS X (.Return none pos) (tS g W mRetN) := ps_imp ps_retN fun E σ H t => by
  obtain ⟨φ, ρ, h, s, m, o⟩ := t
  exact o φ _ H Ext.refl .non m
theorem s_expr (ha : PE X a (tE g W ma)) (hs : swapsWith a none pos.line X.env = pure false := by rfl) : PS X (.Expr a pos) (tS g W (mDrop ma)) := ps_imp (ps_expr ha hs) fun E σ H t => by
  obtain ⟨φ, ρ, h, s, m, o⟩ := t
  exact ⟨φ, ρ, h, s, m, OutS.expr s o fun d h1 φ1 v H1 e1 r1 m1 o1 => o1 φ1 σ H1 Ext.refl (s.ext e1) m1⟩
theorem s_if {c : Expr} {ta tb : List Stmt} (hc : PT X c (tT g W mt)) (ha : PSs X ta (tS g W ms)) (hb : PSs X tb (tS g W mu)) : PS X (.If c ta tb pos) (tS g W (mIfS mt ms mu)) := ps_imp (ps_if hc ha hb) fun E σ H t => by
  obtain ⟨φ, ρ, h, s, m, o⟩ := t
  refine ⟨φ, ρ, h, s, m, OutS.expr (rel := rB) s o fun d h1 φ1 v H1 e1 r1 m1 o1 => ?_⟩
  cases (show v = d from r1)
  cases d with
  | true => exact ⟨φ1, ρ, h1, s.ext e1, m1, o1⟩
  | false => exact ⟨φ1, ρ, h1, s.ext e1, m1, o1⟩

/-! ### targets -/
abbrev MG := D → Env1 → MH → Option (Env1 × MH)
abbrev MGs := List D → Env1 → MH → Option (Env1 × MH)
def OutG (g : Gm) (φ : Ph) (H : Hp) (Q : L2.St → Hp → Prop) : Option (Env1 × MH) → Prop
  | some (ρ, h) => ∀ φ' σ' H', Ext φ H φ' H' → Slots g.r φ' H' σ' ρ → Hok g φ' H' h → Q σ' H'
  | none => False
def tG (g : Gm) (m : MG) : TG := fun v σ H Q => ∃ φ ρ h d, Slots g.r φ H σ ρ ∧ Hok g φ H h ∧ Rep g.r φ H v d ∧ OutG g φ H Q (m d ρ h)
def tGs (g : Gm) (m : MGs) : TGs := fun vs σ H Q => ∃ φ ρ h ds, Slots g.r φ H σ ρ ∧ Hok g φ H h ∧ Reps g.r φ H vs ds ∧ OutG g φ H Q (m ds ρ h)
def gN (i : Nat) : MG := fun d ρ h => some (ρ.set i (some d), h)
def gsNil : MGs := fun ds ρ h => match ds with
  | [] => some (ρ, h)
  | _ => none
def gsCons (m : MG) (u : MGs) : MGs := fun ds ρ h => match ds with
  | [] => none
  | d :: r => (m d ρ h).bind fun x => u r x.1 x.2
def gT (n : Nat) (u : MGs) : MG := fun d ρ h => match d with
  | .tup l => if l.length = n then u l ρ h else none
  | _ => none
theorem pg_imp {tg : Expr} {t t' : TG} (h : PG X tg t) (i : ∀ v σ H Q, t' v σ H Q → t v σ H Q) : PG X tg t' := ⟨fun pins s σ H v u Q I r q => h.run pins s σ H v u Q I r (i _ _ _ _ q)⟩
theorem pgs_imp {tg : List Expr} {t t' : TGs} (h : PGs X tg t) (i : ∀ v σ H Q, t' v σ H Q → t v σ H Q) : PGs X tg t' := ⟨fun pins s σ H v u Q I r q => h.run pins s σ H v u Q I r (i _ _ _ _ q)⟩
theorem g_name (i : Nat) {x : Str} (hN : X.N.Nodup) (hi : X.N[i]? = some x := by rfl) (hx : Loc X.env.scope x := by first | exact .inl rfl | exact .inr rfl) (hf : X.fn x = true ∨ X.env.scope.names.lookup x = some .local := by first | exact .inl rfl | exact .inr rfl) : PG X (.Name x pos) (tG g (gN i)) := pg_imp (pg_name hN hi hx hf) fun v σ H Q t => by
  obtain ⟨φ, ρ, h, d, s, m, r, o⟩ := t
  exact o φ _ H Ext.refl (s.set r i) m
theorem gs_nil : PGs X [] (tGs g gsNil) := pgs_imp pgs_nil fun v σ H Q t => by
  obtain ⟨φ, ρ, h, ds, s, m, r, o⟩ := t
  cases r with
  | nil => exact ⟨rfl, o φ _ H Ext.refl s m⟩
  | cons _ _ => exact o.elim
theorem gs_cons {e : Expr} {es : List Expr} {m : MG} {u : MGs} (h1 : PG X e (tG g m)) (h2 : PGs X es (tGs g u)) (hs : (assignEach (e :: es) X.env).map (·.2) = assign e X.env :: (assignEach es X.env).map (·.2) := by rfl) : PGs X (e :: es) (tGs g (gsCons m u)) := pgs_imp (pgs_cons h1 h2 hs) fun v σ H Q t => by
  obtain ⟨φ, ρ, h, ds, s, mm, r, o⟩ := t
  cases r with
  | nil => exact o.elim
  | cons r1 rr =>
    rename_i x d xs ds
    refine ⟨x, xs, rfl, φ, ρ, h, d, s, mm, r1, ?_⟩
    have o' : OutG g φ H Q ((m d ρ h).bind fun x => u ds x.1 x.2) := o
    cases hm : m d ρ h with
    | none => rw [hm] at o'; exact o'.elim
    | some q =>
      obtain ⟨ρ1, h1⟩ := q
      rw [hm] at o'
      refine fun φ1 σ1 H1 e1 s1 m1 => ⟨φ1, ρ1, h1, ds, s1, m1, rr.ext e1, ?_⟩
      have o2 : OutG g φ H Q (u ds ρ1 h1) := o'
      cases hu : u ds ρ1 h1 with
      | none => rw [hu] at o2; exact o2.elim
      | some q2 => rw [hu] at o2; exact fun φ2 σ2 H2 e2 => o2 φ2 σ2 H2 (e1.trans e2)
theorem g_tup {es : List Expr} {k : Nat} {u : MGs} {n : Nat} (hk : g.r.K = X.K) (hc : X.calm = true) (h : PGs X es (tGs g u)) (hn : (assignEach es X.env).length = n := by rfl) (hst : (assignEach es X.env).findIdx? (·.1) = none := by rfl) : PG X (.Tuple es k pos) (tG g (gT n u)) :=
  pg_imp (pg_tup hc h hn hst) fun v σ H Q t => by
    obtain ⟨φ, ρ, h, d, s, m, r, o⟩ := t
    cases r with
    | tup q r =>
      rename_i a xs ds
      have o' : OutG g φ H Q (if ds.length = n then u ds ρ h else none) := o
      by_cases hl : ds.length = n
      · rw [if_pos hl] at o'
        exact ⟨a, xs, rfl, hk ▸ q.sq, by rw [r.length]; exact hl, φ, ρ, h, ds, s, m, r, o'⟩
      · rw [if_neg hl] at o'
        exact o'.elim
    | _ => exact o.elim
/-- a cell's item is stored -/
theorem Hok.putG {φ : Ph} {h : MH} {H : Hp} {n : Nat} {p : Addr} {o : HO} {ds : List D} (m : Hok g φ H h) (hn : φ.c[n]? = some p)
    (hr : p ∉ φ.m → ∃ xs, o = .lst xs ∧ Reps g.r φ H xs ds) (hd : p ∈ φ.m → ∃ ks vs u, DHas g.r φ H u ks vs ∧ ((ds = [.dct ks vs] ∧ o = u) ∨ (ds = [.frd ks vs] ∧ ∃ ob, o = .frz ob u))) : Ext φ H φ (upd H p o) ∧ Hok g φ (upd H p o) (h.set n ds) := by
  have hp : p ∈ φ.c := List.mem_of_getElem? hn
  have t : Tr φ H φ (upd H p o) := Tr.upd (.inr (.inl hp))
  have e : Ext φ H φ (upd H p o) := ⟨t, ⟨[], by simp⟩, fun _ h => h, fun a ha => upd_ne fun z => (m.gs a ha).1 (by rw [z]; exact hp)⟩
  have hl : n < h.length := by rw [← m.len]; exact (List.getElem?_eq_some_iff.mp hn).1
  have ne : ∀ {k : Nat} {a : Addr}, n ≠ k → φ.c[k]? = some a → a ≠ p := fun {k a} hk e1 z => hk ((List.getElem?_inj (List.getElem?_eq_some_iff.mp hn).1 m.nd).mp (by rw [hn, e1, z]))
  refine ⟨e, ⟨m.nd, by simp [m.len], fun a ha => ⟨(m.gs a ha).1, by rw [e.gk a ha]; exact (m.gs a ha).2⟩, fun k a es e1 e2 => ?_, fun k a es e1 e2 => ?_, Tabs.upd m.tb (m.pl (.inl hp)), g.ivm _ _ _ _ t m.iv⟩⟩
  · by_cases hk : n = k
    · subst hk
      have e3 := e1.1
      rw [hn] at e3
      cases e3
      rw [List.getElem?_set_self hl] at e2
      cases e2
      obtain ⟨xs, eo, r⟩ := hr e1.2
      subst eo
      exact ⟨xs, upd_same, r.ext e⟩
    · rw [List.getElem?_set_ne hk] at e2
      obtain ⟨ys, q, r2⟩ := m.at_ k a es e1 e2
      exact ⟨ys, by rw [upd_ne (ne hk e1.1)]; exact q, r2.ext e⟩
  · by_cases hk : n = k
    · subst hk
      have e3 := e1.1
      rw [hn] at e3
      cases e3
      rw [List.getElem?_set_self hl] at e2
      cases e2
      obtain ⟨ks, vs, u, r, q⟩ := hd e1.2
      refine ⟨ks, vs, u, r.tr t, ?_⟩
      rcases q with ⟨q1, q2⟩ | ⟨q1, ob, q2⟩
      · exact .inl ⟨q1, by rw [upd_same, q2]⟩
      · exact .inr ⟨q1, ob, by rw [upd_same, q2]⟩
    · rw [List.getElem?_set_ne hk] at e2
      obtain ⟨ks, vs, u, r, q⟩ := m.atD k a es e1 e2
      exact ⟨ks, vs, u, r.tr t, by rw [upd_ne (ne hk e1.1)]; exact q⟩
theorem Hok.put {φ : Ph} {h : MH} {H : Hp} {n : Nat} {p : Addr} {xs : List V} {ds : List D} (m : Hok g φ H h) (hn : φ.lc n p) (r : Reps g.r φ H xs ds) : Ext φ H φ (upd H p (.lst xs)) ∧ Hok g φ (upd H p (.lst xs)) (h.set n ds) :=
  m.putG hn.1 (fun _ => ⟨xs, rfl, r⟩) (fun z => absurd z hn.2)
/-- a dict that is a cell is another one now -/
theorem Hok.putD {φ : Ph} {h : MH} {H : Hp} {n : Nat} {p : Addr} {u : HO} {ks vs : List D} (m : Hok g φ H h) (hn : φ.dc n p) (r : DHas g.r φ H u ks vs) : Ext φ H φ (upd H p u) ∧ Hok g φ (upd H p u) (h.set n [.dct ks vs]) :=
  m.putG hn.1 (fun z => absurd hn.2 z) (fun _ => ⟨ks, vs, u, r, .inl ⟨rfl, rfl⟩⟩)
/-- .. is walked -/
theorem Hok.putF {φ : Ph} {h : MH} {H : Hp} {n : Nat} {p : Addr} {u : HO} {ob : Obj} {ks vs : List D} (m : Hok g φ H h) (hn : φ.dc n p) (r : DHas g.r φ H u ks vs) : Ext φ H φ (upd H p (.frz ob u)) ∧ Hok g φ (upd H p (.frz ob u)) (h.set n [.frd ks vs]) :=
  m.putG hn.1 (fun z => absurd hn.2 z) (fun _ => ⟨ks, vs, u, r, .inr ⟨rfl, ob, rfl⟩⟩)
def gSubC (o i : ME) : MG := fun d ρ h => match o ρ h with
  | .ok (.cell n) h1 => match i ρ h1 with
    | .ok (.int k) h2 => match h2[n]? with
      | some l => match ixN l.length k with
        | some j => some (ρ, h2.set n (l.set j d))
        | none => none
      | none => none
    | _ => none
  | _ => none
theorem g_sub {o i : Expr} {mo mi : ME} (ho : PE X o (tE g W mo)) (hi : PE X i (tE g W mi)) (ha : ∀ v, assign (.Subscript o i pos) X.env v = (do
      let ov ← holding [v] (eval o X.env)
      let iv ← holding [v, ov] (eval i X.env)
      standAt pos
      holding [v, ov, iv] (setItem ov iv v)
      release [v, ov, iv] []) := by intro _; rfl) : PG X (.Subscript o i pos) (tG g (gSubC mo mi)) := pg_imp (pg_sub ho hi set_list ha) fun v σ H Q t => by
  obtain ⟨φ, ρ, h, d, s, m, r, oo⟩ := t
  unfold gSubC at oo
  refine ⟨φ, ρ, h, s, m, ?_⟩
  cases h1 : mo ρ h with
  | bad => rw [h1] at oo; exact oo.elim
  | exc _ _ => rw [h1] at oo; exact oo.elim
  | ok d1 hh1 =>
    rw [h1] at oo
    intro φ1 v1 H1 e1 r1 m1
    cases r1 with
    | cell q1 =>
      rename_i p n
      dsimp only at oo
      refine ⟨φ1, ρ, hh1, s.ext e1, m1, ?_⟩
      cases h2 : mi ρ hh1 with
      | bad => rw [h2] at oo; exact oo.elim
      | exc _ _ => rw [h2] at oo; exact oo.elim
      | ok d2 hh2 =>
        rw [h2] at oo
        intro φ2 v2 H2 e2 r2 m2
        cases r2 with
        | int k =>
          dsimp only at oo
          cases h3 : hh2[n]? with
          | none => rw [h3] at oo; exact oo.elim
          | some l =>
            rw [h3] at oo
            dsimp only at oo
            cases h4 : ixN l.length k with
            | none => rw [h4] at oo; exact oo.elim
            | some j =>
              rw [h4] at oo
              obtain ⟨xs, q2, rr⟩ := m2.at_ n p l (e2.ix q1) h3
              obtain ⟨e3, m3⟩ := m2.put (e2.ix q1) (rr.set ((r.ext e1).ext e2) j)
              exact ⟨p, xs, k, j, rfl, rfl, q2, by rw [rr.length]; exact h4, oo φ2 σ _ ((e1.trans e2).trans e3) (((s.ext e1).ext e2).ext e3) m3⟩
        | _ => exact oo.elim
    | _ => exact oo.elim
/-- target = value -/
def F.ofG : Option (Env1 × MH) → F
  | some (ρ, h) => .nx ρ h
  | none => .bad
def mAsg (m : ME) (u : MG) : MS := fun ρ h => (m ρ h).toF ρ fun d h1 => F.ofG (u d ρ h1)
theorem imp_asg {u : MG} (E : Ends) (σ : L2.St) (H : Hp) (t : tS g W (mAsg ma u) E σ H) : tAsg (tE g W ma) (tG g u) E σ H := by
  obtain ⟨φ, ρ, h, s, m, o⟩ := t
  refine ⟨φ, ρ, h, s, m, OutS.expr s o fun d h1 φ1 v H1 e1 r1 m1 o1 => ⟨φ1, ρ, h1, d, s.ext e1, m1, r1, ?_⟩⟩
  cases hu : u d ρ h1 with
  | none => rw [hu] at o1; exact o1.elim
  | some q => rw [hu] at o1; exact o1
theorem s_asg {tg : Expr} {u : MG} (ha : PE X a (tE g W ma)) (hg : PG X tg (tG g u)) (hs : swapsWithSole [tg] a pos.line X.env = pure false := by rfl) (hw : swappedStores [tg] a X.env = pure none := by rfl)
    (h1 : (assignEach [tg] X.env).map (·.2) = [assign tg X.env] := by rfl) : PS X (.Assign [tg] a pos) (tS g W (mAsg ma u)) := ps_imp (ps_asg ha hg hs hw h1) imp_asg
/-- a, b = e, e' -/
def mPar (i j : Nat) (ma mb : ME) : MS := fun ρ h => (ma ρ h).toF ρ fun x h1 => (mb ρ h1).toF ρ fun y h2 => .nx ((ρ.set i (some x)).set j (some y)) h2
theorem s_par {i j : Nat} {x y : Str} {px py pt : Pos} {kt k2 : Nat} {pt2 : Pos} (hc : X.calm = true) (hN : X.N.Nodup) (ha : PE X a (tE g W ma)) (hb : PE X b (tE g W mb)) (hw : swappedStores [.Tuple [.Name x px, .Name y py] kt pt] (.Tuple [a, b] k2 pt2) X.env = pure (some [x, y]))
    (hi : X.N[i]? = some x := by rfl) (hj : X.N[j]? = some y := by rfl) (hij : i ≠ j := by decide) (hx : X.env.scope.names.lookup x = some .local := by rfl) (hy : X.env.scope.names.lookup y = some .local := by rfl)
    (hs : swapsWithSole [.Tuple [.Name x px, .Name y py] kt pt] (.Tuple [a, b] k2 pt2) pos.line X.env = pure false := by rfl)
    (s1 : starEach [a, b] X.env = (false, eval a X.env) :: starEach [b] X.env := by rfl) (s2 : starEach [b] X.env = (false, eval b X.env) :: starEach [] X.env := by rfl) :
    PS X (.Assign [.Tuple [.Name x px, .Name y py] kt pt] (.Tuple [a, b] k2 pt2) pos) (tS g W (mPar i j ma mb)) := ps_imp (ps_par hc hN hi hj hij hx hy (pa_cons ha (pa_cons hb pa_nil s2) s1) hw hs) fun E σ H t => by
  obtain ⟨φ, ρ, h, s, m, o⟩ := t
  refine ⟨φ, ρ, h, s, m, OutS.expr s o fun d h1 φ1 v H1 e1 r1 m1 o1 => ?_⟩
  refine ⟨φ1, ρ, h1, s.ext e1, m1, OutS.expr (s.ext e1) o1 fun d2 h2 φ2 v2 H2 e2 r2 m2 o2 => ?_⟩
  exact ⟨v, v2, rfl, o2 φ2 _ H2 Ext.refl ((((s.ext e1).ext e2).set (r1.ext e2) i).set r2 j) m2⟩

/-! ### while -/
def loopW (t : MT) (b : MS) : Nat → MS
  | 0 => fun _ _ => .bad
  | n + 1 => fun ρ h => (t ρ h).toF ρ fun k h1 => match k with
    | false => .nx ρ h1
    | true => match b ρ h1 with
      | .nx ρ2 h2 => loopW t b n ρ2 h2
      | .ct ρ2 h2 => loopW t b n ρ2 h2
      | .bk ρ2 h2 => .nx ρ2 h2
      | r => r
def mWhile (n : Nat) (t : MT) (b : MS) : MS := loopW t b n
theorem s_while (n : Nat) {c : Expr} {body : List Stmt} (hp : PassesOwn (model X.prog X.w) X.A X.env X.xe) (hc : PT X c (tT g W mt)) (hb : PSs X body (tS g W ms)) : PS X (.While c body [] pos) (tS g W (mWhile n mt ms)) := ps_imp (ps_while hp hc hb) fun E σ H t => by
  obtain ⟨φ, ρ, h, s, m, o⟩ := t
  refine ⟨fun k σ' H' => ∃ φ' ρ' h', Slots g.r φ' H' σ' ρ' ∧ Hok g φ' H' h' ∧ OutS g W φ' H' E (loopW mt ms k ρ' h'), ⟨n, φ, ρ, h, s, m, o⟩, ?_⟩
  rintro k σ1 H1 ⟨φ1, ρ1, h1, s1, m1, o1⟩
  cases k with
  | zero => exact o1.elim
  | succ k =>
    refine ⟨φ1, ρ1, h1, s1, m1, OutS.expr (rel := rB) s1 o1 fun d h2 φ2 v H2 e2 r2 m2 o2 => ?_⟩
    cases (show v = d from r2)
    cases d with
    | false => exact o2 φ2 σ1 H2 Ext.refl (s1.ext e2) m2
    | true =>
      refine ⟨fun σ' H' => ∃ φ' ρ' h', Slots g.r φ' H' σ' ρ' ∧ Hok g φ' H' h' ∧ OutS g W φ' H' E (loopW mt ms k ρ' h'), fun σ' H' q => ⟨k, Nat.lt_succ_self k, q⟩, φ2, ρ1, h2, s1.ext e2, m2, ?_⟩
      dsimp only at o2
      cases hr : ms ρ1 h2 with
      | nx ρ3 h3 => rw [hr] at o2; exact fun φ3 σ3 H3 e3 s3 m3 => ⟨φ3, ρ3, h3, s3, m3, OutS.base e3 o2⟩
      | ct ρ3 h3 => rw [hr] at o2; exact fun φ3 σ3 H3 e3 s3 m3 => ⟨φ3, ρ3, h3, s3, m3, OutS.base e3 o2⟩
      | bk ρ3 h3 => rw [hr] at o2; exact o2
      | rt d h3 => rw [hr] at o2; exact o2
      | exc ρ3 x h3 => rw [hr] at o2; exact o2
      | bad => rw [hr] at o2; exact o2

/-! ### what is walked -/
/-- the items; the cell that must stand meanwhile -/
structure Src where
  items : List D
  cell : Option (Nat × List D)
def Src.chk (s : Src) (h : MH) : Bool := match s.cell with
  | none => true
  | some (n, l) => match h[n]? with
    | some l' => Ds.eqb l' l
    | none => false
abbrev MI' := Env1 → MH → R Src
def Walks (g : Gm) (φ : Ph) (H : Hp) (s : Src) (J : It) : Prop := ∀ φ' H' h', Tr φ H φ' H' → Hok g φ' H' h' → s.chk h' = true → ∀ i : Nat,
  (∀ d, s.items[i]? = some d → J.go i H' ∧ ∀ x H2, J.yld i H' x H2 → ∃ φ2, Ext φ' H' φ2 H2 ∧ Rep g.r φ2 H2 x d ∧ Hok g φ2 H2 h') ∧ (s.items.length ≤ i → J.stop i H')
def OutI (g : Gm) (W : WX) (σ : L2.St) (φ : Ph) (H : Hp) (Q : It → Hp → Prop) : R Src → Prop
  | .ok s h => ∀ φ' J H', Ext φ H φ' H' → Hok g φ' H' h → Walks g φ' H' s J → Q J H'
  | .exc e h => ∀ φ' c dx H', Ext φ H φ' H' → ExRep g φ' H' c dx e → Hok g φ' H' h → W c dx σ H'
  | .bad => False
def tI (g : Gm) (W : WX) (m : MI') : TI := fun σ H Q => ∃ φ ρ h, Slots g.r φ H σ ρ ∧ Hok g φ H h ∧ OutI g W σ φ H Q (m ρ h)
theorem pi_imp {tg it : Expr} {t t' : TI} (h : PI X tg it t) (i : ∀ σ H Q, t' σ H Q → t σ H Q) : PI X tg it t' := ⟨fun pins s σ H Q I q => h.run pins s σ H Q I (i _ _ _ q)⟩
/-- over a list that stands, a cell, the script -/
def srcL (d : D) (h : MH) : R Src := match d with
  | .lst l => .ok ⟨l, none⟩ h
  | .scr l => .ok ⟨l.map .int, none⟩ h
  | .cell n => match h[n]? with
    | some l => .ok ⟨l, some (n, l)⟩ h
    | none => .bad
  | _ => .bad
def srcT (d : D) (h : MH) : R Src := match d with
  | .tup l => .ok ⟨l, none⟩ h
  | _ => .bad
def rngD (lo : Int) (n : Nat) : List D := (List.range n).map fun i => .int (lo + (i : Nat))
def inR (i : Int) : Bool := decide (-(2 ^ 62) ≤ i) && decide (i < 2 ^ 62)
def srcR1 : List D → MH → R Src
  | [.int j], h => if inR j = true then .ok ⟨rngD 0 j.toNat, none⟩ h else .bad
  | _, _ => .bad
def srcR2 : List D → MH → R Src
  | [.int i, .int j], h => if (inR i && inR j) = true then .ok ⟨rngD i (j - i).toNat, none⟩ h else .bad
  | _, _ => .bad
def mSrc (m : ME) (f : D → MH → R Src) : MI' := fun ρ h => (m ρ h).bind f
def mSrcA (m : MA) (f : List D → MH → R Src) : MI' := fun ρ h => (m ρ h).bind f
theorem walk_lst {φ : Ph} {H : Hp} {a : Addr} {ds : List D} (f : ∀ φ' H', Tr φ H φ' H' → ∃ xs, SqL g.r.K H' a xs ∧ Reps g.r φ' H' xs ds) (u : ∀ H' xs ys, SqL g.r.K H' a xs → SqL g.r.K H' a ys → xs = ys → True) : Walks g φ H ⟨ds, none⟩ (Itl g.r.K a) := by
  intro φ' H' h' e m _ i
  obtain ⟨xs, q, r⟩ := f φ' H' e
  refine ⟨fun d hd => ?_, fun hi => ⟨xs, q, by rw [r.length]; exact hi⟩⟩
  obtain ⟨x, e1, e2⟩ := r.get hd
  refine ⟨⟨xs, x, q, e1⟩, fun x' H2 ⟨e3, e4⟩ => ?_⟩
  have := e4 xs q
  rw [e1] at this
  cases this
  subst e3
  exact ⟨φ', Ext.refl, e2, m⟩
theorem out_src {σ : L2.St} {φ : Ph} {H : Hp} {Q : It → Hp → Prop} {Q' : V → Hp → Prop} {r : R D} {f : D → MH → R Src} (o : OutI g W σ φ H Q (r.bind f)) (n : ∀ d h φ1 v H1, Ext φ H φ1 H1 → Rep g.r φ1 H1 v d → Hok g φ1 H1 h → OutI g W σ φ1 H1 Q (f d h) → Q' v H1) : Out g W σ φ H (Rep g.r) Q' r := by
  cases r with
  | ok d h =>
    refine fun φ1 v H1 e r1 m1 => n d h φ1 v H1 e r1 m1 ?_
    have o' : OutI g W σ φ H Q (f d h) := o
    cases hf : f d h with
    | ok s h2 => rw [hf] at o'; exact fun φ2 J H2 e2 => o' φ2 J H2 (e.trans e2)
    | exc x h2 => rw [hf] at o'; exact fun φ2 c dx H2 e2 => o' φ2 c dx H2 (e.trans e2)
    | bad => rw [hf] at o'; exact o'
  | exc x h => exact o
  | bad => exact o
theorem out_srcA {σ : L2.St} {φ : Ph} {H : Hp} {Q : It → Hp → Prop} {Q' : List V → Hp → Prop} {r : R (List D)} {f : List D → MH → R Src} (o : OutI g W σ φ H Q (r.bind f)) (n : ∀ d h φ1 v H1, Ext φ H φ1 H1 → Reps g.r φ1 H1 v d → Hok g φ1 H1 h → OutI g W σ φ1 H1 Q (f d h) → Q' v H1) : Out g W σ φ H (Reps g.r) Q' r := by
  cases r with
  | ok d h =>
    refine fun φ1 v H1 e r1 m1 => n d h φ1 v H1 e r1 m1 ?_
    have o' : OutI g W σ φ H Q (f d h) := o
    cases hf : f d h with
    | ok s h2 => rw [hf] at o'; exact fun φ2 J H2 e2 => o' φ2 J H2 (e.trans e2)
    | exc x h2 => rw [hf] at o'; exact fun φ2 c dx H2 e2 => o' φ2 c dx H2 (e.trans e2)
    | bad => rw [hf] at o'; exact o'
  | exc x h => exact o
  | bad => exact o
theorem si_list {tg l : Expr} (hk : g.r.K = X.K) (hl : PE X l (tE g W ma)) : PI X tg l (tI g W (mSrc ma srcL)) := pi_imp (pi_list hl) fun σ H Q t => by
  obtain ⟨φ, ρ, h, s, m, o⟩ := t
  refine ⟨φ, ρ, h, s, m, out_src o fun d h1 φ1 v H1 e1 r1 m1 o1 => ?_⟩
  cases r1 with
  | lst q r =>
    rename_i a xs ds
    refine ⟨a, rfl, ⟨xs, hk ▸ q.sq⟩, ?_⟩
    rw [← hk]
    exact o1 φ1 _ H1 Ext.refl m1 (walk_lst (fun φ' H' e => ⟨xs, (e.fl q).sq, r.tr e⟩) fun _ _ _ _ _ _ => trivial)
  | scr q =>
    rename_i a l
    refine ⟨a, rfl, ⟨_, hk ▸ q.sq⟩, ?_⟩
    rw [← hk]
    exact o1 φ1 _ H1 Ext.refl m1 (walk_lst (fun φ' H' e => ⟨_, (e.fs q).sq, reps_ints l⟩) fun _ _ _ _ _ _ => trivial)
  | cell q =>
    rename_i a n
    cases hn : h1[n]? with
    | none => simp only [srcL, hn] at o1; exact o1.elim
    | some l =>
      simp only [srcL, hn] at o1
      obtain ⟨xs, q2, r⟩ := m1.at_ n a l q hn
      refine ⟨a, rfl, ⟨xs, SqL.of q2⟩, ?_⟩
      rw [← hk]
      refine o1 φ1 _ H1 Ext.refl m1 fun φ' H' h' e m' hc i => ?_
      have hl : h'[n]? = some l := by
        simp only [Src.chk] at hc
        cases hh : h'[n]? with
        | none => rw [hh] at hc; cases hc
        | some l' => rw [hh] at hc; rw [Ds.eqb_eq hc]
      obtain ⟨ys, q3, r3⟩ := m'.at_ n a l (e.lc _ _ q) hl
      refine ⟨fun d hd => ?_, fun hi => ⟨ys, SqL.of q3, by rw [r3.length]; exact hi⟩⟩
      obtain ⟨x, e3, e4⟩ := r3.get hd
      refine ⟨⟨ys, x, SqL.of q3, e3⟩, fun x' H2 ⟨e5, e6⟩ => ?_⟩
      have := e6 ys (SqL.of q3)
      rw [e3] at this
      cases this
      subst e5
      exact ⟨φ', Ext.refl, e4, m'⟩
  | _ => exact o1.elim
theorem si_tup {tg l : Expr} (hk : g.r.K = X.K) (hl : PE X l (tE g W ma)) : PI X tg l (tI g W (mSrc ma srcT)) := pi_imp (pi_tup hl) fun σ H Q t => by
  obtain ⟨φ, ρ, h, s, m, o⟩ := t
  refine ⟨φ, ρ, h, s, m, out_src o fun d h1 φ1 v H1 e1 r1 m1 o1 => ?_⟩
  cases r1 with
  | tup q r =>
    rename_i a xs ds
    refine ⟨a, rfl, ⟨xs, hk ▸ q.sq⟩, ?_⟩
    rw [← hk]
    refine o1 φ1 _ H1 Ext.refl m1 fun φ' H' h' e m' _ i => ?_
    have q' := (e.ft q).sq
    have r' := r.tr e
    refine ⟨fun d hd => ?_, fun hi => ⟨xs, q', by rw [r'.length]; exact hi⟩⟩
    obtain ⟨x, e3, e4⟩ := r'.get hd
    refine ⟨⟨xs, x, q', e3⟩, fun x' H2 ⟨e5, e6⟩ => ?_⟩
    have := e6 xs q'
    rw [e3] at this
    cases this
    subst e5
    exact ⟨φ', Ext.refl, e4, m'⟩
  | _ => exact o1.elim
theorem walk_rng {φ : Ph} {H : Hp} (lo : Int) (n : Nat) : Walks g φ H ⟨rngD lo n, none⟩ (Itr lo n) := by
  intro φ' H' h' e m _ i
  refine ⟨fun d hd => ?_, fun hi => (show n ≤ i by simpa [rngD] using hi)⟩
  have hi : i < n := by
    have := (List.getElem?_eq_some_iff.mp hd).1
    simpa [rngD] using this
  simp [rngD, hi] at hd
  refine ⟨hi, fun x H2 ⟨e5, e6⟩ => ?_⟩
  subst e5
  subst e6
  subst hd
  exact ⟨φ', Ext.refl, .int _, m⟩
theorem si_range1 {tg : Expr} {es : Expr} {mas : MA} {p : Pos} (hm : X.mg "range" = none) (ha : PA X [es] (tA g W mas)) (hg : Gl X "range" := by rfl) (hs : starEach [es] X.env = [(false, eval es X.env)] := by rfl) : PI X tg (.Call (.Name "range" p) [es] [] pos) (tI g W (mSrcA mas srcR1)) := pi_imp (pi_range1 hg hm ha hs) fun σ H Q t => by
  obtain ⟨φ, ρ, h, s, m, o⟩ := t
  refine ⟨φ, ρ, h, s, m, out_srcA o fun d h1 φ1 v H1 e1 r1 m1 o1 => ?_⟩
  unfold srcR1 at o1
  split at o1
  · cases r1 with
    | cons r rr =>
      cases rr
      cases r
      split at o1
      · rename_i hj
        unfold inR at hj
        rw [Bool.and_eq_true] at hj
        exact ⟨_, rfl, of_decide_eq_true hj.1, of_decide_eq_true hj.2, o1 φ1 _ H1 Ext.refl m1 (walk_rng 0 _)⟩
      · exact o1.elim
  · exact o1.elim
theorem si_range2 {tg : Expr} {ea eb : Expr} {mas : MA} {p : Pos} (hm : X.mg "range" = none) (ha : PA X [ea, eb] (tA g W mas)) (hg : Gl X "range" := by rfl) (hs : starEach [ea, eb] X.env = [(false, eval ea X.env), (false, eval eb X.env)] := by rfl) (hs2 : starEach [eb] X.env = [(false, eval eb X.env)] := by rfl) :
    PI X tg (.Call (.Name "range" p) [ea, eb] [] pos) (tI g W (mSrcA mas srcR2)) := pi_imp (pi_range2 hg hm ha hs hs2) fun σ H Q t => by
  obtain ⟨φ, ρ, h, s, m, o⟩ := t
  refine ⟨φ, ρ, h, s, m, out_srcA o fun d h1 φ1 v H1 e1 r1 m1 o1 => ?_⟩
  unfold srcR2 at o1
  split at o1
  · cases r1 with
    | cons r rr =>
      cases rr with
      | cons r' rr =>
        cases rr
        cases r
        cases r'
        split at o1
        · rename_i hj
          unfold inR at hj
          rw [Bool.and_eq_true, Bool.and_eq_true, Bool.and_eq_true] at hj
          exact ⟨_, _, rfl, ⟨of_decide_eq_true hj.1.1, of_decide_eq_true hj.1.2, of_decide_eq_true hj.2.1, of_decide_eq_true hj.2.2⟩, o1 φ1 _ H1 Ext.refl m1 (walk_rng _ _)⟩
        · exact o1.elim
  · exact o1.elim
/-- for -/
def loopF (u : MG) (b : MS) (chk : MH → Bool) : List D → MS
  | [] => fun ρ h => if chk h = true then .nx ρ h else .bad
  | d :: r => fun ρ h => if chk h = true then (match u d ρ h with
    | none => .bad
    | some (ρ1, h1) => match b ρ1 h1 with
      | .nx ρ2 h2 => loopF u b chk r ρ2 h2
      | .ct ρ2 h2 => loopF u b chk r ρ2 h2
      | .bk ρ2 h2 => .nx ρ2 h2
      | x => x) else .bad
def mFor (i : MI') (u : MG) (b : MS) : MS := fun ρ h => (i ρ h).toF ρ fun s h1 => loopF u b s.chk s.items ρ h1
theorem s_for {iter tg : Expr} {body : List Stmt} {mi : MI'} {u : MG} (hc : X.calm = true) (hp : PassesOwn (model X.prog X.w) X.A X.env X.xe) (hi : PI X tg iter (tI g W mi)) (hg : PG X tg (tG g u)) (hb : PSs X body (tS g W ms))
    (hs : ∀ x, foldedSetIterable iter X.env x = pure x := by intro _; rfl) : PS X (.For tg iter body [] pos) (tS g W (mFor mi u ms)) := ps_imp (ps_for hp hc hi hg hb hs) fun E σ H t => by
  obtain ⟨φ, ρ, h, s, m, o⟩ := t
  refine ⟨φ, ρ, h, s, m, ?_⟩
  unfold mFor at o
  cases hr : mi ρ h with
  | bad => rw [hr] at o; exact o
  | exc x h1 => rw [hr] at o; exact fun φ1 c dx H1 e r1 m1 => o φ1 σ c dx H1 e (s.ext e) r1 m1
  | ok src h1 =>
    rw [hr] at o
    intro φ1 J H1 e1 m1 wk
    refine ⟨fun i k σ' H' => k = src.items.length - i ∧ i ≤ src.items.length ∧ ∃ φ' ρ' h', Ext φ1 H1 φ' H' ∧ Slots g.r φ' H' σ' ρ' ∧ Hok g φ' H' h' ∧ OutS g W φ' H' E (loopF u ms src.chk (src.items.drop i) ρ' h'),
      ⟨src.items.length, by simp, Nat.zero_le _, φ1, ρ, h1, Ext.refl, s.ext e1, m1, OutS.base e1 o⟩, ?_⟩
    rintro i k σ2 H2 ⟨rfl, hi, φ2, ρ2, h2, e2, s2, m2, o2⟩
    by_cases hlt : i < src.items.length
    · rw [List.drop_eq_getElem_cons hlt] at o2
      unfold loopF at o2
      split at o2
      · rename_i hck
        obtain ⟨w1, w2⟩ := (wk φ2 H2 h2 e2.tr m2 hck i)
        obtain ⟨go, yl⟩ := w1 src.items[i] (by simp [hlt])
        refine .inr ⟨go, fun σ' H' => ∃ φ' ρ' h', Ext φ1 H1 φ' H' ∧ Slots g.r φ' H' σ' ρ' ∧ Hok g φ' H' h' ∧ OutS g W φ' H' E (loopF u ms src.chk (src.items.drop (i + 1)) ρ' h'), fun σ' H' q => ⟨src.items.length - (i + 1), by omega, rfl, hlt, q⟩, fun x H3 y => ?_⟩
        obtain ⟨φ3, e3, r3, m3⟩ := yl x H3 y
        refine ⟨φ3, ρ2, h2, src.items[i], s2.ext e3, m3, r3, ?_⟩
        cases hu : u src.items[i] ρ2 h2 with
        | none => rw [hu] at o2; exact o2.elim
        | some q =>
          obtain ⟨ρ4, h4⟩ := q
          rw [hu] at o2
          refine fun φ4 σ4 H4 e4 s4 m4 => ⟨φ4, ρ4, h4, s4, m4, ?_⟩
          have e5 : Ext φ2 H2 φ4 H4 := e3.trans e4
          dsimp only at o2
          cases hb' : ms ρ4 h4 with
          | nx ρ6 h6 => rw [hb'] at o2; exact fun φ6 σ6 H6 e6 s6 m6 => ⟨φ6, ρ6, h6, (e2.trans e5).trans e6, s6, m6, OutS.base (e5.trans e6) o2⟩
          | ct ρ6 h6 => rw [hb'] at o2; exact fun φ6 σ6 H6 e6 s6 m6 => ⟨φ6, ρ6, h6, (e2.trans e5).trans e6, s6, m6, OutS.base (e5.trans e6) o2⟩
          | bk ρ6 h6 => rw [hb'] at o2; exact fun φ6 σ6 H6 e6 s6 m6 => o2 φ6 σ6 H6 (e5.trans e6) s6 m6
          | rt d h6 => rw [hb'] at o2; exact fun φ6 v6 H6 e6 s6 m6 => o2 φ6 v6 H6 (e5.trans e6) s6 m6
          | exc ρ6 x h6 => rw [hb'] at o2; exact fun φ6 σ6 c dx H6 e6 s6 r6 m6 => o2 φ6 σ6 c dx H6 (e5.trans e6) s6 r6 m6
          | bad => rw [hb'] at o2; exact o2.elim
      · exact o2.elim
    · have ei : i = src.items.length := by omega
      subst ei
      rw [List.drop_length] at o2
      unfold loopF at o2
      split at o2
      · rename_i hck
        obtain ⟨w1, w2⟩ := (wk φ2 H2 h2 e2.tr m2 hck src.items.length)
        exact .inl ⟨w2 (Nat.le_refl _), o2 φ2 σ2 H2 Ext.refl s2 m2⟩
      · exact o2.elim
end
end MI
namespace MI
open PySem PySem.Spec
open PyProof.Rows L2

/-! ### defs -/
abbrev FnM := List D → MH → R D
def startM (n : Nat) (ds : List D) : Env1 := ds.map some ++ List.replicate (n - ds.length) none
/-- np parameters, n names -/
def mFn (np n : Nat) (b : MS) : FnM := fun ds h => if ds.length = np then (match b (startM n ds) h with
  | .nx _ h1 => .ok .non h1
  | .rt d h1 => .ok d h1
  | .exc _ e h1 => .exc e h1
  | _ => .bad) else .bad
def spM (g : Gm) (np : Nat) (f : FnM) : Sp := fun vs H Q E => vs.length = np ∧ ∃ φ ds h, Reps g.r φ H vs ds ∧ Hok g φ H h ∧ Out g (fun c dx _ H' => E c dx H') [] φ H (Rep g.r) Q (f ds h)
section
variable {g : Gm} {P : Program} {w : World} {mg : Str → Option Value} {base : Heap}
theorem fn_start {N : List Str} {np : Nat} {b : MS} {vs : List V} {H : Hp} {Q : VK} {E : XK} (hsp : spM g np (mFn np N.length b) vs H Q E) : tS g (fun c dx _ H' => E c dx H') b { nx := fun _ H' => Q .non H', rt := Q } (L2.start N vs) H := by
  obtain ⟨hl, φ, ds, h, r, m, o⟩ := hsp
  have hd : ds.length = np := by rw [← r.length]; exact hl
  unfold mFn at o
  rw [if_pos hd] at o
  refine ⟨φ, startM N.length ds, h, Slots.start r, m, ?_⟩
  cases hr : b (startM N.length ds) h with
  | nx ρ h1 => rw [hr] at o; exact fun φ1 σ1 H1 e1 s1 m1 => o φ1 _ H1 e1 .non m1
  | rt d h1 => rw [hr] at o; exact fun φ1 v H1 e1 r1 m1 => o φ1 v H1 e1 r1 m1
  | bk ρ h1 => rw [hr] at o; exact o.elim
  | ct ρ h1 => rw [hr] at o; exact o.elim
  | exc ρ x h1 => rw [hr] at o; exact fun φ1 σ1 c dx H1 e1 s1 r1 m1 => o φ1 c dx H1 e1 r1 m1
  | bad => rw [hr] at o; exact o.elim
/-- a def keeps to its function -/
theorem fn_m {x qual : Str} {st : Stmt} {f : Addr} {fd : FuncData} {N ps : List Str} {k np : Nat} {b : MS} (F : Fun g.r.K x qual st f fd) (S : FnScope N ps (defScope st)) (hnp : ps.length = np)
    (hb : ∀ (cdv : Value) (A : Around) (outer : List Env) (s : Shared) (H : Hp) (E : XK), Room k (A.deeper (envOfC qual (defScope st) s.heap.objs.size f cdv)) →
      Takes (cxOf (L2.CX P w) P w g.r.K mg base N qual (defScope st) f cdv A outer s H E) (fun c dx _ H' => E c dx H') →
      PassesOwn (model P w) (cxOf (L2.CX P w) P w g.r.K mg base N qual (defScope st) f cdv A outer s H E).A (cxOf (L2.CX P w) P w g.r.K mg base N qual (defScope st) f cdv A outer s H E).env (cxOf (L2.CX P w) P w g.r.K mg base N qual (defScope st) f cdv A outer s H E).xe →
      PSs (cxOf (L2.CX P w) P w g.r.K mg base N qual (defScope st) f cdv A outer s H E) (defBody st) (tS g (fun c dx _ H' => E c dx H') b)) :
    FnOk P w g.r.K mg base (L2.CX P w) (k + 1) f fd ps (spM g np (mFn np N.length b)) := by
  refine F.okX S (fun vs H Q E h => by rw [hnp]; exact h.1) fun cdv A outer s H vs Q E hr hsp => ⟨_, hb cdv A outer s H E hr (takes_of rfl rfl rfl rfl) (passes_of rfl), ?_⟩
  exact fn_start hsp
end
section
variable {g : Gm} {W : WX} {X : Cx} {e : Expr} {es : List Expr} {p pos : Pos} {x : Str} {mas : MA} {k np : Nat} {f : Addr} {fd : FuncData} {ps : List Str} {m : FnM} {ds : List Value} {dvs : List V} {dD : List D}
/-- f(e, ..): the written arguments, then the defaults dD -/
def mCallD (np : Nat) (m : FnM) (dD : List D) (a : MA) : ME := fun ρ h => (a ρ h).bind fun xs h1 => if (xs ++ dD).length = np then m (xs ++ dD) h1 else .bad
theorem s_callD (F : FnOk X.prog X.w X.K X.mg X.base (L2.CX X.prog X.w) k f fd ps (spM g np m)) (tk : Takes X W) (hr : Room k X.A) (hm : X.mg x = some (.ref f)) (hk : PySem.W.keepIn X.K (.ref f) = true) (hb : Binds X.K fd ps ds) (hd : Vals dvs ds) (hD : ∀ φ H, Reps g.r φ H dvs dD)
    (ha : PA X (e :: es) (tA g W mas)) (hg : Gl X x := by rfl) (hdb : (x == ("__debug__" : Str)) = false := by decide) (he : starEach (e :: es) X.env = (false, eval e X.env) :: starEach es X.env := by rfl) (hpl : (backTo pos (starEach es X.env)).any (·.1) = false := by rfl) :
    PE X (.Call (.Name x p) (e :: es) [] pos) (tE g W (mCallD np m dD mas)) := pe_imp (pe_callSD (E := fun σ c dx H' => W c dx σ H') F hr hg hm hk hb hd (fun σ => passAt tk σ) ha hdb he hpl) fun σ H Q t => by
  obtain ⟨φ, ρ, h, s, mm, o⟩ := t
  refine ⟨φ, ρ, h, s, mm, Out.next o fun xs h1 φ1 vs H1 e1 r1 m1 o1 => ?_⟩
  have rr := r1.append (hD φ1 H1)
  split at o1
  · rename_i hl
    refine ⟨by rw [rr.length]; exact hl, φ1, _, h1, rr, m1, ?_⟩
    cases hm' : m (xs ++ dD) h1 with
    | ok d h2 => rw [hm'] at o1; exact o1
    | exc x h2 => rw [hm'] at o1; exact o1
    | bad => rw [hm'] at o1; exact o1
  · exact o1.elim
theorem s_call (F : FnOk X.prog X.w X.K X.mg X.base (L2.CX X.prog X.w) k f fd ps (spM g np m)) (tk : Takes X W) (hr : Room k X.A) (hm : X.mg x = some (.ref f)) (hk : PySem.W.keepIn X.K (.ref f) = true) (hb : Binds X.K fd ps [])
    (ha : PA X (e :: es) (tA g W mas)) (hg : Gl X x := by rfl) (hdb : (x == ("__debug__" : Str)) = false := by decide) (he : starEach (e :: es) X.env = (false, eval e X.env) :: starEach es X.env := by rfl) (hpl : (backTo pos (starEach es X.env)).any (·.1) = false := by rfl) :
    PE X (.Call (.Name x p) (e :: es) [] pos) (tE g W (mCallD np m [] mas)) := s_callD F tk hr hm hk hb .nil (fun _ _ => .nil) ha hg hdb he hpl
end

/-! ### comprehensions -/
/-- a target that is names alone -/
def GOk (g : Gm) (vs : List Nat) (t : TG) (u : MG) : Prop := ∀ {v : V} {σ : L2.St} {H : Hp} {Q : L2.St → Hp → Prop} {φ : Ph} {ρ : Env1} {h : MH} {d : D} {ρ' : Env1} {h' : MH}, Slots g.r φ H σ ρ → Rep g.r φ H v d → u d ρ h = some (ρ', h') →
  (∀ σ', h' = h → Slots g.r φ H σ' ρ' → wipe σ' vs = wipe σ vs → Q σ' H) → t v σ H Q
def GsOk (g : Gm) (vs : List Nat) (t : TGs) (u : MGs) : Prop := ∀ {v : List V} {σ : L2.St} {H : Hp} {Q : L2.St → Hp → Prop} {φ : Ph} {ρ : Env1} {h : MH} {d : List D} {ρ' : Env1} {h' : MH}, Slots g.r φ H σ ρ → Reps g.r φ H v d → u d ρ h = some (ρ', h') →
  (∀ σ', h' = h → Slots g.r φ H σ' ρ' → wipe σ' vs = wipe σ vs → Q σ' H) → t v σ H Q
theorem wipe_set {i : Nat} {o : Option V} : ∀ {vs : List Nat} {σ : L2.St}, i ∈ vs → wipe (σ.set i o) vs = wipe σ vs
  | v :: vs, σ, hi => by
    show (wipe (σ.set i o) vs).set v none = (wipe σ vs).set v none
    by_cases hv : i ∈ vs
    · rw [wipe_set hv]
    · have e : i = v := by
        rcases List.mem_cons.mp hi with e | e
        · exact e
        · exact absurd e hv
      subst e
      have go : ∀ (ws : List Nat) (τ : L2.St), i ∉ ws → wipe (τ.set i o) ws = (wipe τ ws).set i o := by
        intro ws
        induction ws with
        | nil => intro τ _; rfl
        | cons w ws ih =>
          intro τ hn
          rw [List.mem_cons, not_or] at hn
          show (wipe (τ.set i o) ws).set w none = ((wipe τ ws).set w none).set i o
          rw [ih τ hn.2, List.set_comm _ _ hn.1]
      rw [go vs σ hv, List.set_set]
theorem wipe_wipe : ∀ (vs ws : List Nat) (σ : L2.St), (∀ v ∈ vs, v ∈ ws) → wipe (wipe σ vs) ws = wipe σ ws
  | [], _, _, _ => rfl
  | v :: vs, ws, σ, h => by
    show wipe ((wipe σ vs).set v none) ws = wipe σ ws
    rw [wipe_set (h v List.mem_cons_self), wipe_wipe vs ws σ fun x hx => h x (List.mem_cons_of_mem _ hx)]
section
variable {g : Gm} {vs : List Nat}
theorem go_name {i : Nat} (hi : i ∈ vs := by decide) : GOk g vs (gName i) (gN i) := by
  intro v σ H Q φ ρ h d ρ' h' s r e k
  cases e
  exact k _ rfl (s.set r i) (wipe_set hi)
theorem gso_nil : GsOk g vs gNil gsNil := by
  intro v σ H Q φ ρ h d ρ' h' s r e k
  cases r with
  | nil => cases e; exact ⟨rfl, k _ rfl s rfl⟩
  | cons _ _ => cases e
theorem gso_cons {t : TG} {ts : TGs} {u : MG} {us : MGs} (a : GOk g vs t u) (b : GsOk g vs ts us) : GsOk g vs (gCons t ts) (gsCons u us) := by
  intro v σ H Q φ ρ h d ρ' h' s r e k
  cases r with
  | nil => cases e
  | cons r1 rr =>
    rename_i x d1 xs ds
    have e' : (u d1 ρ h).bind (fun x => us ds x.1 x.2) = some (ρ', h') := e
    cases hu : u d1 ρ h with
    | none => rw [hu] at e'; cases e'
    | some q =>
      obtain ⟨ρ1, h1⟩ := q
      rw [hu] at e'
      refine ⟨x, xs, rfl, a s r1 hu fun σ1 eh s1 w1 => ?_⟩
      refine b s1 rr (show us ds ρ1 h1 = some (ρ', h') from e') fun σ2 eh2 s2 w2 => ?_
      exact k σ2 (eh2.trans eh) s2 (w2.trans w1)
theorem go_tup {ts : TGs} {us : MGs} {n : Nat} (b : GsOk g vs ts us) : GOk g vs (gTup g.r.K n ts) (gT n us) := by
  intro v σ H Q φ ρ h d ρ' h' s r e k
  cases r with
  | tup q r =>
    rename_i a xs ds
    have e' : (if ds.length = n then us ds ρ h else none) = some (ρ', h') := e
    split at e'
    · rename_i hl
      exact ⟨a, xs, rfl, q.sq, by rw [r.length]; exact hl, b s r e' k⟩
    · cases e'
  | _ => cases e
end
def wipeM (ρ : Env1) : List Nat → Env1
  | [] => ρ
  | v :: vs => (wipeM ρ vs).set v none
def noEx {α : Type} (r : R α) : R α := match r with
  | .exc _ _ => .bad
  | r => r
/-- the items made, one after the other -/
def loopC (u : MG) (t : MT) (m : ME) (ρ : Env1) (chk : MH → Bool) : List D → List D → MH → R (List D)
  | [], acc, h => if chk h = true then .ok acc h else .bad
  | d :: r, acc, h => if chk h = true then (match u d ρ h with
    | none => .bad
    | some (ρ1, h1) => (noEx (t ρ1 h1)).bind fun b h2 => match b with
      | true => (noEx (m ρ1 h2)).bind fun y h3 => if acc.length < 16777216 then loopC u t m ρ chk r (acc ++ [y]) h3 else .bad
      | false => loopC u t m ρ chk r acc h2) else .bad
def mLc (i : MI') (u : MG) (t : MT) (m : ME) (vs : List Nat) : ME := fun ρ h => (i ρ h).bind fun s h1 => (loopC u t m (wipeM ρ vs) s.chk s.items [] h1).bind fun l h2 => .ok (.lst l) h2
def mLcC (i : MI') (u : MG) (t : MT) (m : ME) (vs : List Nat) : ME := fun ρ h => (i ρ h).bind fun s h1 => (loopC u t m (wipeM ρ vs) s.chk s.items [] h1).bind fun l h2 => .ok (.cell h2.length) (h2 ++ [l])
abbrev W0 : WX := fun _ _ _ _ => False
section
variable {g : Gm} {φ φ' : Ph} {H : Hp} {h : MH}
theorem Slots.wipe {σ : L2.St} {ρ : Env1} (s : Slots g.r φ H σ ρ) : ∀ vs : List Nat, Slots g.r φ H (wipe σ vs) (wipeM ρ vs)
  | [] => s
  | v :: vs => (Slots.wipe s vs).unset v
theorem Hok.gput {p : Addr} {o : HO} (m : Hok g φ H h) (hp : p ∈ φ.g) (pl : Pl o) : Hok g φ (upd H p o) h := by
  have hc := (m.gs p hp).1
  have t : Tr φ H φ (upd H p o) := Tr.upd (.inr (.inr hp))
  refine ⟨m.nd, m.len, fun a ha => ⟨(m.gs a ha).1, ?_⟩, fun n a ds e1 e2 => ?_, fun n a ds e1 e2 => ?_, Tabs.upd m.tb (m.pl (.inr hp)), g.ivm _ _ _ _ t m.iv⟩
  · by_cases z : a = p
    · rw [z, upd_same]; exact ⟨o, rfl, pl⟩
    · rw [upd_ne z]; exact (m.gs a ha).2
  · obtain ⟨xs, q, r⟩ := m.at_ n a ds e1 e2
    exact ⟨xs, by rw [upd_ne fun z => hc (by rw [← z]; exact List.mem_of_getElem? e1.1)]; exact q, r.tr t⟩
  · obtain ⟨ks, vs, u, r, q⟩ := m.atD n a ds e1 e2
    exact ⟨ks, vs, u, r.tr t, by rw [upd_ne fun z => hc (by rw [← z]; exact List.mem_of_getElem? e1.1)]; exact q⟩
/-- fewer things are being made -/
theorem Tr.less (e : φ'.c = φ.c) (em : φ'.m = φ.m) (le : ∀ a ∈ φ'.g, a ∈ φ.g) : Tr φ H φ' H := by
  have hs : ∀ a, ¬ φ.has a → ¬ φ'.has a := fun a n z => n (z.imp (fun z => by rw [← e]; exact z) (le a))
  exact ⟨fun a o q n _ => ⟨q, hs a n⟩, fun a o q n _ => ⟨q, hs a n⟩, fun a C dx vs i n n' => ⟨vs, i, Gr.refl, hs a n, hs dx n'⟩, fun n a q => ⟨by rw [e]; exact q.1, by rw [em]; exact q.2⟩, fun n a q => ⟨by rw [e]; exact q.1, by rw [em]; exact q.2⟩⟩
theorem Hok.less (m : Hok g φ H h) (e : φ'.c = φ.c) (em : φ'.m = φ.m) (le : ∀ a ∈ φ'.g, a ∈ φ.g) : Hok g φ' H h :=
  ⟨by rw [e]; exact m.nd, by rw [e]; exact m.len, fun a ha => by rw [e]; exact m.gs a (le a ha), fun n a ds e1 e2 => by
    obtain ⟨xs, q, r⟩ := m.at_ n a ds ⟨by rw [← e]; exact e1.1, by rw [← em]; exact e1.2⟩ e2
    exact ⟨xs, q, r.tr (Tr.less e em le)⟩, fun n a ds e1 e2 => by
    obtain ⟨ks, vs, u, r, q⟩ := m.atD n a ds ⟨by rw [← e]; exact e1.1, by rw [← em]; exact e1.2⟩ e2
    exact ⟨ks, vs, u, r.tr (Tr.less e em le), q⟩, m.tb, g.ivm _ _ _ _ (Tr.less e em le) m.iv⟩
/-- something new is being made -/
theorem mk_g {p : Addr} {o : HO} (m : Hok g φ H h) (hp : H p = none) (pl : Pl o) : Ext φ H ⟨φ.c, p :: φ.g, φ.m⟩ (upd H p o) ∧ Hok g ⟨φ.c, p :: φ.g, φ.m⟩ (upd H p o) h := by
  have np := m.notin hp
  have hs : ∀ a, a ≠ p → ¬ φ.has a → ¬ (⟨φ.c, p :: φ.g, φ.m⟩ : Ph).has a := fun a n na z => by
    rcases z with z | z
    · exact na (.inl z)
    · rcases List.mem_cons.mp z with z | z
      · exact n z
      · exact na (.inr z)
  have t0 : Tr φ H φ (upd H p o) := Tr.upd (.inl hp)
  have t : Tr φ H ⟨φ.c, p :: φ.g, φ.m⟩ (upd H p o) := by
    refine ⟨fun a u q n s => ⟨(t0.keep a u q n s).1, hs a (ne_of_none q hp) n⟩, fun a u q n s => ⟨(t0.keepD a u q n s).1, hs a ?_ n⟩, fun a C dx vs i n n' => ?_, fun n a e => e, fun n a e => e⟩
    · rcases q with q | ⟨_, q⟩ <;> exact ne_of_none q hp
    · obtain ⟨ws, i', g', _, _⟩ := t0.grow a C dx vs i n n'
      exact ⟨ws, i', g', hs a (fun z => i.a (by rw [z]; exact hp)) n, hs dx (fun z => i.d (by rw [z]; exact hp)) n'⟩
  have nec : ∀ {n : Nat} {a : Addr}, φ.c[n]? = some a → a ≠ p := fun e z => np (.inl (by rw [← z]; exact List.mem_of_getElem? e))
  refine ⟨⟨t, ⟨[], by simp⟩, fun a ha => List.mem_cons_of_mem _ ha, fun a ha => upd_ne fun z => np (.inr (by rw [← z]; exact ha))⟩, m.nd, m.len, fun a ha => ?_, fun n a ds e1 e2 => ?_, fun n a ds e1 e2 => ?_, Tabs.upd m.tb (fun u q => by rw [hp] at q; cases q), g.ivm _ _ _ _ t m.iv⟩
  · rcases List.mem_cons.mp ha with z | z
    · rw [z]; exact ⟨fun q => np (.inl q), o, upd_same, pl⟩
    · rw [upd_ne fun q => np (.inr (by rw [← q]; exact z))]; exact m.gs a z
  · obtain ⟨xs, q, r⟩ := m.at_ n a ds e1 e2
    exact ⟨xs, by rw [upd_ne (nec e1.1)]; exact q, r.tr t⟩
  · obtain ⟨ks, vs, u, r, q⟩ := m.atD n a ds e1 e2
    exact ⟨ks, vs, u, r.tr t, by rw [upd_ne (nec e1.1)]; exact q⟩
/-- what is being made is another one -/
theorem Ext.gset {p : Addr} {o : HO} (e : Ext φ H φ' H') (hn : ¬ φ.has p) (hp : p ∈ φ'.g) : Ext φ H φ' (upd H' p o) :=
  ⟨e.tr.trans (Tr.upd (.inr (.inr hp))), e.pre, e.gh, fun a ha => by rw [upd_ne fun z => hn (.inr (by rw [← z]; exact ha))]; exact e.gk a ha⟩
def lessG (φ : Ph) (p : Addr) : Ph := ⟨φ.c, φ.g.filter fun a => decide (a ≠ p), φ.m⟩
theorem lessG_le {p : Addr} : ∀ a ∈ (lessG φ p).g, a ∈ φ.g := fun a ha => (List.mem_filter.mp ha).1
theorem lessG_ne {p : Addr} : ∀ a ∈ (lessG φ p).g, a ≠ p := fun a ha => of_decide_eq_true (List.mem_filter.mp ha).2
/-- it is made: it stands from now on -/
theorem made {p : Addr} (e : Ext φ H φ' H') (m : Hok g φ' H' h) (hn : ¬ φ.has p) (hp : p ∈ φ'.g) : Ext φ H (lessG φ' p) H' ∧ Hok g (lessG φ' p) H' h ∧ Tr φ' H' (lessG φ' p) H' ∧ ¬ (lessG φ' p).has p := by
  have t : Tr φ' H' (lessG φ' p) H' := Tr.less rfl rfl lessG_le
  refine ⟨⟨e.tr.trans t, e.pre, fun a ha => List.mem_filter.mpr ⟨e.gh a ha, decide_eq_true fun z => hn (.inr (by rw [← z]; exact ha))⟩, e.gk⟩, m.less rfl rfl lessG_le, t, fun z => ?_⟩
  rcases z with z | z
  · exact (m.gs _ hp).1 z
  · exact lessG_ne _ z rfl
/-- .. as a cell -/
theorem madeC {p : Addr} {o : HO} {ds : List D} {mm : List Addr} (e : Ext φ H φ' H') (m : Hok g φ' H' h) (hn : ¬ φ.has p) (hp : p ∈ φ'.g) (ho : H' p = some o) (hmm : ∀ a, a ≠ p → a ∈ φ'.c → (a ∈ mm ↔ a ∈ φ'.m))
    (hr : p ∉ mm → ∃ xs, o = .lst xs ∧ Reps g.r φ' H' xs ds) (hd : p ∈ mm → ∃ ks vs, DHas g.r φ' H' o ks vs ∧ ds = [.dct ks vs]) :
    Ext φ H ⟨φ'.c ++ [p], (lessG φ' p).g, mm⟩ H' ∧ Hok g ⟨φ'.c ++ [p], (lessG φ' p).g, mm⟩ H' (h ++ [ds]) ∧ (φ'.c ++ [p])[h.length]? = some p := by
  have cp := (m.gs _ hp).1
  have nec : ∀ {n : Nat} {a : Addr}, φ'.c[n]? = some a → a ≠ p := fun e z => cp (by rw [← z]; exact List.mem_of_getElem? e)
  have hs : ∀ a, ¬ φ'.has a → ¬ (⟨φ'.c ++ [p], (lessG φ' p).g, mm⟩ : Ph).has a := fun a n z => by
    rcases z with z | z
    · rcases List.mem_append.mp z with z | z
      · exact n (.inl z)
      · have : a = p := by simpa using z
        exact n (.inr (by rw [this]; exact hp))
    · exact n (.inr (lessG_le a z))
  have up : ∀ {n : Nat} {a : Addr}, φ'.c[n]? = some a → (φ'.c ++ [p])[n]? = some a := fun {n a} e => by
    rw [List.getElem?_append_left (List.getElem?_eq_some_iff.mp e).1]; exact e
  have t : Tr φ' H' ⟨φ'.c ++ [p], (lessG φ' p).g, mm⟩ H' := ⟨fun a o q n _ => ⟨q, hs a n⟩, fun a o q n _ => ⟨q, hs a n⟩, fun a C dx vs i n n' => ⟨vs, i, Gr.refl, hs a n, hs dx n'⟩,
    fun n a q => ⟨up q.1, fun z => q.2 ((hmm a (nec q.1) (List.mem_of_getElem? q.1)).mp z)⟩, fun n a q => ⟨up q.1, (hmm a (nec q.1) (List.mem_of_getElem? q.1)).mpr q.2⟩⟩
  refine ⟨⟨e.tr.trans t, ?_, fun a ha => List.mem_filter.mpr ⟨e.gh a ha, decide_eq_true fun z => hn (.inr (by rw [← z]; exact ha))⟩, e.gk⟩, ⟨?_, by simp [m.len], fun a ha => ⟨fun z => ?_, (m.gs a (lessG_le a ha)).2⟩, fun n a es e1 e2 => ?_, fun n a es e1 e2 => ?_, m.tb, g.ivm _ _ _ _ t m.iv⟩, ?_⟩
  · obtain ⟨k, e⟩ := e.pre
    exact ⟨k ++ [p], by rw [e, List.append_assoc]⟩
  · show (φ'.c ++ [p]).Nodup
    rw [List.nodup_append]
    refine ⟨m.nd, by simp, fun a ha b hb z => ?_⟩
    have : b = p := by simpa using hb
    subst this
    subst z
    exact cp ha
  · rcases List.mem_append.mp z with z | z
    · exact (m.gs a (lessG_le a ha)).1 z
    · exact lessG_ne a ha (by simpa using z)
  · obtain ⟨e1, k1⟩ := e1
    have e1 : (φ'.c ++ [p])[n]? = some a := e1
    by_cases hl : n < φ'.c.length
    · rw [List.getElem?_append_left hl] at e1
      rw [List.getElem?_append_left (by rw [← m.len]; exact hl)] at e2
      obtain ⟨ys, q, r2⟩ := m.at_ n a es ⟨e1, fun z => k1 ((hmm a (nec e1) (List.mem_of_getElem? e1)).mpr z)⟩ e2
      exact ⟨ys, q, r2.tr t⟩
    · obtain ⟨hn', ea⟩ := idx_last e1 hl
      subst hn'
      subst ea
      rw [m.len] at e2
      simp at e2
      subst e2
      obtain ⟨xs, eo, r⟩ := hr k1
      subst eo
      exact ⟨xs, ho, r.tr t⟩
  · obtain ⟨e1, k1⟩ := e1
    have e1 : (φ'.c ++ [p])[n]? = some a := e1
    by_cases hl : n < φ'.c.length
    · rw [List.getElem?_append_left hl] at e1
      rw [List.getElem?_append_left (by rw [← m.len]; exact hl)] at e2
      obtain ⟨ks, vs, u, r2, q⟩ := m.atD n a es ⟨e1, (hmm a (nec e1) (List.mem_of_getElem? e1)).mp k1⟩ e2
      exact ⟨ks, vs, u, r2.tr t, q⟩
    · obtain ⟨hn', ea⟩ := idx_last e1 hl
      subst hn'
      subst ea
      rw [m.len] at e2
      simp at e2
      subst e2
      obtain ⟨ks, vs, r, eo⟩ := hd k1
      exact ⟨ks, vs, o, r.tr t, .inl ⟨eo, ho⟩⟩
  · rw [← m.len, List.getElem?_append_right (Nat.le_refl _)]
    simp
end
section
variable {g : Gm} {W : WX} {X : Cx} {mi : MI'} {u : MG} {mt : MT} {me : ME} {wt : TG} {vs : List Nat}
/-- what stands while a comprehension runs -/
structure LcAt (g : Gm) (φ1 : Ph) (H1 : Hp) (D0 : Addr) (φ : Ph) (H : Hp) (h : MH) (acc : List V) (ds : List D) : Prop where
  e : Ext φ1 H1 φ H
  m : Hok g φ H h
  d : D0 ∈ φ.g
  o : H D0 = some (.lst acc)
  r : Reps g.r φ H acc ds
theorem imp_lc (hg : GOk g vs wt u) {fin : List D → MH → R D} {Pq : Ph → Hp → Addr → Prop} (σ : L2.St) (H : Hp) (Q : VK)
    (t : tE g W (fun ρ h => (mi ρ h).bind fun s h1 => (loopC u mt me (wipeM ρ vs) s.chk s.items [] h1).bind fin) σ H Q)
    (hfin : ∀ φ1 H1 D0 φ2 H2 h2 acc ds, H1 D0 = none → ¬ φ1.has D0 → LcAt g φ1 H1 D0 φ2 H2 h2 acc ds → Out g W σ φ1 H1 (Rep g.r) Q (fin ds h2) → Q (.ref D0) H2) :
    tLc (tI g W mi) wt (tT g W0 mt) (tE g W0 me) vs σ H Q := by
  obtain ⟨φ, ρ, h, s, m, o⟩ := t
  refine ⟨φ, ρ, h, s, m, ?_⟩
  dsimp only at o
  cases hr : mi ρ h with
  | bad => rw [hr] at o; exact o
  | exc x h1 => rw [hr] at o; exact o
  | ok src h1 =>
    rw [hr] at o
    have o : Out g W σ φ H (Rep g.r) Q ((loopC u mt me (wipeM ρ vs) src.chk src.items [] h1).bind fin) := o
    intro φ1 J H1 e1 m1 wk D0 hD0
    have nD := m1.notin hD0
    have o1 := Out.base e1 o
    have s1 := s.ext e1
    obtain ⟨eg, mg⟩ := mk_g (o := .lst []) m1 hD0 Pl.lst
    refine ⟨fun i k H' => k = src.items.length - i ∧ i ≤ src.items.length ∧ ∃ φ2 h2 acc ds, LcAt g φ1 H1 D0 φ2 H' h2 acc ds ∧ Out g W σ φ1 H1 (Rep g.r) Q ((loopC u mt me (wipeM ρ vs) src.chk (src.items.drop i) ds h2).bind fin), ⟨src.items.length, by simp, Nat.zero_le _, ⟨φ1.c, D0 :: φ1.g, φ1.m⟩, h1, [], [], ⟨eg, mg, List.mem_cons_self, upd_same, .nil⟩, o1⟩, ?_⟩
    rintro i k H2 ⟨rfl, hi, φ2, h2, acc, ds, L, o2⟩
    by_cases hlt : i < src.items.length
    · rw [List.drop_eq_getElem_cons hlt] at o2
      unfold loopC at o2
      split at o2
      · rename_i hck
        obtain ⟨w1, w2⟩ := (wk φ2 H2 h2 L.e.tr L.m hck i)
        obtain ⟨go, yl⟩ := w1 src.items[i] (by simp [hlt])
        refine .inr ⟨go, fun H' => ∃ φ2 h2 acc ds, LcAt g φ1 H1 D0 φ2 H' h2 acc ds ∧ Out g W σ φ1 H1 (Rep g.r) Q ((loopC u mt me (wipeM ρ vs) src.chk (src.items.drop (i + 1)) ds h2).bind fin), fun H' q => ⟨src.items.length - (i + 1), by omega, rfl, hlt, q⟩, fun x H3 y => ?_⟩
        obtain ⟨φ3, e3, r3, m3⟩ := yl x H3 y
        cases hu : u src.items[i] (wipeM ρ vs) h2 with
        | none => rw [hu] at o2; exact o2.elim
        | some q =>
          obtain ⟨ρ4, h4⟩ := q
          rw [hu] at o2
          refine hg ((s1.ext (L.e.trans e3)).wipe vs) r3 hu fun σ4 eh s4 w4 => ⟨w4.trans (wipe_wipe vs vs σ fun _ h => h), ?_⟩
          subst eh
          dsimp only at o2
          refine ⟨φ3, ρ4, h4, s4, m3, ?_⟩
          cases ht : mt ρ4 h4 with
          | bad => rw [ht] at o2; exact o2.elim
          | exc _ _ => rw [ht] at o2; exact o2.elim
          | ok b h5 =>
            rw [ht] at o2
            intro φ5 b' H5 e5 r5 m5
            cases (show b' = b from r5)
            have e25 := e3.trans e5
            cases b with
            | false => exact ⟨φ5, h5, acc, ds, ⟨L.e.trans e25, m5, e25.gh _ L.d, (e25.gk _ L.d).trans L.o, L.r.ext e25⟩, o2⟩
            | true =>
              refine ⟨φ5, ρ4, h5, s4.ext e5, m5, ?_⟩
              have o3 : Out g W σ φ1 H1 (Rep g.r) Q (((noEx (me ρ4 h5)).bind fun y h3 => if ds.length < 16777216 then loopC u mt me (wipeM ρ vs) src.chk (src.items.drop (i + 1)) (ds ++ [y]) h3 else .bad : R (List D)).bind fin) := o2
              cases hm : me ρ4 h5 with
              | bad => rw [hm] at o3; exact o3.elim
              | exc _ _ => rw [hm] at o3; exact o3.elim
              | ok y' h6 =>
                rw [hm] at o3
                intro φ6 v6 H6 e6 r6 m6
                have o4 : Out g W σ φ1 H1 (Rep g.r) Q ((if ds.length < 16777216 then loopC u mt me (wipeM ρ vs) src.chk (src.items.drop (i + 1)) (ds ++ [y']) h6 else .bad : R (List D)).bind fin) := o3
                have e26 := e25.trans e6
                have r26 := L.r.ext e26
                have d6 := e26.gh _ L.d
                have c6 := (m6.gs _ d6).1
                have x6 := L.e.trans e26
                split at o4
                · rename_i hs
                  exact ⟨acc, (e26.gk _ L.d).trans L.o, by rw [L.r.length, sizeLine_eq]; exact hs, φ6, h6, acc ++ [v6], ds ++ [y'], ⟨x6.gset nD d6, m6.gput d6 Pl.lst, d6, upd_same, (r26.append (.one r6)).tr (Tr.upd (.inr (.inr d6)))⟩, o4⟩
                · exact o4.elim
      · exact o2.elim
    · have ei : i = src.items.length := by omega
      subst ei
      rw [List.drop_length] at o2
      unfold loopC at o2
      split at o2
      · rename_i hck
        obtain ⟨w1, w2⟩ := (wk φ2 H2 h2 L.e.tr L.m hck src.items.length)
        exact .inl ⟨w2 (Nat.le_refl _), hfin φ1 H1 D0 φ2 H2 h2 acc ds hD0 nD L o2⟩
      · exact o2.elim
/-- the list is made: it stands from now on, or is a cell -/
theorem lc_end {φ1 φ2 : Ph} {H1 H2 : Hp} {D0 : Addr} {h2 : MH} {acc : List V} {ds : List D} (hn : H1 D0 = none) (nD : ¬ φ1.has D0) (L : LcAt g φ1 H1 D0 φ2 H2 h2 acc ds) :
    Ext φ1 H1 (lessG φ2 D0) H2 ∧ Hok g (lessG φ2 D0) H2 h2 ∧ Rep g.r (lessG φ2 D0) H2 (.ref D0) (.lst ds) := by
  obtain ⟨a, b, t, n⟩ := made L.e L.m nD L.d
  exact ⟨a, b, .lst ⟨L.o, n⟩ (L.r.tr t)⟩
theorem lc_endC {φ1 φ2 : Ph} {H1 H2 : Hp} {D0 : Addr} {h2 : MH} {acc : List V} {ds : List D} (hn : H1 D0 = none) (nD : ¬ φ1.has D0) (L : LcAt g φ1 H1 D0 φ2 H2 h2 acc ds) :
    ∃ φ3, Ext φ1 H1 φ3 H2 ∧ Hok g φ3 H2 (h2 ++ [ds]) ∧ Rep g.r φ3 H2 (.ref D0) (.cell h2.length) := by
  have cD := (L.m.gs _ L.d).1
  have nm : D0 ∉ φ2.m.filter fun a => decide (a ∈ φ2.c) := fun z => cD (of_decide_eq_true (List.mem_filter.mp z).2)
  obtain ⟨a, b, c⟩ := madeC (ds := ds) (mm := φ2.m.filter fun a => decide (a ∈ φ2.c)) L.e L.m nD L.d L.o (fun a _ ha => by simp [ha]) (fun _ => ⟨acc, rfl, L.r⟩) (fun z => absurd z nm)
  exact ⟨_, a, b, .cell ⟨c, nm⟩⟩
theorem imp_lcL (hg : GOk g vs wt u) (σ : L2.St) (H : Hp) (Q : VK) (t : tE g W (mLc mi u mt me vs) σ H Q) : tLc (tI g W mi) wt (tT g W0 mt) (tE g W0 me) vs σ H Q :=
  imp_lc (Pq := fun _ _ _ => True) hg σ H Q t fun φ1 H1 D0 φ2 H2 h2 acc ds hn nD L o => by
    obtain ⟨a, b, c⟩ := lc_end hn nD L
    exact o _ _ _ a c b
theorem imp_lcC (hg : GOk g vs wt u) (σ : L2.St) (H : Hp) (Q : VK) (t : tE g W (mLcC mi u mt me vs) σ H Q) : tLc (tI g W mi) wt (tT g W0 mt) (tE g W0 me) vs σ H Q :=
  imp_lc (Pq := fun _ _ _ => True) hg σ H Q t fun φ1 H1 D0 φ2 H2 h2 acc ds hn nD L o => by
    obtain ⟨φ3, a, b, c⟩ := lc_endC hn nD L
    exact o _ _ _ a c b
end
end MI
namespace MI
open PySem PySem.Spec
open PyProof.Rows L2

def mYes : MT := fun _ h => .ok true h
section
variable {g : Gm} {W : WX} {X : Cx} {mi : MI'} {u : MG} {mt : MT} {me ma mb : ME} {wt : TG} {elt tg iter a b : Expr} {ifs : List Expr} {scope : Scope} {own : List (Str × Nat)} {pos p : Pos} {mas : MA}
theorem sts_nil : PTs X [] (tT g W mYes) := ⟨fun pins s σ H Q I t => pts_nil.run pins s σ H Q I (by
  obtain ⟨φ, ρ, h, s, m, o⟩ := t
  exact o φ true H Ext.refl rfl m)⟩
theorem sts_one {c : Expr} (h : PT X c (tT g W mt)) : PTs X [c] (tT g W mt) := pts_one h
theorem s_lc (hc : X.calm = true) (hN : X.N.Nodup) (hi : PI X tg iter (tI g W mi)) (ok : BlkOk X.N X.env.scope scope own) (hgo : GOk g (own.map (·.2)) wt u)
    (hg : ∀ (s : Shared) (H : Hp) (C : Addr) (cl : List (Str × Addr)) (fp : List Addr), PG (X.blk s H scope (compEnvC scope cl C X.env) fp) tg wt) (ht : ∀ (s : Shared) (H : Hp) (C : Addr) (cl : List (Str × Addr)) (fp : List Addr), PTs (X.blk s H scope (compEnvC scope cl C X.env) fp) ifs (tT g W0 mt))
    (he : ∀ (s : Shared) (H : Hp) (C : Addr) (cl : List (Str × Addr)) (fp : List Addr), PE (X.blk s H scope (compEnvC scope cl C X.env) fp) elt (tE g W0 me)) (hs : ∀ x, foldedSetIterable iter X.env x = pure x := by intro _; rfl) :
    PE X (.ListComp elt [⟨tg, iter, ifs, 0⟩] scope pos) (tE g W (mLc mi u mt me (own.map (·.2)))) := pe_imp (pe_lc hc hN hi ok hg ht he hs) (imp_lcL hgo)
theorem s_lcC (hc : X.calm = true) (hN : X.N.Nodup) (hi : PI X tg iter (tI g W mi)) (ok : BlkOk X.N X.env.scope scope own) (hgo : GOk g (own.map (·.2)) wt u)
    (hg : ∀ (s : Shared) (H : Hp) (C : Addr) (cl : List (Str × Addr)) (fp : List Addr), PG (X.blk s H scope (compEnvC scope cl C X.env) fp) tg wt) (ht : ∀ (s : Shared) (H : Hp) (C : Addr) (cl : List (Str × Addr)) (fp : List Addr), PTs (X.blk s H scope (compEnvC scope cl C X.env) fp) ifs (tT g W0 mt))
    (he : ∀ (s : Shared) (H : Hp) (C : Addr) (cl : List (Str × Addr)) (fp : List Addr), PE (X.blk s H scope (compEnvC scope cl C X.env) fp) elt (tE g W0 me)) (hs : ∀ x, foldedSetIterable iter X.env x = pure x := by intro _; rfl) :
    PE X (.ListComp elt [⟨tg, iter, ifs, 0⟩] scope pos) (tE g W (mLcC mi u mt me (own.map (·.2)))) := pe_imp (pe_lc hc hN hi ok hg ht he hs) (imp_lcC hgo)
theorem s_setLc {i : Nat} {y : Str} {py spos : Pos} (hc : X.calm = true) (hN : X.N.Nodup) (hsw : swapsWith (.ListComp elt [⟨tg, iter, ifs, 0⟩] scope pos) (some (.Name y py)) spos.line X.env = pure true) (hi : PI X tg iter (tI g W mi)) (ok : BlkOk X.N X.env.scope scope own) (hgo : GOk g (own.map (·.2)) wt u)
    (hg : ∀ (s : Shared) (H : Hp) (C : Addr) (cl : List (Str × Addr)) (fp : List Addr), PG (X.blk s H scope (compEnvC scope cl C X.env) fp) tg wt) (ht : ∀ (s : Shared) (H : Hp) (C : Addr) (cl : List (Str × Addr)) (fp : List Addr), PTs (X.blk s H scope (compEnvC scope cl C X.env) fp) ifs (tT g W0 mt))
    (he : ∀ (s : Shared) (H : Hp) (C : Addr) (cl : List (Str × Addr)) (fp : List Addr), PE (X.blk s H scope (compEnvC scope cl C X.env) fp) elt (tE g W0 me))
    (hy : X.N[i]? = some y := by rfl) (hyl : X.env.scope.names.lookup y = some .local := by rfl) (hs : ∀ x, foldedSetIterable iter X.env x = pure x := by intro _; rfl) :
    PS X (.Assign [.Name y py] (.ListComp elt [⟨tg, iter, ifs, 0⟩] scope pos) spos) (tS g W (mAsg (mLc mi u mt me (own.map (·.2))) (gN i))) := ps_imp (ps_setLc hc hN hy hyl hsw hi ok hg ht he hs) fun E σ H t => by
  obtain ⟨φ, ρ, h, s, m, o⟩ := t
  have t' : tE g W (mLc mi u mt me (own.map (·.2))) σ H (fun x H1 => gName i x σ H1 E.nx) := ⟨φ, ρ, h, s, m, OutS.expr s o fun d h1 φ1 v H1 e1 r1 m1 o1 => o1 φ1 _ H1 Ext.refl ((s.ext e1).set r1 i) m1⟩
  exact imp_lcL hgo σ H _ t'
theorem s_setLcC {i : Nat} {y : Str} {py spos : Pos} (hc : X.calm = true) (hN : X.N.Nodup) (hsw : swapsWith (.ListComp elt [⟨tg, iter, ifs, 0⟩] scope pos) (some (.Name y py)) spos.line X.env = pure true) (hi : PI X tg iter (tI g W mi)) (ok : BlkOk X.N X.env.scope scope own) (hgo : GOk g (own.map (·.2)) wt u)
    (hg : ∀ (s : Shared) (H : Hp) (C : Addr) (cl : List (Str × Addr)) (fp : List Addr), PG (X.blk s H scope (compEnvC scope cl C X.env) fp) tg wt) (ht : ∀ (s : Shared) (H : Hp) (C : Addr) (cl : List (Str × Addr)) (fp : List Addr), PTs (X.blk s H scope (compEnvC scope cl C X.env) fp) ifs (tT g W0 mt))
    (he : ∀ (s : Shared) (H : Hp) (C : Addr) (cl : List (Str × Addr)) (fp : List Addr), PE (X.blk s H scope (compEnvC scope cl C X.env) fp) elt (tE g W0 me))
    (hy : X.N[i]? = some y := by rfl) (hyl : X.env.scope.names.lookup y = some .local := by rfl) (hs : ∀ x, foldedSetIterable iter X.env x = pure x := by intro _; rfl) :
    PS X (.Assign [.Name y py] (.ListComp elt [⟨tg, iter, ifs, 0⟩] scope pos) spos) (tS g W (mAsg (mLcC mi u mt me (own.map (·.2))) (gN i))) := ps_imp (ps_setLc hc hN hy hyl hsw hi ok hg ht he hs) fun E σ H t => by
  obtain ⟨φ, ρ, h, s, m, o⟩ := t
  have t' : tE g W (mLcC mi u mt me (own.map (·.2))) σ H (fun x H1 => gName i x σ H1 E.nx) := ⟨φ, ρ, h, s, m, OutS.expr s o fun d h1 φ1 v H1 e1 r1 m1 o1 => o1 φ1 _ H1 Ext.refl ((s.ext e1).set r1 i) m1⟩
  exact imp_lcC hgo σ H _ t'

/-! ### zip -/
def zipD : List D → List D → List D
  | a :: r, b :: s => .tup [a, b] :: zipD r s
  | _, _ => []
def srcZ : List D → MH → R Src
  | [.lst l, .lst m], h => .ok ⟨zipD l m, none⟩ h
  | [.tup l, .tup m], h => .ok ⟨zipD l m, none⟩ h
  | _, _ => .bad
theorem zipD_get : ∀ {l m : List D} {i : Nat} {d : D}, (zipD l m)[i]? = some d → ∃ x y, l[i]? = some x ∧ m[i]? = some y ∧ d = .tup [x, y]
  | [], _, i, d, e => by simp [zipD] at e
  | _ :: _, [], i, d, e => by simp [zipD] at e
  | a :: r, b :: s, 0, d, e => by simp [zipD] at e; exact ⟨a, b, by simp, by simp, e.symm⟩
  | a :: r, b :: s, i + 1, d, e => by
    obtain ⟨x, y, e1, e2, e3⟩ := zipD_get (l := r) (m := s) (i := i) (by simpa [zipD] using e)
    exact ⟨x, y, by simpa using e1, by simpa using e2, e3⟩
theorem zipD_len : ∀ (l m : List D), (zipD l m).length = min l.length m.length
  | [], _ => by simp [zipD]
  | _ :: _, [] => by simp [zipD]
  | a :: r, b :: s => by simp [zipD, zipD_len r s]
theorem pair_new {φ : Ph} {H : Hp} {h : MH} {T : Addr} {x y : V} {d e : D} (m : Hok g φ H h) (hT : H T = none) (rx : Rep g.r φ H x d) (ry : Rep g.r φ H y e) :
    Ext φ H φ (upd H T (.tup [x, y])) ∧ Rep g.r φ (upd H T (.tup [x, y])) (.ref T) (.tup [d, e]) ∧ Hok g φ (upd H T (.tup [x, y])) h := by
  have ee : Ext φ H φ (upd H T (.tup [x, y])) := Ext.new hT (m.notin hT)
  exact ⟨ee, .tup ⟨upd_same, m.notin hT⟩ (.cons (rx.ext ee) (.cons (ry.ext ee) .nil)), m.new hT⟩
theorem si_zip {e e2 : Expr} {tpos : Pos} {elts : List Expr} {kk : Nat} (hk : g.r.K = X.K) (hm : X.mg "zip" = none) (ha : PA X [e, e2] (tA g W mas)) (hg : Gl X "zip" := by rfl)
    (hs : starEach [e, e2] X.env = (false, eval e X.env) :: starEach [e2] X.env := by rfl) (hpl : (backTo pos (starEach [e2] X.env)).any (·.1) = false := by rfl) :
    PI X (.Tuple elts kk tpos) (.Call (.Name "zip" p) [e, e2] [] pos) (tI g W (mSrcA mas srcZ)) := pi_imp (RZ.pi_zipA hg hm ha hs hpl) fun σ H Q t => by
  obtain ⟨φ, ρ, h, s, m, o⟩ := t
  refine ⟨φ, ρ, h, s, m, out_srcA o fun d h1 φ1 v H1 e1 r1 m1 o1 => ?_⟩
  unfold srcZ at o1
  split at o1
  · cases r1 with
    | cons r rr =>
      cases rr with
      | cons r' rr =>
        cases rr
        cases r with
        | lst q r =>
          cases r' with
          | lst q' r' =>
            rename_i a xs b ys
            refine ⟨a, b, xs, ys, rfl, .inl ⟨hk ▸ q.sq, hk ▸ q'.sq, ?_⟩⟩
            rw [← hk]
            refine o1 φ1 _ H1 Ext.refl m1 fun φ' H' h' ee m' _ i => ⟨fun d hd => ?_, fun hi => ?_⟩
            · obtain ⟨x, y, d1, d2, rfl⟩ := zipD_get hd
              obtain ⟨x', f1, f2⟩ := (r.tr ee).get d1
              obtain ⟨y', f3, f4⟩ := (r'.tr ee).get d2
              refine ⟨⟨xs, ys, x', y', (ee.fl q).sq, (ee.fl q').sq, f1, f3⟩, fun z H2 ⟨T, x2, y2, e3, e4, e5, e6, e7⟩ => ?_⟩
              have g1 := e6 xs (ee.fl q).sq
              have g2 := e7 ys (ee.fl q').sq
              rw [f1] at g1
              rw [f3] at g2
              cases g1
              cases g2
              subst e3
              subst e5
              exact ⟨φ', pair_new m' e4 f2 f4⟩
            · refine ⟨xs, ys, (ee.fl q).sq, (ee.fl q').sq, ?_⟩
              rw [zipD_len] at hi
              have := r.length
              have := r'.length
              omega
  · cases r1 with
    | cons r rr =>
      cases rr with
      | cons r' rr =>
        cases rr
        cases r with
        | tup q r =>
          cases r' with
          | tup q' r' =>
            rename_i a xs b ys
            refine ⟨a, b, xs, ys, rfl, .inr ⟨hk ▸ q.sq, hk ▸ q'.sq, ?_⟩⟩
            rw [← hk]
            refine o1 φ1 _ H1 Ext.refl m1 fun φ' H' h' ee m' _ i => ⟨fun d hd => ?_, fun hi => ?_⟩
            · obtain ⟨x, y, d1, d2, rfl⟩ := zipD_get hd
              obtain ⟨x', f1, f2⟩ := (r.tr ee).get d1
              obtain ⟨y', f3, f4⟩ := (r'.tr ee).get d2
              refine ⟨⟨xs, ys, x', y', (ee.ft q).sq, (ee.ft q').sq, f1, f3⟩, fun z H2 ⟨T, x2, y2, e3, e4, e5, e6, e7⟩ => ?_⟩
              have g1 := e6 xs (ee.ft q).sq
              have g2 := e7 ys (ee.ft q').sq
              rw [f1] at g1
              rw [f3] at g2
              cases g1
              cases g2
              subst e3
              subst e5
              exact ⟨φ', pair_new m' e4 f2 f4⟩
            · refine ⟨xs, ys, (ee.ft q).sq, (ee.ft q').sq, ?_⟩
              rw [zipD_len] at hi
              have := r.length
              have := r'.length
              omega
  · exact o1.elim

/-! ### methods of a cell -/
def mMeth (f : Nat → List D → MH → R D) (o : ME) (a : MA) : ME := fun ρ h => (o ρ h).bind fun x h1 => match x with
  | .cell n => if n < h1.length then (a ρ h1).bind fun ys h2 => f n ys h2 else .bad
  | _ => .bad
def vAppend (n : Nat) (ys : List D) (h : MH) : R D := match ys, h[n]? with
  | [y], some l => if l.length < 16777216 then .ok .non (h.set n (l ++ [y])) else .bad
  | _, _ => .bad
def vPopAt (n : Nat) (ys : List D) (h : MH) : R D := match ys, h[n]? with
  | [.int i], some l => if (decide (-(2 ^ 63) ≤ i) && decide (i < 2 ^ 63)) = true then (match ixN l.length i with
    | some k => match l[k]? with
      | some y => .ok y (h.set n (l.eraseIdx k))
      | none => .bad
    | none => .bad) else .bad
  | _, _ => .bad
theorem imp_meth {f : Nat → List D → MH → R D} {r : V → List V → Hp → VK → Prop} (hk : g.r.K = X.K)
    (hf : ∀ {σ : L2.St} {φ : Ph} {H : Hp} {h : MH} {n : Nat} {a : Addr} {xs : List V} {ds : List D} {Q : VK}, φ.lc n a → Reps g.r φ H xs ds → Hok g φ H h → Out g W σ φ H (Rep g.r) Q (f n ds h) → r (.ref a) xs H Q)
    (σ : L2.St) (H : Hp) (Q : VK) (t : tE g W (mMeth f ma mas) σ H Q) : tBM X.K "list" r (tE g W ma) (tA g W mas) σ H Q := by
  obtain ⟨φ, ρ, h, s, m, o⟩ := t
  refine ⟨φ, ρ, h, s, m, Out.next o fun x h1 φ1 v H1 e1 r1 m1 o1 => ?_⟩
  cases r1 with
  | cell q =>
    rename_i a n
    dsimp only at o1
    split at o1
    · rename_i hl
      obtain ⟨xs, q2, _⟩ := m1.at_ n a h1[n] q (by simp [hl])
      refine ⟨.inl ⟨rfl, xs, SqL.of q2⟩, φ1, ρ, h1, s.ext e1, m1, Out.next o1 fun ys h2 φ2 vs H2 e2 r2 m2 o2 => ?_⟩
      exact hf (e2.ix q) r2 m2 o2
    · exact o1.elim
  | _ => exact o1.elim
variable {e : Expr} {es : List Expr} {apos cpos : Pos}
theorem append_f {σ : L2.St} {φ : Ph} {H : Hp} {h : MH} {n : Nat} {a : Addr} {xs : List V} {ds : List D} {Q : VK} (q : φ.lc n a) (r : Reps g.r φ H xs ds) (m : Hok g φ H h) (o : Out g W σ φ H (Rep g.r) Q (vAppend n ds h)) : rAppend (.ref a) xs H Q := by
  unfold vAppend at o
  split at o
  · rename_i y l hl
    split at o
    · rename_i hs
      cases r with
      | cons r1 rr =>
        cases rr
        obtain ⟨zs, q2, r2⟩ := m.at_ n a l q hl
        obtain ⟨e3, m3⟩ := m.put q (r2.append (.one r1))
        exact ⟨a, zs, _, rfl, rfl, q2, by rw [r2.length, sizeLine_eq]; exact hs, o φ _ _ e3 .non m3⟩
    · exact o.elim
  · exact o.elim
theorem popAt_f {σ : L2.St} {φ : Ph} {H : Hp} {h : MH} {n : Nat} {a : Addr} {xs : List V} {ds : List D} {Q : VK} (q : φ.lc n a) (r : Reps g.r φ H xs ds) (m : Hok g φ H h) (o : Out g W σ φ H (Rep g.r) Q (vPopAt n ds h)) : rPopAt (.ref a) xs H Q := by
  unfold vPopAt at o
  split at o
  · rename_i i l hl
    split at o
    · rename_i hs
      rw [Bool.and_eq_true] at hs
      split at o
      · rename_i k hi
        split at o
        · rename_i y hy
          cases r with
          | cons r1 rr =>
            cases rr
            cases r1
            obtain ⟨zs, q2, r2⟩ := m.at_ n a l q hl
            obtain ⟨x, e1, e2⟩ := r2.get hy
            obtain ⟨e3, m3⟩ := m.put q (r2.eraseIdx k)
            exact ⟨a, zs, i, k, x, rfl, rfl, q2, of_decide_eq_true hs.1, of_decide_eq_true hs.2, by rw [r2.length]; exact (ixN_seq hi).1, e1, o φ _ _ e3 (e2.ext e3) m3⟩
        · exact o.elim
      · exact o.elim
    · exact o.elim
  · exact o.elim
theorem s_append (hk : g.r.K = X.K) (ho : PE X a (tE g W ma)) (ha : PA X (e :: es) (tA g W mas)) (hbase : attributeBase a "append" X.env (eval a X.env) = eval a X.env := by rfl)
    (hfew : ((backTo cpos (starEach (e :: es) X.env)).all (fun x => !x.1) && (backToKw cpos (keywordEach [] X.env)).all (fun x => x.1.isSome) && decide ((e :: es).length + ([] : List Keyword).length + (if ([] : List Keyword).isEmpty then 0 else 1) < 30)) = true := by rfl)
    (hline : (apos.endLine == cpos.line) = true := by rfl) (hs : starEach (e :: es) X.env = (false, eval e X.env) :: starEach es X.env := by rfl) (hplain : (backTo cpos (starEach es X.env)).any (·.1) = false := by rfl) :
    PE X (.Call (.Attribute a "append" apos) (e :: es) [] cpos) (tE g W (mMeth vAppend ma mas)) := pe_imp (pe_bm PySem.F.plainAttrs_list PySem.F.slot_list_append PySem.F.type_list_append mt_append ho ha hbase hfew hline hs hplain) (imp_meth hk fun q r m o => append_f q r m o)
theorem s_popAt (hk : g.r.K = X.K) (ho : PE X a (tE g W ma)) (ha : PA X (e :: es) (tA g W mas)) (hbase : attributeBase a "pop" X.env (eval a X.env) = eval a X.env := by rfl)
    (hfew : ((backTo cpos (starEach (e :: es) X.env)).all (fun x => !x.1) && (backToKw cpos (keywordEach [] X.env)).all (fun x => x.1.isSome) && decide ((e :: es).length + ([] : List Keyword).length + (if ([] : List Keyword).isEmpty then 0 else 1) < 30)) = true := by rfl)
    (hline : (apos.endLine == cpos.line) = true := by rfl) (hs : starEach (e :: es) X.env = (false, eval e X.env) :: starEach es X.env := by rfl) (hplain : (backTo cpos (starEach es X.env)).any (·.1) = false := by rfl) :
    PE X (.Call (.Attribute a "pop" apos) (e :: es) [] cpos) (tE g W (mMeth vPopAt ma mas)) := pe_imp (pe_bm PySem.F.plainAttrs_list PySem.F.slot_list_pop PySem.F.type_list_pop mt_popAt ho ha hbase hfew hline hs hplain) (imp_meth hk fun q r m o => popAt_f q r m o)

/-! ### t[::-1] of a tuple, a list -/
def vRev (d : D) (h : MH) : R D := match d with
  | .tup l => .ok (.tup l.reverse) h
  | d => match listOf h d with
    | some l => .ok (.lst l.reverse) h
    | none => .bad
/-! ### {} -/
theorem s_dict0 : PE X (.Dict [] [] pos) (tE g W (mC (.dic [] []))) := pe_imp pe_dnewK fun σ H Q t => by
  obtain ⟨φ, ρ, h, s, m, o⟩ := t
  intro d hd
  exact o φ _ _ (Ext.new hd (m.notin hd)) (.dic (kvs := []) (.inl upd_same) (m.notin hd) rfl .nil) (m.new hd)
end
end MI
namespace MI
open PySem PySem.Spec
open PyProof.Rows L2

/-! ### a list or a tuple is walked -/
def iSeq (K : PySem.W.Frag) (tl : TE) : TI := fun σ H R' => tl σ H fun x H1 => ∃ a, x = .ref a ∧ (((∃ xs, SqL K H1 a xs) ∧ R' (Itl K a) H1) ∨ ((∃ xs, SqT K H1 a xs) ∧ R' (Itt K a) H1))
section
variable {g : Gm} {W : WX} {X : Cx} {ma : ME}
theorem pi_seq {tg l : Expr} {tl : TE} (hl : PE X l tl) : PI X tg l (iSeq X.K tl) := by
  refine ⟨fun pins s σ H R' I h => thn (hl.run pins s σ H _ I h) fun v s1 hv => ?_⟩
  obtain ⟨x, H1, I1, r1, a, ex, q⟩ := hv
  subst ex
  cases r1
  have fresh : ∀ b ∈ [s1.heap.objs.size], FpOk X pins H1 b := fun b hb => by
    have e : b = s1.heap.objs.size := by simpa using hb
    rw [e]
    exact I1.fpOk (Nat.le_refl _) (I1.hok.fresh (Nat.le_refl _))
  rcases q with ⟨⟨xs, hq⟩, q⟩ | ⟨⟨xs, hq⟩, q⟩
  · obtain ⟨its, rv, pl, hz⟩ := I1.list hq
    exact wpAny_pyIter_list pl.isList ⟨_, [s1.heap.objs.size], _, _, H1, rfl, I1.kept (t' := s1.toks) fun b o e => Heap.get?_push_of_some _ e, turn_list a _, ⟨_, Heap.get?_push_size _ rfl, rfl, rfl⟩, fresh, q⟩
  · obtain ⟨its, rv, pt, hz⟩ := I1.tuple hq
    exact wpAny_pyIter_tuple (show s1.heap.IsTuple a its.toArray from pt) ⟨_, [s1.heap.objs.size], _, _, H1, rfl, I1.kept (t' := s1.toks) fun b o e => Heap.get?_push_of_some _ e, turn_tuple a _, ⟨_, Heap.get?_push_size _ rfl, rfl, rfl⟩, fresh, q⟩
def srcS (d : D) (h : MH) : R Src := match d with
  | .tup l => .ok ⟨l, none⟩ h
  | .lst l => .ok ⟨l, none⟩ h
  | .scr l => .ok ⟨l.map .int, none⟩ h
  | .ctp l => .ok ⟨l.map .int, none⟩ h
  | .cell n => match h[n]? with
    | some l => .ok ⟨l, some (n, l)⟩ h
    | none => .bad
  | _ => .bad
theorem si_seq {tg l : Expr} (hk : g.r.K = X.K) (hl : PE X l (tE g W ma)) : PI X tg l (tI g W (mSrc ma srcS)) := pi_imp (pi_seq hl) fun σ H Q t => by
  obtain ⟨φ, ρ, h, s, m, o⟩ := t
  refine ⟨φ, ρ, h, s, m, out_src o fun d h1 φ1 v H1 e1 r1 m1 o1 => ?_⟩
  cases r1 with
  | tup q r =>
    rename_i a xs ds
    refine ⟨a, rfl, .inr ⟨⟨xs, hk ▸ q.sq⟩, ?_⟩⟩
    rw [← hk]
    refine o1 φ1 _ H1 Ext.refl m1 fun φ' H' h' e m' _ i => ?_
    have q' := (e.ft q).sq
    have r' := r.tr e
    refine ⟨fun d hd => ?_, fun hi => ⟨xs, q', by rw [r'.length]; exact hi⟩⟩
    obtain ⟨x, e3, e4⟩ := r'.get hd
    refine ⟨⟨xs, x, q', e3⟩, fun x' H2 ⟨e5, e6⟩ => ?_⟩
    have := e6 xs q'
    rw [e3] at this
    cases this
    subst e5
    exact ⟨φ', Ext.refl, e4, m'⟩
  | ctp q =>
    rename_i a l
    refine ⟨a, rfl, .inr ⟨⟨_, hk ▸ ctp_sq q⟩, ?_⟩⟩
    rw [← hk]
    refine o1 φ1 _ H1 Ext.refl m1 fun φ' H' h' e m' _ i => ?_
    have q' := ctp_sq (H := H') q
    have r' : Reps g.r φ' H' (l.map V.int) (l.map D.int) := reps_ints l
    refine ⟨fun d hd => ?_, fun hi => ⟨_, q', by rw [r'.length]; exact hi⟩⟩
    obtain ⟨x, e3, e4⟩ := r'.get hd
    refine ⟨⟨_, x, q', e3⟩, fun x' H2 ⟨e5, e6⟩ => ?_⟩
    have := e6 _ q'
    rw [e3] at this
    cases this
    subst e5
    exact ⟨φ', Ext.refl, e4, m'⟩
  | lst q r =>
    rename_i a xs ds
    refine ⟨a, rfl, .inl ⟨⟨xs, hk ▸ q.sq⟩, ?_⟩⟩
    rw [← hk]
    exact o1 φ1 _ H1 Ext.refl m1 (walk_lst (fun φ' H' e => ⟨xs, (e.fl q).sq, r.tr e⟩) fun _ _ _ _ _ _ => trivial)
  | scr q =>
    rename_i a l
    refine ⟨a, rfl, .inl ⟨⟨_, hk ▸ q.sq⟩, ?_⟩⟩
    rw [← hk]
    exact o1 φ1 _ H1 Ext.refl m1 (walk_lst (fun φ' H' e => ⟨_, (e.fs q).sq, reps_ints l⟩) fun _ _ _ _ _ _ => trivial)
  | cell q =>
    rename_i a n
    cases hn : h1[n]? with
    | none => simp only [srcS, hn] at o1; exact o1.elim
    | some l =>
      simp only [srcS, hn] at o1
      obtain ⟨xs, q2, r⟩ := m1.at_ n a l q hn
      refine ⟨a, rfl, .inl ⟨⟨xs, SqL.of q2⟩, ?_⟩⟩
      rw [← hk]
      refine o1 φ1 _ H1 Ext.refl m1 fun φ' H' h' e m' hc i => ?_
      have hl : h'[n]? = some l := by
        simp only [Src.chk] at hc
        cases hh : h'[n]? with
        | none => rw [hh] at hc; cases hc
        | some l' => rw [hh] at hc; rw [Ds.eqb_eq hc]
      obtain ⟨ys, q3, r3⟩ := m'.at_ n a l (e.lc _ _ q) hl
      refine ⟨fun d hd => ?_, fun hi => ⟨ys, SqL.of q3, by rw [r3.length]; exact hi⟩⟩
      obtain ⟨x, e3, e4⟩ := r3.get hd
      refine ⟨⟨ys, x, SqL.of q3, e3⟩, fun x' H2 ⟨e5, e6⟩ => ?_⟩
      have := e6 ys (SqL.of q3)
      rw [e3] at this
      cases this
      subst e5
      exact ⟨φ', Ext.refl, e4, m'⟩
  | _ => exact o1.elim
end

/-! ### the defs of a text -/
/-- a def stands at x: its parameters, the constants that fill up, its function -/
structure Dn (P : Program) (w : World) (K : PySem.W.Frag) (mg : Str → Option Value) (base : Heap) (g : Gm) (k : Nat) (x : Str) (dD : List D) (np : Nat) (m : FnM) : Prop where
  ex : ∃ (f : Addr) (fd : FuncData) (ps : List Str) (dvs : List V) (ds : List Value), mg x = some (.ref f) ∧ PySem.W.keepIn K (.ref f) = true ∧ Binds K fd ps ds ∧ Vals dvs ds ∧ (∀ φ H, Reps g.r φ H dvs dD) ∧ FnOk P w K mg base (L2.CX P w) k f fd ps (spM g np m)
section
variable {g : Gm} {W : WX} {X : Cx} {e : Expr} {es : List Expr} {p pos : Pos} {x : Str} {mas : MA} {k np : Nat} {m : FnM} {dD : List D}
theorem s_fn (F : Dn X.prog X.w X.K X.mg X.base g k x dD np m) (tk : Takes X W) (hr : Room k X.A) (ha : PA X (e :: es) (tA g W mas)) (hg : Gl X x := by rfl) (hdb : (x == ("__debug__" : Str)) = false := by decide)
    (he : starEach (e :: es) X.env = (false, eval e X.env) :: starEach es X.env := by rfl) (hpl : (backTo pos (starEach es X.env)).any (·.1) = false := by rfl) : PE X (.Call (.Name x p) (e :: es) [] pos) (tE g W (mCallD np m dD mas)) := by
  obtain ⟨f, fd, ps, dvs, ds, h1, h2, h3, h4, h5, h6⟩ := F.ex
  exact s_callD h6 tk hr h1 h2 h3 h4 h5 ha hg hdb he hpl
end
section
variable {g : Gm} {P : Program} {w : World} {mg : Str → Option Value} {base : Heap}
/-- what the top has left of a def -/
structure At (K : PySem.W.Frag) (mg : Str → Option Value) (x : Str) (st : Stmt) (ps : List Str) : Prop where
  ex : ∃ (f : Addr) (fd : FuncData), mg x = some (.ref f) ∧ Fun K x x st f fd ∧ Binds K fd ps []
theorem at_mk {K : PySem.W.Frag} {mg : Str → Option Value} {h : Heap} {x : Str} {st : Stmt} {ps : List Str} {f : Addr} {oc : Value} {od an : Option Addr} {osl : Array (Option Value)} {kV doc pm cdv ct : Value} (X : K.In h) (G : h.Ns mainGlobals mg)
    (a : PySem.W.nsIn K mainGlobals x = some (some (.ref f))) (l : K.lookup f = some ⟨oc, od, .func (PySem.W.fnOf x x (defArgs st) (defBody st) (defScope st) .none kV doc pm an cdv ct), osl⟩)
    (c : PySem.W.codeIn K cdv x = true) (k : PySem.W.keepIn K (.ref f) = true)
    (b : ∀ (kV doc pm : Value) (an : Option Addr) (cdv ct : Value) (us : List Value), us.length = ps.length → bindArgs (PySem.W.fnOf x x (defArgs st) (defBody st) (defScope st) .none kV doc pm an cdv ct) ⟨us, []⟩ = pure (ps.zip us)) : At K mg x st ps := by
  have F := fun_mk (st := st) l c k
  exact ⟨f, _, PySem.W.mg_of X G a, F, F.binds b⟩
theorem dn_mk {x : Str} {st : Stmt} {N ps : List Str} {k np : Nat} {b : MS} (A : At g.r.K mg x st ps) (S : FnScope N ps (defScope st)) (hnp : ps.length = np)
    (hb : ∀ (f : Addr) (cdv : Value) (A : Around) (outer : List Env) (s : Shared) (H : Hp) (E : XK), Room k (A.deeper (envOfC x (defScope st) s.heap.objs.size f cdv)) →
      Takes (cxOf (L2.CX P w) P w g.r.K mg base N x (defScope st) f cdv A outer s H E) (fun c dx _ H' => E c dx H') →
      PassesOwn (model P w) (cxOf (L2.CX P w) P w g.r.K mg base N x (defScope st) f cdv A outer s H E).A (cxOf (L2.CX P w) P w g.r.K mg base N x (defScope st) f cdv A outer s H E).env (cxOf (L2.CX P w) P w g.r.K mg base N x (defScope st) f cdv A outer s H E).xe →
      PSs (cxOf (L2.CX P w) P w g.r.K mg base N x (defScope st) f cdv A outer s H E) (defBody st) (tS g (fun c dx _ H' => E c dx H') b)) :
    Dn P w g.r.K mg base g (k + 1) x [] np (mFn np N.length b) := by
  obtain ⟨f, fd, h1, F, B⟩ := A.ex
  exact ⟨f, fd, ps, [], [], h1, F.kp, B, .nil, fun _ _ => .nil, fn_m F S hnp (hb f)⟩
/-- a def with constants for its last parameters, called without them: n are written -/
structure AtD (K : PySem.W.Frag) (mg : Str → Option Value) (x : Str) (st : Stmt) (ps : List Str) (dvs : List V) : Prop where
  ex : ∃ (f : Addr) (fd : FuncData) (ds : List Value), mg x = some (.ref f) ∧ FunD K x x (defArgs st) (defBody st) (defScope st) dvs [] f fd ∧ Vals dvs ds ∧ Binds K fd ps ds
theorem atD_mk {K : PySem.W.Frag} {mg : Str → Option Value} {h : Heap} {x : Str} {st : Stmt} {ps : List Str} {f Tp : Addr} {oc : Value} {od an : Option Addr} {osl : Array (Option Value)} {kV doc pm cdv ct : Value} {dvs : List V} {ot : Obj} {its : List Value} {nn : Nat} (X : K.In h) (G : h.Ns mainGlobals mg)
    (a : PySem.W.nsIn K mainGlobals x = some (some (.ref f))) (l : K.lookup f = some ⟨oc, od, .func (PySem.W.fnOf x x (defArgs st) (defBody st) (defScope st) (.ref Tp) kV doc pm an cdv ct), osl⟩)
    (c : PySem.W.codeIn K cdv x = true) (k : PySem.W.keepIn K (.ref f) = true) (lt : K.lookup Tp = some ot) (dt : ot.data = .seq its.toArray nn) (rv : Vals dvs its) (hd : dvs ≠ []) (n : Nat) (hn : n + dvs.length = ps.length)
    (b : ∀ (T : Addr) (kV doc pm : Value) (an : Option Addr) (cdv ct : Value) (us its : List Value), us.length = n → its.length = dvs.length →
      ∃ k, bindArgs (PySem.W.fnOf x x (defArgs st) (defBody st) (defScope st) (.ref T) kV doc pm an cdv ct) ⟨us, []⟩ = seqItems? (.ref T) >>= k ∧ k (some its.toArray) = pure (ps.zip (us ++ its.drop 0))) : AtD K mg x st ps dvs := by
  have F : FunD K x x (defArgs st) (defBody st) (defScope st) dvs [] f (PySem.W.fnOf x x (defArgs st) (defBody st) (defScope st) (.ref Tp) kV doc pm an cdv ct) :=
    ⟨⟨oc, od, .ref Tp, kV, doc, pm, an, cdv, ct, osl, rfl, l, c, .inr ⟨hd, Tp, ot, its, nn, rfl, lt, dt, rv⟩, .inl rfl⟩, k⟩
  obtain ⟨ds, h1, h2⟩ := F.binds1 n 0 hd (by simpa using hn) b
  exact ⟨f, _, ds, PySem.W.mg_of X G a, F, h1, h2⟩
theorem dnD_mk {x : Str} {st : Stmt} {N ps : List Str} {k np : Nat} {b : MS} {dvs : List V} {dD : List D} (A : AtD g.r.K mg x st ps dvs) (S : FnScope N ps (defScope st)) (hnp : ps.length = np) (hD : ∀ φ H, Reps g.r φ H dvs dD)
    (hb : ∀ (f : Addr) (cdv : Value) (A : Around) (outer : List Env) (s : Shared) (H : Hp) (E : XK), Room k (A.deeper (envOfC x (defScope st) s.heap.objs.size f cdv)) →
      Takes (cxOf (L2.CX P w) P w g.r.K mg base N x (defScope st) f cdv A outer s H E) (fun c dx _ H' => E c dx H') →
      PassesOwn (model P w) (cxOf (L2.CX P w) P w g.r.K mg base N x (defScope st) f cdv A outer s H E).A (cxOf (L2.CX P w) P w g.r.K mg base N x (defScope st) f cdv A outer s H E).env (cxOf (L2.CX P w) P w g.r.K mg base N x (defScope st) f cdv A outer s H E).xe →
      PSs (cxOf (L2.CX P w) P w g.r.K mg base N x (defScope st) f cdv A outer s H E) (defBody st) (tS g (fun c dx _ H' => E c dx H') b)) :
    Dn P w g.r.K mg base g (k + 1) x dD np (mFn np N.length b) := by
  obtain ⟨f, fd, ds, h1, F, rv, B⟩ := A.ex
  refine ⟨f, fd, ps, dvs, ds, h1, F.kp, B, rv, hD, ?_⟩
  refine F.ok S (fun vs H Q E h => by rw [hnp]; exact h.1) fun cdv A outer s H vs Q E hr hsp => ⟨_, hb f cdv A outer s H E hr (takes_of rfl rfl rfl rfl) (passes_of rfl), ?_⟩
  exact fn_start hsp
end
/-- room for what asks for a little of it -/
theorem hu65 {k : Nat} {A : Around} (r : Room k A) : A.units + 65 < cLine := by have := r.un; omega
theorem hu64 {k : Nat} {A : Around} (r : Room k A) : A.units + 64 < cLine := by have := r.un; omega

end MI
namespace MI
open PySem PySem.Spec
open PyProof.Rows L2
section
variable {g : Gm} {W : WX} {X : Cx} {ma mb mc : ME} {a b c : Expr} {pos : Pos} {x : Str}
/-- constants of a module -/
theorem sc_gint {i : Int} (h : ∃ t, X.mg x = some (.int i t)) (hg : Gl X x := by rfl) (hd : (x == ("__debug__" : Str)) = false := by decide) : PE X (.Name x pos) (tE g W (mC (.int i))) := by
  obtain ⟨t, h⟩ := h
  exact sc_glob hg h (v := .int i) ⟨t, rfl⟩ (fun _ _ => .int i) hd
def GTup (K : PySem.W.Frag) (mg : Str → Option Value) (x : Str) (l : List Int) : Prop := ∃ a, mg x = some (.ref a) ∧ SqT K (fun _ => none) a (l.map V.int)
theorem sc_gtup {l : List Int} (hk : g.r.K = X.K) (h : GTup X.K X.mg x l) (hg : Gl X x := by rfl) (hd : (x == ("__debug__" : Str)) = false := by decide) : PE X (.Name x pos) (tE g W (mC (.ctp l))) := by
  obtain ⟨a, h, q⟩ := h
  exact sc_glob hg h (v := .ref a) rfl (fun φ H => .ctp (hk ▸ q)) hd
theorem gtup_mk {K : PySem.W.Frag} {mg : Str → Option Value} {h : Heap} {ad : Addr} {o : Obj} {its : Array Value} {n : Nat} {l : List Int} (X : K.In h) (G : h.Ns mainGlobals mg) (e : PySem.W.nsIn K mainGlobals x = some (some (.ref ad))) (lk : K.lookup ad = some o)
    (hc : o.cls = .type "tuple") (hd : o.data = .seq its n) (hz : its.size ≤ sizeLine) (hv : Vals (l.map V.int) its.toList) : GTup K mg x l := ⟨ad, PySem.W.mg_of X G e, .inr ⟨o, its, n, lk, hc, hd, hz, hv⟩⟩
/-- a test: a < b < c -/
theorem st_chain {op op' : CmpOp} {r r' : R2} {f f' : D → D → MH → R D} (ho : OpR X (compareOp op) r) (hf : Op2 g r f) (ho' : OpR X (compareOp op') r') (hf' : Op2 g r' f') (ha : PE X a (tE g W ma)) (hb : PE X b (tE g W mb)) (hc : PE X c (tE g W mc))
    (hm : lastMarks [op, op'] [b, c] = false := by with_unfolding_all rfl) : PT X (.Compare a [op, op'] [b, c] pos) (tT g W (mTest (mChain f f' ma mb mc))) := pt_imp (pt_chain ho ho' ha hb hc hm) fun σ H Q t => imp_chain hf hf' σ H _ (show tE g W (mChain f f' ma mb mc) σ H _ from imp_test σ H Q t)
end
theorem bt_int : bootBuiltins "int" = some (.type "int") := by decide +kernel
theorem bt_bool : bootBuiltins "bool" = some (.type "bool") := by decide +kernel
theorem bt_str : bootBuiltins "str" = some (.type "str") := by decide +kernel
theorem bt_tuple : bootBuiltins "tuple" = some (.type "tuple") := by decide +kernel
theorem bt_list : bootBuiltins "list" = some (.type "list") := by decide +kernel
theorem bt_dict : bootBuiltins "dict" = some (.type "dict") := by decide +kernel
theorem bt_len : bootBuiltins "len" = some (.builtin "len") := by decide +kernel
theorem bt_isinstance : bootBuiltins "isinstance" = some (.builtin "isinstance") := by decide +kernel
theorem bt_sum : bootBuiltins "sum" = some (.builtin "sum") := by decide +kernel
theorem bt_all : bootBuiltins "all" = some (.builtin "all") := by decide +kernel
theorem bt_any : bootBuiltins "any" = some (.builtin "any") := by decide +kernel
theorem bt_max : bootBuiltins "max" = some (.builtin "max") := by decide +kernel
theorem bt_min : bootBuiltins "min" = some (.builtin "min") := by decide +kernel
theorem bt_abs : bootBuiltins "abs" = some (.builtin "abs") := by decide +kernel
theorem bt_repr : bootBuiltins "repr" = some (.builtin "repr") := by decide +kernel
theorem bt_sorted : bootBuiltins "sorted" = some (.builtin "sorted") := by decide +kernel
def rLenA (K : PySem.W.Frag) : List V → Hp → VK → Prop := fun xs H Q => ∃ x n, xs = [x] ∧ LenV K x H n ∧ Q (.int n) H
def rMax2A : List V → Hp → VK → Prop := fun xs H Q => ∃ i j, xs = [.int i, .int j] ∧ Q (.int (if j > i then j else i)) H
def rMin2A : List V → Hp → VK → Prop := fun xs H Q => ∃ i j, xs = [.int i, .int j] ∧ Q (.int (if j < i then j else i)) H
def rAbsA : List V → Hp → VK → Prop := fun xs H Q => ∃ i, xs = [.int i] ∧ Q (.int (if i < 0 then -i else i)) H
def rIntA : List V → Hp → VK → Prop := fun xs H Q => (∃ i, xs = [.int i] ∧ Q (.int i) H) ∨ ∃ k, xs = [.bl k] ∧ Q (.int (if k then 1 else 0)) H
def rTupOf (K : PySem.W.Frag) : List V → Hp → VK → Prop := fun xs H Q => ∃ p ys, xs = [.ref p] ∧ ((SqL K H p ys ∧ ∀ l, H l = none → Q (.ref l) (upd H l (.tup ys))) ∨ (SqT K H p ys ∧ Q (.ref p) H))
section
variable {g : Gm} {W : WX} {X : Cx} {mas : MA} {e : Expr} {es : List Expr} {p pos : Pos}
theorem b_len (hk : g.r.K = X.K) (hm : X.mg "len" = none) (ha : PA X (e :: es) (tA g W mas)) (hg : Gl X "len" := by rfl) (he : starEach (e :: es) X.env = (false, eval e X.env) :: starEach es X.env := by rfl) (hpl : (backTo pos (starEach es X.env)).any (·.1) = false := by rfl) :
    PE X (.Call (.Name "len" p) (e :: es) [] pos) (tE g W (mCall (vOne vLen) mas)) := s_blt (r := rLenA X.K) call_len (oOne (len_o hk)) bt_len hm ha hg (by decide) (by decide) he hpl
theorem b_isi (hk : g.r.K = X.K) (hm : X.mg "isinstance" = none) (ha : PA X (e :: es) (tA g W mas)) (hg : Gl X "isinstance" := by rfl) (he : starEach (e :: es) X.env = (false, eval e X.env) :: starEach es X.env := by rfl) (hpl : (backTo pos (starEach es X.env)).any (·.1) = false := by rfl) :
    PE X (.Call (.Name "isinstance" p) (e :: es) [] pos) (tE g W (mCall (vTwo vIsi) mas)) := s_blt call_isiZ (oTwo (isi_o hk)) bt_isinstance hm ha hg (by decide) (by decide) he hpl
theorem b_sum (hk : g.r.K = X.K) (hc : X.calm = true) (hm : X.mg "sum" = none) (ha : PA X (e :: es) (tA g W mas)) (hg : Gl X "sum" := by rfl) (he : starEach (e :: es) X.env = (false, eval e X.env) :: starEach es X.env := by rfl) (hpl : (backTo pos (starEach es X.env)).any (·.1) = false := by rfl) :
    PE X (.Call (.Name "sum" p) (e :: es) [] pos) (tE g W (mCall (vOne vSum) mas)) := s_blt (cr_sum hc) (oOne (sum_o hk)) bt_sum hm ha hg (by decide) (by decide) he hpl
theorem b_all (hk : g.r.K = X.K) (hc : X.calm = true) (hm : X.mg "all" = none) (ha : PA X (e :: es) (tA g W mas)) (hg : Gl X "all" := by rfl) (he : starEach (e :: es) X.env = (false, eval e X.env) :: starEach es X.env := by rfl) (hpl : (backTo pos (starEach es X.env)).any (·.1) = false := by rfl) :
    PE X (.Call (.Name "all" p) (e :: es) [] pos) (tE g W (mCall (vOne vAll) mas)) := s_blt (cr_all hc) (oOne (all_o hk)) bt_all hm ha hg (by decide) (by decide) he hpl
theorem b_any (hk : g.r.K = X.K) (hc : X.calm = true) (hm : X.mg "any" = none) (ha : PA X (e :: es) (tA g W mas)) (hg : Gl X "any" := by rfl) (he : starEach (e :: es) X.env = (false, eval e X.env) :: starEach es X.env := by rfl) (hpl : (backTo pos (starEach es X.env)).any (·.1) = false := by rfl) :
    PE X (.Call (.Name "any" p) (e :: es) [] pos) (tE g W (mCall (vOne vAny) mas)) := s_blt (cr_any hc) (oOne (any_o hk)) bt_any hm ha hg (by decide) (by decide) he hpl
theorem b_max2 (hc : X.calm = true) (hm : X.mg "max" = none) (ha : PA X (e :: es) (tA g W mas)) (hg : Gl X "max" := by rfl) (he : starEach (e :: es) X.env = (false, eval e X.env) :: starEach es X.env := by rfl) (hpl : (backTo pos (starEach es X.env)).any (·.1) = false := by rfl) :
    PE X (.Call (.Name "max" p) (e :: es) [] pos) (tE g W (mCall (vTwo vMax2) mas)) := s_blt (r := rMax2A) (call_max2 hc) (oTwo max2_o) bt_max hm ha hg (by decide) (by decide) he hpl
theorem b_min2 (hc : X.calm = true) (hm : X.mg "min" = none) (ha : PA X (e :: es) (tA g W mas)) (hg : Gl X "min" := by rfl) (he : starEach (e :: es) X.env = (false, eval e X.env) :: starEach es X.env := by rfl) (hpl : (backTo pos (starEach es X.env)).any (·.1) = false := by rfl) :
    PE X (.Call (.Name "min" p) (e :: es) [] pos) (tE g W (mCall (vTwo vMin2) mas)) := s_blt (r := rMin2A) (call_min2 hc) (oTwo min2_o) bt_min hm ha hg (by decide) (by decide) he hpl
theorem b_max1 (hk : g.r.K = X.K) (hc : X.calm = true) (hm : X.mg "max" = none) (ha : PA X (e :: es) (tA g W mas)) (hg : Gl X "max" := by rfl) (he : starEach (e :: es) X.env = (false, eval e X.env) :: starEach es X.env := by rfl) (hpl : (backTo pos (starEach es X.env)).any (·.1) = false := by rfl) :
    PE X (.Call (.Name "max" p) (e :: es) [] pos) (tE g W (mCall (vOne vMaxL) mas)) := s_blt (cr_max hc) (oOne (maxL_o hk)) bt_max hm ha hg (by decide) (by decide) he hpl
theorem b_min1 (hk : g.r.K = X.K) (hc : X.calm = true) (hm : X.mg "min" = none) (ha : PA X (e :: es) (tA g W mas)) (hg : Gl X "min" := by rfl) (he : starEach (e :: es) X.env = (false, eval e X.env) :: starEach es X.env := by rfl) (hpl : (backTo pos (starEach es X.env)).any (·.1) = false := by rfl) :
    PE X (.Call (.Name "min" p) (e :: es) [] pos) (tE g W (mCall (vOne vMinL) mas)) := s_blt (cr_min hc) (oOne (minL_o hk)) bt_min hm ha hg (by decide) (by decide) he hpl
theorem b_abs (hm : X.mg "abs" = none) (ha : PA X (e :: es) (tA g W mas)) (hg : Gl X "abs" := by rfl) (he : starEach (e :: es) X.env = (false, eval e X.env) :: starEach es X.env := by rfl) (hpl : (backTo pos (starEach es X.env)).any (·.1) = false := by rfl) :
    PE X (.Call (.Name "abs" p) (e :: es) [] pos) (tE g W (mCall (vOne vAbs) mas)) := s_blt (r := rAbsA) call_abs (oOne abs_o) bt_abs hm ha hg (by decide) (by decide) he hpl
theorem b_repr (hm : X.mg "repr" = none) (ha : PA X (e :: es) (tA g W mas)) (hg : Gl X "repr" := by rfl) (he : starEach (e :: es) X.env = (false, eval e X.env) :: starEach es X.env := by rfl) (hpl : (backTo pos (starEach es X.env)).any (·.1) = false := by rfl) :
    PE X (.Call (.Name "repr" p) (e :: es) [] pos) (tE g W (mCall (vOne vRepr) mas)) := s_blt call_repr (oOne repr_o) bt_repr hm ha hg (by decide) (by decide) he hpl
theorem b_sortI (hk : g.r.K = X.K) (hm : X.mg "sorted" = none) (ha : PA X (e :: es) (tA g W mas)) (hg : Gl X "sorted" := by rfl) (he : starEach (e :: es) X.env = (false, eval e X.env) :: starEach es X.env := by rfl) (hpl : (backTo pos (starEach es X.env)).any (·.1) = false := by rfl) :
    PE X (.Call (.Name "sorted" p) (e :: es) [] pos) (tE g W (mCall (vOne vSortI) mas)) := s_blt cr_sortedI (oOne (sortI_o hk)) bt_sorted hm ha hg (by decide) (by decide) he hpl
theorem b_int (hm : X.mg "int" = none) (ha : PA X (e :: es) (tA g W mas)) (hg : Gl X "int" := by rfl) (he : starEach (e :: es) X.env = (false, eval e X.env) :: starEach es X.env := by rfl) (hpl : (backTo pos (starEach es X.env)).any (·.1) = false := by rfl) :
    PE X (.Call (.Name "int" p) (e :: es) [] pos) (tE g W (mCall (vOne vInt) mas)) := s_bty (r := rIntA) call_int1 (oOne int_o) bt_int hm ha hg (by decide) (by decide) he hpl
theorem b_tuple (hk : g.r.K = X.K) (hm : X.mg "tuple" = none) (ha : PA X (e :: es) (tA g W mas)) (hg : Gl X "tuple" := by rfl) (he : starEach (e :: es) X.env = (false, eval e X.env) :: starEach es X.env := by rfl) (hpl : (backTo pos (starEach es X.env)).any (·.1) = false := by rfl) :
    PE X (.Call (.Name "tuple" p) (e :: es) [] pos) (tE g W (mCall (vOne vTuple) mas)) := s_bty (r := rTupOf X.K) call_tuple_of (oOne (tuple_o hk)) bt_tuple hm ha hg (by decide) (by decide) he hpl
theorem b_list (hk : g.r.K = X.K) (hm : X.mg "list" = none) (ha : PA X (e :: es) (tA g W mas)) (hg : Gl X "list" := by rfl) (he : starEach (e :: es) X.env = (false, eval e X.env) :: starEach es X.env := by rfl) (hpl : (backTo pos (starEach es X.env)).any (·.1) = false := by rfl) :
    PE X (.Call (.Name "list" p) (e :: es) [] pos) (tE g W (mCall (vOne vList) mas)) := s_bty (r := rListOf X.K) call_list_of (oOne (list_o hk)) bt_list hm ha hg (by decide) (by decide) he hpl
theorem b_listC (hk : g.r.K = X.K) (hm : X.mg "list" = none) (ha : PA X (e :: es) (tA g W mas)) (hg : Gl X "list" := by rfl) (he : starEach (e :: es) X.env = (false, eval e X.env) :: starEach es X.env := by rfl) (hpl : (backTo pos (starEach es X.env)).any (·.1) = false := by rfl) :
    PE X (.Call (.Name "list" p) (e :: es) [] pos) (tE g W (mCall (vOne vListC) mas)) := s_bty (r := rListOf X.K) call_list_of (oOne (listC_o hk)) bt_list hm ha hg (by decide) (by decide) he hpl
theorem b_gcd (hm : X.mg "gcd" = some (.builtin "math.gcd")) (ha : PA X (e :: es) (tA g W mas)) (hg : Gl X "gcd" := by rfl) (he : starEach (e :: es) X.env = (false, eval e X.env) :: starEach es X.env := by rfl) (hpl : (backTo pos (starEach es X.env)).any (·.1) = false := by rfl) :
    PE X (.Call (.Name "gcd" p) (e :: es) [] pos) (tE g W (mCall (vTwo vGcd) mas)) := s_bfun cr_gcd (oTwo gcd_o) hm ha hg (by decide) he hpl
end
/-- the law's own def -/
theorem law_fn {g : Gm} {P : Program} {w : World} {mg : Str → Option Value} {h : Heap} {x : Str} {st : Stmt} {N : List Str} {k : Nat} {b : MS} {f fa : Addr} {oc : Value} {od an : Option Addr} {osl : Array (Option Value)} {kV doc pm cdv ct : Value} (X : g.r.K.In h) (G : h.Ns mainGlobals mg)
    (hfa : mg "law" = some (.ref fa)) (a : PySem.W.nsIn g.r.K mainGlobals "law" = some (some (.ref f))) (l : g.r.K.lookup f = some ⟨oc, od, .func (PySem.W.fnOf "law" "law" (defArgs st) (defBody st) (defScope st) .none kV doc pm an cdv ct), osl⟩)
    (c : PySem.W.codeIn g.r.K cdv "law" = true) (kp : PySem.W.keepIn g.r.K (.ref f) = true) (bd : ∀ (kV doc pm : Value) (an : Option Addr) (cdv ct u : Value), bindArgs (PySem.W.fnOf "law" "law" (defArgs st) (defBody st) (defScope st) .none kV doc pm an cdv ct) ⟨[u], []⟩ = pure [(x, u)]) (S : FnScope N [x] (defScope st))
    (hb : ∀ base : Heap, g.r.K.In base → base.Ns mainGlobals mg → ∀ (f : Addr) (cdv : Value) (A : Around) (outer : List Env) (s : Shared) (H : Hp) (E : XK), Room k (A.deeper (envOfC "law" (defScope st) s.heap.objs.size f cdv)) →
      Takes (cxOf (L2.CX P w) P w g.r.K mg base N "law" (defScope st) f cdv A outer s H E) (fun c dx _ H' => E c dx H') →
      PassesOwn (model P w) (cxOf (L2.CX P w) P w g.r.K mg base N "law" (defScope st) f cdv A outer s H E).A (cxOf (L2.CX P w) P w g.r.K mg base N "law" (defScope st) f cdv A outer s H E).env (cxOf (L2.CX P w) P w g.r.K mg base N "law" (defScope st) f cdv A outer s H E).xe →
      PSs (cxOf (L2.CX P w) P w g.r.K mg base N "law" (defScope st) f cdv A outer s H E) (defBody st) (tS g (fun c dx _ H' => E c dx H') b)) :
    ∃ fd : FuncData, (∀ (s : Shared) (u : Value), BindsTo s fd ⟨[u], []⟩ [(x, u)]) ∧ ∀ base : Heap, g.r.K.In base → base.Ns mainGlobals mg → FnOk P w g.r.K mg base (L2.CX P w) (k + 1) fa fd [x] (spM g 1 (mFn 1 N.length b)) := by
  have e := hfa.symm.trans (PySem.W.mg_of X G a)
  cases e
  exact ⟨_, fun s u => .of_eq (bd _ _ _ _ _ _ u), fun base hK hN => fn_m (fun_mk (st := st) l c kp) S rfl (hb base hK hN _)⟩
end MI
namespace MI
open PySem PySem.Spec
open PyProof.Rows L2
theorem gt_o {g : Gm} : Op2 g (rI0 fun i j => .bl (decide (j < i))) vGt := o2I fun _ _ _ _ => .bl _
theorem ge_o {g : Gm} : Op2 g (rI0 fun i j => .bl (decide (j ≤ i))) vGe := o2I fun _ _ _ _ => .bl _

theorem gint_mk {K : PySem.W.Frag} {mg : Str → Option Value} {h : Heap} {x : Str} {i j : Int} {t : Tok} (X : K.In h) (G : h.Ns mainGlobals mg) (e : PySem.W.nsIn K mainGlobals x = some (some (.int i t))) (hj : i = j) : ∃ t, mg x = some (.int j t) := hj ▸ ⟨t, PySem.W.mg_of X G e⟩
theorem wth {α β : Prop} (a : α) (k : α → β) : β := k a
/-! ### a, b = a tuple or a list -/
def gTA (n : Nat) (u : MGs) : MG := fun d ρ h => match d with
  | .tup l => if l.length = n then u l ρ h else none
  | .lst l => if l.length = n then u l ρ h else none
  | .cell c => match h[c]? with
    | some l => if l.length = n then u l ρ h else none
    | none => none
  | _ => none
theorem g_tupA {g : Gm} {X : Cx} {pos : Pos} {es : List Expr} {k : Nat} {u : MGs} {n : Nat} (hk : g.r.K = X.K) (hc : X.calm = true) (h : PGs X es (tGs g u)) (hn : (assignEach es X.env).length = n := by rfl) (hst : (assignEach es X.env).findIdx? (·.1) = none := by rfl) : PG X (.Tuple es k pos) (tG g (gTA n u)) :=
  ⟨fun pins s σ H v w Q I r q => by
    obtain ⟨φ, ρ, hh, d, sl, m, rr, o⟩ := q
    cases rr with
    | tup q r2 =>
      rename_i a xs ds
      have o' : OutG g φ H Q (if ds.length = n then u ds ρ hh else none) := o
      by_cases hl : ds.length = n
      · rw [if_pos hl] at o'
        exact (pg_tup hc h hn hst).run pins s σ H _ w Q I r ⟨a, xs, rfl, hk ▸ q.sq, by rw [r2.length]; exact hl, φ, ρ, hh, ds, sl, m, r2, o'⟩
      · rw [if_neg hl] at o'
        exact o'.elim
    | lst q r2 =>
      rename_i a xs ds
      have o' : OutG g φ H Q (if ds.length = n then u ds ρ hh else none) := o
      by_cases hl : ds.length = n
      · rw [if_pos hl] at o'
        exact (pg_lst hc h hn hst).run pins s σ H _ w Q I r ⟨a, xs, rfl, hk ▸ q.sq, by rw [r2.length]; exact hl, φ, ρ, hh, ds, sl, m, r2, o'⟩
      · rw [if_neg hl] at o'
        exact o'.elim
    | cell q =>
      rename_i a c
      cases hq : hh[c]? with
      | none =>
        have o' : OutG g φ H Q (match hh[c]? with
          | some l => if l.length = n then u l ρ hh else none
          | none => none) := o
        rw [hq] at o'
        exact o'.elim
      | some ds =>
        obtain ⟨xs, e1, r2⟩ := m.at_ _ _ _ q hq
        have o' : OutG g φ H Q (match hh[c]? with
          | some l => if l.length = n then u l ρ hh else none
          | none => none) := o
        rw [hq] at o'
        have o' : OutG g φ H Q (if ds.length = n then u ds ρ hh else none) := o'
        by_cases hl : ds.length = n
        · rw [if_pos hl] at o'
          exact (pg_lst hc h hn hst).run pins s σ H _ w Q I r ⟨a, xs, rfl, SqL.of e1, by rw [r2.length]; exact hl, φ, ρ, hh, ds, sl, m, r2, o'⟩
        · rw [if_neg hl] at o'
          exact o'.elim
    | _ => exact o.elim⟩
/-! ### t[::-1] -/
section
variable {prog : Program} {w : World} {A : Around} {E : Value → Shared → Prop} {s : Shared}
theorem places_rev (n : Nat) : Builtin.Slice.slicePlaces ((n : Int) - 1) (-1) (-1) = n := by
  unfold Builtin.Slice.slicePlaces
  have h1 : ¬ ((-1 : Int) > 0) := by omega
  simp only [h1, if_false]
  have e : (-(-1) : Int) = 1 := by decide
  split
  · rw [e, Int.ediv_one]; omega
  · have : n = 0 := by omega
    subst this; rfl
theorem applied_rev {sl : Addr} {vl vu vs : Value} {n : Nat} {Q : Int × Int × Nat → Shared → Prop} (hs : s.heap.IsSliceOf sl vl vu vs) (pl : IsPart vl none) (pu : IsPart vu none) (ps : IsPart vs (some (-1)))
    (h : Q ((n : Int) - 1, -1, n) s) : wpAny (model prog w) A (Builtin.Slice.sliceApplied (.ref sl) (pure (n : Int))) Q E s := by
  obtain ⟨os, hos, hcs, hds⟩ := id hs
  unfold Builtin.Slice.sliceApplied Builtin.Slice.sliceFields
  refine wpAny_bind (wpAny_bind (wpAny_field hos hds (x := vl) rfl (wpAny_bind (wpAny_field hos hds (x := vu) rfl (wpAny_bind (wpAny_field hos hds (x := vs) rfl (wpAny_pure ?_)))))))
  refine wpAny_bind (HT.slicePart_ ps ?_)
  show wpAny _ _ (if ((-1 : Int) == 0) = true then _ else _) _ _ s
  rw [if_neg (by decide)]
  refine wpAny_bind (HT.slicePart_ pl (wpAny_bind (HT.slicePart_ pu (wpAny_bind (wpAny_pure ?_)))))
  show wpAny _ _ (pure ((n : Int) - 1, (-1 : Int), Builtin.Slice.slicePlaces ((n : Int) - 1) (-1) (-1))) _ _ s
  rw [places_rev]
  exact wpAny_pure h
theorem fmap_congr {α β : Type} {f g : α → Option β} : ∀ (l : List α), (∀ a ∈ l, f a = g a) → l.filterMap f = l.filterMap g
  | [], _ => rfl
  | a :: l, h => by
    rw [List.filterMap_cons, List.filterMap_cons, h a List.mem_cons_self, fmap_congr l fun b hb => h b (List.mem_cons_of_mem _ hb)]
theorem pick_rev (xs : Array Value) : ((List.range xs.size).filterMap fun (m : Nat) => xs[((xs.size : Int) - 1 + (m : Int) * -1).toNat]?).toArray = xs.toList.reverse.toArray := by
  have e : ((List.range xs.size).filterMap fun (m : Nat) => xs[((xs.size : Int) - 1 + (m : Int) * -1).toNat]?) = ((List.range xs.size).map fun k => xs.size - 1 - k).filterMap (xs[·]?) := by
    rw [List.filterMap_map]
    refine fmap_congr _ fun m hm => ?_
    have := List.mem_range.mp hm
    have e : ((xs.size : Int) - 1 + (m : Int) * -1).toNat = xs.size - 1 - m := by omega
    rw [e]
    try rfl
  rw [e, PySem.W.krv_range, List.filterMap_reverse, PySem.W.krv_all]
theorem getItem_tuple_rev {t sl : Addr} {items : Array Value} {vl vu vs : Value} {Q : Value → Shared → Prop} (ht : IsTup s.heap t items) (hs : s.heap.IsSliceOf sl vl vu vs) (pl : IsPart vl none) (pu : IsPart vu none) (ps : IsPart vs (some (-1)))
    (h : Q (.ref s.heap.objs.size) { s with heap := s.heap.push { cls := .type "tuple", data := .seq items.toList.reverse.toArray } }) (hsz : items.size ≤ sizeLine) : wpAny (model prog w) A (getItem (.ref t) (.ref sl)) Q E s := by
  have htake : sizeOk (.seq items.toList.reverse.toArray) := by
    show items.toList.reverse.toArray.size ≤ sizeLine
    rw [List.size_toArray, List.length_reverse, Array.length_toList]
    omega
  obtain ⟨os, hos, hcs, hds⟩ := id hs
  have hTs : s.TypeIs (.ref sl) "slice" := ⟨os, hos, hcs⟩
  unfold getItem
  try with_reducible refine wpAny_holding ?_
  first | refine wpAny_bind (wpAny_pure ?_) | skip
  refine wpAny_bind (wpAny_sequenceKey ht.typeIs (by decide) ?_)
  refine wpAny_bind (wpAny_callSpecial?_slot (name := Str.ofString "__getitem__") ht.typeIs PyProof.Rows.slot_tuple_getitem
    (wpAny_call_entry PyProof.Rows.slot_tuple_getitem ht.typeIs entry_tuple_getitem ?_ (args_tuple_getitem _ _)))
  show wpAny _ _ (Builtin.Tuple.tupleItemsOf (.ref t) >>= _) _ _ s
  refine wpAny_bind (tupleItemsOf_ ht ?_)
  refine wpAny_bind (wpAny_typeOf hTs ?_)
  rw [if_pos (by decide)]
  refine wpAny_bind (applied_rev hs pl pu ps ?_)
  show wpAny _ _ (if (((items.size : Int) - 1) == 0 && (-1 : Int) == 1 && items.size == items.size) = true then _ else _) _ _ s
  rw [if_neg (by simp), pick_rev]
  first
    | exact wpAny_bind (m := Builtin.Tuple.tupleExact _) (wpAny_newObj_type (wpAny_pure ⟨_, rfl, wpAny_pure h⟩) htake)
    | exact wpAny_bind (m := Builtin.Tuple.tupleExact _) (wpAny_newObj_type (wpAny_bind (wpAny_pure (wpAny_pure ⟨_, rfl, wpAny_pure h⟩))) htake)
    | exact wpAny_bind (wpAny_bind (m := Builtin.Tuple.tupleExact _) (wpAny_newObj_type (wpAny_pure (wpAny_pure ⟨_, rfl, wpAny_pure h⟩)) htake))
    | exact wpAny_bind (wpAny_bind (m := Builtin.Tuple.tupleExact _) (wpAny_newObj_type (wpAny_pure ⟨_, rfl, wpAny_pure h⟩) htake))
end
section
variable {X : Cx} {e : Expr} {te t2 : TE} {k : Nat} {p1 p2 p3 pos : Pos}
/-- by one reading or by the other -/
theorem pe_either (a : PE X e te) (b : PE X e t2) : PE X e (fun σ H Q => te σ H Q ∨ t2 σ H Q) := ⟨fun pins s σ H Q I q => q.elim (a.run pins s σ H Q I) (b.run pins s σ H Q I)⟩
def tRevT (K : PySem.W.Frag) (te : TE) : TE := fun σ H Q => te σ H fun x H1 => ∃ a xs, x = .ref a ∧ SqT K H1 a xs ∧ ∀ p, H1 p = none → Q (.ref p) (upd H1 p (.tup xs.reverse))
/-- the step -1, as a part of a slice -/
theorem po_m1 : PO X (some (.UnaryOp .USub (.Constant (.int 1) k p1) p2)) (fun _ H Q => Q (some (-1)) H) := by
  have h := po_some (X := X) (pe_un un_neg (pe_int (X := X) (i := 1) (j := k) (pos := p1)) (pos := p2))
  exact ⟨fun pins s σ H Q I q => h.run pins s σ H Q I ⟨1, rfl, -1, rfl, q⟩⟩
theorem pe_revT (he : PE X e te) : PE X (.Subscript e (.Slice none none (some (.UnaryOp .USub (.Constant (.int 1) k p1) p2)) p3) pos) (tRevT X.K te) := by
  constructor
  intro pins s σ H Q I h
  apply Subscript_
  refine thn (he.run pins s σ H _ I h) ?_
  rintro v s1 ⟨_, H1, I1, r1, a, xs, rfl, hx, q⟩
  obtain rfl : v = Value.ref a := r1
  apply wpAny_Slice
  refine thn (po_none.run pins s1 σ H1 (fun o G => o = none ∧ G = H1) I1 ⟨rfl, rfl⟩) ?_
  rintro vl s2 ⟨_, _, I2, pl, rfl, rfl⟩
  refine thn (po_none.run pins s2 σ _ (fun o G => o = none ∧ G = _) I2 ⟨rfl, rfl⟩) ?_
  rintro vu s3 ⟨_, _, I3, pu, rfl, rfl⟩
  refine thn (po_m1.run pins s3 σ _ (fun o G => o = some (-1) ∧ G = _) I3 ⟨rfl, rfl⟩) ?_
  rintro vs s4 ⟨_, _, I4, ps, rfl, rfl⟩
  have up : ∀ {x : Obj} {b : Addr} {ob : Obj}, s4.heap.get? b = some ob → (s4.heap.push x).get? b = some ob := fun z => Heap.get?_push_of_some _ z
  obtain ⟨its, r, ⟨o, ho, hcl, nn, hd⟩, hz⟩ := I4.tuple hx
  have hl : its.length = xs.length := r.length.symm
  have I5 := I4.kept (h' := s4.heap.push { cls := .type "slice", data := .fields #[vl, vu, vs] }) (t' := s4.toks) fun b ob z => up z
  have ht : IsTup (s4.heap.push { cls := .type "slice", data := .fields #[vl, vu, vs] }) a its.toArray := ⟨o, up ho, hcl, nn, hd⟩
  refine tail_any (s := { s4 with heap := s4.heap.push { cls := .type "slice", data := .fields #[vl, vu, vs] } }) (ops := [.ref a, .ref s4.heap.objs.size]) ht.typeIs PyProof.Rows.slot_tuple_getitem.lookup
    (getItem_tuple_rev ht (Heap.IsSliceOf.new _ vl vu vs) pl pu ps ⟨.ref _, _, I5.laid (t' := s4.toks) (o := .tup xs.reverse) (fun b ob z => Heap.get?_push_of_some _ z) (Nat.le_refl _) ⟨?_, _, r.reverse, ⟨_, Heap.get?_push_size _ rfl, rfl, _, rfl⟩⟩, rfl, q _ (I5.hok.fresh (Nat.le_refl _))⟩ ?_) (by with_unfolding_all rfl)
  · rw [List.length_reverse]; omega
  · rw [List.size_toArray]; omega
end
theorem Reps.reverse {g : Gm} {φ : Ph} {H : Hp} : ∀ {xs : List V} {ds : List D}, Reps g.r φ H xs ds → Reps g.r φ H xs.reverse ds.reverse
  | _, _, .nil => .nil
  | _, _, .cons h r => by
    rw [List.reverse_cons, List.reverse_cons]
    exact (Reps.reverse r).append (.one h)
section
variable {g : Gm} {W : WX} {X : Cx} {ma : ME} {a : Expr}
theorem s_rev {k : Nat} {p1 p2 p3 pos : Pos} (hk : g.r.K = X.K) (ha : PE X a (tE g W ma)) : PE X (.Subscript a (.Slice none none (some (.UnaryOp .USub (.Constant (.int 1) k p1) p2)) p3) pos) (tE g W (mUn vRev ma)) := pe_imp (pe_either (pe_revL ha) (pe_revT ha)) fun σ H Q t => by
  obtain ⟨φ, ρ, h, s, m, o⟩ := t
  unfold mUn at o
  have go : ∀ {R : V → Hp → Prop} {d : D} {h1 : MH}, ma ρ h = .ok d h1 → (∀ φ1 v H1, Rep g.r φ1 H1 v d → Hok g φ1 H1 h1 → Out g W σ φ1 H1 (Rep g.r) Q (vRev d h1) → R v H1) → tE g W ma σ H R := fun {R d h1} e n => by
    refine ⟨φ, ρ, h, s, m, ?_⟩
    rw [e] at o ⊢
    intro φ1 v H1 e1 r1 m1
    exact n φ1 v H1 r1 m1 (Out.base e1 o)
  cases hr : ma ρ h with
  | bad => rw [hr] at o; exact o.elim
  | exc x h1 => exact .inl ⟨φ, ρ, h, s, m, by rw [hr] at o ⊢; exact o⟩
  | ok d h1 =>
    cases d with
    | tup l =>
      refine .inr (go hr fun φ1 v H1 r1 m1 o1 => ?_)
      cases r1 with
      | tup q r => exact ⟨_, _, rfl, hk ▸ q.sq, fun p hp => new_tup m1 hp r.reverse o1⟩
    | lst l =>
      refine .inl (go hr fun φ1 v H1 r1 m1 o1 => ?_)
      cases r1 with
      | lst q r => exact ⟨_, _, rfl, hk ▸ q.sq, fun p hp => new_lst m1 hp r.reverse o1⟩
    | scr l =>
      refine .inl (go hr fun φ1 v H1 r1 m1 o1 => ?_)
      cases r1 with
      | scr q => exact ⟨_, _, rfl, hk ▸ q.sq, fun p hp => new_lst m1 hp (reps_ints _).reverse o1⟩
    | cell n =>
      refine .inl (go hr fun φ1 v H1 r1 m1 o1 => ?_)
      cases r1 with
      | cell q =>
        cases h0 : h1[n]? with
        | none => simp only [vRev, listOf, h0] at o1; exact o1.elim
        | some l =>
          simp only [vRev, listOf, h0] at o1
          obtain ⟨xs, e1, r⟩ := m1.at_ _ _ _ q h0
          exact ⟨_, xs, rfl, SqL.of e1, fun p hp => new_lst m1 hp r.reverse o1⟩
    | _ => rw [hr] at o; exact (show False from o).elim

/-! ### {i: j} -/
theorem s_dictII {i j : Int} {k1 k2 : Nat} {p1 p2 pos : Pos} : PE X (.Dict [some (.Constant (.int i) k1 p1)] [.Constant (.int j) k2 p2] pos) (tE g W (mC (.dic [.int i] [.int j]))) :=
  pe_imp (pe_disp (pps_cons pe_int pe_int pps_nil) rfl rfl (by simp) (by simp)) fun σ H Q t => by
    obtain ⟨φ, ρ, h, s, m, o⟩ := t
    intro d hd
    refine ⟨upd_same, [(Sum.inl i, .int j)], rfl, by simp, ?_⟩
    have e : upd (upd H d (.dK [])) d (.dK (mergeK [] [(Sum.inl i, V.int j)])) = upd H d (.dK [(Sum.inl i, V.int j)]) := by
      funext b
      unfold upd
      split <;> rfl
    rw [e]
    exact o φ _ _ (Ext.new hd (m.notin hd)) (.dic (kvs := [(Sum.inl i, V.int j)]) (.inl upd_same) (m.notin hd) rfl (.cons (.int j) .nil)) (m.new hd)
end
end MI
namespace MI
open PySem PySem.Spec
open PyProof.Rows L2
/-! ### tuples of ints in their order -/
def lexI : List Int → List Int → Bool
  | [], [] => false
  | [], _ :: _ => true
  | _ :: _, [] => false
  | x :: r, y :: t => decide (x < y) || (!decide (y < x) && lexI r t)
def insT (t : List Int) : List (List Int) → List (List Int)
  | [] => [t]
  | u :: r => if lexI u t = true then u :: insT t r else t :: u :: r
def tsort : List (List Int) → List (List Int)
  | [] => []
  | t :: r => insT t (tsort r)
def tdedup : List (List Int) → List (List Int)
  | [] => []
  | t :: r => if t ∈ r then tdedup r else t :: tdedup r
def asTups : List D → Option (List (List Int))
  | [] => some []
  | .tup l :: r => match asInts l with
    | some (i :: t) => (asTups r).map ((i :: t) :: ·)
    | _ => none
  | _ => none
def tupD (t : List Int) : D := .tup (t.map .int)
def vSortT (d : D) (h : MH) : R D := match (listOf h d).bind asTups with
  | some l => .ok (.lst ((tsort l).map tupD)) h
  | none => .bad
def vSortSet (d : D) (h : MH) : R D := match (listOf h d).bind asTups with
  | some l => if l.length < 64 then .ok (.lst ((tsort (tdedup l)).map tupD)) h else .bad
  | none => .bad
theorem lexI_eq : ∀ a b : List Int, lexLt itemOrd (a.map Sum.inl) (b.map Sum.inl) = lexI a b
  | [], [] => rfl
  | [], _ :: _ => rfl
  | _ :: _, [] => rfl
  | x :: r, y :: t => by
    show (decide (x < y) || (!decide (y < x) && lexLt itemOrd (r.map Sum.inl) (t.map Sum.inl))) = (decide (x < y) || (!decide (y < x) && lexI r t))
    rw [lexI_eq r t]
theorem lexI_total : ∀ a b : List Int, lexI a b = false → lexI b a = false → a = b
  | [], [], _, _ => rfl
  | [], _ :: _, h, _ => by simp [lexI] at h
  | _ :: _, [], _, h => by simp [lexI] at h
  | x :: r, y :: t, h1, h2 => by
    simp only [lexI, Bool.or_eq_false_iff, Bool.and_eq_false_iff, Bool.not_eq_false', decide_eq_false_iff_not, decide_eq_true_eq] at h1 h2
    have e : x = y := by omega
    subst e
    have := lexI_total r t (h1.2.resolve_left (by omega)) (h2.2.resolve_left (by omega))
    rw [this]
theorem lexI_asymm : ∀ a b : List Int, lexI a b = true → lexI b a = false
  | [], [], h => by simp [lexI] at h
  | [], _ :: _, _ => rfl
  | _ :: _, [], h => by simp [lexI] at h
  | x :: r, y :: t, h => by
    simp only [lexI, Bool.or_eq_true, Bool.and_eq_true, Bool.not_eq_true', decide_eq_false_iff_not, decide_eq_true_eq] at h
    simp only [lexI, Bool.or_eq_false_iff, Bool.and_eq_false_iff, Bool.not_eq_false', decide_eq_false_iff_not, decide_eq_true_eq]
    rcases h with h | ⟨h1, h2⟩
    · exact ⟨by omega, .inl h⟩
    · by_cases hxy : x < y
      · exact ⟨by omega, .inl hxy⟩
      · exact ⟨by omega, .inr (lexI_asymm r t h2)⟩
/-- not above: transitive -/
theorem lexI_le_trans : ∀ a b c : List Int, lexI b a = false → lexI c b = false → lexI c a = false
  | [], _, [], _, _ => rfl
  | [], [], _ :: _, _, h => h
  | [], _ :: _, _ :: _, _, _ => rfl
  | _ :: _, [], _, h, _ => by simp [lexI] at h
  | _ :: _, _ :: _, [], _, h => by simp [lexI] at h
  | x :: r, y :: t, z :: u, h1, h2 => by
    simp only [lexI, Bool.or_eq_false_iff, Bool.and_eq_false_iff, Bool.not_eq_false', decide_eq_false_iff_not, decide_eq_true_eq] at h1 h2 ⊢
    refine ⟨by omega, ?_⟩
    by_cases hxz : x < z
    · exact .inl hxz
    · exact .inr (lexI_le_trans r t u (h1.2.resolve_left (by omega)) (h2.2.resolve_left (by omega)))
def LeT (a b : List Int) : Prop := lexI b a = false
theorem insT_perm (t : List Int) : ∀ l : List (List Int), (insT t l).Perm (t :: l)
  | [] => .refl _
  | u :: r => by
    unfold insT
    split
    · exact ((insT_perm t r).cons u).trans (.swap t u r)
    · exact .refl _
theorem tsort_perm : ∀ l : List (List Int), (tsort l).Perm l
  | [] => .refl _
  | t :: r => (insT_perm t _).trans ((tsort_perm r).cons t)
theorem insT_sorted (t : List Int) : ∀ l : List (List Int), l.Pairwise LeT → (insT t l).Pairwise LeT
  | [], _ => by simp [insT]
  | u :: r, h => by
    have h' := h
    rw [List.pairwise_cons] at h
    unfold insT
    split
    · rename_i hu
      refine List.pairwise_cons.mpr ⟨fun v hv => ?_, insT_sorted t r h.2⟩
      rcases List.mem_cons.mp ((insT_perm t r).mem_iff.mp hv) with e | hv
      · subst e
        exact lexI_asymm _ _ hu
      · exact h.1 v hv
    · rename_i hu
      have hu : lexI u t = false := by simpa using hu
      refine List.pairwise_cons.mpr ⟨fun v hv => ?_, h'⟩
      rcases List.mem_cons.mp hv with e | hv
      · subst e; exact hu
      · exact lexI_le_trans _ _ _ hu (h.1 v hv)
theorem tsort_sorted : ∀ l : List (List Int), (tsort l).Pairwise LeT
  | [] => .nil
  | t :: r => insT_sorted t _ (tsort_sorted r)
theorem sorted_one : ∀ l m : List (List Int), l.Pairwise LeT → m.Pairwise LeT → l.Perm m → l = m
  | [], m, _, _, p => (List.nil_perm.mp p).symm
  | a :: l, [], _, _, p => absurd p.length_eq (by simp)
  | a :: l, b :: m, h1, h2, p => by
    rw [List.pairwise_cons] at h1 h2
    have e : a = b := by
      rcases List.mem_cons.mp (p.mem_iff.mp (List.mem_cons_self : a ∈ a :: l)) with e | ha
      · exact e
      · rcases List.mem_cons.mp (p.mem_iff.mpr (List.mem_cons_self : b ∈ b :: m)) with e | hb
        · exact e.symm
        · exact lexI_total a b (h2.1 a ha) (h1.1 b hb)
    subst e
    rw [sorted_one l m h1.2 h2.2 (List.perm_cons a |>.mp p)]
theorem tsort_of {l m : List (List Int)} (h : l.Pairwise LeT) (p : l.Perm m) : l = tsort m := sorted_one _ _ h (tsort_sorted m) (p.trans (tsort_perm m).symm)
theorem tdedup_mem {t : List Int} : ∀ l : List (List Int), t ∈ tdedup l ↔ t ∈ l
  | [] => .rfl
  | u :: r => by
    have ih := tdedup_mem (t := t) r
    unfold tdedup
    split
    · rename_i hu
      rw [ih, List.mem_cons]
      exact ⟨.inr, fun h => h.elim (fun e => e ▸ hu) id⟩
    · rw [List.mem_cons, List.mem_cons, ih]
theorem tdedup_nodup : ∀ l : List (List Int), (tdedup l).Nodup
  | [] => .nil
  | u :: r => by
    unfold tdedup
    split
    · exact tdedup_nodup r
    · rename_i hu
      exact List.nodup_cons.mpr ⟨fun h => hu ((tdedup_mem r).mp h), tdedup_nodup r⟩
theorem tsort_congr {l m : List (List Int)} (p : l.Perm m) : tsort l = tsort m := tsort_of (tsort_sorted l) ((tsort_perm l).trans p)

/-! ### the sorting of the model -/
def sh0 : Nat → Bool := fun _ => false
abbrev AL := List (Addr × List Int)
def refs (L : AL) : List Value := L.map fun p => Value.ref p.1
def refsV (L : AL) : List V := L.map fun p => V.ref p.1
theorem items_inl : ∀ {vs : List Value} {ns : List Int} (i : Nat), IntsAre vs ns → tupItems sh0 i vs = some (ns.map Sum.inl)
  | [], _, _, .nil => rfl
  | _ :: _, _, i, .cons k t r => by
    show (tupItems sh0 (i + 1) _).map (Sum.inl k :: ·) = _
    rw [items_inl (i + 1) r]
    rfl
theorem key_of {h : Heap} {v : Value} {ns : List Int} (x : TS.TupInts h v ns) : PyProof.Rows.G.tupKeyC h sh0 v = some (ns.map Sum.inl) := by
  obtain ⟨a, xs, rfl, ⟨o, ho, hc, n, hd⟩, i⟩ := x
  exact PyProof.Rows.G.tupKeyC_of ho hc hd (items_inl 0 i)
theorem first_of {h : Heap} {v : Value} {ns : List Int} (x : TS.TupInts h v ns) (hn : ns ≠ []) : ∃ f, TupOf h sh0 v f := by
  obtain ⟨a, xs, rfl, ⟨o, ho, hc, n, hd⟩, i⟩ := x
  cases hx : xs.toList with
  | nil => rw [hx] at i; cases i; exact absurd rfl hn
  | cons y ys =>
    rw [hx] at i
    cases i with
    | cons k t r =>
      refine ⟨_, a, o, xs, n, rfl, ho, hc, hd, by rw [← Array.getElem?_toList, hx]; rfl, fun _ => ⟨k, t, rfl⟩, fun e => absurd e (by decide)⟩
theorem firsts_of {h : Heap} : ∀ L : AL, (∀ p ∈ L, TS.TupInts h (.ref p.1) p.2 ∧ p.2 ≠ []) → ∃ fs, TupsOf h sh0 (refs L) fs
  | [], _ => ⟨[], .nil⟩
  | p :: L, hx => by
    obtain ⟨f, hf⟩ := first_of (hx p List.mem_cons_self).1 (hx p List.mem_cons_self).2
    obtain ⟨fs, hfs⟩ := firsts_of L fun q hq => hx q (List.mem_cons_of_mem _ hq)
    exact ⟨f :: fs, .cons hf hfs⟩
def adr : Value → Addr
  | .ref a => a
  | _ => 0
/-- what comes out -/
theorem sorted_refs {h : Heap} {L : AL} {arr : Array Keyed} (hx : ∀ p ∈ L, TS.TupInts h (.ref p.1) p.2 ∧ p.2 ≠ []) (hp : arr.Perm (pairsOf (refs L))) (hs : SortedToK (PyProof.Rows.G.tupKindC h sh0) arr (pairsOf (refs L)).size) :
    ∃ L' : AL, (arr.map (·.2)).toList = refs L' ∧ L'.Perm L ∧ L'.map (·.2) = tsort (L.map (·.2)) := by
  have pl : arr.toList.Perm ((refs L).zip (refs L)) := by
    rw [← pairsOf_toList]
    exact Array.perm_iff_toList_perm.mp hp
  have same : ∀ p ∈ arr.toList, p.1 = p.2 ∧ ∃ q ∈ L, p.2 = Value.ref q.1 := fun p hm => by
    obtain ⟨e, hm⟩ := mem_zip_self (pl.mem_iff.mp hm)
    obtain ⟨q, hq, e2⟩ := List.mem_map.mp hm
    exact ⟨e, q, hq, by rw [← e]; exact e2.symm⟩
  have zs : ∀ l : List Value, (l.zip l).map (·.2) = l := fun l => by
    induction l with
    | nil => rfl
    | cons a l ih => rw [List.zip_cons_cons, List.map_cons, ih]
  have po : (arr.map (·.2)).toList.Perm (refs L) := by
    have e := pl.map (·.2)
    rw [zs] at e
    rw [Array.toList_map]
    exact e
  let kp : Value → Addr × List Int := fun v => (adr v, TS.intsOf h v)
  have kr : ∀ p ∈ L, kp (Value.ref p.1) = p := fun p hm => Prod.ext rfl ((hx p hm).1.ints)
  have kL : (refs L).map kp = L := by
    unfold refs
    rw [List.map_map]
    conv => rhs; rw [← List.map_id L]
    exact List.map_congr_left fun p hm => kr p hm
  have pL : ((arr.map (·.2)).toList.map kp).Perm L := by
    have e := po.map kp
    rw [kL] at e
    exact e
  refine ⟨(arr.map (·.2)).toList.map kp, ?_, pL, tsort_of ?_ (pL.map (·.2))⟩
  · unfold refs
    rw [List.map_map]
    conv => lhs; rw [← List.map_id (arr.map (·.2)).toList]
    refine List.map_congr_left fun v hm => ?_
    obtain ⟨q, hq, e⟩ := List.mem_map.mp (po.mem_iff.mp hm)
    subst e
    rfl
  · rw [List.map_map, Array.toList_map, List.map_map, List.pairwise_map]
    refine List.pairwise_iff_getElem.mpr fun i j hi hj hij => ?_
    have hsz : (pairsOf (refs L)).size = arr.size := hp.size_eq.symm
    have hk := hs i j (Nat.le_of_lt hij) (by rw [hsz]; simpa using hj)
    have key : ∀ (i : Nat) (hi : i < arr.toList.length), KK (PyProof.Rows.G.tupKindC h sh0) arr i = (TS.intsOf h (arr.toList[i]).2).map Sum.inl := fun i hi => by
      have hm : arr.toList[i] ∈ arr.toList := List.getElem_mem hi
      obtain ⟨e, q, hq, e2⟩ := same _ hm
      unfold KK
      have e3 : arr[i]? = some arr.toList[i] := by rw [← Array.getElem?_toList, List.getElem?_eq_getElem hi]
      rw [e3]
      show (PyProof.Rows.G.tupKeyC h sh0 (arr.toList[i]).1).getD [] = _
      rw [e, e2, key_of (hx q hq).1, (hx q hq).1.ints]
      rfl
    rw [key i hi, key j hj] at hk
    have hk' : lexLt itemOrd ((TS.intsOf h (arr.toList[j]).2).map Sum.inl) ((TS.intsOf h (arr.toList[i]).2).map Sum.inl) = false := hk
    rw [lexI_eq] at hk'
    exact hk'
end MI
namespace MI
open PySem PySem.Spec
open PyProof.Rows L2
section
variable {X : Cx}
def rSortTG (K : PySem.W.Frag) : List V → Hp → VK → Prop := fun vs H Q => ∃ (a : Addr) (L : AL), vs = [V.ref a] ∧ SqL K H a (refsV L) ∧ (∀ p ∈ L, SqT K H p.1 (p.2.map V.int) ∧ p.2 ≠ []) ∧
  ∀ (L' : AL) (p : Addr), L'.Perm L → L'.map (·.2) = tsort (L.map (·.2)) → H p = none → Q (.ref p) (upd H p (.lst (refsV L')))
theorem tup_raw {pins : List (Addr × Obj)} {σ : L2.St} {H : Hp} {s : Shared} (I : Inv X pins σ H s) {t : Addr} {ns : List Int} (h : SqT X.K H t (ns.map V.int)) : TS.TupInts s.heap (.ref t) ns := tupI_raw I h
theorem refs_vals (L : AL) : Vals (refsV L) (refs L) := vals_of_refs L
theorem cr_sortTG : CallR X (.builtin "sorted") (rSortTG X.K) := by
  intro pins s σ H vs us Q I r h
  obtain ⟨a, L, rfl, hl, hk, q⟩ := h
  rw [Vals.ref1 r]
  obtain ⟨its, rv, pl, hz⟩ := I.list hl
  have ei : its = refs L := refs_of_vals rv
  subst ei
  have hx : ∀ p ∈ L, TS.TupInts s.heap (.ref p.1) p.2 ∧ p.2 ≠ [] := fun p hp => ⟨tup_raw I (hk p hp).1, (hk p hp).2⟩
  obtain ⟨fs, hf⟩ := firsts_of L hx
  have hlen : (refs L).length = (refsV L).length := by simp [refs, refsV]
  refine PyProof.Rows.G.sorted_tups (shape := sh0) (fs := fs) pl.isList hf (fun v hv => ?_) (by rw [hlen]; exact hz) fun st' hp hs _ => ?_
  · obtain ⟨p, hp, e⟩ := List.mem_map.mp hv
    subst e
    exact ⟨_, key_of (hx p hp).1⟩
  · obtain ⟨L', e1, e2, e3⟩ := sorted_refs hx hp hs
    obtain ⟨ep, he'⟩ := PyProof.Rows.sortedAll_at s.heap (refs L) ((arrOf st').map (·.2))
    have hl' : (refsV L').length ≤ sizeLine := by
      have : (refsV L').length = (refsV L).length := by simp [refsV, e2.length_eq]
      omega
    refine ⟨.ref _, upd H (s.heap.objs.size + 1) (.lst (refsV L')), I.laid (t' := s.toks) (fun _ _ => PyProof.Rows.sortedAll_old) (Nat.le_succ _) ⟨hl', refs L', ep, refs_vals L', ?_⟩, rfl, q L' _ e2 e3 (I.hok.fresh (Nat.le_succ _))⟩
    rw [he', ← e1]
def rSortSetG (K : PySem.W.Frag) (P : Program) (w : World) : List V → Hp → VK → Prop := fun vs H Q => ∃ (a : Addr) (L : AL), vs = [V.ref a] ∧ H a = some (SetTO P w a L) ∧ (∀ p ∈ L, SqT K H p.1 (p.2.map V.int) ∧ p.2 ≠ []) ∧
  ∀ (L' : AL) (p : Addr), L'.Perm L → (L.map (·.2)).Nodup → L'.map (·.2) = tsort (L.map (·.2)) → H p = none → Q (.ref p) (upd H p (.lst (refsV L')))
theorem cr_sortSetG (hc : X.calm = true) : CallR X (.builtin "sorted") (rSortSetG X.K X.prog X.w) := by
  intro pins s σ H vs us Q I r h
  obtain ⟨a, L, rfl, ha, hk, q⟩ := h
  have R0 : SetT0 X.prog X.w s.heap a L := (I.hok a _ ha).1
  obtain ⟨es, ep, t, R⟩ := R0.full fun p hp => I.isT (hk p hp).1
  rw [Vals.ref1 r]
  obtain ⟨o, ho, hex, hd⟩ := R.ob
  have hsz := R.size
  have hfew := R.few
  refine Calls.call_function_entry kind_sorted plain_sorted entry_sorted (args_sorted1 _) ?_
  unfold Builtin.«sorted»
  refine wpAny_bind (m := checkCount "sorted" 1 1 _) (wpAny_pure ?_)
  refine wpAny_bind (collect_set (A := X.A.in1) (I.ok.hd hc) ⟨o, ho, hex.1, hd⟩ R.fits (by unfold scanBound; omega) R.tab.ris R.led fun s1 vs k1 hz g1 o1 pm => ?_)
  have hes : es.toList.map (·.2) = refs L := by
    rw [R.rows]
    unfold rowsOf refs
    rw [List.map_map] <;> rfl
  rw [hes] at pm
  have hx1 : ∀ p ∈ L, TS.TupInts s.heap (.ref p.1) p.2 ∧ p.2 ≠ [] := fun p hp => ⟨tup_raw I (hk p hp).1, (hk p hp).2⟩
  -- the list that is gathered, in its own order
  obtain ⟨L1, e1, pL1⟩ : ∃ L1 : AL, vs = refs L1 ∧ L1.Perm L := by
    let kp : Value → Addr × List Int := fun v => (adr v, TS.intsOf s.heap v)
    have kr : ∀ p ∈ L, kp (Value.ref p.1) = p := fun p hm => Prod.ext rfl ((hx1 p hm).1.ints)
    have kL : (refs L).map kp = L := by
      unfold refs
      rw [List.map_map]
      conv => rhs; rw [← List.map_id L]
      exact List.map_congr_left fun p hm => kr p hm
    refine ⟨vs.map kp, ?_, ?_⟩
    · unfold refs
      rw [List.map_map]
      conv => lhs; rw [← List.map_id vs]
      refine List.map_congr_left fun v hm => ?_
      obtain ⟨q, hq, e⟩ := List.mem_map.mp (pm.mem_iff.mp hm)
      subst e
      rfl
    · have e := pm.map kp
      rw [kL] at e
      exact e
  subst e1
  have hvl : (refs L1).length < 64 := by rw [pm.length_eq]; unfold refs; rw [List.length_map]; exact hfew
  refine wpAny_bind (wpAny_newList ?_ (by rw [sizeLine_eq]; omega))
  have hoL : (s1.heap.push (seqObj "list" (refs L1).toArray 0)).get? s1.heap.objs.size = some (seqObj "list" (refs L1).toArray 0) := Heap.get?_push_size _ rfl
  have hx : ∀ p ∈ L1, TS.TupInts (s1.heap.push (seqObj "list" (refs L1).toArray 0)) (.ref p.1) p.2 ∧ p.2 ≠ [] := fun p hp =>
    ⟨(hx1 p (pL1.mem_iff.mp hp)).1.keeps fun b u e _ => Heap.get?_push_of_some _ (k1 b u e), (hx1 p (pL1.mem_iff.mp hp)).2⟩
  obtain ⟨fs, hf⟩ := firsts_of L1 hx
  refine wpAny_bind (wpAny_holding (wpAny_call_entry slot_list_sort ⟨_, hoL, rfl⟩ entry_list_sort (PyProof.Rows.G.list_sort_tups (s := { s1 with heap := s1.heap.push (seqObj "list" (refs L1).toArray 0) }) (shape := sh0) (fs := fs) hoL hf (fun v hv => ?_) (by rw [sizeLine_eq]; omega) fun st' hp hs _ => ⟨_, rfl, ?_⟩) (args_list_sort _)))
  · obtain ⟨p, hp, e⟩ := List.mem_map.mp hv
    subst e
    exact ⟨_, key_of (hx p hp).1⟩
  · obtain ⟨L', e1, e2, e3⟩ := sorted_refs hx hp hs
    obtain ⟨c, hc'⟩ := sortedHeap_at (vs := refs L1) (out := (arrOf st').map (·.2)) hoL
    have hp' : L'.Perm L := e2.trans pL1
    have hlen : (refsV L').length ≤ sizeLine := by
      have : (refsV L').length = L.length := by simp [refsV, hp'.length_eq]
      rw [this, sizeLine_eq]
      omega
    have hk' : ∀ b u, s.heap.get? b = some u → (sortedHeap (s1.heap.push (seqObj "list" (refs L1).toArray 0)) s1.heap.objs.size (refs L1) ((arrOf st').map (·.2))).get? b = some u := fun b u e => by
      have q := k1 b u e
      have hlt := Heap.lt_size q
      rw [sortedHeap_old (Nat.ne_of_lt hlt) (by rw [size_push']; exact Nat.lt_succ_of_lt hlt)]
      exact Heap.get?_push_of_some _ q
    have hn : H s1.heap.objs.size = none := I.hok.fresh hz
    have hobj : (sortedHeap (s1.heap.push (seqObj "list" (refs L1).toArray 0)) s1.heap.objs.size (refs L1) ((arrOf st').map (·.2))).get? s1.heap.objs.size = some (seqObj "list" (refs L').toArray c) := by
      rw [hc', ← e1]
    have J : Inv X pins σ (upd H s1.heap.objs.size (.lst (refsV L'))) { s with heap := sortedHeap (s1.heap.push (seqObj "list" (refs L1).toArray 0)) s1.heap.objs.size (refs L1) ((arrOf st').map (·.2)), gens := s1.gens, drawn := s1.drawn, toks := s1.toks } :=
      I.call (ch := []) (Un.laid hk' hz hn) (I.hok.laid hk' hz ⟨hlen, refs L', c, refs_vals L', hobj⟩) (by rw [g1]; exact I.bare) (fun _ z => nomatch z)
    have e : ({ s1 with heap := sortedHeap (s1.heap.push (seqObj "list" (refs L1).toArray 0)) s1.heap.objs.size (refs L1) ((arrOf st').map (·.2)) } : Shared) = { s with heap := sortedHeap (s1.heap.push (seqObj "list" (refs L1).toArray 0)) s1.heap.objs.size (refs L1) ((arrOf st').map (·.2)), gens := s1.gens, drawn := s1.drawn, toks := s1.toks } := by
      cases s1
      cases s
      cases o1
      rfl
    refine wpAny_pure ⟨_, rfl, ?_⟩
    show EP X pins σ Q _ ({ s1 with heap := sortedHeap (s1.heap.push (seqObj "list" (refs L1).toArray 0)) s1.heap.objs.size (refs L1) ((arrOf st').map (·.2)) } : Shared)
    rw [e]
    exact ⟨.ref s1.heap.objs.size, _, J, rfl, q L' _ hp' R.nd (by rw [e3]; exact tsort_congr (pL1.map (·.2))) hn⟩
end

/-! ### the rules -/
theorem reps_inv {g : Gm} {φ : Ph} {H : Hp} : ∀ {xs : List V} {l : List Int}, Reps g.r φ H xs (l.map D.int) → xs = l.map V.int
  | _, [], .nil => rfl
  | _, i :: l, .cons h r => by
    cases h
    rw [reps_inv r]
    rfl
theorem asInts_eq : ∀ {ds : List D} {l : List Int}, asInts ds = some l → ds = l.map D.int
  | [], l, h => by simp [asInts] at h; subst h; rfl
  | .int i :: r, l, h => by
    cases e : asInts r with
    | none => simp [asInts, e] at h
    | some m =>
      simp [asInts, e] at h
      subst h
      rw [asInts_eq e]
      rfl
  | .non :: r, l, h => by simp [asInts] at h
  | .bl _ :: r, l, h => by simp [asInts] at h
  | .str _ :: r, l, h => by simp [asInts] at h
  | .ty _ :: r, l, h => by simp [asInts] at h
  | .th _ :: r, l, h => by simp [asInts] at h
  | .adr _ :: r, l, h => by simp [asInts] at h
  | .tup _ :: r, l, h => by simp [asInts] at h
  | .lst _ :: r, l, h => by simp [asInts] at h
  | .cell _ :: r, l, h => by simp [asInts] at h
  | .dcell _ :: r, l, h => by simp [asInts] at h
  | .scr _ :: r, l, h => by simp [asInts] at h
  | .dic _ _ :: r, l, h => by simp [asInts] at h
  | .dct _ _ :: r, l, h => by simp [asInts] at h
  | .frd _ _ :: r, l, h => by simp [asInts] at h
  | .obj _ _ :: r, l, h => by simp [asInts] at h
  | .unset :: r, l, h => by simp [asInts] at h
theorem rep_tup {g : Gm} {φ : Ph} {H : Hp} {v : V} {ds : List D} (r : Rep g.r φ H v (.tup ds)) : ∃ a xs, v = .ref a ∧ FT g.r.K φ H a xs ∧ Reps g.r φ H xs ds := by
  cases r with
  | tup q r => exact ⟨_, _, rfl, q, r⟩
theorem tups_split {g : Gm} {φ : Ph} {H : Hp} : ∀ {xs : List V} {ds : List D} {ks : List (List Int)}, Reps g.r φ H xs ds → asTups ds = some ks →
    ∃ L : AL, xs = refsV L ∧ ds = L.map (fun p => tupD p.2) ∧ ks = L.map (·.2) ∧ ∀ p ∈ L, Rep g.r φ H (.ref p.1) (tupD p.2) ∧ SqT g.r.K H p.1 (p.2.map V.int) ∧ p.2 ≠ []
  | _, _, ks, .nil, h => by
    simp [asTups] at h
    subst h
    exact ⟨[], rfl, rfl, rfl, fun p hp => absurd hp (by simp)⟩
  | _, _, ks, .cons hx r, h => by
    cases hx with
    | tup q rr =>
      rename_i xs ds a ys es
      cases e : asInts es with
      | none => simp [asTups, e] at h
      | some l =>
        cases l with
        | nil => simp [asTups, e] at h
        | cons i t =>
          cases e2 : asTups ds with
          | none => simp [asTups, e, e2] at h
          | some m =>
            simp [asTups, e, e2] at h
            subst h
            obtain ⟨L, h1, h2, h3, h4⟩ := tups_split r e2
            have ee := asInts_eq e
            subst ee
            have ev := reps_inv rr
            subst ev
            refine ⟨(a, i :: t) :: L, by rw [h1]; rfl, by rw [h2]; rfl, by rw [h3]; rfl, fun p hp => ?_⟩
            rcases List.mem_cons.mp hp with e3 | hp
            · subst e3
              exact ⟨.tup q rr, q.sq, by simp⟩
            · exact h4 p hp
    | _ => simp [asTups] at h
theorem reps_refs {g : Gm} {φ : Ph} {H : Hp} : ∀ L : AL, (∀ p ∈ L, Rep g.r φ H (.ref p.1) (tupD p.2)) → Reps g.r φ H (refsV L) ((L.map (·.2)).map tupD)
  | [], _ => .nil
  | p :: L, h => .cons (h p List.mem_cons_self) (reps_refs L fun q hq => h q (List.mem_cons_of_mem _ hq))
theorem listOf_rep {g : Gm} {φ : Ph} {H : Hp} {h : MH} {x : V} {d : D} {l : List D} (rx : Rep g.r φ H x d) (m : Hok g φ H h) (e : listOf h d = some l) : ∃ a xs, x = .ref a ∧ SqL g.r.K H a xs ∧ Reps g.r φ H xs l := by
  cases rx with
  | lst q r => simp only [listOf] at e; cases e; exact ⟨_, _, rfl, q.sq, r⟩
  | scr q => simp only [listOf] at e; cases e; exact ⟨_, _, rfl, q.sq, reps_ints _⟩
  | cell q =>
    simp only [listOf] at e
    obtain ⟨xs, e1, r⟩ := m.at_ _ _ _ q e
    exact ⟨_, xs, rfl, SqL.of e1, r⟩
  | _ => simp [listOf] at e
section
variable {g : Gm} {W : WX} {X : Cx} {ma : ME} {mas : MA} {e a : Expr} {es : List Expr} {p pos : Pos}
theorem sortT_o (hk : g.r.K = X.K) : Op1 g (fun x H Q => rSortTG X.K [x] H Q) vSortT := by
  intro W σ φ H h x d Q rx m o
  unfold vSortT at o
  cases e : listOf h d with
  | none => rw [e] at o; exact o.elim
  | some l =>
    rw [e] at o
    cases e2 : asTups l with
    | none => simp only [Option.bind_some, e2] at o; exact o.elim
    | some ks =>
      simp only [Option.bind_some, e2] at o
      obtain ⟨a, xs, rfl, hl, r⟩ := listOf_rep rx m e
      obtain ⟨L, rfl, rfl, rfl, hL⟩ := tups_split r e2
      rw [← hk]
      refine ⟨a, L, rfl, hl, fun p hp => (hL p hp).2, fun L' p pm es hp => new_lst m hp ?_ o⟩
      rw [← es]
      exact reps_refs L' fun q hq => (hL q (pm.mem_iff.mp hq)).1
theorem b_sortT (hk : g.r.K = X.K) (hm : X.mg "sorted" = none) (ha : PA X (e :: es) (tA g W mas)) (hg : Gl X "sorted" := by rfl) (he : starEach (e :: es) X.env = (false, eval e X.env) :: starEach es X.env := by rfl) (hpl : (backTo pos (starEach es X.env)).any (·.1) = false := by rfl) :
    PE X (.Call (.Name "sorted" p) (e :: es) [] pos) (tE g W (mCall (vOne vSortT) mas)) := s_blt cr_sortTG (oOne (sortT_o hk)) bt_sorted hm ha hg (by decide) (by decide) he hpl
theorem bt_set : bootBuiltins "set" = some (.type "set") := by decide +kernel
theorem s_sortSet {p2 q : Pos} (hk : g.r.K = X.K) (hc : X.calm = true) (hu : X.A.units + 65 < cLine) (hm : X.mg "sorted" = none) (hm2 : X.mg "set" = none) (ha : PE X a (tE g W ma)) (hg : Gl X "sorted" := by rfl) (hg2 : Gl X "set" := by rfl)
    (hs : starEach [a] X.env = (false, eval a X.env) :: starEach [] X.env := by rfl) (he : starEach [.Call (.Name "set" p2) [a] [] q] X.env = (false, eval (.Call (.Name "set" p2) [a] [] q) X.env) :: starEach [] X.env := by rfl) :
    PE X (.Call (.Name "sorted" p) [.Call (.Name "set" p2) [a] [] q] [] pos) (tE g W (mUn vSortSet ma)) := by
  have h1 := pe_callTy (p := p2) (pos := q) (cr_setOfT hc (by omega)) hg2 hm2 bt_set (pa_cons ha pa_nil hs) (by decide) (by decide) hs rfl
  refine pe_imp (pe_callB (cr_sortSetG hc) hg hm bt_sorted (pa_cons h1 pa_nil he) (by decide) (by decide) he rfl) fun σ H Q t => ?_
  obtain ⟨φ, ρ, h, s, m, o⟩ := t
  refine ⟨φ, ρ, h, s, m, Out.next o fun x h1 φ1 v H1 e1 r1 m1 o1 => ?_⟩
  unfold vSortSet at o1
  cases e : listOf h1 x with
  | none => rw [e] at o1; exact o1.elim
  | some l =>
    rw [e] at o1
    cases e2 : asTups l with
    | none => simp only [Option.bind_some, e2] at o1; exact o1.elim
    | some ks =>
      simp only [Option.bind_some, e2] at o1
      split at o1
      · rename_i hlt
        obtain ⟨b, xs, rfl, hl, r⟩ := listOf_rep r1 m1 e
        obtain ⟨L, rfl, rfl, rfl, hL⟩ := tups_split r e2
        have hq : ∀ p ∈ L, SqT X.K H1 p.1 (p.2.map V.int) := fun p hp => hk ▸ (hL p hp).2.1
        refine ⟨b, L, rfl, hk ▸ hl, hq, by simpa using hlt, fun c L1 hc1 hs1 ha1 => ?_⟩
        have ee : Ext φ1 H1 φ1 (upd H1 c (SetTO X.prog X.w c L1)) := Ext.new hc1 (m1.notin hc1)
        refine ⟨c, L1, rfl, upd_same, fun p hp => ⟨?_, (hL p (hs1 p hp)).2.2⟩, fun L' p pm nd es hp => ?_⟩
        · have rp := (hL p (hs1 p hp)).1.ext ee
          obtain ⟨a, ys, ea, q, rr⟩ := rep_tup (show Rep g.r _ _ (.ref p.1) (.tup (p.2.map D.int)) from rp)
          cases ea
          have := reps_inv rr
          subst this
          exact hk ▸ q.sq
        · refine new_lst (m1.new hc1) hp ?_ (Out.base ee o1)
          have e3 : tsort (tdedup (L.map (·.2))) = L'.map (·.2) := by
            rw [es]
            refine tsort_congr ((List.perm_ext_iff_of_nodup (tdedup_nodup _) nd).mpr fun t => ?_)
            rw [tdedup_mem]
            constructor
            · intro ht
              obtain ⟨p, hp, rfl⟩ := List.mem_map.mp ht
              exact ha1 p hp
            · intro ht
              obtain ⟨p, hp, rfl⟩ := List.mem_map.mp ht
              exact List.mem_map.mpr ⟨p, hs1 p hp, rfl⟩
          rw [e3]
          exact reps_refs L' fun q hq => (hL q (hs1 q (pm.mem_iff.mp hq))).1.ext ee
      · exact o1.elim
end
end MI
/-! an own exception whose __init__ hands a text to super().__init__ and keeps its argument in a field -/
namespace XS
open PySem PySem.Spec PyProof.Rows L2
open PySem.W (KxsFacts kxs_mw excObj excTup)
section
open Builtin Builtin.ObjectAttr
variable {P : Program} {w : World} {A : Around} {E : Value → Shared → Prop} {K : PySem.W.Frag} {hp : Heap} {g : Array GenState} {d : Drawn} {t : Nat} {os : OsState} {B : String} {bmB : List Value}
/-- self.f = u, the exception without a dict as yet -/
theorem sto {e C t1 : Addr} {f : Str} {u : Value} {Q : Unit → Shared → Prop} (SF : StoreFacts B bmB "object.__setattr__" "object") (X : K.In hp) (he : hp.get? e = some (excObj C t1 none .none)) (ov : PySem.W.excOver K C bmB = true) (hd : PySem.W.hasDictIn K C = true)
    (sa : PySem.W.findIn K (.ref C) "__setattr__" = some (some (.builtin "object.__setattr__"))) (tk : PySem.W.takerIn K C f = some none)
    (hq : ∀ h' tk' dx, (∀ b o, b ≠ e → hp.get? b = some o → h'.get? b = some o) → hp.objs.size ≤ dx → dx ≠ e → h'.get? e = some (excObj C t1 (some dx) .none) → h'.Ns1 dx (fun y => if y = f then some u else none) → Q () ⟨h', g, d, tk', os⟩) :
    wpAny (model P w) A (setAttr (.ref e) f u) Q E ⟨hp, g, d, t, os⟩ := by
  have I : PySem.W.InstAt hp e (excObj C t1 none .none) C none := ⟨he, rfl, rfl, trivial⟩
  have hes : e ≠ hp.objs.size := Nat.ne_of_lt (Heap.lt_size he)
  refine PySem.W.set_plain X I sa ?_
  refine PySem.W.osa_openX SF X I ov tk fun b => ?_
  obtain ⟨cd, hc, -⟩ := PySem.W.any_some ov
  have hcls : PySem.W.Looks (model P w) hp (classData C) cd := PySem.W.looks_clsIn X hc
  have hdc : cd.hasDict = true := by
    unfold PySem.W.hasDictIn at hd
    rw [hc] at hd
    exact hd
  obtain ⟨nm, bs, mro, ns, qn, hdd, sn, sb, ab, col, del⟩ := cd
  dsimp only at hdc
  subst hdc
  unfold storeInOwnDict ownDictForStores
  repeat (first | with_reducible refine PySem.HandSPX.store_in_new ?_ ?_ | with_reducible refine wpAny_loadPart_at he ?_ | with_reducible refine hcls.at ?_ | wp_step)
  · exact ⟨_, #[], _, (Heap.get?_update_ne _ _ _ _ hes.symm).trans (Heap.get?_push_at rfl rfl), rfl, fun e he => absurd he (by simp), fun _ => rfl⟩
  · intro h' tk' hn' hs
    have hx₁ : (hp.push { cls := .type "dict", data := .dict #[] }).get? e = some (excObj C t1 none .none) := Heap.get?_push_of_some _ he
    refine hq h' tk' hp.objs.size (fun b o hb ho => ?_) (Nat.le_refl _) hes.symm ?_ hn'
    · exact (hs.2 b (Nat.ne_of_lt (Heap.lt_size ho))).trans ((Heap.get?_update_ne _ _ _ _ hb).trans (Heap.get?_push_of_some _ ho))
    · exact (hs.2 e hes).trans (Heap.get?_update_self _ hx₁ rfl)
end
/-- the body of such an __init__ -/
abbrev bodyOf (f txt : Str) (j : Nat) (p0 p1 p2 p3 p4 p5 p6 p7 p8 p9 : Pos) : List Stmt :=
  [.Expr (.Call (.Attribute (.Call (.Name "super" p0) [] [] p1) "__init__" p2) [.Constant (.str txt) j p3] [] p4) p5, .Assign [.Attribute (.Name "self" p6) f p7] (.Name f p8) p9]
/-- the def __init__ at fI, its code object at cda, the cell of __class__ at cc -/
structure SupFn (P : Program) (K : PySem.W.Frag) (C fI : Addr) (f : Str) : Prop where
  ex : ∃ (oc : Value) (od : Option Addr) (osl : Array (Option Value)) (qual txt : Str) (params : Arguments) (scope : Scope) (kV doc pm ct : Value) (an : Option Addr) (cc cda : Addr) (j : Nat) (p0 p1 p2 p3 p4 p5 p6 p7 p8 p9 : Pos)
      (ccl : Value) (cdd : Option Addr) (ccs : Array (Option Value)) (vs : Array Value) (file : Str) (tf : Tok) (cl : Value) (cld : Option Addr) (csl : Array (Option Value)) (ar : Arg),
    K.lookup fI = some ⟨oc, od, .func (PySem.W.ksFn "__init__" qual params (bodyOf f txt j p0 p1 p2 p3 p4 p5 p6 p7 p8 p9) scope .none kV doc pm an (.ref cda) ct cc), osl⟩ ∧ PySem.W.codeIn K (.ref cda) qual = true ∧
    K.lookup cda = some ⟨ccl, cdd, .fields vs, ccs⟩ ∧ vs[2]? = some (.str file tf) ∧ ((P.main.file : Str) == file) = true ∧ K.lookup cc = some ⟨cl, cld, .cell (some (.ref C)), csl⟩ ∧
    (params.posonlyargs ++ params.args).head? = some ar ∧ ar.arg = "self" ∧
    (∀ (cl : List (Str × Addr)) (kV doc pm : Value) (an : Option Addr) (cdv ct u v : Value), bindArgs (PySem.W.fnX "__init__" qual params (bodyOf f txt j p0 p1 p2 p3 p4 p5 p6 p7 p8 p9) scope cl .none kV doc pm an cdv ct) ⟨[u, v], []⟩ = pure [(("self" : Str), u), (f, v)]) ∧
    scope.kind = .function ∧ scope.isCoroutine = false ∧ scope.isGenerator = false ∧ scope.names.lookup ("super" : Str) = some .globalImplicit ∧ scope.names.lookup ("__class__" : Str) = some .free ∧ scope.names.lookup ("self" : Str) = some .local ∧ scope.names.lookup f = some .local ∧ (∀ x ∈ scope.names, x.2 ≠ .cell) ∧
    (f == ("self" : Str)) = false ∧ (f == ("__debug__" : Str)) = false ∧
    (∀ env : Env, ∃ pl : Sem Bool, eval (.Call (.Attribute (.Call (.Name "super" p0) [] [] p1) "__init__" p2) [.Constant (.str txt) j p3] [] p4) env = (do
      let ov ← attributeBase (.Call (.Name "super" p0) [] [] p1) "__init__" env (eval (.Call (.Name "super" p0) [] [] p1) env)
      standAt p2.atName
      let (f, first) ← holding [ov] (getMethod ov "__init__" pl)
      callWith p4 f first (backTo p4 (starEach [.Constant (.str txt) j p3] env)) []))
/-- such a class at C -/
structure Sup (P : Program) (K : PySem.W.Frag) (C : Addr) (f : Str) (B newId initId : String) (bmB : List Value) : Prop where
  FB : ExcBaseFacts B newId initId bmB
  KF : KxsFacts B initId
  SF : StoreFacts B bmB "object.__setattr__" "object"
  q : PySem.W.excInitIn K C bmB newId = true
  ov : PySem.W.excOver K C bmB = true
  hd : PySem.W.hasDictIn K C = true
  sa : PySem.W.findIn K (.ref C) "__setattr__" = some (some (.builtin "object.__setattr__"))
  tk : PySem.W.takerIn K C f = some none
  exC : PySem.W.subIn K (.ref C) (.type "BaseException") = some true
  tyC : PySem.W.typeIn K (.ref C) = some (.type "type")
  kC : PySem.W.keepIn K (.ref C) = true
  hB : PySem.W.subIn K (.ref C) (.type B) = some true
  mro : PySem.W.mroIn K C (.ref C) = some true
  su : PySem.W.ks_superIn K C C "__init__" = some (some (.builtin initId))
  op : PySem.W.nsIn K cStatics "thirdparty.any" = some none
  htop : (P.main.scope.names.lookup ("super" : Str)).isSome = false
  fn : ∃ fI, PySem.W.findIn K (.ref C) "__init__" = some (some (.ref fI)) ∧ PySem.W.typeIn K (.ref fI) = some (.type "function") ∧ SupFn P K C fI f
section
open PySem.W PySem.Calls
variable {P : Program} {w : World} {A : Around} {K : Frag} {hp : Heap} {g : Array GenState} {d : Drawn} {t : Nat} {os : OsState} {B newId initId : String} {bmB : List Value} {C : Addr} {f : Str} {mg mb : Str → Option Value}
theorem run_init {fI e t0 : Addr} {u : Value} {R : Result → Shared → Prop} (S : Sup P K C f B newId initId bmB) (F : SupFn P K C fI f) (X : K.In hp) (lim : hp.NoLimit) (hg : hp.Ns mainGlobals mg) (hb : hp.Ns builtinsNs mb) (hm : mg "super" = none) (hv : mb "super" = some (.type "super")) (hr : A.depth < recursionLimit)
    (he : hp.get? e = some (excObj C t0 none .none)) (hke : K.lookup e = none)
    (hq : ∀ h' tk' t1 dx, (∀ b o, b ≠ e → hp.get? b = some o → h'.get? b = some o) → hp.objs.size ≤ dx → dx ≠ e → h'.get? e = some (excObj C t1 (some dx) .none) → h'.Ns1 dx (fun y => if y = f then some u else none) → R (.ok (.ret .none)) ⟨h', g, d, tk', os⟩) :
    codeAny (model P w) A (.call (.ref fI) ⟨[.ref e, u], []⟩) R ⟨hp, g, d, t, os⟩ := by
  obtain ⟨oc, od, osl, qual, txt, params, scope, kV, doc, pm, ct, an, cc, cda, j, p0, p1, p2, p3, p4, p5, p6, p7, p8, p9, ccl, cdd, ccs, vs, file, tf, cl, cld, csl, ar, lk, hcd, lkc, hvs, hfile, lkl, har, hself, hbind, hkind, hco, hgen, hks, hkc, hkself, hkf, hcell, hne, hnd, hev⟩ := F.ex
  have nself : ("self" : Str) ≠ f := fun z => by rw [← z] at hne; simp at hne
  refine ks_codeAny_call_defAt (fd := ksFn "__init__" qual params (bodyOf f txt j p0 p1 p2 p3 p4 p5 p6 p7 p8 p9) scope .none kV doc pm an (.ref cda) ct cc) (binds := [(("self" : Str), .ref e), (f, u)]) hr (X _ _ lk) rfl lim (codeRec_of X hcd) rfl (BindsTo.of_eq (hbind _ _ _ _ _ _ _ _ _)) hcell (fun y hy => ?_) (fun h₀ hns k₀ => ?_) hco hgen hkind
  · rcases List.mem_cons.mp hy with z | hy
    · rw [z]; exact hkself
    · rcases List.mem_cons.mp hy with z | hy
      · rw [z]; exact hkf
      · exact absurd hy (by simp)
  have l1 : (List.reverse [(("self" : Str), Value.ref e), (f, u)]).lookup ("self" : Str) = some (Value.ref e) := by
    show List.lookup ("self" : Str) [(f, u), (("self" : Str), Value.ref e)] = _
    simp [List.lookup, show (("self" : Str) == f) = false from by simpa using nself]
  have l2 : (List.reverse [(("self" : Str), Value.ref e), (f, u)]).lookup f = some u := by
    show List.lookup f [(f, u), (("self" : Str), Value.ref e)] = _
    simp [List.lookup]
  have X0 : K.In h₀ := fun a o z => k₀ a o (X a o z)
  have he0 := k₀ _ _ he
  obtain ⟨cd, hcl, hcr⟩ : ∃ cd, clsIn K C = some cd ∧ alongIn K "__init__" ((cd.mro.dropWhile (· != .ref C)).drop 1) = some (some (.builtin initId)) := by
    have z := S.su
    unfold ks_superIn at z
    cases hc : clsIn K C with
    | none => rw [hc] at z; cases z
    | some cd => rw [hc] at z; exact ⟨cd, rfl, z⟩
  obtain ⟨oD, hD1, hD2⟩ : ∃ oD, K.lookup C = some oD ∧ oD.data = .cls cd := by
    unfold clsIn at hcl
    split at hcl
    · rename_i c d cd' sl ho
      cases hcl
      exact ⟨_, ho, rfl⟩
    · cases hcl
  obtain ⟨pl, hev⟩ := hev (callEnv (ksFn "__init__" qual params (bodyOf f txt j p0 p1 p2 p3 p4 p5 p6 p7 p8 p9) scope .none kV doc pm an (.ref cda) ct cc) hp.objs.size fI)
  have hint : interactive (callEnv (ksFn "__init__" qual params (bodyOf f txt j p0 p1 p2 p3 p4 p5 p6 p7 p8 p9) scope .none kV doc pm an (.ref cda) ct cc) hp.objs.size fI) = false := by
    have z : (callEnv (ksFn "__init__" qual params (bodyOf f txt j p0 p1 p2 p3 p4 p5 p6 p7 p8 p9) scope .none kV doc pm an (.ref cda) ct cc) hp.objs.size fI).scope.kind = .function := hkind
    simp [interactive, z]
  refine ks_wpAt_execs_cons (ks_wpAt_Expr_any (ks_wpAt_MethodCall ?_ hev) hint rfl)
  refine ks_wpAt_super_base (fd := ksFn "__init__" qual params (bodyOf f txt j p0 p1 p2 p3 p4 p5 p6 p7 p8 p9) scope .none kV doc pm an (.ref cda) ct cc) hks hkc rfl rfl (X0 _ _ lk) rfl har rfl (X0 _ _ lkc) rfl hvs hfile S.htop ?_
  refine ks_loadName_global hkind hks (loadGlobal_builtin (mg := mg) (mb := mb) (hg.keeps k₀) hm (hb.keeps k₀) hv ⟨rfl, ?_⟩)
  refine wpAny_loadName_free (c := cc) hkind hkc rfl ⟨_, X0 _ _ lkl, rfl⟩ ?_
  rw [hself]
  refine wpAny_loadName_local hkind hkself hns l1 ?_
  refine ks_wpAny_isType_cls (X0 _ _ hD1) hD2 ⟨rfl, ?_⟩
  refine ks_wpAny_call_super (X0 _ _ hD1) hD2 he0 rfl (fun c z => by cases z) (looks_mroIn X0 S.mro) fun h2 e2 k2 => ?_
  have X2 : K.In h2 := fun a o z => k2 a o (X0 a o z)
  have he2 := k2 _ _ he0
  have I2 : InstAt h2 e (excObj C t0 none .none) C none := ⟨he2, rfl, rfl, trivial⟩
  have hmr : Looks (model P w) h2 (mroOf (.ref C)) cd.mro := fun A Q E s k q => wpAny_bind ((looks_clsIn X2 hcl) A _ E s k (wpAny_pure q))
  refine kxs_getMethod S.KF e2 (looks_opaque X2 S.op) hmr rfl X2 hcr (I2.type.andThen (looks_subIn X2 S.hB)) (ks_ne X2 I2 hcl) rfl ?_
  have e3 : (h2.push (kxs_mw initId e)).get? h2.objs.size = some (kxs_mw initId e) := Heap.get?_push_size _ rfl
  refine kxs_callWith (i := initId) (x := e) rfl (evalArgs_plain (spliced_cons (wpAny_Constant_str (x := txt) (k := j) (pos := p3) (spliced_nil ⟨e3, ?_⟩))))
  have k3 : ∀ b o, h2.get? b = some o → (h2.push (kxs_mw initId e)).get? b = some o := fun b o z => Heap.get?_push_of_some _ z
  obtain ⟨nm, N', qn, bs, bm, hdct, sn, sub, ab, col, dd, k0, k1, kk2, kk3, k5, hC, hT⟩ := excInit_of (fun a o z => k3 a o (X2 a o z) : K.In (h2.push (kxs_mw initId e))) S.q
  have he3 := k3 _ _ he2
  -- the bound __init__ is called
  have bw : (Value.type "method-wrapper" == Value.type "method" || Value.type "method-wrapper" == Value.type "builtin_function_or_method" || Value.type "method-wrapper" == Value.type "method-wrapper") = true := by decide
  refine wpAny_call (codeAny_of_tree (show wpAny (model P w) _ (callAny (.ref h2.objs.size) ⟨[.str txt _], []⟩) _ _ _ from ?_))
  simp only [callAny]
  refine wpAny_bind (wpAny_load e3 ?_)
  simp only [kxs_mw, bw, if_true]
  refine KFB.if_so (by decide) (wpAny_bind (check_bound_init S.FB.toExcCallFacts hC he3 rfl (wpAny_bind (wpAny_pure (wpAny_pure ⟨plainId_quiet S.FB.init.plain _, codeAny_builtin S.FB.initEntry ?_⟩)))))
  refine exc_init_tree (cls := .ref C) (t0 := t0) (dv := none) (c2 := .none) (c3 := .none) (b4 := .bool false) he3 (by rw [sizeLine_eq]; show 1 ≤ _; omega) fun h4 k4 e4 _ => ?_
  -- self.f = f
  show PySem.wpAt _ _ _ (execs [.Assign [.Attribute (.Name "self" p6) f p7] (.Name f p8) p9] _) _ _ _
  have X4 : K.In h4 := fun a o z => k4 a o (fun q => by rw [q] at z; rw [hke] at z; cases z) (k3 a o (X2 a o z))
  have hL : hp.objs.size ≠ e := fun z => absurd (Heap.lt_size he) (by rw [← z]; exact Nat.lt_irrefl _)
  have hns4 : h4.Ns hp.objs.size fun x => List.lookup x [(("self" : Str), Value.ref e), (f, u)].reverse := by
    obtain ⟨o, es, ep, ho, r⟩ := hns
    exact ⟨o, es, ep, k4 _ _ hL (k3 _ _ (k2 _ _ ho)), r⟩
  refine ks_wpAt_execs_cons (ks_wpAt_Assign_Attr (wpAt_of_wpAny (wpAny_Name (wpAny_loadName_local hkind hkf hns4 l2 (wpAny_Name (wpAny_loadName_local hkind hkself hns4 l1 ?_) rfl)) hnd)) ?_)
  · refine sto S.SF X4 (t1 := _) e4 S.ov S.hd S.sa S.tk fun h5 tk5 dx k5 hdx dne e5 n5 => wpAt_of_wpAny (wpAny_execs_nil ?_)
    have hsz : hp.objs.size ≤ h4.objs.size := by
      obtain ⟨o, es, ep, ho, r⟩ := hns4
      exact Nat.le_of_lt (Heap.lt_size ho)
    exact hq h5 tk5 _ dx (fun b o hb z => k5 b o hb (k4 b o hb (k3 b o (k2 b o (k₀ b o z))))) (Nat.le_trans hsz hdx) dne e5 n5
  · rfl
end
/-- C(a): the exception has the field f -/
def tSup (C : Addr) (f : Str) (ta : TE) : L2.St → Hp → XK → Prop := fun σ H Q => ta σ H fun v H1 => ∀ d, H1 d = none → Q (.ref C) (some d) (upd H1 d (.xd [(f, v)]))
section
variable {X : Cx} {B newId initId : String} {bmB : List Value} {C : Addr} {f x : Str} {a : Expr} {ta : TE} {p pos : Pos}
theorem pmk_sup (S : Sup X.prog X.K C f B newId initId bmB) (hm : X.mg x = some (.ref C)) (hsup : X.mg "super" = none) (hr : Room 1 X.A) (ha : PE X a ta) (hg : Gl X x := by rfl)
    (hdb : (x == ("__debug__" : Str)) = false := by decide) (he : starEach [a] X.env = (false, eval a X.env) :: starEach [] X.env := by rfl) (hpl : (backTo pos (starEach [] X.env)).any (·.1) = false := by rfl) :
    PMk X (.Call (.Name x p) [a] [] pos) (tSup C f ta) := by
  intro pins s σ H Q I h
  obtain ⟨fI, hi, tI, F⟩ := S.fn
  refine wpAny_Call_Name_kw (ld_glob I hg hm ?_ hdb)
  refine PySem.W.callWith_K (h₀ := X.base) I.ok.mod.kin S.kC (thn ((pa_cons ha pa_nil he).run pos pins s σ H (fun vs H1 => ∃ v, vs = [v] ∧ ∀ d, H1 d = none → Q (.ref C) (some d) (upd H1 d (.xd [(f, v)]))) I ?_) fun us s1 hh => ?_) he hpl
  · have e2 : (fun (y : V) H1 => ∃ v, [y] = [v] ∧ ∀ d, H1 d = none → Q (.ref C) (some d) (upd H1 d (.xd [(f, v)]))) = (fun v H1 => ∀ d, H1 d = none → Q (.ref C) (some d) (upd H1 d (.xd [(f, v)]))) := by
      funext y H1
      refine propext ⟨fun ⟨v, ev, z⟩ => ?_, fun z => ⟨y, rfl, z⟩⟩
      cases ev
      exact z
    show ta σ H (fun (y : V) H1 => ∃ v, [y] = [v] ∧ ∀ d, H1 d = none → Q (.ref C) (some d) (upd H1 d (.xd [(f, v)])))
    rw [e2]
    exact h
  obtain ⟨vs, H1, I1, r1, v, ev, q⟩ := hh
  subst ev
  obtain ⟨u, rfl, ru⟩ := vals1 r1
  refine ⟨I1.kIn, (show wpAny _ _ (call (.ref C) [u]) _ _ _ from ?_)⟩
  obtain ⟨mb, hb, hbb⟩ := I1.mod.blt
  have hbh := hb.keeps I1.bk
  have hgh := I1.mod.glob.keeps I1.bk
  have lim := I1.nolimit
  obtain ⟨nm, N', qn, bs, bm, hdct, sn, sub, ab, col, dd, k0, k1, k2, k3, k5, hC, hT⟩ := PySem.W.excInit_of I1.kIn S.q
  obtain ⟨hp, g, dr, tk, os⟩ := s1
  have hsz : hp.objs.size ≤ hp.objs.size + 1 := Nat.le_succ _
  have hn : H1 (hp.objs.size + 1) = none := I1.hok.fresh hsz
  have kk : ∀ b o, hp.get? b = some o → ((hp.push (PySem.W.kdv_tup [u])).push (PySem.HandSPX.excO C hp.objs.size)).get? b = some o := fun b o e => Heap.get?_push_of_some _ (Heap.get?_push_of_some _ e)
  have hget : ((hp.push (PySem.W.kdv_tup [u])).push (PySem.HandSPX.excO C hp.objs.size)).get? (hp.objs.size + 1) = some (PySem.HandSPX.excO C hp.objs.size) := by heap_get
  have I2 : Inv X pins σ (upd H1 (hp.objs.size + 1) (exo (hp.objs.size + 1) C none)) ⟨(hp.push (PySem.W.kdv_tup [u])).push (PySem.HandSPX.excO C hp.objs.size), g, dr, tk, os⟩ :=
    I1.laid (t' := tk) (a := hp.objs.size + 1) (o := exo (hp.objs.size + 1) C none) (h' := (hp.push (PySem.W.kdv_tup [u])).push (PySem.HandSPX.excO C hp.objs.size)) kk hsz (exo_ok hget)
  have hke : X.K.lookup (hp.objs.size + 1) = none := by
    cases z : X.K.lookup (hp.objs.size + 1) with
    | none => rfl
    | some o => exact absurd (Heap.lt_size (I1.kIn _ _ z)) (by show ¬ hp.objs.size + 1 < hp.objs.size; omega)
  have hdp := hr.make C [u] []
  refine wpAny_call (PySem.HandSPX.call_own S.FB hT hC (PySem.W.looks_findIn I1.kIn hi) (fun self => PySem.W.bind_fn I1.kIn self tI) (by rw [sizeLine_eq]; show 1 ≤ _; omega) ?_)
  refine run_init S F (fun b o z => kk b o (I1.kIn b o z)) (lim.keeps kk) (hgh.keeps kk) (hbh.keeps kk) hsup ((hbb _ (by decide +kernel)).trans (by decide +kernel)) hdp.depth hget hke fun h' tk' t1 dx k hdx dne hx hns => ?_
  have hd2 : hp.objs.size ≤ dx := Nat.le_trans (Nat.le_of_lt (Nat.lt_trans (Nat.lt_succ_self _) (Heap.lt_size hget))) hdx
  have hd1 : H1 dx = none := I1.hok.fresh hd2
  have hndx : upd H1 (hp.objs.size + 1) (exo (hp.objs.size + 1) C none) dx = none := by rw [upd_ne dne]; exact hd1
  have nd : ∀ {b : Addr} {o : Obj}, ((hp.push (PySem.W.kdv_tup [u])).push (PySem.HandSPX.excO C hp.objs.size)).get? b = some o → b ≠ dx := fun {b o} q => Nat.ne_of_lt (Nat.lt_of_lt_of_le (Heap.lt_size q) hdx)
  have ea0 : upd H1 (hp.objs.size + 1) (exo (hp.objs.size + 1) C none) (hp.objs.size + 1) = some (exo (hp.objs.size + 1) C none) := upd_same
  have na : ∀ {b : Addr}, upd H1 (hp.objs.size + 1) (exo (hp.objs.size + 1) C none) b = none → b ≠ hp.objs.size + 1 := fun {b} n z => by
    rw [z, ea0] at n
    cases n
  have U : Un (frs X.stack) [] (upd H1 (hp.objs.size + 1) (exo (hp.objs.size + 1) C none)) (upd (upd (upd H1 (hp.objs.size + 1) (exo (hp.objs.size + 1) C none)) dx (exd dx [(f, v)])) (hp.objs.size + 1) (exo (hp.objs.size + 1) C (some dx)))
      ((hp.push (PySem.W.kdv_tup [u])).push (PySem.HandSPX.excO C hp.objs.size)) h' := {
    keep := fun b o q n _ _ => k b o (na n) q
    slot := fun b o q n _ _ => ⟨o.slots, k b o (na n) q⟩
    free := fun b o q n _ => (by rw [upd_ne (na n), upd_ne (nd q)]; exact n)
    there := fun b o q _ => (by
      by_cases hb : b = hp.objs.size + 1
      · exact ⟨_, hb ▸ hx⟩
      · exact ⟨o, k b o hb q⟩)
    tups := fun b xs q => (by rw [upd_ne (at_ne ea0 q exo_tup), upd_ne (ne_of_none q hndx)]; exact q)
    frzs := fun b o v q => (by rw [upd_ne (at_ne ea0 q exo_frz), upd_ne (ne_of_none q hndx)]; exact q)
    tbls := fun b ps q => ⟨#[], by rw [upd_ne (at_ne ea0 q exo_tbl), upd_ne (ne_of_none q hndx), q]; simp⟩ }
  have hok : HOk X.prog X.w (upd (upd (upd H1 (hp.objs.size + 1) (exo (hp.objs.size + 1) C none)) dx (exd dx [(f, v)])) (hp.objs.size + 1) (exo (hp.objs.size + 1) C (some dx))) h' := fun b o q => by
    by_cases hb : b = hp.objs.size + 1
    · rw [hb, upd_same] at q
      cases q
      rw [hb]
      exact exo_ok hx
    · rw [upd_ne hb] at q
      by_cases hd : b = dx
      · rw [hd, upd_same] at q
        cases q
        rw [hd]
        exact exd_ok hns (relO_put (fs := []) ru fun g => True.intro)
      · rw [upd_ne hd] at q
        refine (I2.hok b o q).stay (fun c v hc z => k c v ?_ z) (fun c hc => ?_) fun c xs hc => ?_
        · rcases hc with hc | hc
          · rw [hc]; exact hb
          · exact at_ne ea0 hc exo_own
        · rw [upd_ne (at_ne ea0 hc exo_own), upd_ne (ne_of_none hc hndx)]; exact hc
        · rw [upd_ne (at_ne ea0 hc exo_tup), upd_ne (ne_of_none hc hndx)]; exact hc
  refine ⟨rfl, mk_end (raises_own S.exC S.tyC) I1 hsz kk U hok rfl I2.bare upd_same (by rw [upd_ne dne, upd_same]) hd1 ?_⟩
  have eH : upd (del (upd (upd (upd H1 (hp.objs.size + 1) (exo (hp.objs.size + 1) C none)) dx (exd dx [(f, v)])) (hp.objs.size + 1) (exo (hp.objs.size + 1) C (some dx))) (hp.objs.size + 1)) dx (.xd [(f, v)]) = upd H1 dx (.xd [(f, v)]) := by
    funext b
    by_cases hb : b = dx
    · rw [hb, upd_same, upd_same]
    · rw [upd_ne hb, upd_ne hb]
      by_cases h2 : b = hp.objs.size + 1
      · rw [h2, del_same, hn]
      · rw [del_ne h2, upd_ne h2, upd_ne hb, upd_ne h2]
  rw [eH]
  exact q dx hd1
end
end XS
/-! try with any number of clauses, each with a name or without -/
namespace XT
open PySem PySem.Spec PyProof.Rows L2
/-- a clause's suite as told: the caught exception, its class, its dict -/
abbrev Su := Addr → Value → Option Addr → TS
/-- the ends of a suite whose name goes -/
def gone (i : Nat) (D : Ends) : Ends := { nx := fun τ J => D.nx (τ.set i none) J, rt := D.rt, bk := fun τ J => D.bk (τ.set i none) J, ct := fun τ J => D.ct (τ.set i none) J }
def suiteOf (o : Option Nat) (ts : TS) (D : Ends) (σ : L2.St) (H : Hp) (a : Addr) : Prop := match o with
  | none => ts D σ H
  | some i => ts (gone i D) (σ.set i (some (.ref a))) H
/-- what the clauses wish of an exception of the body -/
def wAll (K : PySem.W.Frag) (Wo : WX) (D : Ends) : List (Value × Option Nat × Su) → WX
  | [] => Wo
  | (c, o, ts) :: r => fun cls d σ H => ∃ b, PySem.W.exmOne K cls c = some b ∧ (b = true → ∀ a, H a = none → suiteOf o (ts a cls d) D σ H a) ∧ (b = false → wAll K Wo D r cls d σ H)
/-- a suite keeps to its telling -/
def SuOk (X : Cx) (sts : List Stmt) (ts : Su) : Prop := ∀ (a : Addr) (oe : Obj) (cls : Value) (d : Option Addr) (pn : List (Addr × Obj)), Zc cls d oe → (∃ vs, oe.data = .fields vs) → PSs (X.suite a ((a, oe) :: pn)) sts (ts a cls d)
inductive Cls (X : Cx) : List ExceptHandler → List (Value × Option Nat × Su) → Prop
  | nil : Cls X [] []
  | bare {x : Str} {c : Value} {ts : Su} {b₀ : Stmt} {su : List Stmt} {p q : Pos} {hs : List ExceptHandler} {l : List (Value × Option Nat × Su)} (hc : Names X x c) (ok : SuOk X (b₀ :: su) ts) (r : Cls X hs l) :
      Cls X (.ExceptHandler (some (.Name x p)) none (b₀ :: su) q :: hs) ((c, none, ts) :: l)
  | named {x n : Str} {i : Nat} {c : Value} {ts : Su} {b₀ : Stmt} {su : List Stmt} {p q : Pos} {hs : List ExceptHandler} {l : List (Value × Option Nat × Su)} (hc : Names X x c) (hi : X.N[i]? = some n) (hl : X.env.kindOf n = some .local) (ok : SuOk X (b₀ :: su) ts) (r : Cls X hs l) :
      Cls X (.ExceptHandler (some (.Name x p)) (some n) (b₀ :: su) q :: hs) ((c, some i, ts) :: l)
section
variable {X : Cx} {pins : List (Addr × Obj)} {σ : L2.St} {H : Hp} {D : Ends} {Wo : WX} {a : Addr} {cls : Value} {d : Option Addr} {B : Heap} {sI s : Shared}
/-- a clause that names no match for a -/
theorem past_all (hs : X.stack = X.env :: X.outer) (hf : X.env.frame = some X.env.locals) (tk : Takes X Wo) (J : Inv X pins σ H sI) (nb : ∀ b o, sI.heap.get? b = some o → b ∉ frs X.stack → B.get? b = some o) (na : H a = none) (os : s.os = sI.os) (ag : AllBare s.gens)
    {h3 : Heap} (fl : HandSPX.FlyingZ B (X.env :: X.outer) a (Zc cls d) h3) (up : sI.heap.UpToSlots h3) (w : Wo cls d σ H) :
    wpAny (model X.prog X.w) X.A (handleBy (.ref a) X.env []) (SP X pins D) X.xe { s with heap := h3 } := by
  obtain ⟨_, _, _, oe, vs, T, _, _, he, _, hd, h1, _⟩ := id fl
  refine wpAny_handleBy_nil (by
    unfold PySem.passOn
    refine wpAny_bind (wpAny_field he hd h1 ?_)
    rw [if_neg (by simp)]
    have out : wpAny (model X.prog X.w) X.A (setFlight (.ref a) X.env.frame) (fun _ s4 => wpAny (model X.prog X.w) X.A (throw (.ref a) : Sem Flow) (SP X pins D) X.xe s4) X.xe { s with heap := h3 } := (by
      rw [hf]
      exact HandSPX.setFlight_upZ fl fun h4 hh up4 => wpAny_throw (tk _ _ ⟨a, B, sI, pins, σ, H, cls, d, rfl, J, nb, up.trans up4, .inr (.inr (hs ▸ hh)), na, os, ag, w⟩))
    first | exact wpAny_bind (wpAny_pure (wpAny_bind out)) | exact wpAny_bind out)
theorem go_all (hs : X.stack = X.env :: X.outer) (hf : X.env.frame = some X.env.locals) (hN : X.N.Nodup) (tk : Takes X Wo) (J : Inv X pins σ H sI) (nb : ∀ b o, sI.heap.get? b = some o → b ∉ frs X.stack → B.get? b = some o) (na : H a = none) (os : s.os = sI.os) (ag : AllBare s.gens)
    {h3 : Heap} (fl : HandSPX.FlyingZ B (X.env :: X.outer) a (Zc cls d) h3) (up : sI.heap.UpToSlots h3) {hds : List ExceptHandler} {l : List (Value × Option Nat × Su)} (hk : Cls X hds l) (w : wAll X.K Wo D l cls d σ H) :
    wpAny (model X.prog X.w) X.A (handleBy (.ref a) X.env hds) (SP X pins D) X.xe { s with heap := h3 } := by
  have ok := J.ok
  have J3 : Inv X pins σ H { s with heap := h3 } := J.landed nb fl.1 up os ag
  obtain ⟨oe3, vs3, he3, hz3, hd3⟩ := fl.there
  have nfr : a ∉ frs (X.env :: X.outer) := fun hm => by
    obtain ⟨_, o', e', hnf⟩ := fl.2.2.1.mem hm
    rw [he3] at e'; cases e'
    exact hnf _ hd3
  have nL : a ≠ X.env.locals := fun z => nfr (List.mem_filterMap.mpr ⟨X.env, List.mem_cons_self, by rw [hf, z]⟩)
  have nF : a ∉ X.fs := fun hm => by
    obtain ⟨e, he, q⟩ := List.mem_filterMap.mp hm
    exact nfr (List.mem_filterMap.mpr ⟨e, List.mem_cons_of_mem _ he, q⟩)
  have S3 := J3.suite he3 hd3 na nL nF
  have LT : PySem.W.Looks (model X.prog X.w) h3 (typeOf (.ref a)) cls := fun A Q E s k q => wpAny_typeOf_ref (k _ _ he3) (by rw [hz3.1]; exact q)
  have tst : ∀ {x : Str} {c : Value} {p : Pos} {Q : Value → Shared → Prop} {E : Value → Shared → Prop}, Names X x c → Q c { s with heap := h3 } → wpAny (model X.prog X.w) (X.A.mark (some (.ref a))) (eval (.Name x p) X.env) Q E { s with heap := h3 } := fun {x c p Q E} hc q => by
    obtain ⟨hg, hdbg, hm | ⟨hm, hv, hnn⟩⟩ := hc
    · exact ld_glob (X := X.suite a ((a, oe3) :: (X.pn ++ pins))) S3 hg hm q hdbg
    · exact ld_blt (X := X.suite a ((a, oe3) :: (X.pn ++ pins))) S3 hg hm hv q hnn hdbg
  induction hk with
  | nil => exact past_all hs hf tk J nb na os ag fl up w
  | @bare x c ts b₀ su p q hs2 l2 hc sok r ih =>
    obtain ⟨b, hb1, hyes, hno⟩ := w
    have LM := PySem.W.exm_one (M := model X.prog X.w) J3.kIn LT hb1
    refine wpAny_handleBy_cons (codeAny_handlers_test (tst hc (LM.here ?_))) (by intro q; cases q)
    cases b with
    | false => exact ih (hno rfl)
    | true =>
      refine codeAny_handlers_suite (HandSPX.lands_againZ fl fun h4 fl4 up4 => ?_)
      obtain ⟨oe4, vs4, he4, hz4, hd4⟩ := fl4.there
      have S4 := (J.landed (s' := { s with heap := h4 }) nb fl4.1 (up.trans up4) os ag).suite he4 hd4 na nL nF
      refine wpAny_mono ((sok a oe4 cls d (X.pn ++ pins) hz4 ⟨_, hd4⟩).run [] _ _ H D S4 (hyes rfl a na)) (fun f s6 sp => ?_) (fun _ _ z => False.elim z)
      cases f with
      | next => obtain ⟨τ, G, S6, q6⟩ := sp; exact ⟨_, _, S6.unsuite ok, q6⟩
      | brk => obtain ⟨τ, G, S6, q6⟩ := sp; exact ⟨_, _, S6.unsuite ok, q6⟩
      | cont => obtain ⟨τ, G, S6, q6⟩ := sp; exact ⟨_, _, S6.unsuite ok, q6⟩
      | ret u => obtain ⟨v, τ, G, S6, r6, q6⟩ := sp; exact ⟨_, _, _, S6.unsuite ok, r6, q6⟩
  | @named x n i c ts b₀ su p q hs2 l2 hc hi hl sok r ih =>
    obtain ⟨b, hb1, hyes, hno⟩ := w
    have LM := PySem.W.exm_one (M := model X.prog X.w) J3.kIn LT hb1
    refine wpAny_handleBy_cons (codeAny_handlers_test (tst hc (LM.here ?_))) (by intro q; cases q)
    cases b with
    | false => exact ih (hno rfl)
    | true =>
      refine codeAny_handlers_suite_as (HandSPX.lands_againZ fl fun h4 fl4 up4 => ?_)
      obtain ⟨oe4, vs4, he4, hz4, hd4⟩ := fl4.there
      have S4 := (J.landed (s' := { s with heap := h4 }) nb fl4.1 (up.trans up4) os ag).suite he4 hd4 na nL nF
      refine store_ok (X := X.suite a ((a, oe4) :: (X.pn ++ pins))) (v := .ref a) S4 hN hi (.inl hl) rfl (fun s5 S5 => ?_) (.inr hl)
      refine wpAny_mono ((sok a oe4 cls d (X.pn ++ pins) hz4 ⟨_, hd4⟩).run [] s5 _ H (gone i D) S5 (hyes rfl a na)) (fun f s6 sp => ?_) (fun _ _ z => False.elim z)
      cases f with
      | next => obtain ⟨τ, G, S6, q6⟩ := sp; exact gone_ok (S6.unsuite ok) hN hi hl fun s7 J7 => ⟨_, _, J7, q6⟩
      | brk => obtain ⟨τ, G, S6, q6⟩ := sp; exact gone_ok (S6.unsuite ok) hN hi hl fun s7 J7 => ⟨_, _, J7, q6⟩
      | cont => obtain ⟨τ, G, S6, q6⟩ := sp; exact gone_ok (S6.unsuite ok) hN hi hl fun s7 J7 => ⟨_, _, J7, q6⟩
      | ret u => obtain ⟨v, τ, G, S6, r6, q6⟩ := sp; exact gone_ok (S6.unsuite ok) hN hi hl fun s7 J7 => ⟨_, _, _, J7, r6, q6⟩
end
section
variable {X : Cx} {body : List Stmt} {h₀ : ExceptHandler} {hds : List ExceptHandler} {l : List (Value × Option Nat × Su)} {pos : Pos} {tb : WX → TS} {Wo : WX}
theorem ps_try_all (hs : X.stack = X.env :: X.outer) (hf : X.env.frame = some X.env.locals) (hN : X.N.Nodup) (tk : Takes X Wo)
    (hb : ∀ (W : WX) (pn : List (Addr × Obj)) (xe : Value → Shared → Prop), Takes (X.tr pn xe) W → PassesOwn (model X.prog X.w) X.A X.env xe → PSs (X.tr pn xe) body (tb W))
    (hh : Cls X (h₀ :: hds) l) : PS X (.Try body (h₀ :: hds) [] [] pos) (fun D σ H => tb (wAll X.K Wo D l) D σ H) := by
  refine ⟨fun pins s σ H D I h => wpAny_Try_except ?_⟩
  have ok := I.ok
  have hfr : X.A.frames = some (X.env :: X.outer) := by rw [ok.frames, hs]
  let ct : Value → Shared → Prop := fun e s₁ => wpAny (model X.prog X.w) X.A (noteFrame e X.env) (fun _ s₂ => wpAny (model X.prog X.w) X.A (setFlight e none) (fun _ s₃ => wpAny (model X.prog X.w) X.A (handleBy e X.env (h₀ :: hds)) (SP X pins D) X.xe s₃) X.xe s₂) X.xe s₁
  have tct : Takes (X.tr (X.pn ++ pins) ct) (wAll X.K Wo D l) := fun u s' xx => by
    obtain ⟨a, B, sI, pins', σ', H', cls, d, rfl, J', nb, up, sky, na, os, ag, w⟩ := xx
    have sky' : Sky B (X.env :: X.outer) a (Zc cls d) X.env.locals s'.heap := by rw [← hs]; exact sky
    exact Sky.land Zc.steady hfr hf sky' fun h3 fl3 up3 => go_all hs hf hN tk (J'.ofTry ok) nb na os ag fl3 (up.trans up3) hh w
  refine wpAny_mono ((hb (wAll X.K Wo D l) (X.pn ++ pins) ct tct PassesOwn.looking).run [] s σ H D (I.toTry _) h) (fun f s1 sp => ?_) (fun e s1 he => he)
  cases f with
  | next => obtain ⟨σ', H', J', q⟩ := sp; exact wpAny_execs_nil ⟨σ', H', J'.ofTry ok, q⟩
  | brk => obtain ⟨σ', H', J', q⟩ := sp; exact ⟨σ', H', J'.ofTry ok, q⟩
  | cont => obtain ⟨σ', H', J', q⟩ := sp; exact ⟨σ', H', J'.ofTry ok, q⟩
  | ret u => obtain ⟨v, σ', H', J', r, q⟩ := sp; exact ⟨v, σ', H', J'.ofTry ok, r, q⟩
end
end XT
namespace MI
open PySem PySem.Spec
open PyProof.Rows L2

/-! ### repr of data, where no repr is under way -/
def vReprD (d : D) (h : MH) : R D := match pyOf h d with
  | some p => if (p.showable && !p.hasDict && small p.shown.length && decide (p.depth ≤ 60)) = true then .ok (.str p.shown) h else .bad
  | none => .bad
def rReprD (K : PySem.W.Frag) : List V → Hp → VK → Prop := fun xs H Q => ∃ x d, xs = [x] ∧ Dp K H x d ∧ d.showable = true ∧ d.hasDict = false ∧ d.shown.length ≤ sizeLine ∧ d.depth ≤ 60 ∧ Q (.str d.shown) H
section
variable {g : Gm} {W : WX} {X : Cx} {mas : MA} {e : Expr} {es : List Expr} {p pos : Pos}
theorem call_reprD (hg : X.A.guards = some []) (hu : X.A.units + 65 < cLine) : CallR X (.builtin "repr") (rReprD X.K) := by
  intro pins s σ H xs us Q I r h
  obtain ⟨x, d, rfl, hd, hs, hn, hz, hp, q⟩ := h
  obtain ⟨u, rfl, rx⟩ := vals1 r
  have big : ∀ a : Addr, u = .ref a → wpAny (model X.prog X.w) X.A (call (.builtin "repr") [u]) (EP X pins σ Q) X.xe s := fun a ea => by
    obtain ⟨as, rd⟩ := Dp.reads I d x u hd rx
    subst ea
    exact repr_of_reads' rd hs (PyData.noDict_hsm hn) hg (by omega) (fun _ _ e => e) (fun h' u tk k => ⟨.str _, H, I.kept k, ⟨_, rfl⟩, q⟩) hz
  cases hd with
  | non => cases rx; exact PySem.P.repr_of_none ⟨.str _, H, I.tok _, ⟨_, rfl⟩, q⟩
  | bl b => cases rx; exact PySem.P.repr_of_bool ⟨.str _, H, I.tok _, ⟨_, rfl⟩, q⟩
  | int i =>
    obtain ⟨t, rfl⟩ := (show ∃ t, u = Value.int i t from rx)
    exact PySem.P.repr_of_int (of_decide_eq_true hs) ⟨.str _, H, I.tok _, ⟨_, rfl⟩, q⟩
  | str z =>
    obtain ⟨t, rfl⟩ := (show ∃ t, u = Value.str z t from rx)
    exact PySem.P.repr_of_str ⟨.str _, H, I.tok _, ⟨_, rfl⟩, q⟩ hz
  | lst _ _ => exact big _ rx
  | tup _ _ => exact big _ rx
theorem reprD_o (hk : g.r.K = X.K) : Op1 g (fun x H Q => rReprD X.K [x] H Q) vReprD := by
  intro W σ φ H h x d Q rx m o
  unfold vReprD at o
  cases h1 : pyOf h d with
  | none => rw [h1] at o; exact o.elim
  | some y =>
    rw [h1] at o
    dsimp only at o
    split at o
    · rename_i hc
      simp only [Bool.and_eq_true, Bool.not_eq_true'] at hc
      exact ⟨x, y, rfl, hk ▸ (pyOf_dp m rx h1).1, hc.1.1.1, hc.1.1.2, small_line hc.1.2, of_decide_eq_true hc.2, o φ _ H Ext.refl (.str _) m⟩
    · exact o.elim
theorem b_reprD (hk : g.r.K = X.K) (hgd : X.A.guards = some []) (hu : X.A.units + 65 < cLine) (hm : X.mg "repr" = none) (ha : PA X (e :: es) (tA g W mas)) (hg : Gl X "repr" := by rfl) (he : starEach (e :: es) X.env = (false, eval e X.env) :: starEach es X.env := by rfl) (hpl : (backTo pos (starEach es X.env)).any (·.1) = false := by rfl) :
    PE X (.Call (.Name "repr" p) (e :: es) [] pos) (tE g W (mCall (vOne vReprD) mas)) := s_blt (call_reprD hgd hu) (oOne (reprD_o hk)) bt_repr hm ha hg (by decide) (by decide) he hpl
end
end MI
namespace MI
open PySem PySem.Spec
open PyProof.Rows L2

/-! ### defs where no repr is under way; defs whose code object is told -/
/-- a def's promise where no repr is under way -/
structure FnG (P : Program) (w : World) (K : PySem.W.Frag) (mg : Str → Option Value) (base : Heap) (k : Nat) (f : Addr) (fd : FuncData) (ps : List Str) (sp : Sp) : Prop where
  len : ∀ vs H Q E, sp vs H Q E → vs.length = ps.length
  run : ∀ (A : Around) (outer : List Env) (s : Shared) (H : Hp) (args : Args) (us : List Value) (vs : List V) (Q : VK) (E : XK), Room k A → A.guards = some [] → Env0 P w K mg base A outer s H → BindsTo s fd args (ps.zip us) → Vals vs us → sp vs H Q E →
    codeAny (model P w) A (.call (.ref f) args) (CR (L2.CX P w) outer P w H s Q E) s
/-- a def stands at x, its promise such -/
structure DnG (P : Program) (w : World) (K : PySem.W.Frag) (mg : Str → Option Value) (base : Heap) (g : Gm) (k : Nat) (x : Str) (dD : List D) (np : Nat) (m : FnM) : Prop where
  ex : ∃ (f : Addr) (fd : FuncData) (ps : List Str) (dvs : List V) (ds : List Value), mg x = some (.ref f) ∧ PySem.W.keepIn K (.ref f) = true ∧ Binds K fd ps ds ∧ Vals dvs ds ∧ (∀ φ H, Reps g.r φ H dvs dD) ∧ FnG P w K mg base k f fd ps (spM g np m)
section
variable {g : Gm} {W : WX} {X : Cx} {e : Expr} {es : List Expr} {p pos : Pos} {x : Str} {mas : MA} {k np : Nat} {m : FnM} {dD : List D}
theorem call_any {pins : List (Addr × Obj)} {σ : L2.St} {H : Hp} {s : Shared} {Q : VK} {f : Addr} {us : List Value} (tk : Takes X W) (I : Inv X pins σ H s)
    (c : codeAny (model X.prog X.w) X.A (.call (.ref f) ⟨us, []⟩) (CR (L2.CX X.prog X.w) X.stack X.prog X.w H s Q (fun c dx H' => W c dx σ H')) s) : wpAny (model X.prog X.w) X.A (call (.ref f) us) (EP X pins σ Q) X.xe s :=
  wpAny_call (codeAny_mono c fun r s' hq => by
    cases r with
    | error er => exact passAt tk σ pins H s er s' I hq
    | ok fl =>
      cases fl with
      | ret v => exact I.after hq
      | _ => exact False.elim hq)
theorem s_fnG (F : DnG X.prog X.w X.K X.mg X.base g k x dD np m) (tk : Takes X W) (hr : Room k X.A) (hgd : X.A.guards = some []) (ha : PA X (e :: es) (tA g W mas)) (hg : Gl X x := by rfl) (hdb : (x == ("__debug__" : Str)) = false := by decide)
    (he : starEach (e :: es) X.env = (false, eval e X.env) :: starEach es X.env := by rfl) (hpl : (backTo pos (starEach es X.env)).any (·.1) = false := by rfl) : PE X (.Call (.Name x p) (e :: es) [] pos) (tE g W (mCallD np m dD mas)) := by
  obtain ⟨f, fd, ps, dvs, ds, h1, h2, h3, h4, h5, h6⟩ := F.ex
  refine ⟨fun pins s σ H Q I t => wpAny_Call_Name_kw (ld_glob I hg h1 (PySem.W.callWith_K (h₀ := X.base) I.ok.mod.kin h2 (thn (ha.run pos pins s σ H (fun vs H1 => spM g np m (vs ++ dvs) H1 Q (fun c dx H' => W c dx σ H')) I ?_) fun us s1 hh => ?_) he hpl) hdb)⟩
  · obtain ⟨φ, ρ, h, s, mm, o⟩ := t
    refine ⟨φ, ρ, h, s, mm, Out.next o fun xs h1 φ1 vs H1 e1 r1 m1 o1 => ?_⟩
    have rr := r1.append (h5 φ1 H1)
    split at o1
    · rename_i hl
      refine ⟨by rw [rr.length]; exact hl, φ1, _, h1, rr, m1, ?_⟩
      cases hm' : m (xs ++ dD) h1 with
      | ok d h2 => rw [hm'] at o1; exact o1
      | exc x h2 => rw [hm'] at o1; exact o1
      | bad => rw [hm'] at o1; exact o1
    · exact o1.elim
  · obtain ⟨vs, H1, I1, r, q⟩ := hh
    have r2 := r.append h4
    exact ⟨I1.kIn, call_any tk I1 (h6.run X.A X.stack s1 H1 ⟨us, []⟩ (us ++ ds) (vs ++ dvs) Q _ hr hgd I1.env0 (h3 s1 us I1.kIn (by rw [← r2.length]; exact h6.len _ _ _ _ q)) r2 q)⟩
end
section
variable {g : Gm} {P : Program} {w : World} {mg : Str → Option Value} {base : Heap}
/-- what the top has left of a def, its code object at c -/
structure AtC (K : PySem.W.Frag) (mg : Str → Option Value) (x : Str) (st : Stmt) (ps : List Str) (c : Addr) : Prop where
  ex : ∃ (f : Addr) (oc : Value) (od : Option Addr) (kV doc pm : Value) (an : Option Addr) (ct : Value) (osl : Array (Option Value)), mg x = some (.ref f) ∧ K.lookup f = some ⟨oc, od, .func (PySem.W.fnOf x x (defArgs st) (defBody st) (defScope st) .none kV doc pm an (.ref c) ct), osl⟩ ∧
    PySem.W.codeIn K (.ref c) x = true ∧ PySem.W.keepIn K (.ref f) = true ∧ Binds K (PySem.W.fnOf x x (defArgs st) (defBody st) (defScope st) .none kV doc pm an (.ref c) ct) ps []
theorem atC_mk {K : PySem.W.Frag} {mg : Str → Option Value} {h : Heap} {x : Str} {st : Stmt} {ps : List Str} {f c : Addr} {oc : Value} {od an : Option Addr} {osl : Array (Option Value)} {kV doc pm ct : Value} (X : K.In h) (G : h.Ns mainGlobals mg)
    (a : PySem.W.nsIn K mainGlobals x = some (some (.ref f))) (l : K.lookup f = some ⟨oc, od, .func (PySem.W.fnOf x x (defArgs st) (defBody st) (defScope st) .none kV doc pm an (.ref c) ct), osl⟩)
    (cd : PySem.W.codeIn K (.ref c) x = true) (k : PySem.W.keepIn K (.ref f) = true)
    (b : ∀ (kV doc pm : Value) (an : Option Addr) (cdv ct : Value) (us : List Value), us.length = ps.length → bindArgs (PySem.W.fnOf x x (defArgs st) (defBody st) (defScope st) .none kV doc pm an cdv ct) ⟨us, []⟩ = pure (ps.zip us)) : AtC K mg x st ps c := by
  have F := fun_mk (st := st) l cd k
  exact ⟨f, _, _, _, _, _, _, _, _, PySem.W.mg_of X G a, l, cd, k, F.binds b⟩
theorem dnG_mk {x : Str} {st : Stmt} {N ps : List Str} {k np : Nat} {b : MS} {c : Addr} (A : AtC g.r.K mg x st ps c) (S : FnScope N ps (defScope st)) (hnp : ps.length = np)
    (hb : ∀ (f : Addr) (A : Around) (outer : List Env) (s : Shared) (H : Hp) (E : XK), Room k (A.deeper (envOfC x (defScope st) s.heap.objs.size f (.ref c))) → A.guards = some [] →
      Takes (cxOf (L2.CX P w) P w g.r.K mg base N x (defScope st) f (.ref c) A outer s H E) (fun c dx _ H' => E c dx H') →
      PassesOwn (model P w) (cxOf (L2.CX P w) P w g.r.K mg base N x (defScope st) f (.ref c) A outer s H E).A (cxOf (L2.CX P w) P w g.r.K mg base N x (defScope st) f (.ref c) A outer s H E).env (cxOf (L2.CX P w) P w g.r.K mg base N x (defScope st) f (.ref c) A outer s H E).xe →
      PSs (cxOf (L2.CX P w) P w g.r.K mg base N x (defScope st) f (.ref c) A outer s H E) (defBody st) (tS g (fun c dx _ H' => E c dx H') b)) :
    DnG P w g.r.K mg base g (k + 1) x [] np (mFn np N.length b) := by
  obtain ⟨f, oc, od, kV, doc, pm, an, ct, osl, h1, lk, hcd, kp, B⟩ := A.ex
  refine ⟨f, _, ps, [], [], h1, kp, B, .nil, fun _ _ => .nil, fun vs H Q E h => by rw [hnp]; exact h.1, fun A outer s H args us vs Q E hr hgd e0 bd rv hsp => ?_⟩
  exact LamX.run_ofS lk hcd S hr e0 bd rv (by rw [hnp]; exact hsp.1) fun hr' => ⟨_, hb f A outer s H E hr' hgd (takes_of rfl rfl rfl rfl) (passes_of rfl), fn_start hsp⟩
end
/-- guards within a def -/
theorem gd_cx {CX : CXT} {P : Program} {w : World} {K : PySem.W.Frag} {mg : Str → Option Value} {base : Heap} {N : List Str} {q : Str} {sc : Scope} {f : Addr} {cd : Value} {A : Around} {outer : List Env} {s : Shared} {H : Hp} {E : XK} (h : A.guards = some []) : (cxOf CX P w K mg base N q sc f cd A outer s H E).A.guards = some [] := h
end MI
namespace MI
open PySem PySem.Spec
open PyProof.Rows L2

/-! ### raise -/
def mRaise (c : Nat) : MS := fun ρ h => .exc ρ ⟨c, none⟩ h
def mRaiseV (c : Nat) (f : Str) (m : ME) : MS := fun ρ h => (m ρ h).toF ρ fun d h1 => .exc ρ ⟨c, some (f, d)⟩ h1
/-- the class named x, number n, is raised with a text -/
structure RsT (K : PySem.W.Frag) (ex : Nat → Value) (mg : Str → Option Value) (x : Str) (n : Nat) : Prop where
  ex : ∃ (C : Addr) (B newId initId : String) (bmB : List Value), ex n = .ref C ∧ ExcBaseFacts B newId initId bmB ∧ PySem.W.excIn K C bmB newId = true ∧ mg x = some (.ref C) ∧ PySem.W.keepIn K (.ref C) = true ∧
    PySem.W.subIn K (.ref C) (.type "BaseException") = some true ∧ PySem.W.typeIn K (.ref C) = some (.type "type")
/-- .. with what it keeps in the field f -/
structure RsV (P : Program) (K : PySem.W.Frag) (ex : Nat → Value) (mg : Str → Option Value) (x : Str) (n : Nat) (f : Str) : Prop where
  ex : ∃ (C : Addr) (B newId initId : String) (bmB : List Value), ex n = .ref C ∧ XS.Sup P K C f B newId initId bmB ∧ mg x = some (.ref C)
  sup : mg "super" = none
section
variable {g : Gm} {W : WX} {X : Cx} {x m : Str} {n j : Nat} {p p2 pos pos2 : Pos} {a : Expr} {ma : ME} {f : Str}
theorem s_raise (R : RsT X.K g.ex X.mg x n) (hc : X.calm = true) (tk : Takes X W) (hg : Gl X x := by rfl) (hdb : (x == ("__debug__" : Str)) = false := by decide) :
    PS X (.Raise (some (.Call (.Name x p) [.Constant (.str m) j p2] [] pos)) none pos2) (tS g W (mRaise n)) := by
  obtain ⟨C, B, newId, initId, bmB, e1, F, q, gC, kC, sC, tC⟩ := R.ex
  refine ps_imp (ps_raise hc tk (pmk_own F q gC kC (raises_own sC tC) hg hdb)) fun E σ H t => ?_
  obtain ⟨φ, ρ, h, s, mm, o⟩ := t
  exact o φ σ _ none H Ext.refl s ⟨e1.symm, rfl⟩ mm
theorem s_raiseV (R : RsV X.prog X.K g.ex X.mg x n f) (hc : X.calm = true) (tk : Takes X W) (hr : Room 1 X.A) (ha : PE X a (tE g W ma)) (hg : Gl X x := by rfl) (hdb : (x == ("__debug__" : Str)) = false := by decide)
    (he : starEach [a] X.env = (false, eval a X.env) :: starEach [] X.env := by rfl) (hpl : (backTo pos (starEach [] X.env)).any (·.1) = false := by rfl) :
    PS X (.Raise (some (.Call (.Name x p) [a] [] pos)) none pos2) (tS g W (mRaiseV n f ma)) := by
  obtain ⟨C, B, newId, initId, bmB, e1, S, gC⟩ := R.ex
  refine ps_imp (ps_raise hc tk (XS.pmk_sup S gC R.sup hr ha hg hdb he hpl)) fun E σ H t => ?_
  obtain ⟨φ, ρ, h, s, mm, o⟩ := t
  refine ⟨φ, ρ, h, s, mm, OutS.expr s o fun d h1 φ1 v H1 ex1 r1 m1 o1 => fun dd hd => ?_⟩
  have nd := m1.notin hd
  have e2 : Ext φ1 H1 φ1 (upd H1 dd (.xd [(f, v)])) := Ext.new hd nd
  exact o1 φ1 σ _ _ _ e2 ((s.ext ex1).ext e2) ⟨e1.symm, dd, v, rfl, upd_same, nd, r1.ext e2⟩ (m1.new hd)
end

/-! ### try: clauses that hand back a value -/
structure Cl where
  c : Nat
  o : Option Nat
  fn : Exc → MH → R D
def tryC (sub : Nat → Nat → Option Bool) : List Cl → Env1 → Exc → MH → F
  | [], ρ, e, h => .exc ρ e h
  | k :: r, ρ, e, h => match sub e.cls k.c with
    | some true => (match k.fn e h with
      | .ok d h1 => .rt d h1
      | _ => .bad)
    | some false => tryC sub r ρ e h
    | none => .bad
def mTry (sub : Nat → Nat → Option Bool) (b : MS) (cl : List Cl) : MS := fun ρ h => match b ρ h with
  | .exc ρ1 e h1 => tryC sub cl ρ1 e h1
  | r => r
/-- a suite as told -/
def suM (g : Gm) (o : Option Nat) (fn : Exc → MH → R D) : XT.Su := fun a cls d D σ H => ∃ φ h e, Hok g φ H h ∧ ExRep g φ H cls d e ∧ (∀ i, o = some i → i < σ.length → σ[i]? = some (some (.ref a))) ∧ Out g W0 [] φ H (Rep g.r) (fun v H' => D.rt v H') (fn e h)
def clV (g : Gm) (k : Cl) : Value × Option Nat × XT.Su := (g.ex k.c, k.o, suM g k.o k.fn)
/-- what the classes are to one another -/
def SubOk (K : PySem.W.Frag) (ex : Nat → Value) (sub : Nat → Nat → Option Bool) : Prop := ∀ e c b, sub e c = some b → PySem.W.exmOne K (ex e) (ex c) = some b
section
variable {g : Gm} {W : WX} {X : Cx} {sub : Nat → Nat → Option Bool}
theorem ExRep.ext {φ φ' : Ph} {H H' : Hp} {c : Value} {dx : Option Addr} {e : Exc} (x : Ext φ H φ' H') (r : ExRep g φ H c dx e) : ExRep g φ' H' c dx e := by
  obtain ⟨ec, r⟩ := r
  refine ⟨ec, ?_⟩
  cases hk : e.kept with
  | none => rw [hk] at r; exact r
  | some fd =>
    obtain ⟨f, d⟩ := fd
    rw [hk] at r
    obtain ⟨a, v, ea, q, n, rv⟩ := r
    obtain ⟨q', n'⟩ := x.tr.keep _ _ q n (.inl trivial)
    exact ⟨a, v, ea, q', n', rv.ext x⟩
theorem try_wish (hs : SubOk g.r.K g.ex sub) {D : Ends} {φ : Ph} {σ : L2.St} {H : Hp} {ρ : Env1} {c : Value} {dx : Option Addr} {e : Exc} {h : MH} (s : Slots g.r φ H σ ρ) (m : Hok g φ H h) (xr : ExRep g φ H c dx e) : ∀ cl : List Cl, OutS g W φ H D (tryC sub cl ρ e h) → XT.wAll g.r.K W D (cl.map (clV g)) c dx σ H
  | [], o => o φ σ c dx H Ext.refl s xr m
  | k :: r, o => by
    have o' : OutS g W φ H D (match sub e.cls k.c with
      | some true => (match k.fn e h with
        | .ok d h1 => .rt d h1
        | _ => .bad)
      | some false => tryC sub r ρ e h
      | none => .bad) := o
    cases hb : sub e.cls k.c with
    | none => rw [hb] at o'; exact o'.elim
    | some b =>
      rw [hb] at o'
      refine ⟨b, by rw [xr.1]; exact hs _ _ _ hb, fun et a na => ?_, fun ef => ?_⟩
      · subst et
        dsimp only at o'
        have out : ∀ D' : Ends, D'.rt = D.rt → Out g W0 [] φ H (Rep g.r) (fun v H' => D'.rt v H') (k.fn e h) := fun D' eD => by
          cases hf : k.fn e h with
          | ok d h1 => rw [hf] at o'; rw [eD]; exact o'
          | exc _ _ => rw [hf] at o'; exact o'.elim
          | bad => rw [hf] at o'; exact o'.elim
        cases ho : k.o with
        | none =>
          show suM g none k.fn a c dx D σ H
          exact ⟨φ, h, e, m, xr, fun i ei => (by cases ei), out D rfl⟩
        | some i =>
          show suM g (some i) k.fn a c dx (XT.gone i D) (σ.set i (some (.ref a))) H
          refine ⟨φ, h, e, m, xr, fun i' ei hl => ?_, out (XT.gone i D) rfl⟩
          cases ei
          exact List.getElem?_set_self (by simpa using hl)
      · subst ef
        exact try_wish hs s m xr r o'
theorem s_try {body : List Stmt} {h₀ : ExceptHandler} {hds : List ExceptHandler} {cl : List Cl} {pos : Pos} {mb : MS} (hk : g.r.K = X.K) (hs : SubOk X.K g.ex sub) (hN : X.N.Nodup) (tk : Takes X W)
    (hb : ∀ (W : WX) (pn : List (Addr × Obj)) (xe : Value → Shared → Prop), Takes (X.tr pn xe) W → PassesOwn (model X.prog X.w) X.A X.env xe → PSs (X.tr pn xe) body (tS g W mb)) (hh : XT.Cls X (h₀ :: hds) (cl.map (clV g)))
    (hst : X.stack = X.env :: X.outer := by rfl) (hf : X.env.frame = some X.env.locals := by rfl) : PS X (.Try body (h₀ :: hds) [] [] pos) (tS g W (mTry sub mb cl)) := ps_imp (XT.ps_try_all (tb := fun W => tS g W mb) hst hf hN tk hb hh) fun E σ H t => by
  obtain ⟨φ, ρ, h, s, m, o⟩ := t
  refine ⟨φ, ρ, h, s, m, ?_⟩
  unfold mTry at o
  cases hr : mb ρ h with
  | exc ρ1 e h1 =>
    rw [hr] at o
    intro φ' σ' c dx H' x s1 xr m1
    rw [← hk]
    exact try_wish (hk ▸ hs) s1 m1 xr cl (OutS.base x o)
  | nx ρ1 h1 => rw [hr] at o; exact o
  | rt d h1 => rw [hr] at o; exact o
  | bk d h1 => rw [hr] at o; exact o
  | ct d h1 => rw [hr] at o; exact o
  | bad => rw [hr] at o; exact o
end

/-! ### suites -/
def fnC (d : D) : Exc → MH → R D := fun _ h => .ok d h
/-- what is kept in f by an exception of the class c -/
def keptF (c : Nat) (f : Str) (e : Exc) (h : MH) : R D := match e.kept with
  | some (f', d) => if (decide (e.cls = c) && decide (f' = f)) = true then .ok d h else .bad
  | none => .bad
/-- return "z" + repr(e.f) -/
def fnR (z : Str) (c : Nat) (f : Str) : Exc → MH → R D := fun e h => (keptF c f e h).bind fun d h1 => (vReprD d h1).bind fun y h2 => vCatS (.str z) y h2
/-- return repr(e.f) -/
def fnP (c : Nat) (f : Str) : Exc → MH → R D := fun e h => (keptF c f e h).bind fun d h1 => vReprD d h1
/-- return ("z", e.f) -/
def fnT (z : Str) (c : Nat) (f : Str) : Exc → MH → R D := fun e h => (keptF c f e h).bind fun d h1 => .ok (.tup [.str z, d]) h1
/-- what of the class is asked where a field is read -/
structure XfT (K : PySem.W.Frag) (ex : Nat → Value) (c : Nat) (f : Str) : Prop where
  ex : ∃ C, ex c = .ref C ∧ XfC K C ∧ PySem.W.findIn K (.ref C) f = some none
section
variable {g : Gm} {X : Cx} {o : Option Nat} {p q p2 p3 p4 : Pos} {j : Nat} {z : Str}
theorem su_str : XT.SuOk X [.Return (some (.Constant (.str z) j p)) q] (suM g o (fnC (.str z))) := fun a oe cls d pn hz hf => ⟨fun pins s σ H E I t => (pss_one (ps_ret pe_str)).run pins s σ H E I (by
  obtain ⟨φ, h, e, m, xr, hi, oo⟩ := t
  exact oo φ _ H Ext.refl (.str _) m)⟩
theorem su_bl {b : Bool} : XT.SuOk X [.Return (some (.Constant (.bool b) j p)) q] (suM g o (fnC (.bl b))) := fun a oe cls d pn hz hf => ⟨fun pins s σ H E I t => (pss_one (ps_ret pe_bl)).run pins s σ H E I (by
  obtain ⟨φ, h, e, m, xr, hi, oo⟩ := t
  exact oo φ _ H Ext.refl (.bl _) m)⟩
theorem su_non : XT.SuOk X [.Return (some (.Constant .none j p)) q] (suM g o (fnC .non)) := fun a oe cls d pn hz hf => ⟨fun pins s σ H E I t => (pss_one (ps_ret pe_non)).run pins s σ H E I (by
  obtain ⟨φ, h, e, m, xr, hi, oo⟩ := t
  exact oo φ _ H Ext.refl .non m)⟩
/-- e.f in a suite -/
theorem kept_at {c : Nat} {f : Str} {e : Exc} {φ : Ph} {H : Hp} {h : MH} {cls : Value} {dx : Option Addr} {C : Addr} {σ : L2.St} {W : WX} {β : Type} {rel : Ph → Hp → β → D → Prop} {QQ : β → Hp → Prop} {k : D → MH → R D} (eC : g.ex c = .ref C) (xr : ExRep g φ H cls dx e) (oo : Out g W σ φ H rel QQ ((keptF c f e h).bind k)) :
    ∃ dd v d, cls = .ref C ∧ dx = some dd ∧ H dd = some (.xd [(f, v)]) ∧ Rep g.r φ H v d ∧ Out g W σ φ H rel QQ (k d h) := by
  obtain ⟨ec, xr⟩ := xr
  unfold keptF at oo
  cases hk : e.kept with
  | none => rw [hk] at oo; exact oo.elim
  | some fd =>
    obtain ⟨f', d⟩ := fd
    rw [hk] at oo xr
    dsimp only at oo xr
    split at oo
    · rename_i hc
      rw [Bool.and_eq_true] at hc
      have e1 := of_decide_eq_true hc.1
      have e2 := of_decide_eq_true hc.2
      subst e2
      obtain ⟨a, v, ea, hq, n, rv⟩ := xr
      exact ⟨a, v, d, by rw [ec, e1, eC], ea, hq, rv, oo⟩
    · exact oo.elim
theorem look_one {f : Str} {v : V} : List.lookup f [(f, v)] = some v := by simp [List.lookup]
section
variable {c i : Nat} {f n : Str}
variable {q1 q2 q3 : Pos} {kt : Nat}
theorem su_rep (T : XfT X.K g.ex c f) (hk : g.r.K = X.K) (hgd : X.A.guards = some []) (hu : X.A.units + 65 < cLine) (hm : X.mg "repr" = none) (hi : X.N[i]? = some n := by rfl) (hv : Vis X.env.scope n := by first | exact Or.inl rfl | exact Or.inr (Or.inl rfl)) (hg : Gl X "repr" := by rfl)
    (hd : (n == ("__debug__" : Str)) = false := by decide) (hcd : (n == ("__classdict__" : Str)) = false := by decide) :
    XT.SuOk X [.Return (some (.BinOp (.Constant (.str z) j p) .Add (.Call (.Name "repr" p2) [.Attribute (.Name n p3) f p4] [] q1) q2)) q] (suM g (some i) (fnR z c f)) := fun a oe cls d pn hz hf => ⟨fun pins s σ H E I t => by
  obtain ⟨C, eC, xc, hno⟩ := T.ex
  refine (pss_one (ps_ret (pe_op op_add_str pe_str (pe_callB (call_reprD (X := X.suite a ((a, oe) :: pn)) hgd hu) hg hm bt_repr (pa_cons (pe_xf xc hno hz hf (pe_var hi hv hd hcd) (by rfl)) pa_nil (by rfl)))))).run pins s σ H E I ?_
  obtain ⟨φ, h, e, m, xr, hsl, oo⟩ := t
  obtain ⟨dd, v, dv, e1, e2, hq, rv, oo⟩ := kept_at eC xr oo
  refine ⟨.ref a, hsl i rfl (by rw [I.len]; exact (List.getElem?_eq_some_iff.mp hi).1), rfl, e1, dd, [(f, v)], v, e2, hq, look_one, ?_⟩
  have rr : rReprD X.K [v] H (fun y H2 => ∃ i j, V.str z = V.str i ∧ y = V.str j ∧ i.length + j.length ≤ sizeLine ∧ E.rt (V.str (i ++ j)) H2) := reprD_o hk rv m (Out.next (rel' := Rep g.r) oo fun y h2 φ2 u H2 x2 r2 m2 o2 => o_catS (.str z) r2 m2 o2)
  exact rr⟩
theorem su_rp (T : XfT X.K g.ex c f) (hk : g.r.K = X.K) (hgd : X.A.guards = some []) (hu : X.A.units + 65 < cLine) (hm : X.mg "repr" = none) (hi : X.N[i]? = some n := by rfl) (hv : Vis X.env.scope n := by first | exact Or.inl rfl | exact Or.inr (Or.inl rfl)) (hg : Gl X "repr" := by rfl)
    (hd : (n == ("__debug__" : Str)) = false := by decide) (hcd : (n == ("__classdict__" : Str)) = false := by decide) :
    XT.SuOk X [.Return (some (.Call (.Name "repr" p2) [.Attribute (.Name n p3) f p4] [] q1)) q] (suM g (some i) (fnP c f)) := fun a oe cls d pn hz hf => ⟨fun pins s σ H E I t => by
  obtain ⟨C, eC, xc, hno⟩ := T.ex
  refine (pss_one (ps_ret (pe_callB (call_reprD (X := X.suite a ((a, oe) :: pn)) hgd hu) hg hm bt_repr (pa_cons (pe_xf xc hno hz hf (pe_var hi hv hd hcd) (by rfl)) pa_nil (by rfl))))).run pins s σ H E I ?_
  obtain ⟨φ, h, e, m, xr, hsl, oo⟩ := t
  obtain ⟨dd, v, dv, e1, e2, hq, rv, oo⟩ := kept_at eC xr oo
  exact ⟨.ref a, hsl i rfl (by rw [I.len]; exact (List.getElem?_eq_some_iff.mp hi).1), rfl, e1, dd, [(f, v)], v, e2, hq, look_one, reprD_o hk rv m oo⟩⟩
theorem su_fld (T : XfT X.K g.ex c f) (hi : X.N[i]? = some n := by rfl) (hv : Vis X.env.scope n := by first | exact Or.inl rfl | exact Or.inr (Or.inl rfl))
    (hd : (n == ("__debug__" : Str)) = false := by decide) (hcd : (n == ("__classdict__" : Str)) = false := by decide) :
    XT.SuOk X [.Return (some (.Attribute (.Name n p3) f p4)) q] (suM g (some i) (keptF c f)) := fun a oe cls d pn hz hf => ⟨fun pins s σ H E I t => by
  obtain ⟨C, eC, xc, hno⟩ := T.ex
  refine (pss_one (ps_ret (pe_xf xc hno hz hf (pe_var hi hv hd hcd) (by rfl)))).run pins s σ H E I ?_
  obtain ⟨φ, h, e, m, xr, hsl, oo⟩ := t
  have oo : Out g W0 [] φ H (Rep g.r) (fun v H' => E.rt v H') ((keptF c f e h).bind fun d h1 => .ok d h1) := by
    cases hq : keptF c f e h with
    | ok d h1 => rw [hq] at oo; exact oo
    | exc _ _ => rw [hq] at oo; exact oo
    | bad => rw [hq] at oo; exact oo
  obtain ⟨dd, v, dv, e1, e2, hq, rv, oo⟩ := kept_at eC xr oo
  exact ⟨.ref a, hsl i rfl (by rw [I.len]; exact (List.getElem?_eq_some_iff.mp hi).1), rfl, e1, dd, [(f, v)], v, e2, hq, look_one, oo φ v H Ext.refl rv m⟩⟩
theorem su_tup (T : XfT X.K g.ex c f) (hi : X.N[i]? = some n := by rfl) (hv : Vis X.env.scope n := by first | exact Or.inl rfl | exact Or.inr (Or.inl rfl))
    (hd : (n == ("__debug__" : Str)) = false := by decide) (hcd : (n == ("__classdict__" : Str)) = false := by decide) :
    XT.SuOk X [.Return (some (.Tuple [.Constant (.str z) j p, .Attribute (.Name n p3) f p4] kt q1)) q] (suM g (some i) (fnT z c f)) := fun a oe cls d pn hz hf => ⟨fun pins s σ H E I t => by
  obtain ⟨C, eC, xc, hno⟩ := T.ex
  refine (pss_one (ps_ret (pe_tup (pa_cons pe_str (pa_cons (pe_xf xc hno hz hf (pe_var hi hv hd hcd) (by rfl)) pa_nil (by rfl)) (by rfl))))).run pins s σ H E I ?_
  obtain ⟨φ, h, e, m, xr, hsl, oo⟩ := t
  obtain ⟨dd, v, dv, e1, e2, hq, rv, oo⟩ := kept_at eC xr oo
  refine ⟨.ref a, hsl i rfl (by rw [I.len]; exact (List.getElem?_eq_some_iff.mp hi).1), rfl, e1, dd, [(f, v)], v, e2, hq, look_one, by rw [sizeLine_eq]; show 2 ≤ _; omega, fun l hl => ?_⟩
  exact new_tup m hl (.cons (.str z) (.cons rv .nil)) oo⟩
end
end

/-! ### a def that calls what it got: try: a() / except ..: return .. / rest -/
abbrev FnL := (MH → R D) → MH → R D
def endL : F → R D
  | .rt d h => .ok d h
  | .nx _ h => .ok .non h
  | _ => .bad
def mWord (sub : Nat → Nat → Option Bool) (cl : List Cl) (n : Nat) (rest : MS) : FnL := fun call h => match call h with
  | .ok _ h1 => endL (rest (List.replicate n none) h1)
  | .exc e h1 => endL (tryC sub cl (List.replicate n none) e h1)
  | .bad => .bad
/-- what is told of the lambda, and of the def's end -/
def TTw (g : Gm) (m : FnL) : (XK → Hp → VK → Prop) → Hp → VK → Prop := fun tl H Q => ∃ (call : MH → R D) (φ : Ph) (h : MH), Hok g φ H h ∧
  (∀ φ' H' h' E Q', Tr φ H φ' H' → Hok g φ' H' h' → Out g (fun c dx _ H' => E c dx H') [] φ' H' (Rep g.r) Q' (call h') → tl E H' Q') ∧ Out g W0 [] φ H (Rep g.r) Q (m call h)
section
variable {g : Gm} {X : Cx}
theorem slots_none {φ : Ph} {H : Hp} (σ : L2.St) : Slots g.r φ H σ (List.replicate σ.length none) := ⟨by simp, fun i d e => by
  have := List.getElem?_eq_some_iff.mp e
  obtain ⟨_, z⟩ := this
  simp at z⟩
theorem tryC_len {sub : Nat → Nat → Option Bool} {e : Exc} {h : MH} (n k : Nat) : ∀ cl : List Cl, endL (tryC sub cl (List.replicate n none) e h) = endL (tryC sub cl (List.replicate k none) e h)
  | [] => rfl
  | c :: r => by
    unfold tryC
    split
    · rfl
    · exact tryC_len n k r
    · rfl
theorem tryC_ends {sub : Nat → Nat → Option Bool} {ρ : Env1} {e : Exc} {h : MH} : ∀ cl : List Cl, (∃ d h2, tryC sub cl ρ e h = .rt d h2) ∨ (∃ ρ2 e2 h2, tryC sub cl ρ e h = .exc ρ2 e2 h2) ∨ tryC sub cl ρ e h = .bad
  | [] => .inr (.inl ⟨_, _, _, rfl⟩)
  | c :: r => by
    unfold tryC
    split
    · split
      · exact .inl ⟨_, _, rfl⟩
      · exact .inr (.inr rfl)
    · exact tryC_ends r
    · exact .inr (.inr rfl)
theorem word_gives {sub : Nat → Nat → Option Bool} {cl : List Cl} {Ng : List Str} {x a q : Str} {sg : Scope} {f0 : Addr} {cdg : Value} {p1 p2 p3 p4 : Pos} {h₀ : ExceptHandler} {hds : List ExceptHandler} {rest : List Stmt} {mr : MS} (hk : g.r.K = X.K) (hs : SubOk X.K g.ex sub) (hN : Ng.Nodup) (hN0 : 1 ≤ Ng.length)
    (hcl : ∀ (s : Shared) (H : Hp), XT.Cls (cxOf C8.CX0 X.prog X.w X.K X.mg X.base Ng x sg f0 cdg X.A X.stack s H C8.E0).nox (h₀ :: hds) (cl.map (clV g)))
    (hre : ∀ (s : Shared) (H : Hp), PSs (cxOf C8.CX0 X.prog X.w X.K X.mg X.base Ng x sg f0 cdg X.A X.stack s H C8.E0).nox rest (tS g W0 mr)) :
    LamX.GivesTo X Ng x sg f0 cdg (.Try [.Expr (.Call (.Name a p1) [] [] p2) p3] (h₀ :: hds) [] [] p4 :: rest) a q (TTw g (mWord sub cl Ng.length mr)) := by
  intro f c' s H Q tl act hc h
  obtain ⟨call, φ, hh, m, hc2, o⟩ := h
  let E : Ends := { nx := fun _ H' => Q .non H', rt := Q }
  let D' : Ends := { E with nx := fun σ' H' => tS g W0 mr E σ' H' }
  have l0 : (L2.start Ng [V.ref f]).length = Ng.length := by
    simp [L2.start]
    omega
  have h0 : (L2.start Ng [V.ref f])[0]? = some (some (V.ref f)) := rfl
  refine ⟨_, pss_cons (XT.ps_try_all (X := (cxOf C8.CX0 X.prog X.w X.K X.mg X.base Ng x sg f0 cdg X.A X.stack s H C8.E0).nox) (tb := fun W D σ H' => ∃ Ech : XK, (∀ cls d σ' H2, Ech cls d H2 → W cls d σ' H2) ∧ σ[0]? = some (some (.ref f)) ∧ H' c' = some (LamX.CodeO c' q) ∧ tl Ech H' (fun _ H2 => D.nx σ H2))
      rfl rfl hN takes0 (fun W pn xe tk _ => ⟨fun pins s' σ H' D I h' => ?_⟩) (hcl s H)) (hre s H), ?_⟩
  · obtain ⟨Ech, hW, h1, h2, h3⟩ := h'
    have hp := act W pn xe Ech p1 p2 tk hW
    exact (pss_one (ps_expr (pos := p3) hp)).run pins s' σ H' D I ⟨h1, h2, h3⟩
  · show ∃ Ech : XK, (∀ cls d σ' H2, Ech cls d H2 → XT.wAll X.K W0 D' (cl.map (clV g)) cls d σ' H2) ∧ _
    refine ⟨fun cls d H2 => ∀ σ', XT.wAll X.K W0 D' (cl.map (clV g)) cls d σ' H2, fun cls d σ' H2 z => z σ', h0, hc, hc2 φ H hh _ _ Tr.refl m ?_⟩
    unfold mWord at o
    cases hr : call hh with
    | bad => rw [hr] at o; exact o.elim
    | ok d h1 =>
      rw [hr] at o
      intro φ' v H' e1 r1 m1
      have o1 := Out.base e1 (show Out g W0 [] φ H (Rep g.r) Q (endL (mr (List.replicate Ng.length none) h1)) from o)
      refine ⟨φ', List.replicate Ng.length none, h1, by rw [← l0]; exact slots_none _, m1, ?_⟩
      cases hm : mr (List.replicate Ng.length none) h1 with
      | nx ρ2 h2 => rw [hm] at o1; exact fun φ2 σ2 H2 e2 s2 m2 => o1 φ2 .non H2 e2 .non m2
      | rt d2 h2 => rw [hm] at o1; exact o1
      | bk ρ2 h2 => rw [hm] at o1; exact o1.elim
      | ct ρ2 h2 => rw [hm] at o1; exact o1.elim
      | exc ρ2 x2 h2 => rw [hm] at o1; exact o1.elim
      | bad => rw [hm] at o1; exact o1.elim
    | exc e h1 =>
      rw [hr] at o
      intro φ' c dx H' e1 xr m1 σ'
      have o1 := Out.base e1 (show Out g W0 [] φ H (Rep g.r) Q (endL (tryC sub cl (List.replicate Ng.length none) e h1)) from o)
      rw [tryC_len Ng.length σ'.length cl] at o1
      rw [← hk]
      refine try_wish (hk ▸ hs) (slots_none σ') m1 xr cl ?_
      rcases tryC_ends (sub := sub) (ρ := List.replicate σ'.length none) (e := e) (h := h1) cl with ⟨d2, h2, z⟩ | ⟨ρ2, e2, h2, z⟩ | z <;> rw [z] at o1 ⊢
      · exact o1
      · exact o1.elim
      · exact o1.elim
end
end MI
namespace MI
open PySem PySem.Spec
open PyProof.Rows L2

/-! ### x(lambda: e) -/
def mLam (m : FnL) (me : ME) : ME := fun ρ h => noEx (m (fun h' => me ρ h') h)
theorem Slots.tr {r : Rm} {φ φ' : Ph} {H H' : Hp} {σ : L2.St} {ρ : List (Option D)} (e : Tr φ H φ' H') (s : Slots r φ H σ ρ) : Slots r φ' H' σ ρ :=
  ⟨s.1, fun i d q => let ⟨v, a, b⟩ := s.2 i d q; ⟨v, a, b.tr e⟩⟩
theorem not_tbl {o : HO} (h : Stl o) : ∀ ps, o ≠ .tbl ps := fun ps z => by
  subst z
  rcases h with h | ⟨c, q, e⟩
  · exact h
  · unfold LamX.CodeO at e; cases e
theorem Hok.ofN {g : Gm} {φ : Ph} {H H1 : Hp} {h : MH} (m : Hok g φ H h) (e : LamX.ExtN H H1) (tb : LamX.Tabs g.T H1) : Ext φ H φ H1 ∧ Hok g φ H1 h := by
  have kd : ∀ a u, Rd H a u → Dc u → Rd H1 a u := fun a u r d => by
    rcases r with r | ⟨o, r⟩
    · exact .inl (e _ _ r fun ps z => by subst z; exact d)
    · exact .inr ⟨o, e _ _ r fun ps z => by cases z⟩
  have t : Tr φ H φ H1 := ⟨fun a o q n s => ⟨e a o q (not_tbl s), n⟩, fun a u q n d => ⟨kd a u q d, n⟩, fun a C dx vs i n n' => by
    refine ⟨vs, ?_, Gr.refl, n, n'⟩
    obtain ⟨ne, i⟩ := i
    refine ⟨ne, ?_⟩
    rcases i with ⟨i1, i2, i3⟩ | ⟨i1, i2⟩
    · exact .inl ⟨e _ _ i1 fun ps z => (by cases z), e _ _ i2 fun ps z => (by cases z), i3⟩
    · exact .inr ⟨e _ _ i1 fun ps z => (by unfold SlX.SlO at z; cases z), e _ _ i2 fun ps z => (by cases z)⟩, fun _ _ q => q, fun _ _ q => q⟩
  refine ⟨⟨t, ⟨[], by simp⟩, fun _ h => h, fun a ha => ?_⟩, ⟨m.nd, m.len, fun a ha => ?_, fun n a ds e1 e2 => ?_, fun n a ds e1 e2 => ?_, tb, g.ivm _ _ _ _ t m.iv⟩⟩
  · obtain ⟨_, o, q, pl⟩ := m.gs a ha
    rw [q]
    exact e _ _ q pl.1
  · obtain ⟨n, o, q, pl⟩ := m.gs a ha
    exact ⟨n, o, e _ _ q pl.1, pl⟩
  · obtain ⟨xs, q, r⟩ := m.at_ n a ds e1 e2
    exact ⟨xs, e _ _ q fun ps z => (by cases z), r.tr t⟩
  · obtain ⟨ks, vs, u, r, q⟩ := m.atD n a ds e1 e2
    refine ⟨ks, vs, u, r.tr t, ?_⟩
    rcases q with ⟨q1, q2⟩ | ⟨q1, o, q2⟩
    · exact .inl ⟨q1, e _ _ q2 r.pl.1⟩
    · exact .inr ⟨q1, o, e _ _ q2 fun ps z => (by cases z)⟩
/-- the table at P is the code object's of the lambdas q -/
structure LmT (g : Gm) (P : Addr) (q : Str) : Prop where
  mem : (P, q) ∈ g.T
  un : ∀ p ∈ g.T, p.1 = P → p.2 = q
section
variable {g : Gm} {W : WX} {X : Cx} {st : Stmt} {Ng : List Str} {x a : Str} {c P : Addr} {k : Nat} {params : Arguments} {body : Expr} {scope : Scope} {p lpos pos : Pos} {m : FnL} {me : ME}
theorem s_lam (A : At X.K X.mg x st [a]) (Sg : FnScope Ng [a] (defScope st)) (hN0 : Ng[0]? = some a) (hva : Vis (defScope st) a) (hG : ∀ (f : Addr) (cdv : Value), LamX.GivesTo X Ng x (defScope st) f cdv (defBody st) a (X.env.qual ++ "<lambda>") (TTw g m))
    (TB : LamX.TabB X.base X.mg c P) (hcode : X.env.code = .ref c) (hT : LmT g P (X.env.qual ++ "<lambda>")) (hr : Room (k + 2) X.A) (L : LamX.LamS X.env.scope scope)
    (hbody : ∀ (A : Around) (outer : List Env) (s : Shared) (H : Hp) (E : XK) (f c' : Addr), Room k (A.deeper (LamX.lamEnv X scope s.heap.objs.size f c')) → PE (LamX.lamCx X A outer s H E scope f c') body (tE g (fun c dx _ H' => E c dx H') me))
    (hdef : defaultsOf params X.env = ([], []) := by rfl) (hbind : ∀ (q : Str) (cl : List (Str × Addr)) (pm cv ctv : Value), bindArgs (PySem.W.kla_fn "<lambda>" q params body scope cl pm cv ctv) ⟨[], []⟩ = pure [] := by exact fun _ _ _ _ _ => rfl)
    (hg : Gl X x := by rfl) (hdb : (x == ("__debug__" : Str)) = false := by decide) (hd : (a == ("__debug__" : Str)) = false := by decide) (hcd : (a == ("__classdict__" : Str)) = false := by decide) :
    PE X (.Call (.Name x p) [.Lambda params body scope lpos] [] pos) (tE g W (mLam m me)) := by
  obtain ⟨f, fd, hm, F, B⟩ := A.ex
  obtain ⟨oc, od, kV, doc, pm, an, cdv, ct, osl, rfl, lk, hcg⟩ := F.ex
  refine pe_imp (LamX.pe_lamcall (T := g.T) (TT := TTw g m) (t := fun E => tE g (fun c dx _ H' => E c dx H') me) hg hm F.kp lk hcg B Sg hN0 hva (hG f cdv) TB hcode hT.mem hT.un hr L hdef hbind hbody hdb hd hcd) fun σ H Q t => ?_
  obtain ⟨φ, ρ, h, s, mm, o⟩ := t
  refine ⟨mm.tb, fun H1 eN T1 => ?_⟩
  obtain ⟨e1, m1⟩ := mm.ofN eN T1
  refine ⟨fun h' => me ρ h', φ, h, m1, fun φ' H' h' E Q' t' m' o' => ⟨φ', ρ, h', (s.ext e1).tr t', m', o'⟩, ?_⟩
  have o1 := Out.base e1 o
  unfold mLam at o1
  cases hr : m (fun h' => me ρ h') h with
  | ok d h2 => rw [hr] at o1; exact o1
  | exc _ _ => rw [hr] at o1; exact o1.elim
  | bad => rw [hr] at o1; exact o1.elim
end
end MI
namespace MI
open PySem PySem.Spec
open PyProof.Rows L2

/-! ### the end: the law's own function is True at every script -/
abbrev tblO : Obj := { cls := .none, data := .fields #[] }
abbrev scrO (vs : List Value) : Obj := { cls := .type "list", data := .seq vs.toArray }
/-- what is tracked at the start: the tables, the script (if it is none of the text's own) -/
def H0 (K : PySem.W.Frag) (T : List Addr) (a : Addr) (vs : List Value) (ns : List Int) : Hp := fun b => if b ∈ T then some (.tbl #[]) else if b = a ∧ K.lookup a = none then some (.frz (scrO vs) (.lst (ns.map V.int))) else none
section
variable {P : Program} {w : World} {K : PySem.W.Frag} {mg mb : Str → Option Value} {k : Nat} {fa a : Addr} {cs : List (Addr × Addr)} {fd : FuncData} {x : Str} {sp : Sp} {s₁ : Shared} {vs : List Value} {ns : List Int} {T : List Addr} {h : Heap}
theorem H0_tbl {b : Addr} (hb : b ∈ T) : H0 K T a vs ns b = some (.tbl #[]) := if_pos hb
theorem H0_inv {b : Addr} {u : HO} (e : H0 K T a vs ns b = some u) : (b ∈ T ∧ u = .tbl #[]) ∨ (b ∉ T ∧ b = a ∧ K.lookup a = none ∧ u = .frz (scrO vs) (.lst (ns.map V.int))) := by
  unfold H0 at e
  split at e
  · rename_i hb; cases e; exact .inl ⟨hb, rfl⟩
  · rename_i hb
    split at e
    · rename_i hc; cases e; exact .inr ⟨hb, hc.1, hc.2, rfl⟩
    · cases e
theorem H0_free {b : Addr} {o : Obj} (hT : ∀ b ∈ T, h.get? b = some tblO) (ha : h.get? a = some (scrO vs)) (e : h.get? b = some o) (n1 : o ≠ tblO) (n2 : o ≠ scrO vs) : H0 K T a vs ns b = none := by
  cases q : H0 K T a vs ns b with
  | none => rfl
  | some u =>
    rcases H0_inv q with ⟨hb, _⟩ | ⟨_, hb, _⟩
    · rw [hT b hb] at e; exact absurd (Option.some.inj e).symm n1
    · rw [hb, ha] at e; exact absurd (Option.some.inj e).symm n2
theorem dict_free {b : Addr} {o : Obj} {es : Array DictEntry} {ep : Nat} (hT : ∀ b ∈ T, h.get? b = some tblO) (ha : h.get? a = some (scrO vs)) (e : h.get? b = some o) (d : o.data = .dict es ep) : H0 K T a vs ns b = none :=
  H0_free hT ha e (fun z => by rw [z] at d; cases d) (fun z => by rw [z] at d; cases d)
theorem ns_hid {L : Addr} {m : Str → Option Value} (hT : ∀ b ∈ T, h.get? b = some tblO) (ha : h.get? a = some (scrO vs)) (n : h.Ns L m) : (hidT h (H0 K T a vs ns)).Ns L m := by
  obtain ⟨o, es, ep, e, d, r⟩ := n
  exact ⟨o, es, ep, hidT_get e (dict_free hT ha e d), d, r⟩
theorem law_run (KX : K.In s₁.heap) (hns : s₁.heap.Ns mainGlobals mg) (hb : s₁.heap.Ns builtinsNs mb) (hbb : ∀ x : Str, x ≠ "__name__" → mb x = bootBuiltins x) (hlim : s₁.heap.NoLimit) (hg : s₁.gens = #[])
    (hT : ∀ p ∈ cs, s₁.heap.get? p.2 = some tblO) (nT : ∀ p ∈ cs, K.lookup p.2 = none) (hC : ∀ p ∈ cs, PySem.W.CodeHd s₁.heap p.1 p.2)
    (hbm : ∃ (bm : Addr) (ob : Obj), mg "__builtins__" = some (.ref bm) ∧ bm ≠ builtinsNs ∧ s₁.heap.get? bm = some ob ∧ ob.cls = .type "module" ∧ ob.dict = some builtinsNs ∧ ob.data = .plain)
    (ha : s₁.heap.get? a = some (scrO vs)) (hi : IntsAre vs ns) (hl : ns.length ≤ sizeLine) (hr : Room k callerA)
    (F : ∀ base : Heap, K.In base → base.Ns mainGlobals mg → (∀ p ∈ cs, LamX.TabB base mg p.1 p.2) → FnG P w K mg base k fa fd [x] sp) (hbind : ∀ (s : Shared) (u : Value), BindsTo s fd ⟨[u], []⟩ [(x, u)])
    (hsp : ∀ H : Hp, (∀ p ∈ cs, H p.2 = some (.tbl #[])) → SqL K H a (ns.map V.int) → sp [.ref a] H (fun v _ => v = .bl true) fun _ _ _ => False) :
    codeAny (model P w) callerA (.call (.ref fa) ⟨[.ref a], []⟩) (fun r s' => r = .ok (.ret (.bool true)) ∧ OldK s₁.heap s'.heap ∧ s'.os = s₁.os ∧ AllBare s'.gens) s₁ := by
  have rv := vals_ints hi
  have hT' : ∀ b ∈ cs.map (·.2), s₁.heap.get? b = some tblO := fun b hb => by
    obtain ⟨p, hp, e⟩ := List.mem_map.mp hb
    rw [← e]; exact hT p hp
  have mT : ∀ p ∈ cs, p.2 ∈ cs.map (·.2) := fun p hp => List.mem_map.mpr ⟨p, hp, rfl⟩
  have aT : a ∉ cs.map (·.2) := fun z => by
    have e := hT' a z
    rw [ha] at e
    exact absurd (congrArg Obj.data (Option.some.inj e)) (fun z => by cases z)
  let H := H0 K (cs.map (·.2)) a vs ns
  have hq : SqL K H a (ns.map V.int) := by
    cases e : K.lookup a with
    | none => exact .inl (.inr ⟨_, show H0 K _ a vs ns a = _ from by unfold H0; rw [if_neg aT, if_pos ⟨rfl, e⟩]⟩)
    | some o =>
      have eo := KX a o e
      rw [ha] at eo
      cases eo
      exact .inr ⟨_, vs.toArray, _, e, rfl, rfl, rfl, by rw [List.size_toArray, hi.length]; exact hl, by simpa using rv⟩
  have ok : HOk P w H s₁.heap := fun b u e => by
    rcases H0_inv e with ⟨hb, rfl⟩ | ⟨_, rfl, _, rfl⟩
    · exact hT' b hb
    · exact ⟨ha, by rw [List.length_map]; exact hl, vs, _, rv, ha⟩
  have kb : K.In (hidT s₁.heap H) := fun b o e => hidT_get (KX b o e) (by
    cases q : H b with
    | none => rfl
    | some u =>
      rcases H0_inv q with ⟨hb, _⟩ | ⟨_, hb, hn, _⟩
      · obtain ⟨p, hp, ep⟩ := List.mem_map.mp hb
        rw [← ep, nT p hp] at e; cases e
      · rw [hb, hn] at e; cases e)
  have nsm := ns_hid (K := K) (ns := ns) hT' ha hns
  have tabs : ∀ p ∈ cs, LamX.TabB (hidT s₁.heap H) mg p.1 p.2 := fun p hp => by
    have hTp := hT p hp
    refine ⟨?_, ?_, fun z => ?_⟩
    · obtain ⟨o, us, file, tf, flags, tg, inF, text, tt, e1, r1, r2, r3, r⟩ := hC p hp
      refine ⟨o, us, file, tf, flags, tg, inF, text, tt, hidT_get e1 (H0_free hT' ha e1 (fun z => ?_) fun z => ?_), r1, r2, r3, r⟩
      · rw [z] at r2
        cases r2
        simp at r3
      · rw [z] at r2; cases r2
    · obtain ⟨bm, ob, b1, b2, b3, b4, b5, b6⟩ := hbm
      have fr := H0_free (K := K) (ns := ns) hT' ha b3 (fun z => by rw [z] at b6; cases b6) (fun z => by rw [z] at b6; cases b6)
      refine ⟨bm, ob, b1, b2, fun q => ?_, fun q => ?_, hidT_get b3 fr, b4, b5, b6⟩
      · obtain ⟨o, es, ep, e, hd, _⟩ := hns
        rw [q, e] at b3
        cases b3
        rw [hd] at b6; cases b6
      · rw [q, hTp] at b3
        cases b3
        cases b6
    · obtain ⟨o, es, ep, e, hd, _⟩ := hns
      rw [z, hTp] at e
      cases e
      cases hd
  have e0 : Env0 P w K mg (hidT s₁.heap H) callerA [] s₁ H := ⟨rfl, ⟨kb, nsm, ⟨mb, ns_hid hT' ha hb, hbb⟩, let ⟨mc, h1, h2⟩ := hlim; ⟨mc, ns_hid hT' ha h1, h2⟩⟩, fun b o e => of_hidT e, Nat.le_of_eq (hidT_size _ _), trivial, fun b hb => absurd (show b ∈ ([] : List Addr) from hb) (by simp), ok, .of_eq hg⟩
  refine codeAny_mono ((F _ kb nsm tabs).run callerA [] s₁ H ⟨[.ref a], []⟩ [.ref a] [.ref a] _ _ hr rfl e0 (hbind s₁ (.ref a)) (.cons rfl .nil) (hsp H (fun p hp => H0_tbl (mT p hp)) hq)) fun r s' hh => ?_
  cases r with
  | error e =>
    obtain ⟨_, _, _, _, _, _, _, _, _, _, _, _, z⟩ := hh
    exact z.elim
  | ok fl =>
    cases fl with
    | ret u =>
      obtain ⟨v, H', os, bare, un, ok', r', q⟩ := hh
      cases (show v = .bl true from q)
      cases (show u = Value.bool true from r')
      have old : ∀ b o, b ∉ cs.map (·.2) → s₁.heap.get? b = some o → s'.heap.get? b = some o := fun b o nb e => by
        cases q : H b with
        | none => exact un.keep b o e q (fun z => absurd (show b ∈ ([] : List Addr) from z) (by simp)) (by simp)
        | some u =>
          rcases H0_inv q with ⟨z, _⟩ | ⟨_, rfl, hn, rfl⟩
          · exact absurd z nb
          · have z2 := (ok' b _ (un.frzs b _ _ q)).1
            rw [ha] at e; cases e
            exact z2
      have more : ∀ p ∈ cs, ∃ m : Array Value, s'.heap.get? p.2 = some { cls := .none, data := .fields m } := fun p hp => by
        obtain ⟨m, z⟩ := un.tbls p.2 #[] (H0_tbl (mT p hp))
        exact ⟨_, ok' p.2 _ z⟩
      refine ⟨rfl, ⟨fun b o e => ?_, fun b o e => ?_⟩, os, bare⟩
      · by_cases hb : b ∈ cs.map (·.2)
        · obtain ⟨p, hp, ep⟩ := List.mem_map.mp hb
          obtain ⟨m, hm⟩ := more p hp
          subst ep
          have e2 := e.symm.trans (hT p hp)
          cases e2
          exact .inr (.inl ⟨((hC p hp).tab (hT p hp)).isCodeTable, rfl, #[], m, rfl, by rw [Array.empty_append]; exact hm⟩)
        · exact .inl (old b o hb e)
      · by_cases hb : b ∈ cs.map (·.2)
        · obtain ⟨p, hp, ep⟩ := List.mem_map.mp hb
          obtain ⟨m, hm⟩ := more p hp
          exact ⟨_, by rw [← ep]; exact hm⟩
        · exact ⟨o, old b o hb e⟩
    | _ => exact False.elim hh
end
/-- each def's table is empty at the start -/
def TabsOf (q : Program) (mg : Str → Option Value) (h : Heap) : Prop := ∀ d ∈ recsOf q, ∃ a o fd c P, mg d.name = some (.ref a) ∧ h.get? a = some o ∧ o.data = .func fd ∧ fd.code = .ref c ∧ h.IsCode c P #[] ∧ h.TableAt c P #[]
/-- a def that makes lambdas: its code object c, its table P -/
structure AtL (K : PySem.W.Frag) (mg : Str → Option Value) (h : Heap) (x : Str) (st : Stmt) (ps : List Str) (c P : Addr) : Prop where
  at_ : AtC K mg x st ps c
  tab : h.get? P = some tblO
  hd : PySem.W.CodeHd h c P
  nk : K.lookup P = none
abbrev tabA {K : PySem.W.Frag} {mg : Str → Option Value} {h : Heap} {x : Str} {st : Stmt} {ps : List Str} {c P : Addr} (A : AtL K mg h x st ps c P) : Addr := P
abbrev codA {K : PySem.W.Frag} {mg : Str → Option Value} {h : Heap} {x : Str} {st : Stmt} {ps : List Str} {c P : Addr} (A : AtL K mg h x st ps c P) : Addr := c
theorem atL_mk {q : Program} {K : PySem.W.Frag} {mg : Str → Option Value} {h : Heap} {x : Str} {st : Stmt} {ps : List Str} {f c P : Addr} {oc e : Value} {od an dd : Option Addr} {osl sl : Array (Option Value)} {kV doc pm ct : Value} {vs : Array Value} (X : K.In h) (G : h.Ns mainGlobals mg) (TB : TabsOf q mg h)
    (a : PySem.W.nsIn K mainGlobals x = some (some (.ref f))) (l : K.lookup f = some ⟨oc, od, .func (PySem.W.fnOf x x (defArgs st) (defBody st) (defScope st) .none kV doc pm an (.ref c) ct), osl⟩)
    (cd : PySem.W.codeIn K (.ref c) x = true) (k : PySem.W.keepIn K (.ref f) = true) (lc : K.lookup c = some ⟨e, dd, .fields vs, sl⟩) (h11 : vs[11]? = some (.ref P)) (nP : K.lookup P = none) (hrec : ((recsOf q).any fun d => d.name == x) = true)
    (b : ∀ (kV doc pm : Value) (an : Option Addr) (cdv ct : Value) (us : List Value), us.length = ps.length → bindArgs (PySem.W.fnOf x x (defArgs st) (defBody st) (defScope st) .none kV doc pm an cdv ct) ⟨us, []⟩ = pure (ps.zip us)) : AtL K mg h x st ps c P := by
  obtain ⟨d, hd, hx⟩ := List.any_eq_true.mp hrec
  obtain ⟨a', o', fd', c', P', h1, h2, h3, h4, h5, h6⟩ := TB d hd
  have ex : d.name = x := beq_iff_eq.mp hx
  rw [ex, PySem.W.mg_of X G a] at h1
  cases h1
  rw [X _ _ l] at h2
  cases h2
  cases h3
  cases h4
  have hq := PySem.W.CodeHd.of h5 h6
  obtain ⟨⟨oc2, vc, e1, _, e3, e4⟩, hP⟩ := h6
  rw [X _ _ lc] at e1
  cases e1
  cases e3
  rw [h11] at e4
  cases e4
  exact ⟨atC_mk X G a l cd k b, hP, hq, nP⟩
section
variable {l : PySem.W.OpenLaw} {q : Program} {loose : List Str} {XP : (Str → Option Value) → Heap → Prop} {YP : World → Heap → Prop} {d : DefRec} {K : Params → PySem.W.Frag} {x : Str} {m : FnM} {k : Nat}
theorem law_endG (hn : l.most = some 63) (hdf : d.params.defaults = []) (hr : Room k callerA) (hY : ∀ (w : World) (h : Heap), YP w h → (K w.params).In h)
    (F : ∀ (w : World) (mg : Str → Option Value) (fa : Addr) (h : Heap), (K w.params).In h → h.Ns mainGlobals mg → mg d.name = some (.ref fa) → TabsOf q mg h →
      ∃ (g : Gm) (cs : List (Addr × Addr)), g.r.K = K w.params ∧ g.iv = (fun _ _ => True) ∧ (∀ p ∈ g.T, ∃ c, (c, p.1) ∈ cs) ∧ (∀ p ∈ cs, h.get? p.2 = some tblO) ∧ (∀ p ∈ cs, (K w.params).lookup p.2 = none) ∧ (∀ p ∈ cs, PySem.W.CodeHd h p.1 p.2) ∧
        ∃ fd : FuncData, (∀ (s : Shared) (u : Value), BindsTo s fd ⟨[u], []⟩ [(x, u)]) ∧ ∀ base : Heap, (K w.params).In base → base.Ns mainGlobals mg → (∀ p ∈ cs, LamX.TabB base mg p.1 p.2) → FnG l.prog w (K w.params) mg base k fa fd [x] (spM g 1 m))
    (ht : ∀ ns : List Int, ns.length ≤ 63 → ∃ h, m [.scr ns] [] = .ok (.bl true) h) :
    PySem.W.WalkO q loose XP YP l.row.toRowW d [] (fun f vs => PySem.call f vs) := by
  refine Att.attach_callB hn hdf fun w s₀ s₁ mg mb fa o pm cd doc a vs ns G Y ho hd hcd hmg hobj hints hlen hbits hg => ?_
  have KX := hY w _ Y
  obtain ⟨g, cs, hK, hiv, hTc, hT, nT, C, fd, hb, hF⟩ := F w mg fa _ KX G.T.g hmg G.T.tab
  refine law_run KX G.T.g G.T.b G.T.builtins G.T.nolimit hg hT nT C G.T.bmain hobj hints (Nat.le_trans hlen (by decide)) hr hF hb fun H hH hS => ?_
  obtain ⟨h, eh⟩ := ht ns hlen
  refine ⟨rfl, ⟨[], [], []⟩, [.scr ns], [], Reps.cons (.scr ?_) .nil, ⟨.nil, rfl, (fun a ha => nomatch ha), fun n a ds e => (by have := e.1; simp at this), fun n a ds e => (by have := e.1; simp at this), fun p hp => ?_, by rw [hiv]; trivial⟩, ?_⟩
  · rw [hK]
    rcases hS with hS | hS
    · exact .inl ⟨hS, fun z => by rcases z with z | z <;> cases z⟩
    · exact .inr (.inr hS)
  · obtain ⟨c, hc⟩ := hTc p hp
    exact LamX.TabS.nil (hH _ hc)
  · rw [eh]
    intro φ' v H' e r m
    cases r
    rfl
theorem law_fnG {g : Gm} {P : Program} {w : World} {mg : Str → Option Value} {st : Stmt} {N : List Str} {b : MS} {fa c : Addr} {cs : List (Addr × Addr)} (A : AtC g.r.K mg "law" st [x] c) (hfa : mg "law" = some (.ref fa))
    (bd : ∀ (kV doc pm : Value) (an : Option Addr) (cdv ct u : Value), bindArgs (PySem.W.fnOf "law" "law" (defArgs st) (defBody st) (defScope st) .none kV doc pm an cdv ct) ⟨[u], []⟩ = pure [(x, u)]) (S : FnScope N [x] (defScope st))
    (hb : ∀ base : Heap, g.r.K.In base → base.Ns mainGlobals mg → (∀ p ∈ cs, LamX.TabB base mg p.1 p.2) → ∀ (f : Addr) (A : Around) (outer : List Env) (s : Shared) (H : Hp) (E : XK), Room k (A.deeper (envOfC "law" (defScope st) s.heap.objs.size f (.ref c))) → A.guards = some [] →
      Takes (cxOf (L2.CX P w) P w g.r.K mg base N "law" (defScope st) f (.ref c) A outer s H E) (fun c dx _ H' => E c dx H') →
      PassesOwn (model P w) (cxOf (L2.CX P w) P w g.r.K mg base N "law" (defScope st) f (.ref c) A outer s H E).A (cxOf (L2.CX P w) P w g.r.K mg base N "law" (defScope st) f (.ref c) A outer s H E).env (cxOf (L2.CX P w) P w g.r.K mg base N "law" (defScope st) f (.ref c) A outer s H E).xe →
      PSs (cxOf (L2.CX P w) P w g.r.K mg base N "law" (defScope st) f (.ref c) A outer s H E) (defBody st) (tS g (fun c dx _ H' => E c dx H') b)) :
    ∃ fd : FuncData, (∀ (s : Shared) (u : Value), BindsTo s fd ⟨[u], []⟩ [(x, u)]) ∧ ∀ base : Heap, g.r.K.In base → base.Ns mainGlobals mg → (∀ p ∈ cs, LamX.TabB base mg p.1 p.2) → FnG P w g.r.K mg base (k + 1) fa fd [x] (spM g 1 (mFn 1 N.length b)) := by
  obtain ⟨f, oc, od, kV, doc, pm, an, ct, osl, h1, lk, hcd, kp, B⟩ := A.ex
  rw [hfa] at h1
  cases h1
  refine ⟨PySem.W.fnOf "law" "law" (defArgs st) (defBody st) (defScope st) .none kV doc pm an (.ref c) ct, fun s u => BindsTo.of_eq (bd kV doc pm an (.ref c) ct u), fun base hK hN hT => ⟨fun vs H Q E h => h.1, fun A outer s H args us vs Q E hr hgd e0 bd rv hsp => ?_⟩⟩
  exact LamX.run_ofS lk hcd S hr e0 bd rv hsp.1 fun hr' => ⟨_, hb base hK hN hT fa A outer s H E hr' hgd (takes_of rfl rfl rfl rfl) (passes_of rfl), fn_start hsp⟩
end
end MI
/-! evaluation of the combinators by simp -/
namespace MI
open PySem PySem.Spec
open PyProof.Rows L2
section
variable {α β : Type} {h : MH} {ρ : Env1} {a b c : ME} {t u : MT} {xs : MA} {s s' : MS}
@[simp] theorem bind_ok (x : α) (k : α → MH → R β) : (R.ok x h).bind k = k x h := rfl
@[simp] theorem toF_ok (x : α) (k : α → MH → F) : (R.ok x h).toF ρ k = k x h := rfl
@[simp] theorem seq_nx (k : MS) : (F.nx ρ h).seq k = k ρ h := rfl
@[simp] theorem seq_rt (d : D) (k : MS) : (F.rt d h).seq k = .rt d h := rfl
@[simp] theorem noEx_ok (x : α) : noEx (R.ok x h) = .ok x h := rfl
@[simp] theorem mVar_ap {i : Nat} : mVar i ρ h = match ρ[i]? with | some (some d) => .ok d h | _ => .bad := rfl
@[simp] theorem mC_ap {d : D} : mC d ρ h = .ok d h := rfl
@[simp] theorem mBin_ap {f : D → D → MH → R D} : mBin f a b ρ h = (a ρ h).bind fun x h1 => (b ρ h1).bind fun y h2 => f x y h2 := rfl
@[simp] theorem mUn_ap {f : D → MH → R D} : mUn f a ρ h = (a ρ h).bind f := rfl
@[simp] theorem mNil_ap : mNil ρ h = .ok [] h := rfl
@[simp] theorem mCons_ap : mCons a xs ρ h = (a ρ h).bind fun x h1 => (xs ρ h1).bind fun ys h2 => .ok (x :: ys) h2 := rfl
@[simp] theorem mCall_ap {f : List D → MH → R D} : mCall f xs ρ h = (xs ρ h).bind f := rfl
@[simp] theorem mTest_ap : mTest a ρ h = (a ρ h).bind asB := rfl
@[simp] theorem asB_bl {k : Bool} : asB (.bl k) h = .ok k h := rfl
@[simp] theorem mNotT_ap : mNotT t ρ h = (t ρ h).bind fun b h1 => .ok (!b) h1 := rfl
@[simp] theorem mAndT_ap : mAndT t u ρ h = (t ρ h).bind fun b h1 => match b with | true => u ρ h1 | false => .ok false h1 := rfl
@[simp] theorem mOrT_ap : mOrT t u ρ h = (t ρ h).bind fun b h1 => match b with | true => .ok true h1 | false => u ρ h1 := rfl
@[simp] theorem mIf_ap : mIf t a b ρ h = (t ρ h).bind fun k h1 => match k with | true => a ρ h1 | false => b ρ h1 := rfl
@[simp] theorem mAnd_ap : mAnd a b ρ h = (a ρ h).bind fun x h1 => match x with | .bl true => b ρ h1 | .bl false => .ok (.bl false) h1 | _ => .bad := rfl
@[simp] theorem mOr_ap : mOr a b ρ h = (a ρ h).bind fun x h1 => match x with | .bl true => .ok (.bl true) h1 | .bl false => b ρ h1 | _ => .bad := rfl
@[simp] theorem vNot_bl {k : Bool} : vNot (.bl k) h = .ok (.bl (!k)) h := rfl
@[simp] theorem mChain_ap {f f' : D → D → MH → R D} : mChain f f' a b c ρ h = (a ρ h).bind fun x h1 => (b ρ h1).bind fun y h2 => (f x y h2).bind fun z h3 => match z with | .bl true => (c ρ h3).bind fun w h4 => f' y w h4 | .bl false => .ok (.bl false) h3 | _ => .bad := rfl
@[simp] theorem mNoPart_ap : mNoPart ρ h = .ok none h := rfl
@[simp] theorem mPart_ap : mPart a ρ h = (a ρ h).bind fun x h1 => match x with | .int i => .ok (some i) h1 | _ => .bad := rfl
@[simp] theorem mCut_ap {lo hi : MO} : mCut a lo hi ρ h = (a ρ h).bind fun x h1 => (lo ρ h1).bind fun l h2 => (hi ρ h2).bind fun u h3 => vCut x l u h3 := rfl
@[simp] theorem mNext_ap : mNext ρ h = .nx ρ h := rfl
@[simp] theorem mSeq_ap : mSeq s s' ρ h = (s ρ h).seq s' := rfl
@[simp] theorem mRet_ap : mRet a ρ h = (a ρ h).toF ρ fun d h1 => .rt d h1 := rfl
@[simp] theorem mRetN_ap : mRetN ρ h = .rt .non h := rfl
@[simp] theorem mDrop_ap : mDrop a ρ h = (a ρ h).toF ρ fun _ h1 => .nx ρ h1 := rfl
@[simp] theorem mIfS_ap : mIfS t s s' ρ h = (t ρ h).toF ρ fun k h1 => match k with | true => s ρ h1 | false => s' ρ h1 := rfl
@[simp] theorem mAsg_ap {g : MG} : mAsg a g ρ h = (a ρ h).toF ρ fun d h1 => F.ofG (g d ρ h1) := rfl
@[simp] theorem ofG_some {x : Env1 × MH} : F.ofG (some x) = .nx x.1 x.2 := rfl
@[simp] theorem gN_ap {i : Nat} {d : D} : gN i d ρ h = some (ρ.set i (some d), h) := rfl
@[simp] theorem gsNil_ap : gsNil [] ρ h = some (ρ, h) := rfl
@[simp] theorem gsCons_ap {m : MG} {v : MGs} {d : D} {r : List D} : gsCons m v (d :: r) ρ h = (m d ρ h).bind fun x => v r x.1 x.2 := rfl
@[simp] theorem gT_ap {n : Nat} {v : MGs} {l : List D} : gT n v (.tup l) ρ h = if l.length = n then v l ρ h else none := rfl
@[simp] theorem gTA_tup {n : Nat} {v : MGs} {l : List D} : gTA n v (.tup l) ρ h = if l.length = n then v l ρ h else none := rfl
@[simp] theorem gTA_lst {n : Nat} {v : MGs} {l : List D} : gTA n v (.lst l) ρ h = if l.length = n then v l ρ h else none := rfl
@[simp] theorem mPar_ap {i j : Nat} : mPar i j a b ρ h = (a ρ h).toF ρ fun x h1 => (b ρ h1).toF ρ fun y h2 => .nx ((ρ.set i (some x)).set j (some y)) h2 := rfl
@[simp] theorem mFor_ap {i : MI'} {g : MG} : mFor i g s ρ h = (i ρ h).toF ρ fun q h1 => loopF g s q.chk q.items ρ h1 := rfl
@[simp] theorem mSrc_ap {f : D → MH → R Src} : mSrc a f ρ h = (a ρ h).bind f := rfl
@[simp] theorem mSrcA_ap {f : List D → MH → R Src} : mSrcA xs f ρ h = (xs ρ h).bind f := rfl
@[simp] theorem srcS_tup {l : List D} : srcS (.tup l) h = .ok ⟨l, none⟩ h := rfl
@[simp] theorem srcS_lst {l : List D} : srcS (.lst l) h = .ok ⟨l, none⟩ h := rfl
@[simp] theorem chk_none {l : List D} : (Src.mk l none).chk h = true := rfl
@[simp] theorem mYes_ap : mYes ρ h = .ok true h := rfl
@[simp] theorem mLc_ap {i : MI'} {g : MG} {vs : List Nat} : mLc i g t a vs ρ h = (i ρ h).bind fun s h1 => (loopC g t a (wipeM ρ vs) s.chk s.items [] h1).bind fun l h2 => .ok (.lst l) h2 := rfl
@[simp] theorem mLcC_ap {i : MI'} {g : MG} {vs : List Nat} : mLcC i g t a vs ρ h = (i ρ h).bind fun s h1 => (loopC g t a (wipeM ρ vs) s.chk s.items [] h1).bind fun l h2 => .ok (.cell h2.length) (h2 ++ [l]) := rfl
@[simp] theorem mCallD_ap {np : Nat} {m : FnM} {dD : List D} : mCallD np m dD xs ρ h = (xs ρ h).bind fun ys h1 => if (ys ++ dD).length = np then m (ys ++ dD) h1 else .bad := rfl
def fnOut : F → R D
  | .nx _ h1 => .ok .non h1
  | .rt d h1 => .ok d h1
  | .exc _ e h1 => .exc e h1
  | _ => .bad
@[simp] theorem fnOut_nx : fnOut (.nx ρ h) = .ok .non h := rfl
@[simp] theorem fnOut_rt {d : D} : fnOut (.rt d h) = .ok d h := rfl
@[simp] theorem mFn_ap {np n : Nat} {ds : List D} (e : ds.length = np) : mFn np n s ds h = fnOut (s (startM n ds) h) := by
  unfold mFn
  rw [if_pos e]
  cases s (startM n ds) h <;> rfl
@[simp] theorem mTup_ap : mTup xs ρ h = (xs ρ h).bind fun l h1 => if l.length ≤ 16777216 then .ok (.tup l) h1 else .bad := rfl
@[simp] theorem mLst_ap : mLst xs ρ h = (xs ρ h).bind fun l h1 => if l.length ≤ 16777216 then .ok (.lst l) h1 else .bad := rfl
@[simp] theorem mCell_ap : mCell xs ρ h = (xs ρ h).bind fun l h1 => if l.length ≤ 16777216 then .ok (.cell h1.length) (h1 ++ [l]) else .bad := rfl
@[simp] theorem mStar_ap : mStar a xs ρ h = (a ρ h).bind fun x h1 => match seqOf h1 x with | some l => (xs ρ h1).bind fun ys h2 => .ok (l ++ ys) h2 | none => .bad := rfl
@[simp] theorem wipe_nil : wipeM ρ [] = ρ := rfl
@[simp] theorem wipe_cons {v : Nat} {vs : List Nat} : wipeM ρ (v :: vs) = (wipeM ρ vs).set v none := rfl
@[simp] theorem startM_ap {n : Nat} {ds : List D} : startM n ds = ds.map some ++ List.replicate (n - ds.length) none := rfl
/-! values -/
variable {i j : Int} {k l : Bool}
@[simp] theorem vAdd_i : vAdd (.int i) (.int j) h = .ok (.int (i + j)) h := rfl
@[simp] theorem vSub_i : vSub (.int i) (.int j) h = .ok (.int (i - j)) h := rfl
@[simp] theorem vNeg_i : vNeg (.int i) h = .ok (.int (-i)) h := rfl
@[simp] theorem vLt_i : vLt (.int i) (.int j) h = .ok (.bl (decide (i < j))) h := rfl
@[simp] theorem vLe_i : vLe (.int i) (.int j) h = .ok (.bl (decide (i ≤ j))) h := rfl
@[simp] theorem vGt_i : vGt (.int i) (.int j) h = .ok (.bl (decide (j < i))) h := rfl
@[simp] theorem vGe_i : vGe (.int i) (.int j) h = .ok (.bl (decide (j ≤ i))) h := rfl
@[simp] theorem vInt_i : vInt (.int i) h = .ok (.int i) h := rfl
@[simp] theorem vInt_b : vInt (.bl k) h = .ok (.int (if k then 1 else 0)) h := rfl
@[simp] theorem vAbs_i : vAbs (.int i) h = .ok (.int (if i < 0 then -i else i)) h := rfl
@[simp] theorem vRepr_b : vRepr (.bl k) h = .ok (.str (if k then "True" else "False")) h := rfl
@[simp] theorem vMax2_i : vMax2 (.int i) (.int j) h = .ok (.int (if j > i then j else i)) h := rfl
@[simp] theorem vMin2_i : vMin2 (.int i) (.int j) h = .ok (.int (if j < i then j else i)) h := rfl
@[simp] theorem vGcd_i : vGcd (.int i) (.int j) h = .ok (.int ((Nat.gcd i.natAbs j.natAbs : Nat) : Int)) h := rfl
@[simp] theorem vOne_ap {f : D → MH → R D} {d : D} : vOne f [d] h = f d h := rfl
@[simp] theorem vTwo_ap {f : D → D → MH → R D} {d e : D} : vTwo f [d, e] h = f d e h := rfl
@[simp] theorem vIsN_non {d : D} : vIsN d .non h = .ok (.bl (match d with | .non => true | _ => false)) h := rfl
theorem vMul_i (c : cMul i j = true) : vMul (.int i) (.int j) h = .ok (.int (i * j)) h := by
  show vOr (vIc cMul fun i j => .int (i * j)) vRepL (.int i) (.int j) h = _
  unfold vOr vIc
  simp [c]
theorem vDiv_i (c : cDiv i j = true) : vDiv (.int i) (.int j) h = .ok (.int (fDiv i j)) h := by
  show vIc cDiv (fun i j => .int (fDiv i j)) (.int i) (.int j) h = _
  unfold vIc
  simp [c]
theorem vMod_i (c : j ≠ 0) : vMod (.int i) (.int j) h = .ok (.int (fMod i j)) h := by
  show vIc cMod (fun i j => .int (fMod i j)) (.int i) (.int j) h = _
  unfold vIc cMod
  simp [c]
theorem fMod_pos (c : 0 < j) : fMod i j = i % j := by unfold fMod; rw [if_pos c]
theorem fDiv_pos (c : 0 < j) : fDiv i j = i / j := by unfold fDiv; rw [if_pos c]
theorem log2_lt {n k : Nat} (hk : 0 < k) (h : n < 2 ^ k) : n.log2 < k := by
  by_cases e : n = 0
  · subst e
    have : Nat.log2 0 = 0 := by decide +kernel
    omega
  · exact (Nat.log2_lt e).mpr h
/-- of a thousand bits at most -/
def Sm (i : Int) : Prop := i.natAbs < 2 ^ 1000
theorem sm_of (a : -(10 ^ 250) ≤ i) (b : i ≤ 10 ^ 250) : Sm i := by
  unfold Sm
  have : (10 : Int) ^ 250 < 2 ^ 1000 := by decide +kernel
  have e : ((2 ^ 1000 : Nat) : Int) = 2 ^ 1000 := by norm_cast
  omega
theorem mul_ok (a : Sm i) (b : Sm j) : cMul i j = true := by
  unfold cMul
  have h1 := log2_lt (by omega) a
  have h2 := log2_lt (by omega) b
  exact decide_eq_true (by omega)
theorem div_ok (b : Sm j) (c : j ≠ 0) : cDiv i j = true := by
  unfold cDiv
  have h2 := log2_lt (by omega) b
  rw [Bool.and_eq_true]
  exact ⟨decide_eq_true c, decide_eq_true (by omega)⟩
@[simp] theorem vEq_i : vEq (.int i) (.int j) h = .ok (.bl (decide (i = j))) h := rfl
@[simp] theorem vNe_i : vNe (.int i) (.int j) h = .ok (.bl (!decide (i = j))) h := rfl
/-- tuples of ints, as a whole -/
theorem eqv_ints : ∀ l m : List Int, PyData.eqvAll (l.map PyData.int) (m.map PyData.int) = decide (l = m)
  | [], [] => rfl
  | [], _ :: _ => rfl
  | _ :: _, [] => rfl
  | x :: r, y :: t => by
    show ((x == y) && PyData.eqvAll (r.map PyData.int) (t.map PyData.int)) = _
    rw [eqv_ints r t]
    by_cases e : x = y
    · subst e; simp
    · simp [e]
theorem loopC_pure {vi : Nat} {P : D → Bool} {f : D → D} {chk : MH → Bool} (hc : chk h = true) : ∀ (items acc : List D), (∀ d ∈ items, t (ρ.set vi (some d)) h = .ok (P d) h ∧ (P d = true → a (ρ.set vi (some d)) h = .ok (f d) h)) → acc.length + items.length ≤ 16777216 →
    loopC (gN vi) t a ρ chk items acc h = .ok (acc ++ (items.filter P).map f) h
  | [], acc, _, _ => by unfold loopC; rw [if_pos hc]; simp
  | d :: r, acc, hd, hl => by
    rw [List.length_cons] at hl
    obtain ⟨h1, h2⟩ := hd d List.mem_cons_self
    have ih := fun acc' => loopC_pure hc r acc' fun e he => hd e (List.mem_cons_of_mem _ he)
    unfold loopC
    rw [if_pos hc]
    simp only [gN_ap, h1, noEx_ok, bind_ok]
    cases hp : P d with
    | false =>
      simp only [hp]
      rw [ih acc (by omega)]
      simp [hp]
    | true =>
      simp only [hp, h2 hp, noEx_ok, bind_ok]
      rw [if_pos (by omega), ih (acc ++ [f d]) (by rw [List.length_append, List.length_singleton]; omega)]
      simp [hp]
theorem abs_nat (x : Int) : (if x < 0 then -x else x) = ((x.natAbs : Nat) : Int) := by split <;> omega
end
end MI
/-! the facts that the ends ask for -/
namespace MI
open PySem PySem.Spec
open PyProof.Rows L2
theorem hu65b {k : Nat} {A : Around} (hr : Room k A) : A.units + 68 < cLine := by
  have := hr.un
  omega
theorem all_n {α : Type} {P : α → Prop} : ∀ p ∈ ([] : List α), P p := fun p h => (by cases h)
theorem all_c {α : Type} {P : α → Prop} {a : α} {l : List α} (h : P a) (t : ∀ p ∈ l, P p) : ∀ p ∈ a :: l, P p := fun p hp => by
  rcases List.mem_cons.mp hp with e | e
  · rw [e]; exact h
  · exact t p e
section
variable {P : Program} {K : PySem.W.Frag} {mg : Str → Option Value} {h : Heap} {x y f : Str} {n i j : Nat} {C D : Addr} {ex : Nat → Value} {b : Bool}
theorem rsT_mk {B newId initId : String} {bmB : List Value} (X : K.In h) (G : h.Ns mainGlobals mg) (he : ∀ C, mg x = some (.ref C) → ex n = .ref C) (F : ExcBaseFacts B newId initId bmB)
    (a : PySem.W.nsIn K mainGlobals x = some (some (.ref C))) (q : PySem.W.excIn K C bmB newId = true) (k : PySem.W.keepIn K (.ref C) = true) (s : PySem.W.subIn K (.ref C) (.type "BaseException") = some true) (t : PySem.W.typeIn K (.ref C) = some (.type "type")) : RsT K ex mg x n :=
  ⟨C, B, newId, initId, bmB, he C (PySem.W.mg_of X G a), F, q, PySem.W.mg_of X G a, k, s, t⟩
theorem nm_mk (X : K.In h) (G : h.Ns mainGlobals mg) (he : ∀ C, mg x = some (.ref C) → ex n = .ref C) (a : PySem.W.nsIn K mainGlobals x = some (some (.ref C))) : mg x = some (ex n) := by
  rw [he C (PySem.W.mg_of X G a)]; exact PySem.W.mg_of X G a
theorem xfT_mk (X : K.In h) (G : h.Ns mainGlobals mg) (he : ∀ C, mg x = some (.ref C) → ex n = .ref C) (a : PySem.W.nsIn K mainGlobals x = some (some (.ref C))) (q1 : PySem.W.findIn K (.ref C) "__getattribute__" = some (some (.builtin "BaseException.__getattribute__"))) (q2 : PySem.W.findIn K (.ref C) "__getattr__" = some none) (q3 : PySem.W.subIn K (.ref C) (.type "BaseException") = some true) (q4 : PySem.W.hasDictIn K C = true) (k : PySem.W.findIn K (.ref C) f = some none) : XfT K ex n f :=
  ⟨C, he C (PySem.W.mg_of X G a), ⟨q1, q2, q3, q4⟩, k⟩
theorem exm_mk (X : K.In h) (G : h.Ns mainGlobals mg) (he : ∀ C, mg x = some (.ref C) → ex i = .ref C) (he' : ∀ C, mg y = some (.ref C) → ex j = .ref C) (a : PySem.W.nsIn K mainGlobals x = some (some (.ref C))) (a' : PySem.W.nsIn K mainGlobals y = some (some (.ref D)))
    (e : PySem.W.exmOne K (.ref C) (.ref D) = some b) : PySem.W.exmOne K (ex i) (ex j) = some b := by
  rw [he C (PySem.W.mg_of X G a), he' D (PySem.W.mg_of X G a')]; exact e
theorem rsV_mk {B newId initId : String} {bmB : List Value} {fI cc cda : Addr} {oc : Value} {od : Option Addr} {osl : Array (Option Value)} {qual txt : Str} {params : Arguments} {scope : Scope} {kV doc pm ct : Value} {an : Option Addr} {jj : Nat} {p0 p1 p2 p3 p4 p5 p6 p7 p8 p9 : Pos}
    {ccl : Value} {cdd : Option Addr} {ccs : Array (Option Value)} {vs : Array Value} {file : Str} {tf : Tok} {cl : Value} {cld : Option Addr} {csl : Array (Option Value)} {ar : Arg}
    (X : K.In h) (G : h.Ns mainGlobals mg) (he : ∀ C, mg x = some (.ref C) → ex n = .ref C) (sup : mg "super" = none) (FB : ExcBaseFacts B newId initId bmB) (KF : PySem.W.KxsFacts B initId) (SF : StoreFacts B bmB "object.__setattr__" "object")
    (a1 : PySem.W.nsIn K mainGlobals x = some (some (.ref C))) (a2 : PySem.W.excInitIn K C bmB newId = true) (a3 : PySem.W.excOver K C bmB = true) (a4 : PySem.W.hasDictIn K C = true)
    (a5 : PySem.W.findIn K (.ref C) "__setattr__" = some (some (.builtin "object.__setattr__"))) (a6 : PySem.W.takerIn K C f = some none) (a7 : PySem.W.subIn K (.ref C) (.type "BaseException") = some true) (a8 : PySem.W.typeIn K (.ref C) = some (.type "type")) (a9 : PySem.W.keepIn K (.ref C) = true)
    (a10 : PySem.W.subIn K (.ref C) (.type B) = some true) (a11 : PySem.W.mroIn K C (.ref C) = some true) (a12 : PySem.W.ks_superIn K C C "__init__" = some (some (.builtin initId))) (a13 : PySem.W.nsIn K cStatics "thirdparty.any" = some none) (a14 : (P.main.scope.names.lookup ("super" : Str)).isSome = false)
    (b1 : PySem.W.findIn K (.ref C) "__init__" = some (some (.ref fI))) (b2 : PySem.W.typeIn K (.ref fI) = some (.type "function"))
    (b3 : K.lookup fI = some ⟨oc, od, .func (PySem.W.ksFn "__init__" qual params (XS.bodyOf f txt jj p0 p1 p2 p3 p4 p5 p6 p7 p8 p9) scope .none kV doc pm an (.ref cda) ct cc), osl⟩) (b4 : PySem.W.codeIn K (.ref cda) qual = true)
    (b5 : K.lookup cda = some ⟨ccl, cdd, .fields vs, ccs⟩) (b6 : vs[2]? = some (.str file tf)) (b7 : ((P.main.file : Str) == file) = true) (b8 : K.lookup cc = some ⟨cl, cld, .cell (some (.ref C)), csl⟩)
    (b9 : (params.posonlyargs ++ params.args).head? = some ar) (b10 : ar.arg = "self")
    (b11 : ∀ (cl : List (Str × Addr)) (kV doc pm : Value) (an : Option Addr) (cdv ct u v : Value), bindArgs (PySem.W.fnX "__init__" qual params (XS.bodyOf f txt jj p0 p1 p2 p3 p4 p5 p6 p7 p8 p9) scope cl .none kV doc pm an cdv ct) ⟨[u, v], []⟩ = pure [(("self" : Str), u), (f, v)])
    (b12 : scope.kind = .function) (b13 : scope.isCoroutine = false) (b14 : scope.isGenerator = false) (b15 : scope.names.lookup ("super" : Str) = some .globalImplicit) (b16 : scope.names.lookup ("__class__" : Str) = some .free) (b17 : scope.names.lookup ("self" : Str) = some .local) (b18 : scope.names.lookup f = some .local)
    (b19 : ∀ x ∈ scope.names, x.2 ≠ .cell) (b20 : (f == ("self" : Str)) = false ∧ (f == ("__debug__" : Str)) = false)
    (b21 : ∀ env : Env, ∃ pl : Sem Bool, eval (.Call (.Attribute (.Call (.Name "super" p0) [] [] p1) "__init__" p2) [.Constant (.str txt) jj p3] [] p4) env = (do
      let ov ← attributeBase (.Call (.Name "super" p0) [] [] p1) "__init__" env (eval (.Call (.Name "super" p0) [] [] p1) env)
      standAt p2.atName
      let (f, first) ← holding [ov] (getMethod ov "__init__" pl)
      callWith p4 f first (backTo p4 (starEach [.Constant (.str txt) jj p3] env)) [])) : RsV P K ex mg x n f :=
  ⟨⟨C, B, newId, initId, bmB, he C (PySem.W.mg_of X G a1), ⟨FB, KF, SF, a2, a3, a4, a5, a6, a7, a8, a9, a10, a11, a12, a13, a14, fI, b1, b2,
    ⟨oc, od, osl, qual, txt, params, scope, kV, doc, pm, ct, an, cc, cda, jj, p0, p1, p2, p3, p4, p5, p6, p7, p8, p9, ccl, cdd, ccs, vs, file, tf, cl, cld, csl, ar, b3, b4, b5, b6, b7, b8, b9, b10, b11, b12, b13, b14, b15, b16, b17, b18, b19, b20.1, b20.2, b21⟩⟩, PySem.W.mg_of X G a1⟩, sup⟩
theorem nst_mk (X : K.In h) (G : h.Ns mainGlobals mg) (he : ∀ C, mg x = some (.ref C) → ex n = .ref C) (a : PySem.W.nsIn K mainGlobals x = some (some (.ref C))) (s : PySem.W.subIn K (.ref C) (.type "StopIteration") = some false) : PySem.W.subIn K (ex n) (.type "StopIteration") = some false := by
  rw [he C (PySem.W.mg_of X G a)]; exact s
end
end MI
/-! list(range(..)), tuple(range(..)) -/
namespace MI
open PySem PySem.Spec
open PyProof.Rows L2
def rgD (a b : Int) : List D := (List.range (b - a).toNat).map fun i => D.int (a + (i : Nat))
def rgOk (a b : Int) : Bool := inR a && inR b && decide ((b - a).toNat ≤ 16777216)
def vLstR (x y : D) (h : MH) : R D := match x, y with
  | .int a, .int b => if rgOk a b = true then .ok (.lst (rgD a b)) h else .bad
  | _, _ => .bad
def vTupR (x y : D) (h : MH) : R D := match x, y with
  | .int a, .int b => if rgOk a b = true then .ok (.tup (rgD a b)) h else .bad
  | _, _ => .bad
def vLstRC (x y : D) (h : MH) : R D := match x, y with
  | .int a, .int b => if rgOk a b = true then .ok (.cell h.length) (h ++ [rgD a b]) else .bad
  | _, _ => .bad
section
variable {g : Gm} {W : WX} {X : Cx} {a b : Expr} {ma mb : ME} {p p2 pos pos2 : Pos}
theorem rgV_reps (φ : Ph) (H : Hp) (i j : Int) : Reps g.r φ H (rgV i j) (rgD i j) := by
  unfold rgV rgD
  generalize List.range (j - i).toNat = l
  induction l with
  | nil => exact .nil
  | cons x r ih => exact .cons (.int _) ih
theorem rgOk_of {i j : Int} (h : rgOk i j = true) : RgOk i j := by
  unfold rgOk inR at h
  simp only [Bool.and_eq_true, decide_eq_true_eq] at h
  refine ⟨?_, ?_, ?_, ?_, ?_⟩ <;> omega
theorem rg2_imp {f : D → D → MH → R D} {k : Int → Int → Hp → Prop} {Q : VK} (hf : ∀ φ H h i j, Hok g φ H h → Out g W σ φ H (Rep g.r) Q (f (.int i) (.int j) h) → k i j H) (hn : ∀ x y h, (∀ i, x ≠ .int i) ∨ (∀ j, y ≠ .int j) → f x y h = .bad) (H : Hp)
    (t : tE g W (mBin f ma mb) σ H Q) : tRg2 (tE g W ma) (tE g W mb) σ H k := by
  obtain ⟨φ, ρ, h, s, m, o⟩ := t
  refine ⟨φ, ρ, h, s, m, Out.next o fun x h1 φ1 v H1 e1 r1 m1 o1 => ?_⟩
  refine ⟨φ1, ρ, h1, s.ext e1, m1, Out.next o1 fun y h2 φ2 u H2 e2 r2 m2 o2 => ?_⟩
  cases x with
  | int i =>
    cases y with
    | int j =>
      cases r1
      cases r2
      exact ⟨i, j, rfl, rfl, hf φ2 H2 h2 i j m2 o2⟩
    | _ => rw [hn _ _ _ (.inr fun j z => by cases z)] at o2; exact o2.elim
  | _ => rw [hn _ _ _ (.inl fun j z => by cases z)] at o2; exact o2.elim
theorem s_lstR2 (hc : X.calm = true) (hl : X.mg "list" = none) (hm : X.mg "range" = none) (ha : PE X a (tE g W ma)) (hb : PE X b (tE g W mb)) (hg : Gl X "list" := by rfl) (hg2 : Gl X "range" := by rfl)
    (na : starEach [a, b] X.env = (false, eval a X.env) :: starEach [b] X.env := by rfl) (nb : starEach [b] X.env = (false, eval b X.env) :: starEach [] X.env := by rfl) (hp : (backTo pos (starEach [b] X.env)).any (·.1) = false := by rfl)
    (nc : starEach [.Call (.Name "range" p) [a, b] [] pos] X.env = (false, eval (.Call (.Name "range" p) [a, b] [] pos) X.env) :: starEach [] X.env := by rfl) :
    PE X (.Call (.Name "list" p2) [.Call (.Name "range" p) [a, b] [] pos] [] pos2) (tE g W (mBin vLstR ma mb)) := pe_imp (pe_listRg hc hg hl (prg_2 hg2 hm ha hb na nb hp) nc) fun σ H Q t => by
  refine rg2_imp (fun φ H h i j m o => ?_) (fun x y h z => ?_) H t
  · unfold vLstR at o
    dsimp only at o
    split at o
    · rename_i hr
      exact ⟨rgOk_of hr, fun q hq => o φ _ _ (Ext.new hq (m.notin hq)) (.lst ⟨upd_same, m.notin hq⟩ (rgV_reps _ _ i j)) (m.new hq)⟩
    · exact o.elim
  · unfold vLstR
    split
    · rename_i i j; rcases z with z | z
      · exact absurd rfl (z i)
      · exact absurd rfl (z j)
    · rfl
theorem s_tupR2 (hc : X.calm = true) (hl : X.mg "tuple" = none) (hm : X.mg "range" = none) (ha : PE X a (tE g W ma)) (hb : PE X b (tE g W mb)) (hg : Gl X "tuple" := by rfl) (hg2 : Gl X "range" := by rfl)
    (na : starEach [a, b] X.env = (false, eval a X.env) :: starEach [b] X.env := by rfl) (nb : starEach [b] X.env = (false, eval b X.env) :: starEach [] X.env := by rfl) (hp : (backTo pos (starEach [b] X.env)).any (·.1) = false := by rfl)
    (nc : starEach [.Call (.Name "range" p) [a, b] [] pos] X.env = (false, eval (.Call (.Name "range" p) [a, b] [] pos) X.env) :: starEach [] X.env := by rfl) :
    PE X (.Call (.Name "tuple" p2) [.Call (.Name "range" p) [a, b] [] pos] [] pos2) (tE g W (mBin vTupR ma mb)) := pe_imp (pe_tupRg hc hg hl (prg_2 hg2 hm ha hb na nb hp) nc) fun σ H Q t => by
  refine rg2_imp (fun φ H h i j m o => ?_) (fun x y h z => ?_) H t
  · unfold vTupR at o
    dsimp only at o
    split at o
    · rename_i hr
      exact ⟨rgOk_of hr, fun q hq => o φ _ _ (Ext.new hq (m.notin hq)) (.tup ⟨upd_same, m.notin hq⟩ (rgV_reps _ _ i j)) (m.new hq)⟩
    · exact o.elim
  · unfold vTupR
    split
    · rename_i i j; rcases z with z | z
      · exact absurd rfl (z i)
      · exact absurd rfl (z j)
    · rfl
theorem s_lstR2C (hc : X.calm = true) (hl : X.mg "list" = none) (hm : X.mg "range" = none) (ha : PE X a (tE g W ma)) (hb : PE X b (tE g W mb)) (hg : Gl X "list" := by rfl) (hg2 : Gl X "range" := by rfl)
    (na : starEach [a, b] X.env = (false, eval a X.env) :: starEach [b] X.env := by rfl) (nb : starEach [b] X.env = (false, eval b X.env) :: starEach [] X.env := by rfl) (hp : (backTo pos (starEach [b] X.env)).any (·.1) = false := by rfl)
    (nc : starEach [.Call (.Name "range" p) [a, b] [] pos] X.env = (false, eval (.Call (.Name "range" p) [a, b] [] pos) X.env) :: starEach [] X.env := by rfl) :
    PE X (.Call (.Name "list" p2) [.Call (.Name "range" p) [a, b] [] pos] [] pos2) (tE g W (mBin vLstRC ma mb)) := pe_imp (pe_listRg hc hg hl (prg_2 hg2 hm ha hb na nb hp) nc) fun σ H Q t => by
  refine rg2_imp (fun φ H h i j m o => ?_) (fun x y h z => ?_) H t
  · unfold vLstRC at o
    dsimp only at o
    split at o
    · rename_i hr
      refine ⟨rgOk_of hr, fun q hq => ?_⟩
      obtain ⟨φ2, e2, m2, c2⟩ := m.cell hq (rgV_reps φ H i j)
      exact o _ _ _ e2 (.cell c2) m2
    · exact o.elim
  · unfold vLstRC
    split
    · rename_i i j; rcases z with z | z
      · exact absurd rfl (z i)
      · exact absurd rfl (z j)
    · rfl
/-! a tuple many times -/
def vRepT (d e : D) (h : MH) : R D := match d, e with
  | .tup a, .int k => if (!a.isEmpty && decide (2 ≤ k) && decide (k ≤ 1000) && decide (a.length ≤ 1000)) = true then .ok (.tup (List.replicate k.toNat a).flatten) h else .bad
  | _, _ => .bad
theorem o_repT (hk : g.r.K = X.K) : Op2 g (rRepT X.K) vRepT := by
  intro W σ φ H h x y d e Q rx ry m o
  unfold vRepT at o
  split at o
  · rename_i a k
    cases ry
    obtain ⟨l, xs, e1, q1, r1⟩ := rep_tup rx
    split at o
    · rename_i hs
      simp only [Bool.and_eq_true, decide_eq_true_eq, Bool.not_eq_true', List.isEmpty_eq_false_iff] at hs
      obtain ⟨⟨⟨h1, h2⟩, h3⟩, h4⟩ := hs
      refine ⟨l, k, xs, e1, rfl, hk ▸ q1.sq, fun z => ?_, h2, h3, by rw [r1.length]; exact h4, fun p hp => new_tup m hp (r1.repl _) o⟩
      subst z
      cases r1
      exact h1 rfl
    · exact o.elim
  · exact o.elim
theorem s_repT (hk : g.r.K = X.K) (ha : PE X a (tE g W ma)) (hb : PE X b (tE g W mb)) : PE X (.BinOp a .Mult b pos) (tE g W (mBin vRepT ma mb)) := se_bin op_repT (o_repT hk) ha hb
/-! .. of one bound: what is asked first is 0 -/
theorem rg1_imp {f : D → D → MH → R D} {k : Int → Int → Hp → Prop} {Q : VK} (hf : ∀ φ H h i j, Hok g φ H h → Out g W σ φ H (Rep g.r) Q (f (.int i) (.int j) h) → k i j H) (hn : ∀ x y h, (∀ i, x ≠ .int i) ∨ (∀ j, y ≠ .int j) → f x y h = .bad) (H : Hp)
    (t : tE g W (mUn (f (.int 0)) ma) σ H Q) : tRg1 (tE g W ma) σ H k := by
  obtain ⟨φ, ρ, h, s, m, o⟩ := t
  refine ⟨φ, ρ, h, s, m, Out.next o fun y h1 φ1 v H1 e1 r1 m1 o1 => ?_⟩
  cases y with
  | int j =>
    cases r1
    exact ⟨j, rfl, hf φ1 H1 h1 0 j m1 o1⟩
  | _ => rw [hn _ _ _ (.inr fun j z => by cases z)] at o1; exact o1.elim
theorem s_lstR1 (hc : X.calm = true) (hl : X.mg "list" = none) (hm : X.mg "range" = none) (ha : PE X a (tE g W ma)) (hg : Gl X "list" := by rfl) (hg2 : Gl X "range" := by rfl)
    (na : starEach [a] X.env = (false, eval a X.env) :: starEach [] X.env := by rfl) (nc : starEach [.Call (.Name "range" p) [a] [] pos] X.env = (false, eval (.Call (.Name "range" p) [a] [] pos) X.env) :: starEach [] X.env := by rfl) :
    PE X (.Call (.Name "list" p2) [.Call (.Name "range" p) [a] [] pos] [] pos2) (tE g W (mUn (vLstR (.int 0)) ma)) := pe_imp (pe_listRg hc hg hl (prg_1 hg2 hm ha na) nc) fun σ H Q t => by
  refine rg1_imp (fun φ H h i j m o => ?_) (fun x y h z => ?_) H t
  · unfold vLstR at o
    dsimp only at o
    split at o
    · rename_i hr
      exact ⟨rgOk_of hr, fun q hq => o φ _ _ (Ext.new hq (m.notin hq)) (.lst ⟨upd_same, m.notin hq⟩ (rgV_reps _ _ i j)) (m.new hq)⟩
    · exact o.elim
  · unfold vLstR
    split
    · rename_i i j; rcases z with z | z
      · exact absurd rfl (z i)
      · exact absurd rfl (z j)
    · rfl
theorem s_lstR1C (hc : X.calm = true) (hl : X.mg "list" = none) (hm : X.mg "range" = none) (ha : PE X a (tE g W ma)) (hg : Gl X "list" := by rfl) (hg2 : Gl X "range" := by rfl)
    (na : starEach [a] X.env = (false, eval a X.env) :: starEach [] X.env := by rfl) (nc : starEach [.Call (.Name "range" p) [a] [] pos] X.env = (false, eval (.Call (.Name "range" p) [a] [] pos) X.env) :: starEach [] X.env := by rfl) :
    PE X (.Call (.Name "list" p2) [.Call (.Name "range" p) [a] [] pos] [] pos2) (tE g W (mUn (vLstRC (.int 0)) ma)) := pe_imp (pe_listRg hc hg hl (prg_1 hg2 hm ha na) nc) fun σ H Q t => by
  refine rg1_imp (fun φ H h i j m o => ?_) (fun x y h z => ?_) H t
  · unfold vLstRC at o
    dsimp only at o
    split at o
    · rename_i hr
      refine ⟨rgOk_of hr, fun q hq => ?_⟩
      obtain ⟨φ2, e2, m2, c2⟩ := m.cell hq (rgV_reps φ H i j)
      exact o _ _ _ e2 (.cell c2) m2
    · exact o.elim
  · unfold vLstRC
    split
    · rename_i i j; rcases z with z | z
      · exact absurd rfl (z i)
      · exact absurd rfl (z j)
    · rfl
end
end MI
/-! evaluation, more: what the laws' own words compute with -/
namespace MI
open PySem PySem.Spec
open PyProof.Rows L2
theorem big_ge : (10 : Int) ^ 250 ≥ 1000000 := by decide +kernel
theorem sm_small {i : Int} (a : -1000000 ≤ i) (b : i ≤ 1000000) : Sm i := by
  have := big_ge
  exact sm_of (by omega) (by omega)
theorem div_small {i j : Int} {h : MH} (a : -1000000 ≤ j) (b : j ≤ 1000000) (c : j ≠ 0) : vDiv (.int i) (.int j) h = .ok (.int (fDiv i j)) h := vDiv_i (div_ok (sm_small a b) c)
theorem mul_small {i j : Int} {h : MH} (a : -1000000 ≤ i) (b : i ≤ 1000000) (c : -1000000 ≤ j) (d : j ≤ 1000000) : vMul (.int i) (.int j) h = .ok (.int (i * j)) h := vMul_i (mul_ok (sm_small a b) (sm_small c d))
theorem sm40 {i : Int} (a : -100000000000000000000000000000000000000000000000000 ≤ i) (b : i ≤ 100000000000000000000000000000000000000000000000000) : Sm i := sm_of (by
  have : (10 : Int) ^ 250 ≥ 100000000000000000000000000000000000000000000000000 := by decide +kernel
  omega) (by
  have : (10 : Int) ^ 250 ≥ 100000000000000000000000000000000000000000000000000 := by decide +kernel
  omega)
@[simp] theorem vIx_lst {l : List D} {i : Int} {h : MH} : vIx (.lst l) (.int i) h = match atI l i with | some x => .ok x h | none => .bad := rfl
@[simp] theorem vIx_tup {l : List D} {i : Int} {h : MH} : vIx (.tup l) (.int i) h = match atI l i with | some x => .ok x h | none => .bad := rfl
@[simp] theorem atI_0 {α : Type} {a : α} {r : List α} : atI (a :: r) 0 = some a := by simp [atI, ixN]
@[simp] theorem atI_1 {α : Type} {a b : α} {r : List α} : atI (a :: b :: r) 1 = some b := by
  have : (1 : Int) < (r.length : Int) + 1 + 1 := by omega
  simp [atI, ixN, this]
@[simp] theorem atI_2 {α : Type} {a b c : α} {r : List α} : atI (a :: b :: c :: r) 2 = some c := by
  have : (2 : Int) < (r.length : Int) + 1 + 1 + 1 := by omega
  simp [atI, ixN, this]
@[simp] theorem vTuple_lst {l : List D} {h : MH} : vTuple (.lst l) h = .ok (.tup l) h := rfl
@[simp] theorem vTuple_tup {l : List D} {h : MH} : vTuple (.tup l) h = .ok (.tup l) h := rfl
@[simp] theorem seqOf_lst {l : List D} {h : MH} : seqOf h (.lst l) = some l := rfl
@[simp] theorem seqOf_tup {l : List D} {h : MH} : seqOf h (.tup l) = some l := rfl
@[simp] theorem mMeth_ap {f : Nat → List D → MH → R D} {o : ME} {a : MA} {ρ : Env1} {h : MH} : mMeth f o a ρ h = (o ρ h).bind fun x h1 => match x with | .cell n => if n < h1.length then (a ρ h1).bind fun ys h2 => f n ys h2 else .bad | _ => .bad := rfl
theorem vIx_cell {n : Nat} {l : List D} {i : Int} {h : MH} (e : h[n]? = some l) : vIx (.cell n) (.int i) h = match atI l i with | some x => .ok x h | none => .bad := by
  unfold vIx
  simp only [seqOf, e] <;> (cases atI l i <;> rfl)
theorem atI_nn {α : Type} {l : List α} {i : Int} (h0 : 0 ≤ i) (h1 : i < l.length) : atI l i = l[i.toNat]? := by
  unfold atI ixN
  rw [if_pos h0, if_pos h1]
  rfl
@[simp] theorem ixN_30 : ixN 3 0 = some 0 := rfl
@[simp] theorem ixN_32 : ixN 3 2 = some 2 := rfl
theorem gSub_cell {n : Nat} {l : List D} {i : Int} {h : MH} {ρ : Env1} {o m : ME} {d : D} {j : Nat} (e : h[n]? = some l) (eo : o ρ h = .ok (.cell n) h) (em : m ρ h = .ok (.int i) h) (ej : ixN l.length i = some j) : gSubC o m d ρ h = some (ρ, h.set n (l.set j d)) := by
  unfold gSubC
  simp only [eo, em, e, ej]
theorem popAt_at {h : MH} {m : Nat} {l : List D} {i : Int} {k : Nat} {y : D} (e : h[m]? = some l) (a : -(2 ^ 63) ≤ i ∧ i < 2 ^ 63) (q : ixN l.length i = some k) (g : l[k]? = some y) : vPopAt m [.int i] h = .ok y (h.set m (l.eraseIdx k)) := by
  have : (decide (-(2 ^ 63) ≤ i) && decide (i < 2 ^ 63)) = true := by
    rw [Bool.and_eq_true]
    exact ⟨decide_eq_true a.1, decide_eq_true a.2⟩
  simp only [vPopAt, e, this, if_true, q, g]
theorem app_at {h : MH} {m : Nat} {l : List D} {y : D} (e : h[m]? = some l) (a : l.length < 16777216) : vAppend m [y] h = .ok .non (h.set m (l ++ [y])) := by
  simp only [vAppend, e, a, if_true]
theorem vLen_cell {h : MH} {m : Nat} {l : List D} (e : h[m]? = some l) : vLen (.cell m) h = .ok (.int (l.length : Int)) h := by
  unfold vLen
  simp only [seqOf, e]
theorem vLen_lst {l : List D} {h : MH} : vLen (.lst l) h = .ok (.int (l.length : Int)) h := rfl
theorem vLen_tup {l : List D} {h : MH} : vLen (.tup l) h = .ok (.int (l.length : Int)) h := rfl
theorem vAdd_l {a b : List D} {h : MH} (e : a.length + b.length ≤ 16777216) : vAdd (.lst a) (.lst b) h = .ok (.lst (a ++ b)) h := by
  have c : vCatL (.lst a) (.lst b) h = .ok (.lst (a ++ b)) h := by
    unfold vCatL
    simp only [lstOf, small, e, decide_true, if_true]
  have q : vAdd (.lst a) (.lst b) h = vOr vCatL vCatS (.lst a) (.lst b) h := rfl
  rw [q]
  unfold vOr
  rw [c]
theorem cut_to {l : List D} {k : Int} {h : MH} (hk : 0 ≤ k) : vCut (.lst l) none (some k) h = .ok (.lst (l.take k.toNat)) h := by
  have e : MI.cutD l none (some k) = l.take k.toNat := by
    unfold MI.cutD
    show (l.drop 0).take ((if k < 0 then (k + (l.length : Int)).toNat else min k.toNat l.length) - 0) = _
    rw [if_neg (by omega), List.drop_zero, Nat.sub_zero]
    by_cases q : k.toNat ≤ l.length
    · rw [Nat.min_eq_left q]
    · rw [Nat.min_eq_right (by omega), List.take_of_length_le (by omega), List.take_of_length_le (by omega)]
  show R.ok (D.lst (MI.cutD l none (some k))) h = _
  rw [e]
theorem pw (k : Nat) (hh : MH) (hk : k ≤ 60) : vPow (.int 10) (.int (k : Nat)) hh = .ok (.int (10 ^ k)) hh := by
  have c : cPow 10 (k : Nat) = true := by
    have := (List.all_eq_true.mp (show (List.range 61).all (fun k => cPow 10 ((k : Nat) : Int)) = true by decide +kernel)) k (List.mem_range.mpr (by omega))
    exact this
  show vIc cPow (fun i j => .int (i ^ j.toNat)) (.int 10) (.int (k : Nat)) hh = _
  unfold vIc
  simp [c]
theorem rngD_mem {lo : Int} {n : Nat} {d : D} (h : d ∈ rngD lo n) : ∃ i : Int, d = .int i ∧ lo ≤ i ∧ i < lo + n := by
  unfold rngD at h
  obtain ⟨i, hi, rfl⟩ := List.mem_map.mp h
  have := List.mem_range.mp hi
  exact ⟨_, rfl, by omega, by omega⟩
theorem rngD_len {lo : Int} {n : Nat} : (rngD lo n).length = n := by simp [rngD]
theorem src_r1 {p : Int} (h1 : 0 ≤ p) (h2 : p ≤ 1000000) (h : MH) : srcR1 [.int p] h = .ok ⟨rngD 0 p.toNat, none⟩ h := by
  have hi : inR p = true := by
    unfold inR
    simp only [Bool.and_eq_true, decide_eq_true_eq]
    omega
  show (if inR p = true then R.ok (⟨rngD 0 p.toNat, none⟩ : Src) h else .bad) = _
  rw [if_pos hi]
theorem src_r2 {p q : Int} (h1 : -1000000 ≤ p ∧ p ≤ 1000000) (h2 : -1000000 ≤ q ∧ q ≤ 1000000) (h : MH) : srcR2 [.int p, .int q] h = .ok ⟨rngD p (q - p).toNat, none⟩ h := by
  have hi : (inR p && inR q) = true := by
    unfold inR
    simp only [Bool.and_eq_true, decide_eq_true_eq]
    omega
  show (if (inR p && inR q) = true then R.ok (⟨rngD p (q - p).toNat, none⟩ : Src) h else .bad) = _
  rw [if_pos hi]
/-! ints within -/
theorem pyAll_ints {h : MH} {k : Nat} : ∀ l : List Int, pyAll (D.py h k) (l.map D.int) = some (l.map PyData.int)
  | [] => rfl
  | i :: r => by
    have e : D.py h k (.int i) = some (.int i) := by cases k <;> rfl
    simp only [List.map_cons, pyAll, e, pyAll_ints r, Option.bind_some]
theorem lay_ints : ∀ l : List Int, PyData.canLayAll0 (l.map PyData.int) = true
  | [] => rfl
  | i :: r => by
    show (PyData.canLay0 (.int i) && PyData.canLayAll0 (r.map PyData.int)) = true
    rw [lay_ints r]
    rfl
theorem dep_ints : ∀ l : List Int, PyData.depthAll (l.map PyData.int) = 0
  | [] => rfl
  | i :: r => by
    show max (PyData.depth (.int i)) (PyData.depthAll (r.map PyData.int)) = 0
    rw [dep_ints r]
    rfl
theorem py_ltup {h : MH} (l : List Int) : pyOf h (.tup (l.map D.int)) = some (.tuple (l.map PyData.int)) := by
  unfold pyOf
  have e : D.py h 12 (.tup (l.map D.int)) = some (.tuple (l.map PyData.int)) := by
    show ((pyAll (D.py h 11) (l.map D.int)).map PyData.tuple) = _
    rw [pyAll_ints]; rfl
  rw [e]
  have q : SeqAt.shaped (.tuple (l.map PyData.int)) = true := by
    show (PyData.canLayAll0 (l.map PyData.int) && decide (PyData.depthAll (l.map PyData.int) + 1 ≤ 64)) = true
    rw [lay_ints, dep_ints]
    rfl
  show (if SeqAt.shaped (.tuple (l.map PyData.int)) = true then some (PyData.tuple (l.map PyData.int)) else none) = _
  rw [if_pos q]
theorem py_llst {h : MH} (l : List Int) : pyOf h (.lst (l.map D.int)) = some (.list (l.map PyData.int)) := by
  unfold pyOf
  have e : D.py h 12 (.lst (l.map D.int)) = some (.list (l.map PyData.int)) := by
    show ((pyAll (D.py h 11) (l.map D.int)).map PyData.list) = _
    rw [pyAll_ints]; rfl
  rw [e]
  have q : SeqAt.shaped (.list (l.map PyData.int)) = true := by
    show (PyData.canLayAll0 (l.map PyData.int) && decide (PyData.depthAll (l.map PyData.int) + 1 ≤ 64)) = true
    rw [lay_ints, dep_ints]
    rfl
  show (if SeqAt.shaped (.list (l.map PyData.int)) = true then some (PyData.list (l.map PyData.int)) else none) = _
  rw [if_pos q]
theorem py_int {h : MH} (i : Int) : pyOf h (.int i) = some (.int i) := rfl
theorem vEq_tups (l m : List Int) (h : MH) : vEq (.tup (l.map D.int)) (.tup (m.map D.int)) h = .ok (.bl (decide (l = m))) h := by
  unfold vEq
  rw [py_ltup, py_ltup, ← eqv_ints]
  rfl
theorem vNe_tups (l m : List Int) (h : MH) : vNe (.tup (l.map D.int)) (.tup (m.map D.int)) h = .ok (.bl (!decide (l = m))) h := by
  unfold vNe
  rw [py_ltup, py_ltup, ← eqv_ints]
  rfl
theorem vEq_lsts (l m : List Int) (h : MH) : vEq (.lst (l.map D.int)) (.lst (m.map D.int)) h = .ok (.bl (decide (l = m))) h := by
  unfold vEq
  rw [py_llst, py_llst, ← eqv_ints]
  rfl
theorem vNe_lsts (l m : List Int) (h : MH) : vNe (.lst (l.map D.int)) (.lst (m.map D.int)) h = .ok (.bl (!decide (l = m))) h := by
  unfold vNe
  rw [py_llst, py_llst, ← eqv_ints]
  rfl
theorem any_ints (i : Int) : ∀ l : List Int, ((l.map PyData.int).any fun z => PyData.eqv z (.int i)) = decide (i ∈ l)
  | [] => rfl
  | j :: r => by
    show ((j == i) || (r.map PyData.int).any fun z => PyData.eqv z (.int i)) = _
    rw [any_ints i r]
    by_cases e : j = i
    · subst e; simp
    · have e2 : ¬ i = j := fun z => e z.symm
      simp [e, e2]
theorem vIn_tup (i : Int) (l : List Int) (h : MH) : vIn (.int i) (.tup (l.map D.int)) h = .ok (.bl (decide (i ∈ l))) h := by
  unfold vIn
  rw [py_ltup, py_int, ← any_ints]
  rfl
theorem vIn_lst (i : Int) (l : List Int) (h : MH) : vIn (.int i) (.lst (l.map D.int)) h = .ok (.bl (decide (i ∈ l))) h := by
  unfold vIn
  rw [py_llst, py_int, ← any_ints]
  rfl
/-! the bag -/
def Bg (h : MH) (n : Nat) (c : Int) : Prop := ∃ a b c', h[n]? = some [.int a, .int b, .int c'] ∧ 0 ≤ c' ∧ c' ≤ c
theorem Bg.up {h : MH} {n : Nat} {c d : Int} (b : Bg h n c) (e : c ≤ d) : Bg h n d := by
  obtain ⟨x, y, z, e1, e2, e3⟩ := b
  exact ⟨x, y, z, e1, e2, by omega⟩
theorem Bg.other {h : MH} {n m : Nat} {c : Int} {x : List D} (b : Bg h n c) (hm : m ≠ n) : Bg (h.set m x) n c := by
  obtain ⟨p, q, r, e1, e2, e3⟩ := b
  exact ⟨p, q, r, by rw [List.getElem?_set_ne hm]; exact e1, e2, e3⟩
theorem Bg.lt {h : MH} {n : Nat} {c : Int} (b : Bg h n c) : n < h.length := by
  obtain ⟨p, q, r, e1, e2, e3⟩ := b
  exact (List.getElem?_eq_some_iff.mp e1).1
theorem Bg.app {h : MH} {n : Nat} {c : Int} {x : List D} (b : Bg h n c) : Bg (h ++ [x]) n c := by
  have hl := b.lt
  obtain ⟨p, q, r, e1, e2, e3⟩ := b
  exact ⟨p, q, r, by rw [List.getElem?_append_left hl]; exact e1, e2, e3⟩
theorem at_end {h : MH} {x : List D} : (h ++ [x])[h.length]? = some x := by
  rw [List.getElem?_append_right (Nat.le_refl _)]
  simp
/-- the cells but n as they were (more may be there) -/
def Kp (n : Nat) (h h' : MH) : Prop := h.length ≤ h'.length ∧ ∀ j, j < h.length → j ≠ n → h'[j]? = h[j]?
theorem Kp.refl {n : Nat} {h : MH} : Kp n h h := ⟨Nat.le_refl _, fun _ _ _ => rfl⟩
theorem Kp.trans {n : Nat} {h h' h2 : MH} (a : Kp n h h') (b : Kp n h' h2) : Kp n h h2 :=
  ⟨Nat.le_trans a.1 b.1, fun j hj hn => (b.2 j (Nat.lt_of_lt_of_le hj a.1) hn).trans (a.2 j hj hn)⟩
theorem Kp.set {n : Nat} {h : MH} {l : List D} : Kp n h (h.set n l) := ⟨by rw [List.length_set]; exact Nat.le_refl _, fun j _ hn => List.getElem?_set_ne (fun z => hn z.symm)⟩
theorem Kp.app {n : Nat} {h : MH} {l : List D} : Kp n h (h ++ [l]) := ⟨by rw [List.length_append]; omega, fun j hj _ => List.getElem?_append_left hj⟩
/-- a cell beyond the old ones is free to be set -/
theorem Kp.over {n m : Nat} {h h' : MH} {l : List D} (a : Kp n h h') (hm : h.length ≤ m) : Kp n h (h'.set m l) :=
  ⟨by rw [List.length_set]; exact a.1, fun j hj hn => by rw [List.getElem?_set_ne (by omega)]; exact a.2 j hj hn⟩
/-! loops over lists -/
section
variable {t : MT} {a : ME} {ρ : Env1} {h : MH} {vi : Nat} {chk : MH → Bool}
theorem loopC_ints {q : Int → Bool} {F : Int → D} (hc : chk h = true) (l : List Int) (hd : ∀ i ∈ l, t (ρ.set vi (some (.int i))) h = .ok (q i) h ∧ (q i = true → a (ρ.set vi (some (.int i))) h = .ok (F i) h)) (hl : l.length ≤ 16777216) :
    loopC (gN vi) t a ρ chk (l.map D.int) [] h = .ok ((l.filter q).map F) h := by
  have e := loopC_pure (t := t) (a := a) (ρ := ρ) (vi := vi) (P := fun d => match d with | .int i => q i | _ => false) (f := fun d => match d with | .int i => F i | d => d) (chk := chk) (h := h) hc (l.map D.int) [] (fun d hd' => by
    obtain ⟨i, hi, rfl⟩ := List.mem_map.mp hd'
    exact hd i hi) (by rw [List.length_map]; simpa using hl)
  rw [e]
  congr 1
  rw [List.nil_append]
  clear e hd hl
  induction l with
  | nil => rfl
  | cons i r ih => cases hq : q i <;> simp [hq, ih]
theorem loopC_inv {I : Nat → MH → Prop} {Pd : D → Prop} {N : Nat} (hc : ∀ h, chk h = true) (step : ∀ k d h, k < N → I k h → ∃ v h', a (ρ.set vi (some d)) h = .ok v h' ∧ Pd v ∧ I (k + 1) h') : ∀ (items acc : List D) (k : Nat) (h : MH), k + items.length ≤ N → I k h → acc.length + items.length ≤ 16777216 →
    ∃ out h', loopC (gN vi) mYes a ρ chk items acc h = .ok (acc ++ out) h' ∧ out.length = items.length ∧ (∀ v ∈ out, Pd v) ∧ I (k + items.length) h'
  | [], acc, k, h, _, i, _ => ⟨[], h, by unfold loopC; rw [if_pos (hc h)]; simp, rfl, fun v hv => (by cases hv), i⟩
  | d :: r, acc, k, h, hk, i, hl => by
    rw [List.length_cons] at hk
    rw [List.length_cons] at hl
    obtain ⟨v, h1, e1, p1, i1⟩ := step k d h (by omega) i
    obtain ⟨out, h2, e2, l2, p2, i2⟩ := loopC_inv hc step r (acc ++ [v]) (k + 1) h1 (by omega) i1 (by rw [List.length_append, List.length_singleton]; omega)
    refine ⟨v :: out, h2, ?_, by rw [List.length_cons, l2]; rfl, fun u hu => ?_, by rw [List.length_cons, show k + (r.length + 1) = k + 1 + r.length by omega]; exact i2⟩
    · unfold loopC
      rw [if_pos (hc h)]
      simp only [gN_ap, mYes_ap, noEx_ok, bind_ok, e1]
      rw [if_pos (by omega), e2]
      simp
    · rcases List.mem_cons.mp hu with z | z
      · rw [z]; exact p1
      · exact p2 u z
theorem vAll_bls (l : List Int) (b : Int → Bool) (h : MH) : vAll (.lst (l.map fun i => D.bl (b i))) h = .ok (.bl (l.all b)) h := by
  have e : asBools (l.map fun i => D.bl (b i)) = some (l.map b) := by
    clear h
    induction l with
    | nil => rfl
    | cons i r ih => simp only [List.map_cons, asBools, ih, Option.map_some]
  show (match ((some (l.map fun i => D.bl (b i))).bind asBools) with | some l => R.ok (D.bl (l.all id)) h | none => .bad) = _
  rw [Option.bind_some, e]
  simp only [List.all_map, Function.id_comp, id]
theorem vAny_bls (l : List Int) (b : Int → Bool) (h : MH) : vAny (.lst (l.map fun i => D.bl (b i))) h = .ok (.bl (l.any b)) h := by
  have e : asBools (l.map fun i => D.bl (b i)) = some (l.map b) := by
    clear h
    induction l with
    | nil => rfl
    | cons i r ih => simp only [List.map_cons, asBools, ih, Option.map_some]
  show (match ((some (l.map fun i => D.bl (b i))).bind asBools) with | some l => R.ok (D.bl (l.any id)) h | none => .bad) = _
  rw [Option.bind_some, e]
  simp only [List.any_map, Function.id_comp, id]
end
theorem ints_as : ∀ l : List Int, asInts (l.map D.int) = some l
  | [] => rfl
  | i :: r => by simp only [List.map_cons, asInts, ints_as r, Option.map_some]
theorem vMaxL_ints {i : Int} {r : List Int} {h : MH} : vMaxL (.lst ((i :: r).map D.int)) h = .ok (.int (maxI (i :: r))) h := by
  have e : (listOf h (.lst ((i :: r).map D.int))).bind asInts = some (i :: r) := ints_as (i :: r)
  unfold vMaxL
  rw [e]
theorem maxI_lt {b : Int} : ∀ {l : List Int}, l ≠ [] → (∀ i ∈ l, i < b) → maxI l < b
  | [], h, _ => absurd rfl h
  | [i], _, h => h i (by simp)
  | i :: j :: r, _, h => by
    have ih := maxI_lt (l := j :: r) (by simp) fun k hk => h k (List.mem_cons_of_mem _ hk)
    unfold maxI
    split
    · exact ih
    · exact h i (by simp)
mutual
theorem D.eqb_refl : ∀ d : D, D.eqb d d = true
  | .non => rfl
  | .bl a => by simp [D.eqb]
  | .int a => by simp [D.eqb]
  | .str a => by simp [D.eqb]
  | .ty a => by simp [D.eqb]
  | .th a => by simp [D.eqb]
  | .adr a => by simp [D.eqb]
  | .tup a => by simp [D.eqb, Ds.eqb_refl a]
  | .lst a => by simp [D.eqb, Ds.eqb_refl a]
  | .cell a => by simp [D.eqb]
  | .dcell a => by simp [D.eqb]
  | .scr a => by simp [D.eqb]
  | .ctp a => by simp [D.eqb]
  | .dic k a => by simp [D.eqb, Ds.eqb_refl a, Ds.eqb_refl k]
  | .dct k a => by simp [D.eqb, Ds.eqb_refl a, Ds.eqb_refl k]
  | .frd k a => by simp [D.eqb, Ds.eqb_refl a, Ds.eqb_refl k]
  | .obj c a => by simp [D.eqb, Ds.eqb_refl a]
  | .unset => rfl
theorem Ds.eqb_refl : ∀ l : List D, Ds.eqb l l = true
  | [] => rfl
  | d :: r => by simp [Ds.eqb, D.eqb_refl d, Ds.eqb_refl r]
end
theorem chk_cell {h : MH} {n : Nat} {l : List D} (e : h[n]? = some l) : (Src.mk l (some (n, l))).chk h = true := by
  unfold Src.chk
  simp only [e]
  exact Ds.eqb_refl l
theorem srcS_cell {h : MH} {n : Nat} {l : List D} (e : h[n]? = some l) : srcS (.cell n) h = .ok ⟨l, some (n, l)⟩ h := by
  show (match h[n]? with
    | some l => R.ok (Src.mk l (some (n, l))) h
    | none => .bad) = _
  rw [e]
theorem py_cell {h : MH} {q : Nat} {L : List D} (e : h[q]? = some L) : pyOf h (.cell q) = pyOf h (.lst L) := by
  have a : D.py h 12 (.cell q) = (h[q]?).bind fun l => (pyAll (D.py h 11) l).map .list := rfl
  have b : D.py h 12 (.lst L) = (pyAll (D.py h 11) L).map .list := rfl
  unfold pyOf
  rw [a, b, e]
  rfl
theorem repr_cell {h : MH} {q : Nat} {L : List D} (e : h[q]? = some L) : vReprD (.cell q) h = vReprD (.lst L) h := by
  unfold vReprD
  rw [py_cell e]
theorem eq_cell {h : MH} {q : Nat} {L : List D} {d : D} (e : h[q]? = some L) : vEq (.cell q) d h = vEq (.lst L) d h := by
  unfold vEq
  rw [py_cell e]
theorem pyAll_strs {h : MH} {k : Nat} : ∀ l : List Str, pyAll (D.py h k) (l.map D.str) = some (l.map PyData.str)
  | [] => rfl
  | i :: r => by
    have e : D.py h k (.str i) = some (.str i) := by cases k <;> rfl
    simp only [List.map_cons, pyAll, e, pyAll_strs r, Option.bind_some]
theorem lay_strs : ∀ l : List Str, (∀ s ∈ l, PyData.strOk s = true) → PyData.canLayAll0 (l.map PyData.str) = true
  | [], _ => rfl
  | i :: r, h => by
    show (PyData.strOk i && PyData.canLayAll0 (r.map PyData.str)) = true
    rw [lay_strs r fun s hs => h s (List.mem_cons_of_mem _ hs), h i List.mem_cons_self]
    rfl
theorem dep_strs : ∀ l : List Str, PyData.depthAll (l.map PyData.str) = 0
  | [] => rfl
  | i :: r => by
    show max (PyData.depth (.str i)) (PyData.depthAll (r.map PyData.str)) = 0
    rw [dep_strs r]
    rfl
theorem eqv_strs : ∀ l : List Str, PyData.eqvAll (l.map PyData.str) (l.map PyData.str) = true
  | [] => rfl
  | i :: r => by
    show ((i == i) && PyData.eqvAll (r.map PyData.str) (r.map PyData.str)) = true
    rw [eqv_strs r, beq_self_eq_true]
    rfl
theorem eq_strs {l : List Str} {h : MH} (hs : ∀ s ∈ l, PyData.strOk s = true) : vEq (.lst (l.map D.str)) (.lst (l.map D.str)) h = .ok (.bl true) h := by
  have e : D.py h 12 (.lst (l.map D.str)) = some (.list (l.map PyData.str)) := by
    show ((pyAll (D.py h 11) (l.map D.str)).map PyData.list) = _
    rw [pyAll_strs]; rfl
  have q : SeqAt.shaped (.list (l.map PyData.str)) = true := by
    show (PyData.canLayAll0 (l.map PyData.str) && decide (PyData.depthAll (l.map PyData.str) + 1 ≤ 64)) = true
    rw [lay_strs l hs, dep_strs]
    rfl
  have o : pyOf h (.lst (l.map D.str)) = some (.list (l.map PyData.str)) := by
    unfold pyOf
    rw [e]
    show (if SeqAt.shaped (.list (l.map PyData.str)) = true then some (PyData.list (l.map PyData.str)) else none) = _
    rw [if_pos q]
  unfold vEq
  rw [o]
  show R.ok (D.bl (PyData.eqvAll (l.map PyData.str) (l.map PyData.str))) h = _
  rw [eqv_strs]
/-- a loop that goes through -/
theorem loopF_all {u : MG} {b : MS} {chk : MH → Bool} {P : D → Prop} {I : Env1 → MH → Prop} (hc : ∀ h, chk h = true) (step : ∀ d ρ h, P d → I ρ h → ∃ ρ1 h1 ρ2 h2, u d ρ h = some (ρ1, h1) ∧ b ρ1 h1 = .nx ρ2 h2 ∧ I ρ2 h2) :
    ∀ (items : List D) (ρ : Env1) (h : MH), (∀ d ∈ items, P d) → I ρ h → ∃ ρ' h', loopF u b chk items ρ h = .nx ρ' h' ∧ I ρ' h'
  | [], ρ, h, _, i => ⟨ρ, h, by unfold loopF; rw [if_pos (hc h)], i⟩
  | d :: r, ρ, h, hp, i => by
    obtain ⟨ρ1, h1, ρ2, h2, e1, e2, i2⟩ := step d ρ h (hp d List.mem_cons_self) i
    obtain ⟨ρ', h', e3, i3⟩ := loopF_all hc step r ρ2 h2 (fun x hx => hp x (List.mem_cons_of_mem _ hx)) i2
    refine ⟨ρ', h', ?_, i3⟩
    unfold loopF
    rw [if_pos (hc h), e1]
    simp only [e2]
    exact e3
theorem k_of (n : Nat) : ∃ k : Nat, k ≤ 3 ∧ (if (if ((n : Nat) : Int) < 3 then ((n : Nat) : Int) else 3) > 1 then (if ((n : Nat) : Int) < 3 then ((n : Nat) : Int) else 3) else 1) = ((k : Nat) : Int) := by
  by_cases h0 : n = 0
  · subst h0
    exact ⟨1, by decide, by decide⟩
  · by_cases h1 : n = 1
    · subst h1
      exact ⟨1, by decide, by decide⟩
    · by_cases h2 : n = 2
      · subst h2
        exact ⟨2, by decide, by decide⟩
      · refine ⟨3, by decide, ?_⟩
        have e : ¬ ((n : Int) < 3) := by omega
        simp only [e, if_false]
        decide
/-- the rounds of a law -/
theorem rounds {ρ : Env1} {h : MH} {ns : List Int} (r0 : ρ[0]? = some (some (.scr ns))) : ∃ k : Nat, k ≤ 3 ∧ mSrcA (mCons (mCall (vTwo vMax2) (mCons (mC (.int 1)) (mCons (mCall (vTwo vMin2) (mCons (mC (.int 3)) (mCons (mCall (vOne vLen) (mCons (mVar 0) mNil)) mNil))) mNil))) mNil) srcR1 ρ h = .ok ⟨rngD 0 k, none⟩ h := by
  have vl : vLen (.scr ns) h = .ok (.int ((ns.length : Nat) : Int)) h := by
    unfold vLen
    simp only [seqOf, List.length_map]
  obtain ⟨k, hk, hm⟩ := k_of ns.length
  have sr := src_r1 (p := ((k : Nat) : Int)) (by omega) (by omega) h
  have a0 : mCall (vOne vLen) (mCons (mVar 0) mNil) ρ h = .ok (.int ((ns.length : Nat) : Int)) h := by
    rw [mCall_ap, mCons_ap, mVar_ap]
    simp only [r0, bind_ok, mNil_ap, vOne_ap, vl]
  have a1 : mCall (vTwo vMin2) (mCons (mC (.int 3)) (mCons (mCall (vOne vLen) (mCons (mVar 0) mNil)) mNil)) ρ h = .ok (.int (if ((ns.length : Nat) : Int) < 3 then ((ns.length : Nat) : Int) else 3)) h := by
    rw [mCall_ap, mCons_ap, mC_ap, bind_ok, mCons_ap, a0, bind_ok, mNil_ap, bind_ok, bind_ok, bind_ok, vTwo_ap, vMin2_i]
  revert a1 hm
  generalize (if ((ns.length : Nat) : Int) < 3 then ((ns.length : Nat) : Int) else 3) = M
  intro hm a1
  have a2 : mCons (mCall (vTwo vMax2) (mCons (mC (.int 1)) (mCons (mCall (vTwo vMin2) (mCons (mC (.int 3)) (mCons (mCall (vOne vLen) (mCons (mVar 0) mNil)) mNil))) mNil))) mNil ρ h = .ok [.int ((k : Nat) : Int)] h := by
    rw [mCons_ap, mCall_ap, mCons_ap, mC_ap, bind_ok, mCons_ap, a1, bind_ok, mNil_ap, bind_ok, bind_ok, bind_ok, vTwo_ap, vMax2_i, bind_ok, mNil_ap, bind_ok, hm]
  exact ⟨k, hk, by rw [mSrcA_ap, a2, bind_ok, sr, Int.toNat_natCast]⟩
theorem rng_k {k : Nat} {d : D} (hk : k ≤ 3) (h : d ∈ rngD 0 k) : ∃ i : Nat, d = .int (i : Nat) ∧ i ≤ 100 := by
  obtain ⟨i, rfl, a, b⟩ := rngD_mem h
  exact ⟨i.toNat, by rw [show ((i.toNat : Nat) : Int) = i by omega], by omega⟩
end MI
/-! comprehensions with two fors -/
namespace MI
open PySem PySem.Spec
open PyProof.Rows L2
def loop2 (u : MG) (t : MT) (i1 : MI') (u1 : MG) (t1 : MT) (m : ME) (ρ : Env1) (vs1 : List Nat) (chk : MH → Bool) : List D → List D → MH → R (List D)
  | [], acc, h => if chk h = true then .ok acc h else .bad
  | d :: r, acc, h => if chk h = true then (match u d ρ h with
    | none => .bad
    | some (ρ1, h1) => (noEx (t ρ1 h1)).bind fun b h2 => match b with
      | true => (noEx (i1 ρ1 h2)).bind fun s h3 => (loopC u1 t1 m (wipeM ρ1 vs1) s.chk s.items acc h3).bind fun acc' h4 => loop2 u t i1 u1 t1 m ρ vs1 chk r acc' h4
      | false => loop2 u t i1 u1 t1 m ρ vs1 chk r acc h2) else .bad
def mLc2 (i : MI') (u : MG) (t : MT) (i1 : MI') (u1 : MG) (t1 : MT) (m : ME) (vs vs1 : List Nat) : ME := fun ρ h => (i ρ h).bind fun s h1 => (loop2 u t i1 u1 t1 m (wipeM ρ vs) vs1 s.chk s.items [] h1).bind fun l h2 => .ok (.lst l) h2
section
variable {g : Gm} {W : WX} {X : Cx} {mi mi1 : MI'} {u u1 : MG} {mt mt1 : MT} {me : ME} {wt wt1 : TG} {vs vs1 : List Nat}
theorem imp_lc2 (hg : GOk g vs wt u) (hg1 : GOk g vs1 wt1 u1) {fin : List D → MH → R D} (σ : L2.St) (H : Hp) (Q : VK)
    (t : tE g W (fun ρ h => (mi ρ h).bind fun s h1 => (loop2 u mt mi1 u1 mt1 me (wipeM ρ vs) vs1 s.chk s.items [] h1).bind fin) σ H Q)
    (hfin : ∀ φ1 H1 D0 φ2 H2 h2 acc ds, H1 D0 = none → ¬ φ1.has D0 → LcAt g φ1 H1 D0 φ2 H2 h2 acc ds → Out g W σ φ1 H1 (Rep g.r) Q (fin ds h2) → Q (.ref D0) H2) :
    tLc2 (tI g W mi) wt (tT g W0 mt) (tI g W0 mi1) wt1 (tT g W0 mt1) (tE g W0 me) vs vs1 σ H Q := by
  obtain ⟨φ, ρ, h, s, m, o⟩ := t
  refine ⟨φ, ρ, h, s, m, ?_⟩
  dsimp only at o
  cases hr : mi ρ h with
  | bad => rw [hr] at o; exact o
  | exc x h1 => rw [hr] at o; exact o
  | ok src h1 =>
    rw [hr] at o
    have o : Out g W σ φ H (Rep g.r) Q ((loop2 u mt mi1 u1 mt1 me (wipeM ρ vs) vs1 src.chk src.items [] h1).bind fin) := o
    intro φ1 J H1 e1 m1 wk D0 hD0
    have nD := m1.notin hD0
    have o1 := Out.base e1 o
    have s1 := s.ext e1
    obtain ⟨eg, mg⟩ := mk_g (o := .lst []) m1 hD0 Pl.lst
    refine ⟨fun i k H' => k = src.items.length - i ∧ i ≤ src.items.length ∧ ∃ φ2 h2 acc ds, LcAt g φ1 H1 D0 φ2 H' h2 acc ds ∧ Out g W σ φ1 H1 (Rep g.r) Q ((loop2 u mt mi1 u1 mt1 me (wipeM ρ vs) vs1 src.chk (src.items.drop i) ds h2).bind fin), ⟨src.items.length, by simp, Nat.zero_le _, ⟨φ1.c, D0 :: φ1.g, φ1.m⟩, h1, [], [], ⟨eg, mg, List.mem_cons_self, upd_same, .nil⟩, o1⟩, ?_⟩
    rintro i k H2 ⟨rfl, hi, φ2, h2, acc, ds, L, o2⟩
    by_cases hlt : i < src.items.length
    · rw [List.drop_eq_getElem_cons hlt] at o2
      unfold loop2 at o2
      split at o2
      · rename_i hck
        obtain ⟨w1, w2⟩ := (wk φ2 H2 h2 L.e.tr L.m hck i)
        obtain ⟨go, yl⟩ := w1 src.items[i] (by simp [hlt])
        refine .inr ⟨go, fun H' => ∃ φ2 h2 acc ds, LcAt g φ1 H1 D0 φ2 H' h2 acc ds ∧ Out g W σ φ1 H1 (Rep g.r) Q ((loop2 u mt mi1 u1 mt1 me (wipeM ρ vs) vs1 src.chk (src.items.drop (i + 1)) ds h2).bind fin), fun H' q => ⟨src.items.length - (i + 1), by omega, rfl, hlt, q⟩, fun x H3 y => ?_⟩
        obtain ⟨φ3, e3, r3, m3⟩ := yl x H3 y
        cases hu : u src.items[i] (wipeM ρ vs) h2 with
        | none => rw [hu] at o2; exact o2.elim
        | some q =>
          obtain ⟨ρ4, h4⟩ := q
          rw [hu] at o2
          refine hg ((s1.ext (L.e.trans e3)).wipe vs) r3 hu fun σ4 eh s4 w4 => ⟨w4.trans (wipe_wipe vs vs σ fun _ h => h), ?_⟩
          subst eh
          dsimp only at o2
          refine ⟨φ3, ρ4, h4, s4, m3, ?_⟩
          cases ht : mt ρ4 h4 with
          | bad => rw [ht] at o2; exact o2.elim
          | exc _ _ => rw [ht] at o2; exact o2.elim
          | ok b h5 =>
            rw [ht] at o2
            intro φ5 b' H5 e5 r5 m5
            cases (show b' = b from r5)
            have e25 := e3.trans e5
            cases b with
            | false => exact ⟨φ5, h5, acc, ds, ⟨L.e.trans e25, m5, e25.gh _ L.d, (e25.gk _ L.d).trans L.o, L.r.ext e25⟩, o2⟩
            | true =>
              have s5 := s4.ext e5
              refine ⟨φ5, ρ4, h5, s5, m5, ?_⟩
              have o3 : Out g W σ φ1 H1 (Rep g.r) Q (((noEx (mi1 ρ4 h5)).bind fun s h3 => (loopC u1 mt1 me (wipeM ρ4 vs1) s.chk s.items ds h3).bind fun acc' h4 => loop2 u mt mi1 u1 mt1 me (wipeM ρ vs) vs1 src.chk (src.items.drop (i + 1)) acc' h4).bind fin) := o2
              clear o2
              cases hm1 : mi1 ρ4 h5 with
              | bad => rw [hm1] at o3; exact o3.elim
              | exc _ _ => rw [hm1] at o3; exact o3.elim
              | ok sr1 h6 =>
                rw [hm1] at o3
                have o4 : Out g W σ φ1 H1 (Rep g.r) Q (((loopC u1 mt1 me (wipeM ρ4 vs1) sr1.chk sr1.items ds h6).bind fun acc' h4 => loop2 u mt mi1 u1 mt1 me (wipeM ρ vs) vs1 src.chk (src.items.drop (i + 1)) acc' h4).bind fin) := o3
                clear o3
                intro φ6 J1 H6 e6 m6 wk1
                have e26 := e25.trans e6
                refine ⟨fun j k H' => k = sr1.items.length - j ∧ j ≤ sr1.items.length ∧ ∃ φ7 h7 acc7 ds7, LcAt g φ1 H1 D0 φ7 H' h7 acc7 ds7 ∧ Tr φ6 H6 φ7 H' ∧ Out g W σ φ1 H1 (Rep g.r) Q (((loopC u1 mt1 me (wipeM ρ4 vs1) sr1.chk (sr1.items.drop j) ds7 h7).bind fun acc' h4 => loop2 u mt mi1 u1 mt1 me (wipeM ρ vs) vs1 src.chk (src.items.drop (i + 1)) acc' h4).bind fin),
                  ⟨sr1.items.length, by simp, Nat.zero_le _, φ6, h6, acc, ds, ⟨L.e.trans e26, m6, e26.gh _ L.d, (e26.gk _ L.d).trans L.o, L.r.ext e26⟩, Tr.refl, o4⟩, ?_⟩
                rintro j k7 H7 ⟨rfl, hj, φ7, h7, acc7, ds7, L7, e7, o7⟩
                have s7 := (s5.ext e6).tr e7
                by_cases hlt1 : j < sr1.items.length
                · rw [List.drop_eq_getElem_cons hlt1] at o7
                  unfold loopC at o7
                  split at o7
                  · rename_i hck1
                    obtain ⟨w3, w4'⟩ := (wk1 φ7 H7 h7 e7 L7.m hck1 j)
                    obtain ⟨go1, yl1⟩ := w3 sr1.items[j] (by simp [hlt1])
                    refine .inr ⟨go1, fun H' => ∃ φ7 h7 acc7 ds7, LcAt g φ1 H1 D0 φ7 H' h7 acc7 ds7 ∧ Tr φ6 H6 φ7 H' ∧ Out g W σ φ1 H1 (Rep g.r) Q (((loopC u1 mt1 me (wipeM ρ4 vs1) sr1.chk (sr1.items.drop (j + 1)) ds7 h7).bind fun acc' h4 => loop2 u mt mi1 u1 mt1 me (wipeM ρ vs) vs1 src.chk (src.items.drop (i + 1)) acc' h4).bind fin), fun H' q => ⟨sr1.items.length - (j + 1), by omega, rfl, hlt1, q⟩, fun x8 H8 y8 => ?_⟩
                    obtain ⟨φ8, e8, r8, m8⟩ := yl1 x8 H8 y8
                    cases hu1 : u1 sr1.items[j] (wipeM ρ4 vs1) h7 with
                    | none => rw [hu1] at o7; exact o7.elim
                    | some q =>
                      obtain ⟨ρ9, h9⟩ := q
                      rw [hu1] at o7
                      refine hg1 ((s7.ext e8).wipe vs1) r8 hu1 fun σ9 eh s9 w9 => ⟨w9.trans (wipe_wipe vs1 vs1 σ4 fun _ h => h), ?_⟩
                      subst eh
                      dsimp only at o7
                      refine ⟨φ8, ρ9, h9, s9, m8, ?_⟩
                      cases ht1 : mt1 ρ9 h9 with
                      | bad => rw [ht1] at o7; exact o7.elim
                      | exc _ _ => rw [ht1] at o7; exact o7.elim
                      | ok b1 h10 =>
                        rw [ht1] at o7
                        intro φ10 b1' H10 e10 r10 m10
                        cases (show b1' = b1 from r10)
                        have e810 := e8.trans e10
                        cases b1 with
                        | false => exact ⟨φ10, h10, acc7, ds7, ⟨L7.e.trans e810, m10, e810.gh _ L7.d, (e810.gk _ L7.d).trans L7.o, L7.r.ext e810⟩, e7.trans e810.tr, o7⟩
                        | true =>
                          refine ⟨φ10, ρ9, h10, s9.ext e10, m10, ?_⟩
                          have o8 : Out g W σ φ1 H1 (Rep g.r) Q ((((noEx (me ρ9 h10)).bind fun y h3 => if ds7.length < 16777216 then loopC u1 mt1 me (wipeM ρ4 vs1) sr1.chk (sr1.items.drop (j + 1)) (ds7 ++ [y]) h3 else .bad : R (List D)).bind fun acc' h4 => loop2 u mt mi1 u1 mt1 me (wipeM ρ vs) vs1 src.chk (src.items.drop (i + 1)) acc' h4).bind fin) := o7
                          clear o7
                          cases hm : me ρ9 h10 with
                          | bad => rw [hm] at o8; exact o8.elim
                          | exc _ _ => rw [hm] at o8; exact o8.elim
                          | ok y' h11 =>
                            rw [hm] at o8
                            intro φ11 v11 H11 e11 r11 m11
                            have o9 : Out g W σ φ1 H1 (Rep g.r) Q (((if ds7.length < 16777216 then loopC u1 mt1 me (wipeM ρ4 vs1) sr1.chk (sr1.items.drop (j + 1)) (ds7 ++ [y']) h11 else .bad : R (List D)).bind fun acc' h4 => loop2 u mt mi1 u1 mt1 me (wipeM ρ vs) vs1 src.chk (src.items.drop (i + 1)) acc' h4).bind fin) := o8
                            have e811 := e810.trans e11
                            have r811 := L7.r.ext e811
                            have d11 := e811.gh _ L7.d
                            have x11 := L7.e.trans e811
                            split at o9
                            · rename_i hs
                              exact ⟨acc7, (e811.gk _ L7.d).trans L7.o, by rw [L7.r.length, sizeLine_eq]; exact hs, φ11, h11, acc7 ++ [v11], ds7 ++ [y'], ⟨x11.gset nD d11, m11.gput d11 Pl.lst, d11, upd_same, (r811.append (.one r11)).tr (Tr.upd (.inr (.inr d11)))⟩, (e7.trans e811.tr).trans (Tr.upd (.inr (.inr d11))), o9⟩
                            · exact o9.elim
                  · exact o7.elim
                · have ej : j = sr1.items.length := by omega
                  subst ej
                  rw [List.drop_length] at o7
                  unfold loopC at o7
                  split at o7
                  · rename_i hck1
                    obtain ⟨w3, w4'⟩ := (wk1 φ7 H7 h7 e7 L7.m hck1 sr1.items.length)
                    exact .inl ⟨w4' (Nat.le_refl _), φ7, h7, acc7, ds7, L7, o7⟩
                  · exact o7.elim
      · exact o2.elim
    · have ei : i = src.items.length := by omega
      subst ei
      rw [List.drop_length] at o2
      unfold loop2 at o2
      split at o2
      · rename_i hck
        obtain ⟨w1, w2⟩ := (wk φ2 H2 h2 L.e.tr L.m hck src.items.length)
        exact .inl ⟨w2 (Nat.le_refl _), hfin φ1 H1 D0 φ2 H2 h2 acc ds hD0 nD L o2⟩
      · exact o2.elim
theorem imp_lc2L (hg : GOk g vs wt u) (hg1 : GOk g vs1 wt1 u1) (σ : L2.St) (H : Hp) (Q : VK) (t : tE g W (mLc2 mi u mt mi1 u1 mt1 me vs vs1) σ H Q) : tLc2 (tI g W mi) wt (tT g W0 mt) (tI g W0 mi1) wt1 (tT g W0 mt1) (tE g W0 me) vs vs1 σ H Q :=
  imp_lc2 hg hg1 σ H Q t fun φ1 H1 D0 φ2 H2 h2 acc ds hn nD L o => by
    obtain ⟨a, b, c⟩ := lc_end hn nD L
    exact o _ _ _ a c b
variable {elt tg iter tg1 iter1 : Expr} {ifs ifs1 : List Expr} {scope : Scope} {own : List (Str × Nat)} {pos : Pos}
theorem s_lc2 (hc : X.calm = true) (hN : X.N.Nodup) (hi : PI X tg iter (tI g W mi)) (ok : BlkOk X.N X.env.scope scope own) (hv : ∀ i ∈ vs1, i ∈ own.map (·.2)) (hgo : GOk g (own.map (·.2)) wt u) (hgo1 : GOk g vs1 wt1 u1)
    (hg : ∀ (s : Shared) (H : Hp) (C : Addr) (cl : List (Str × Addr)) (fp : List Addr), PG (X.blk s H scope (compEnvC scope cl C X.env) fp) tg wt) (ht : ∀ (s : Shared) (H : Hp) (C : Addr) (cl : List (Str × Addr)) (fp : List Addr), PTs (X.blk s H scope (compEnvC scope cl C X.env) fp) ifs (tT g W0 mt))
    (hi1 : ∀ (s : Shared) (H : Hp) (C : Addr) (cl : List (Str × Addr)) (fp : List Addr), PI (X.blk s H scope (compEnvC scope cl C X.env) fp) tg1 iter1 (tI g W0 mi1))
    (hg1 : ∀ (s : Shared) (H : Hp) (C : Addr) (cl : List (Str × Addr)) (fp : List Addr), PG (X.blk s H scope (compEnvC scope cl C X.env) fp) tg1 wt1) (ht1 : ∀ (s : Shared) (H : Hp) (C : Addr) (cl : List (Str × Addr)) (fp : List Addr), PTs (X.blk s H scope (compEnvC scope cl C X.env) fp) ifs1 (tT g W0 mt1))
    (he : ∀ (s : Shared) (H : Hp) (C : Addr) (cl : List (Str × Addr)) (fp : List Addr), PE (X.blk s H scope (compEnvC scope cl C X.env) fp) elt (tE g W0 me))
    (hs : ∀ x, foldedSetIterable iter X.env x = pure x := by intro _; rfl) (hs1 : ∀ env x, foldedSetIterable iter1 env x = pure x := by intro _ _; rfl) :
    PE X (.ListComp elt [⟨tg, iter, ifs, 0⟩, ⟨tg1, iter1, ifs1, 0⟩] scope pos) (tE g W (mLc2 mi u mt mi1 u1 mt1 me (own.map (·.2)) vs1)) := pe_imp (pe_lc2 hc hN hi ok hv hg ht hi1 hg1 ht1 he hs hs1) (imp_lc2L hgo hgo1)
theorem s_setLc2 {i : Nat} {y : Str} {py spos : Pos} (hc : X.calm = true) (hN : X.N.Nodup) (hsw : swapsWith (.ListComp elt [⟨tg, iter, ifs, 0⟩, ⟨tg1, iter1, ifs1, 0⟩] scope pos) (some (.Name y py)) spos.line X.env = pure true) (hi : PI X tg iter (tI g W mi)) (ok : BlkOk X.N X.env.scope scope own) (hv : ∀ i ∈ vs1, i ∈ own.map (·.2)) (hgo : GOk g (own.map (·.2)) wt u) (hgo1 : GOk g vs1 wt1 u1)
    (hg : ∀ (s : Shared) (H : Hp) (C : Addr) (cl : List (Str × Addr)) (fp : List Addr), PG (X.blk s H scope (compEnvC scope cl C X.env) fp) tg wt) (ht : ∀ (s : Shared) (H : Hp) (C : Addr) (cl : List (Str × Addr)) (fp : List Addr), PTs (X.blk s H scope (compEnvC scope cl C X.env) fp) ifs (tT g W0 mt))
    (hi1 : ∀ (s : Shared) (H : Hp) (C : Addr) (cl : List (Str × Addr)) (fp : List Addr), PI (X.blk s H scope (compEnvC scope cl C X.env) fp) tg1 iter1 (tI g W0 mi1))
    (hg1 : ∀ (s : Shared) (H : Hp) (C : Addr) (cl : List (Str × Addr)) (fp : List Addr), PG (X.blk s H scope (compEnvC scope cl C X.env) fp) tg1 wt1) (ht1 : ∀ (s : Shared) (H : Hp) (C : Addr) (cl : List (Str × Addr)) (fp : List Addr), PTs (X.blk s H scope (compEnvC scope cl C X.env) fp) ifs1 (tT g W0 mt1))
    (he : ∀ (s : Shared) (H : Hp) (C : Addr) (cl : List (Str × Addr)) (fp : List Addr), PE (X.blk s H scope (compEnvC scope cl C X.env) fp) elt (tE g W0 me))
    (hy : X.N[i]? = some y := by rfl) (hyl : X.env.scope.names.lookup y = some .local := by rfl)
    (hs : ∀ x, foldedSetIterable iter X.env x = pure x := by intro _; rfl) (hs1 : ∀ env x, foldedSetIterable iter1 env x = pure x := by intro _ _; rfl) :
    PS X (.Assign [.Name y py] (.ListComp elt [⟨tg, iter, ifs, 0⟩, ⟨tg1, iter1, ifs1, 0⟩] scope pos) spos) (tS g W (mAsg (mLc2 mi u mt mi1 u1 mt1 me (own.map (·.2)) vs1) (gN i))) := ps_imp (ps_setLc2 hc hN hy hyl hsw hi ok hv hg ht hi1 hg1 ht1 he hs hs1) fun E σ H t => by
  obtain ⟨φ, ρ, h, s, m, o⟩ := t
  have t' : tE g W (mLc2 mi u mt mi1 u1 mt1 me (own.map (·.2)) vs1) σ H (fun x H1 => gName i x σ H1 E.nx) := ⟨φ, ρ, h, s, m, OutS.expr s o fun d h1 φ1 v H1 e1 r1 m1 o1 => o1 φ1 _ H1 Ext.refl ((s.ext e1).set r1 i) m1⟩
  exact imp_lc2L hgo hgo1 σ H _ t'
end
end MI
/-! a generator def that ends with «yield from» a list, and list(..) of its call -/
namespace MI
open PySem PySem.Spec
open PyProof.Rows L2 GenW
section
variable {prog : Program} {w : World} {B : Around} {EX : Value → Shared → Prop} {sh : Shared}
theorem li_item {z l : Addr} {j : Nat} {arr : Array Value} {y : Value} {G : Option Value → Shared → Prop} (at' : sh.heap.IsListIter z l j) (ll : sh.heap.IsList l arr) (gy : arr[j]? = some y)
    (go : ∀ h', h'.IsListIter z l (j + 1) → Heap.SameBut z sh.heap h' → G (some y) { sh with heap := h' }) : wpAny (model prog w) B (callSpecial? (.ref z) "__next__") G EX sh := by
  obtain ⟨ob, g1, g2, g3⟩ := id at'
  obtain ⟨lo, g4, _, m, g5⟩ := ll
  refine wpAny_callSpecial?_slot (name := Str.ofString "__next__") at'.typeIs slot_listiter_next (wpAny_call_entry slot_listiter_next at'.typeIs entry_listiter_next ?_ (args_listiter_next _))
  show wpAny _ _ (field (.ref z) 0 >>= _) _ _ sh
  refine wpAny_bind (wpAny_field g1 g3 (x := .ref l) rfl ?_)
  show wpAny _ _ (if (Value.ref l == Value.none) = true then _ else _) _ _ sh
  rw [if_neg (by exact Bool.false_ne_true : ¬ ((Value.ref l == Value.none) = true))]
  show wpAny _ _ (field (.ref z) 1 >>= _) _ _ sh
  refine wpAny_bind (wpAny_field g1 g3 (x := .int j 0) rfl ?_)
  show wpAny _ _ (seqItems? (.ref l) >>= _) _ _ sh
  refine wpAny_bind (wpAny_seqItems g4 g5 ?_)
  simp only [gy, Int.toNat_natCast]
  refine wpAny_bind (wpAny_setField g1 g3 (by simp) (wpAny_pure ⟨y, rfl, go _ ⟨_, Heap.get?_update_self _ g1 (Obj.isFreed_of_fields (Obj.data_mapFields g3 _)), (Obj.cls_mapFields ..).trans g2, ?_⟩ (Heap.SameBut.update ..)⟩))
  rw [Obj.data_mapFields g3]
  simp [rawInt]
theorem li_end {z l : Addr} {j : Nat} {arr : Array Value} {G : Option Value → Shared → Prop} (nh : B.handled = none) (at' : sh.heap.IsListIter z l j) (ll : sh.heap.IsList l arr) (gy : arr[j]? = none)
    (go : ∀ e h', StopX e h' → Heap.ExtBut z sh.heap h' → EX e { sh with heap := h' }) : wpAny (model prog w) B (callSpecial? (.ref z) "__next__") G EX sh := by
  obtain ⟨ob, g1, g2, g3⟩ := id at'
  obtain ⟨lo, g4, _, m, g5⟩ := ll
  refine wpAny_callSpecial?_slot (name := Str.ofString "__next__") at'.typeIs slot_listiter_next (wpAny_call_entry slot_listiter_next at'.typeIs entry_listiter_next ?_ (args_listiter_next _))
  show wpAny _ _ (field (.ref z) 0 >>= _) _ _ sh
  refine wpAny_bind (wpAny_field g1 g3 (x := .ref l) rfl ?_)
  show wpAny _ _ (if (Value.ref l == Value.none) = true then _ else _) _ _ sh
  rw [if_neg (by exact Bool.false_ne_true : ¬ ((Value.ref l == Value.none) = true))]
  show wpAny _ _ (field (.ref z) 1 >>= _) _ _ sh
  refine wpAny_bind (wpAny_field g1 g3 (x := .int j 0) rfl ?_)
  show wpAny _ _ (seqItems? (.ref l) >>= _) _ _ sh
  refine wpAny_bind (wpAny_seqItems g4 g5 ?_)
  simp only [gy, Int.toNat_natCast]
  refine wpAny_bind (wpAny_rule (wpAny_bind (wpAny_setField g1 g3 (by simp) (?_ : wpAny _ _ (newExc (.type "StopIteration") [] >>= _) _ _ _))))
  refine wpAny_bind ?_
  simp only [newTuple, newExc]
  refine wpAny_bind (wpAny_newObj_type (hd := by size_fits) ?_)
  refine wpAny_bind (m := firstArgMember _ _) (wpAny_of_eq (a := Value.none) (by first | (simp only [firstArgMember]; rfl) | rfl) ?_)
  refine wpAny_newObj_type (hd := by size_fits) ?_
  simp only [raiseNew]
  refine wpAny_bind (wpAny_handled ?_)
  first | rw [nh] | rw [show B.in1.handled = none from nh]
  refine wpAny_bind (wpAny_pure (wpAny_throw (go _ _ ⟨_, _, _, rfl, Heap.get?_push_size _ rfl, rfl, rfl, ?_⟩ (((Heap.SameBut.update ..).extBut.push _).push _))))
  first
    | kernel_rfl
    | (rw [Array.getElem?_append_left (by decide)]; rfl)
end
section
variable {X : Cx} {e : Expr} {te : TE}
def tYfLst (te : TE) : TYf := fun σ H Q => te σ H fun x H1 => ∃ a xs, x = .ref a ∧ H1 a = some (.lst xs) ∧ Q xs H1
theorem li_close : typeLookup (.type "list_iterator") "close" = pure none := by rw [typeLookup_type, builtinLookup_eq_fast]; kernel_rfl
theorem yf_lst (he : PE X e te) : YfE X e (tYfLst te) := by
  refine ⟨fun pins s σ H Q I h => thn (he.run pins s σ H _ I h) fun v s1 ⟨x, H1, I1, r1, a, xs, ex, ha, hq⟩ => ?_⟩
  subst ex
  cases (show v = Value.ref a from r1)
  obtain ⟨hlen, its, cnt, rits, ht⟩ := I1.hok a _ ha
  have hl : s1.heap.IsList a its.toArray := ⟨_, ht, rfl, _, rfl⟩
  refine ⟨"list", hl.typeIs, by decide, wpAny_pyIter_list hl ?_⟩
  have big : ∀ b o, s1.heap.get? b = some o → b ≠ s1.heap.objs.size := fun b o q => Nat.ne_of_lt (Heap.lt_size q)
  have keep : ∀ b o, s1.heap.get? b = some o → (s1.heap.push { cls := .type "list_iterator", data := .fields #[.ref a, .int 0 0] }).get? b = some o := fun b o q => Heap.get?_push_of_some _ q
  refine ⟨s1.heap.objs.size, H1, xs, fun j h => h.IsListIter s1.heap.objs.size a j ∧ h.IsList a its.toArray, rfl, I1.kept (t' := s1.toks) keep, .inr I1.sz, Nat.ne_of_gt I1.lt, fun y c hy => ?_, I1.hok.fresh (Nat.le_refl _), fun p hp => big p.1 _ (I1.pin p hp).1,
    ⟨⟨_, Heap.get?_push_size _ rfl, rfl, rfl⟩, hl.push _⟩, ⟨⟨"list_iterator", fun j h q => ?_, li_close, by decide⟩, fun j h h' q hk => ?_, fun A' j x s2 Q' E' hA hx q hQ => ?_, fun A' s2 Q' E' hA q hE => ?_⟩, hq⟩
  · obtain ⟨v, o, ho, _⟩ := I1.cell y c hy
    exact big c o ho
  · obtain ⟨⟨o, q1, q2, _⟩, _⟩ := q
    exact ⟨o, q1, q2⟩
  · obtain ⟨⟨o, q1, q2⟩, o2, q3, q4⟩ := q
    exact ⟨⟨o, hk _ o (.inl rfl) q1, q2⟩, o2, hk _ o2 (.inr (by rw [ha]; exact fun z => by cases z)) q3, q4⟩
  · obtain ⟨u, hu, ru⟩ := rits.get hx
    have hne : a ≠ s1.heap.objs.size := big a _ ht
    exact li_item q.1 q.2 (y := u) (by simpa using hu) fun h' q' hs => hQ u h' s2.toks ru ⟨q', q.2.extBut hs.extBut hne⟩ fun b o hb eb => hs.extBut b o hb eb
  · have hnone : its.toArray[xs.length]? = none := by
      have e1 := rits.length
      have e2 : its[xs.length]? = none := List.getElem?_eq_none_iff.mpr (by omega)
      simpa using e2
    exact li_end hA q.1 q.2 hnone fun e h' hS hk => hE e h' s2.toks hS fun b o hb eb => hk b o hb eb
end
end MI
namespace MI
open PySem PySem.Spec
open PyProof.Rows L2 GenW
/-! ### the body -/
def mSeqG (a b : MS) : MS := fun ρ h => match a ρ h with
  | .nx ρ1 h1 => b ρ1 h1
  | .exc ρ1 e h1 => .exc ρ1 e h1
  | _ => .bad
def mYF (m : ME) : MS := fun ρ h => (m ρ h).toF ρ fun d h1 => match d with
  | .lst l => if l.length ≤ 16777216 then .rt (.lst l) h1 else .bad
  | _ => .bad
def OutY (g : Gm) (E : XK) (φ : Ph) (H : Hp) (Q : List V → Hp → Prop) : F → Prop
  | .rt (.lst l) h1 => ∀ φ1 xs H1, Ext φ H φ1 H1 → Reps g.r φ1 H1 xs l → Hok g φ1 H1 h1 → Q xs H1
  | .exc _ e h1 => ∀ φ1 c dx H1, Ext φ H φ1 H1 → ExRep g φ1 H1 c dx e → Hok g φ1 H1 h1 → E c dx H1
  | _ => False
theorem OutY.base {g : Gm} {E : XK} {φ φ' : Ph} {H H' : Hp} {Q : List V → Hp → Prop} {r : F} (e : Ext φ H φ' H') (o : OutY g E φ H Q r) : OutY g E φ' H' Q r := by
  cases r with
  | rt d h1 =>
    cases d with
    | lst l => exact fun φ1 xs H1 e1 => o φ1 xs H1 (e.trans e1)
    | _ => exact o.elim
  | exc ρ x h1 => exact fun φ1 c dx H1 e1 => o φ1 c dx H1 (e.trans e1)
  | _ => exact o.elim
def tGS (g : Gm) (E : XK) (ms : MS) : TGn := fun D ys σ H => ys = [] ∧ ∃ φ ρ h, Slots g.r φ H σ ρ ∧ Hok g φ H h ∧ OutY g E φ H (fun xs H1 => ∀ σ1, D.nx xs σ1 H1) (ms ρ h)
section
variable {g : Gm} {E : XK} {X : Cx} {ma mb : MS} {me : ME} {st : Stmt} {rest : List Stmt} {e : Expr} {yp pos : Pos}
theorem gss_imp {l : List Stmt} {t t' : TGn} (h : GSs X l t) (i : ∀ D ys σ H, t' D ys σ H → t D ys σ H) : GSs X l t' := ⟨fun A S ip R n ys s₀ c fs K J gd lv s σ H D a b k d q => h.run A S ip R n ys s₀ c fs K J gd lv s σ H D a b k d (i _ _ _ _ q)⟩
theorem gs_seq (ha : PS X st (tS g (fun c dx _ H' => E c dx H') ma)) (hb : GSs X rest (tGS g E mb)) : GSs X (st :: rest) (tGS g E (mSeqG ma mb)) := gss_imp (gss_cons (gs_ps ha) hb) fun D ys σ H t => by
  obtain ⟨rfl, φ, ρ, h, s, m, o⟩ := t
  refine ⟨φ, ρ, h, s, m, ?_⟩
  unfold mSeqG at o
  cases hr : ma ρ h with
  | nx ρ1 h1 =>
    rw [hr] at o
    exact fun φ1 σ1 H1 e1 s1 m1 => ⟨rfl, φ1, ρ1, h1, s1, m1, o.base e1⟩
  | exc ρ1 x h1 =>
    rw [hr] at o
    exact fun φ1 σ1 c dx H1 e1 _ r1 m1 => o φ1 c dx H1 e1 r1 m1
  | _ => rw [hr] at o; exact o.elim
theorem gs_last (ha : PE X e (tE g (fun c dx _ H' => E c dx H') me)) (hc : X.A.handled = none) (hi : interactive X.env = false := by rfl) : GSs X [.Expr (.YieldFrom e yp) pos] (tGS g E (mYF me)) := gss_imp (gss_cons (gs_yieldFrom (yf_lst ha) hc hi) gss_nil) fun D ys σ H t => by
  obtain ⟨rfl, φ, ρ, h, s, m, o⟩ := t
  unfold mYF at o
  show tE g (fun c dx _ H' => E c dx H') me σ H _
  refine ⟨φ, ρ, h, s, m, ?_⟩
  cases hr : me ρ h with
  | bad => rw [hr] at o; exact o.elim
  | exc x h1 => rw [hr] at o; exact fun φ1 c dx H1 e1 r1 m1 => o φ1 c dx H1 e1 r1 m1
  | ok d h1 =>
    rw [hr] at o
    intro φ1 v H1 e1 r1 m1
    cases d with
    | lst l =>
      have o' : OutY g E φ H (fun xs H1 => ∀ σ1, D.nx xs σ1 H1) (if l.length ≤ 16777216 then .rt (.lst l) h1 else .bad) := o
      split at o'
      · rename_i hl
        cases r1 with
        | lst q r => exact ⟨_, _, rfl, q.1, by rw [List.length_nil, Nat.zero_add, r.length]; exact line_of_le hl, by rw [List.nil_append]; exact o' φ1 _ H1 e1 r m1 σ⟩
      · exact o'.elim
    | _ => exact o.elim
end
/-! ### the def -/
def outF : R D → F
  | .ok d h => .rt d h
  | .exc e h => .exc [] e h
  | .bad => .bad
def spG (g : Gm) (np : Nat) (m : FnM) : SpG := fun vs H Q E => vs.length = np ∧ ∃ φ ds h, Reps g.r φ H vs ds ∧ Hok g φ H h ∧ OutY g E φ H Q (outF (m ds h))
structure Gn (P : Program) (w : World) (K : PySem.W.Frag) (mg : Str → Option Value) (base : Heap) (g : Gm) (k : Nat) (x : Str) (np : Nat) (m : FnM) : Prop where
  ex : ∃ (f : Addr) (fd : FuncData) (ps : List Str), mg x = some (.ref f) ∧ PySem.W.keepIn K (.ref f) = true ∧ Binds K fd ps [] ∧ GFn P w K mg base k f fd ps (spG g np m)
section
variable {g : Gm} {P : Program} {w : World} {mg : Str → Option Value} {base : Heap}
theorem gn_mk {x : Str} {st : Stmt} {N ps : List Str} {k np : Nat} {b : MS} (A : At g.r.K mg x st ps) (S : GScope N ps (defScope st)) (hnp : ps.length = np)
    (hb : ∀ (f : Addr) (cdv : Value) (A : Around) (outer : List Env) (s : Shared) (H : Hp) (E : XK) (pn : List (Addr × Obj)), Room k (A.deeper (envOfC x (defScope st) s.heap.objs.size f cdv)) →
      Takes (gcxOf P w g.r.K mg base N x (defScope st) f cdv A outer s H E pn) (fun c dx _ H' => E c dx H') →
      PassesOwn (model P w) (gcxOf P w g.r.K mg base N x (defScope st) f cdv A outer s H E pn).A (gcxOf P w g.r.K mg base N x (defScope st) f cdv A outer s H E pn).env (gcxOf P w g.r.K mg base N x (defScope st) f cdv A outer s H E pn).xe →
      GSs (gcxOf P w g.r.K mg base N x (defScope st) f cdv A outer s H E pn) (defBody st) (tGS g E b)) :
    Gn P w g.r.K mg base g (k + 1) x np (mFn np N.length b) := by
  obtain ⟨f, fd, h1, F, B⟩ := A.ex
  refine ⟨f, fd, ps, h1, F.kp, B, ?_⟩
  obtain ⟨oc, od, kV, doc, pm, an, cdv, ct, osl, rfl, lk, hcd⟩ := F.ex
  refine gfn_of lk hcd S (fun vs H Q E h => by rw [hnp]; exact h.1) fun A outer s H vs Q E pn hr hsp => ⟨_, hb f cdv A outer s H E pn hr takes_gcx owns_gcx, rfl, ?_⟩
  obtain ⟨hl, φ, ds, h, r, m, o⟩ := hsp
  have hd : ds.length = np := by rw [← r.length]; exact hl
  refine ⟨φ, startM N.length ds, h, Slots.start r, m, ?_⟩
  unfold mFn at o
  rw [if_pos hd] at o
  cases hr : b (startM N.length ds) h with
  | rt d h1 =>
    rw [hr] at o
    cases d with
    | lst l => exact fun φ1 xs H1 e1 r1 m1 σ1 => o φ1 xs H1 e1 r1 m1
    | _ => exact o.elim
  | exc ρ x h1 => rw [hr] at o; exact o
  | _ => rw [hr] at o; exact o.elim
end
/-! ### list(f(..)) -/
/-- ok: which exceptions may leave -/
def mListG (ok : Nat → Bool) (np : Nat) (m : FnM) (mas : MA) : ME := fun ρ h => (mas ρ h).bind fun ys h1 => if ys.length = np then (match m ys h1 with
  | .ok (.lst l) h2 => .ok (.lst l) h2
  | .exc e h2 => if ok e.cls = true then .exc e h2 else .bad
  | _ => .bad) else .bad
section
variable {g : Gm} {W : WX} {X : Cx} {e : Expr} {es : List Expr} {p p2 pos pos' : Pos} {x : Str} {mas : MA} {k np : Nat} {m : FnM} {ok : Nat → Bool}
theorem s_listG (F : Gn X.prog X.w X.K X.mg X.base g k x np m) (E : XK) (tk : Takes X W) (hE : ∀ c dx H σ, E c dx H → W c dx σ H) (hok : ∀ e φ H c dx σ, ok e.cls = true → ExRep g φ H c dx e → W c dx σ H → E c dx H) (hns : NoStop X.K E)
    (hr : Room (k + 3) X.A) (hl : X.mg "list" = none) (ha : PA X (e :: es) (tA g W mas)) (hg : Gl X x := by rfl) (hg2 : Gl X "list" := by rfl) (hdb : (x == ("__debug__" : Str)) = false := by decide)
    (he : starEach (e :: es) X.env = (false, eval e X.env) :: starEach es X.env := by rfl) (hpl : (backTo pos' (starEach es X.env)).any (·.1) = false := by rfl)
    (he2 : starEach [.Call (.Name x p2) (e :: es) [] pos'] X.env = (false, eval (.Call (.Name x p2) (e :: es) [] pos') X.env) :: starEach [] X.env := by rfl) :
    PE X (.Call (.Name "list" p) [.Call (.Name x p2) (e :: es) [] pos'] [] pos) (tE g W (mListG ok np m mas)) := by
  obtain ⟨f, fd, ps, h1, h2, h3, h4⟩ := F.ex
  refine pe_imp (pe_listG (pgen_call h4 (hr.mono (Nat.le_add_right _ _)) hg h1 h2 h3 .nil ha hdb he hpl) (fun pins σ H s u s' I c => tk u s' (XE.of_call I (fun c dx H h => hE c dx H σ h) c)) hns hr hg2 hl boot_list (he := he2)) fun σ H Q t => ?_
  obtain ⟨φ, ρ, h, s, mm, o⟩ := t
  show tA g W mas σ H _
  refine ⟨φ, ρ, h, s, mm, Out.next o fun ys h1 φ1 vs H1 e1 r1 m1 o1 => ?_⟩
  split at o1
  · rename_i hy
    refine ⟨by rw [List.append_nil, r1.length]; exact hy, φ1, ys, h1, by rw [List.append_nil]; exact r1, m1, ?_⟩
    cases hm : m ys h1 with
    | bad => rw [hm] at o1; exact o1.elim
    | exc x h2 =>
      rw [hm] at o1
      intro φ2 c dx H2 e2 r2 m2
      dsimp only at o1
      split at o1
      · rename_i hk
        exact hok x φ2 H2 c dx σ hk r2 (o1 φ2 c dx H2 e2 r2 m2)
      · exact o1.elim
    | ok d h2 =>
      rw [hm] at o1
      cases d with
      | lst l => exact fun φ2 xs H2 e2 r2 m2 q hq => o1 φ2 _ _ (e2.trans (Ext.new hq (m2.notin hq))) (.lst ⟨upd_same, m2.notin hq⟩ (r2.ext (Ext.new hq (m2.notin hq)))) (m2.new hq)
      | _ => exact o1.elim
  · exact o1.elim
end
end MI
/-! dict comprehensions, keys of either kind -/
namespace L2
open PySem PySem.Spec PyProof.Rows
/-- d[k] = v by a comprehension, k of either kind -/
theorem dx_set {X : Cx} {pins : List (Addr × Obj)} {σ : St} {H H' : Hp} {s : Shared} {E : Value → Shared → Prop} {D : Addr} {y v : V} {u r : Value} {Q : Unit → Shared → Prop} (hu : X.A.units + 1 < cLine) (I : Inv X pins σ H s) (gp : DPut H D y v H')
    (ry : RelV y u) (rv : RelV v r) (nx : ∀ s', Inv X pins σ H' s' → Q () s') : wpAny (model X.prog X.w) X.A (dictSet D u r) Q E s := by
  rcases gp with ⟨kvs, k, e1, e2, e3, e4⟩ | ⟨kvs, k, b, e1, e2, e3, e4, e5⟩
  · subst e2 e4
    exact d_dictSet I e1 e3 ry rv nx
  · subst e2 e5
    cases (show u = Value.ref b from ry)
    obtain ⟨z1, hd, xs, rel, dd⟩ := dt_of I.hok e1
    have z2 : xs.length ≤ sizeLine := by rw [← Paired.length rel]; exact z1
    have z3 : (putK kvs k v).length ≤ sizeLine := by
      have := length_putK kvs k v
      omega
    refine wpAny_dictSet_heap (hsz := z2) (show (tupleKind (mixKind X.prog X.w)).room X.A from Nat.lt_of_succ_lt hu) (key_of I.hok e3) dd fun h' dd' hs => nx _ ?_
    obtain ⟨q, es, ep, g1, g2, g3, g4, _, g5⟩ := dd'
    refine d_write I (by rw [e1]; exact True.intro) hs ⟨q, g1⟩ ⟨z3, hd, _, (rel.put k e3 rv).keeps fun c ys ec => ?_, q, es, ep, g1, g2, g3, g4, g5⟩
    rw [upd_ne (ne_of ec e1 (fun z => nomatch z))]; exact ec
section
variable {X : Cx}
def tDcx (d0 : HO) (wi : TI) (g : TG) (tt : TT) (tk tv : TE) (vs : List Nat) : TE := fun σ H Q => wi σ H fun J H1 => ∀ D, H1 D = none → ∃ W : Nat → Nat → Hp → Prop, (∃ m, W 0 m (upd H1 D d0)) ∧ ∀ i m H, W i m H →
  (J.stop i H ∧ Q (.ref D) H) ∨ (J.go i H ∧ ∃ Nx : Hp → Prop, (∀ H', Nx H' → ∃ m', m' < m ∧ W (i + 1) m' H') ∧ ∀ x H', J.yld i H x H' → g x (wipe σ vs) H' fun σ2 H2 => wipe σ2 vs = wipe σ vs ∧ tt σ2 H2 fun b H3 =>
    if b = true then tk σ2 H3 fun y H4 => tv σ2 H4 fun z H5 => ∃ H6, DPut H5 D y z H6 ∧ Nx H6 else Nx H3)
theorem dcx_core {pins : List (Addr × Obj)} {s : Shared} {σ : St} {H : Hp} {Q : VK} {kx vx tg iter : Expr} {ifs : List Expr} {scope : Scope} {own : List (Str × Nat)} {pos pos' : Pos} {wi : TI} {g : TG} {tt : TT} {tk tv : TE} {use : Option (Value → Sem Unit)} {Qf : Value → Shared → Prop}
    (hc : X.calm = true) (hN : X.N.Nodup) (I : Inv X pins σ H s) (hi : PI X tg iter wi) (ok : BlkOk X.N X.env.scope scope own)
    (hg : ∀ (s : Shared) (H : Hp) (C : Addr) (cl : List (Str × Addr)) (fp : List Addr), PG (X.blk s H scope (compEnvC scope cl C X.env) fp) tg g) (ht : ∀ (s : Shared) (H : Hp) (C : Addr) (cl : List (Str × Addr)) (fp : List Addr), PTs (X.blk s H scope (compEnvC scope cl C X.env) fp) ifs tt)
    (hk : ∀ (s : Shared) (H : Hp) (C : Addr) (cl : List (Str × Addr)) (fp : List Addr), PE (X.blk s H scope (compEnvC scope cl C X.env) fp) kx tk)
    (he : ∀ (s : Shared) (H : Hp) (C : Addr) (cl : List (Str × Addr)) (fp : List Addr), PE (X.blk s H scope (compEnvC scope cl C X.env) fp) vx tv) (hs : ∀ x, foldedSetIterable iter X.env x = pure x)
    {d0 : HO} (hd0 : ∀ (h : Heap) (Ha : Hp), sysModules < h.objs.size → ObjOk X.prog X.w Ha (h.push { cls := .type "dict", data := .dict #[] }) h.objs.size d0) (hu : X.A.units + 1 < cLine)
    (h : tDcx d0 wi g tt tk tv (own.map (·.2)) σ H Q)
    (hRR : ∀ D C s' m H', Inv X pins σ H' s' → Q (.ref D) H' → s'.heap.Ns C m → FpOk X pins H' C → compPost (model X.prog X.w) X.A X.xe use Qf (.ref D) C (.ok .next) s') :
    wpAny (model X.prog X.w) X.A (comprehension (.DictComp kx vx [⟨tg, iter, ifs, 0⟩] scope pos) scope X.env pos' newDict false (eval iter X.env) use) Qf X.xe s := by
  have frees : ∀ y ∈ scope.names, y.2 = .free → ∃ c, X.env.cells.lookup y.1 = some c := fun y hy e => by
    rcases ok.free y hy e with k | k
    · exact I.ok.has _ (.inl k)
    · exact I.ok.has _ (.inr k)
  refine wpAny_comprehension_free (use := use) rfl hs (closure_ok frees) ok.kind (fun y hy e => by rw [ok.uniq y hy, e])
    (thn (hi.run pins s σ H _ I h) fun xv y_1 hx => thn hx fun itv y_2 hz_2 => ?_)
  obtain ⟨it, fp, tn, J, G_2, e, J_2, T, tn_2, fp_2, q⟩ := hz_2
  subst e
  refine wpAny_newObj_type (newEnv_comp ?_)
  generalize hD : y_2.heap.objs.size = D
  have hDn : G_2 D = none := J_2.hok.fresh (Nat.le_of_eq hD)
  obtain ⟨W, ⟨m0, w0⟩, turn⟩ := q D hDn
  -- the new list
  generalize ey3 : ({ y_2 with heap := y_2.heap.push { cls := .type "dict", data := .dict #[] } } : Shared) = y_3
  have J_3 : Inv X pins σ (upd G_2 D d0) y_3 := by
    rw [← ey3]
    refine J_2.laid (t' := y_2.toks) (fun b o e => Heap.get?_push_of_some _ e) (Nat.le_of_eq hD) ?_
    rw [← hD]
    exact hd0 y_2.heap _ J_2.big
  have hz_3 : y_3.heap = y_2.heap.push { cls := .type "dict", data := .dict #[] } := by rw [← ey3]
  have sz : ∀ b ∈ fp, b < y_2.heap.objs.size := fun b hb => by
    obtain ⟨o, e, _⟩ := T.obj _ _ tn_2 b hb
    exact Heap.lt_size e
  have fp_3 : ∀ b ∈ fp, FpOk X pins (upd G_2 D d0) b ∧ b < y_3.heap.objs.size := fun b hb => by
    have hlt := sz b hb
    refine ⟨⟨?_, (fp_2 b hb).2⟩, by rw [hz_3, Heap.size_push]; exact Nat.lt_succ_of_lt hlt⟩
    rw [upd_ne (by rw [← hD]; exact Nat.ne_of_lt hlt)]
    exact (fp_2 b hb).1
  have tn_3 : tn 0 y_3.heap := T.keep _ _ _ tn_2 fun b _ o e => by rw [hz_3]; exact Heap.get?_push_of_some _ e
  have J_4 := block_start J_3 ok hN fp_3
  have pg := hg y_3 (upd G_2 D d0) y_3.heap.objs.size (cellsFrom (y_3.heap.objs.size + 1) scope.names (cloFrom X.env.cells scope.names [])) fp
  have pt := ht y_3 (upd G_2 D d0) y_3.heap.objs.size (cellsFrom (y_3.heap.objs.size + 1) scope.names (cloFrom X.env.cells scope.names [])) fp
  have pk := hk y_3 (upd G_2 D d0) y_3.heap.objs.size (cellsFrom (y_3.heap.objs.size + 1) scope.names (cloFrom X.env.cells scope.names [])) fp
  have pe := he y_3 (upd G_2 D d0) y_3.heap.objs.size (cellsFrom (y_3.heap.objs.size + 1) scope.names (cloFrom X.env.cells scope.names [])) fp
  show codeAny _ _ (.compStart (.DictComp kx vx [⟨tg, iter, ifs, 0⟩] scope pos) 0 (.ref it) (.ref D) (compEnvC scope (cellsFrom (y_3.heap.objs.size + 1) scope.names (cloFrom X.env.cells scope.names [])) y_3.heap.objs.size X.env)) (compPost (model X.prog X.w) X.A X.xe use Qf (.ref D) y_3.heap.objs.size) { y_3 with heap := pushCells (y_3.heap.push { cls := .type "dict", data := .dict #[] }) scope.names }
  have nfp : ∀ b ∈ fp, (upd G_2 D d0) b = none := fun b hb => (fp_3 b hb).1.1
  generalize ece : compEnvC scope (cellsFrom (y_3.heap.objs.size + 1) scope.names (cloFrom X.env.cells scope.names [])) y_3.heap.objs.size X.env = ce at J_4 pg pt pk pe ⊢
  have locC : ce.locals = y_3.heap.objs.size := by subst ece; rfl
  generalize eG3 : upd G_2 D d0 = G_3 at J_3 J_4 pg pt pk pe w0 nfp fp_3
  generalize ey4 : ({ y_3 with heap := pushCells (y_3.heap.push { cls := .type "dict", data := .dict #[] }) scope.names } : Shared) = y_4 at J_4 ⊢
  have tn_4 : tn 0 y_4.heap := T.keep _ _ _ tn_3 fun b _ o e => by rw [← ey4]; exact pushCells_keeps _ _ _ _ (Heap.get?_push_of_some _ e)
  have stat : ∀ {σ' : St} {H' : Hp} {s' : Shared}, Inv (X.blk y_3 G_3 scope ce fp) [] σ' H' s' → (∀ b ∈ fp, H' b = none) → ∀ b ∈ fp, FpOk (X.blk y_3 G_3 scope ce fp) [] H' b := fun {σ' H' s'} I' hn b hb =>
    ⟨hn b hb, (I'.ok.exf b hb).1, I'.ok.exfs b hb, .inl hb, fun x c e => (I'.ok.exf b hb).2 x c e, fun p hp => absurd (show p ∈ ([] : List (Addr × Obj)) ++ [] from hp) (by simp)⟩
  have loop : codeAny (model X.prog X.w) X.A (.compLoop (.DictComp kx vx [⟨tg, iter, ifs, 0⟩] scope pos) 0 (.ref it) (.ref D) ce) (compPost (model X.prog X.w) X.A X.xe use Qf (.ref D) y_3.heap.objs.size) y_4 := by
    refine compLoop_anyD (fun n s' => ∃ i H', Inv (X.blk y_3 G_3 scope ce fp) [] (wipe σ (own.map (·.2))) H' s' ∧ tn i s'.heap ∧ (∀ b ∈ fp, H' b = none) ∧ W i n H') ?_ m0 ⟨0, G_3, J_4, tn_4, nfp, w0⟩
    rintro n y_5 ⟨i, G_5, J_5, tn_5, nz_5, w5⟩
    rcases turn i n G_5 w5 with ⟨stop, qq⟩ | ⟨go, Nx, hNx, step⟩
    · have td := T.done (X.blk y_3 G_3 scope ce fp) rfl rfl rfl hc i [] y_5 _ G_5 (fun _ _ => False) J_5 (stat J_5 nz_5) tn_5 stop
      refine thnF td fun r y_6 ⟨hr, J_6⟩ => ?_
      subst hr
      -- back in the def's context
      have J_7 : Inv X pins σ G_5 y_6 := J_3.call' (ch := fp) J_6.os J_6.base J_6.hok J_6.bare fun b hb => ⟨(fp_3 b hb).1.2.2.2.1, (fp_3 b hb).1.2.1, (fp_3 b hb).1.2.2.2.2.1, (fp_3 b hb).1.2.2.2.2.2⟩
      have nC : G_5 y_3.heap.objs.size = none := by
        have z : G_5 ce.locals = none := J_6.free
        rw [locC] at z
        exact z
      obtain ⟨m, hn, _⟩ := J_6.loc
      have hn : y_6.heap.Ns ce.locals m := hn
      rw [locC] at hn
      exact hRR D y_3.heap.objs.size y_6 m G_5 J_7 qq hn (J_3.fpOk (Nat.le_refl _) nC)
    · have ti := T.item (X.blk y_3 G_3 scope ce fp) rfl rfl rfl hc i [] y_5 _ G_5 (fun _ _ => False) J_5 (stat J_5 nz_5) tn_5 go
      refine thnF ti fun r y_6 ⟨u, hr, hz_6⟩ => ?_
      subst hr
      refine thnF hz_6 fun _ y_7 ⟨x, G_7, J_7, rel7, y7, tn_7, nz_7⟩ => ?_
      have J_7' := J_7.pinned (stat J_7 nz_7) (T.obj _ _ tn_7)
      refine thnF (pg.run _ y_7 _ G_7 x u _ J_7' rel7 (step x G_7 y7)) fun _ y_8 ⟨σ8, G_8, J_8, hw8, z_8⟩ => ?_
      refine thnF (pt.run _ y_8 σ8 G_8 _ J_8 z_8) fun b y_9 ⟨G_9, J_9, z_9⟩ => ?_
      -- the turn's end
      have fin : ∀ {s' : Shared} {H' : Hp}, Inv (X.blk y_3 G_3 scope ce fp) ([] ++ pinsAt fp y_7.heap) σ8 H' s' → Nx H' → ∃ m, m < n ∧ ∃ i H', Inv (X.blk y_3 G_3 scope ce fp) [] (wipe σ (own.map (·.2))) H' s' ∧ tn i s'.heap ∧ (∀ b ∈ fp, H' b = none) ∧ W i m H' := fun {s' H'} I' nx => by
        obtain ⟨m', hm, w'⟩ := hNx H' nx
        have pin' : ∀ b ∈ fp, ∀ o, y_7.heap.get? b = some o → s'.heap.get? b = some o ∧ H' b = none := fun b hb o e =>
          let z := I'.pin (b, o) (List.mem_append_right _ (List.mem_append_right _ (mem_pinsAt hb e)))
          ⟨z.1, z.2.1⟩
        have hl : (wipe σ (own.map (·.2))).length = σ8.length := by rw [← hw8, wipe_length]
        refine ⟨m', hm, i + 1, H', (I'.unpinned (pins := [])).weak hl (fun j v e => ?_), T.keep _ _ _ tn_7 fun b hb o e => (pin' b hb o e).1, fun b hb => ?_, w'⟩
        · rw [← hw8] at e
          exact (wipe_some e).1
        · obtain ⟨o, e, _⟩ := T.obj _ _ tn_7 b hb
          exact (pin' b hb o e).2
      cases b with
      | false =>
        simp only [Bool.false_eq_true, if_false] at z_9 ⊢
        exact fin J_9 z_9
      | true =>
        simp only [if_true] at z_9 ⊢
        refine thnF (pk.run _ y_9 σ8 G_9 _ J_9 z_9) fun z y_10 ⟨yk, G_10, J_10, rel10, z_10⟩ => ?_
        refine thnF (pe.run _ y_10 σ8 G_10 _ J_10 z_10) fun z2 y_11 ⟨yv, G_11, J_11, rel11, G_12, dp, nx⟩ => ?_
        exact dx_set (X := X.blk y_3 G_3 scope ce fp) hu J_11 dp rel10 rel11 fun y_12 J_12 => fin J_12 nx
  exact codeAny_compStart_dict loop (T.self X.A 0 _ _ _ tn_4 loop)

end
end L2
namespace L2
open PySem PySem.Spec PyProof.Rows
section
variable {X : Cx}
theorem pe_dcx {d0 : HO} {kx vx tg iter : Expr} {ifs : List Expr} {scope : Scope} {own : List (Str × Nat)} {pos : Pos} {wi : TI} {g : TG} {tt : TT} {tk tv : TE} (hc : X.calm = true) (hN : X.N.Nodup) (hi : PI X tg iter wi) (ok : BlkOk X.N X.env.scope scope own)
    (hd0 : ∀ (h : Heap) (Ha : Hp), sysModules < h.objs.size → ObjOk X.prog X.w Ha (h.push { cls := .type "dict", data := .dict #[] }) h.objs.size d0) (hu : X.A.units + 1 < cLine)
    (hg : ∀ (s : Shared) (H : Hp) (C : Addr) (cl : List (Str × Addr)) (fp : List Addr), PG (X.blk s H scope (compEnvC scope cl C X.env) fp) tg g)
    (ht : ∀ (s : Shared) (H : Hp) (C : Addr) (cl : List (Str × Addr)) (fp : List Addr), PTs (X.blk s H scope (compEnvC scope cl C X.env) fp) ifs tt)
    (hk : ∀ (s : Shared) (H : Hp) (C : Addr) (cl : List (Str × Addr)) (fp : List Addr), PE (X.blk s H scope (compEnvC scope cl C X.env) fp) kx tk)
    (he : ∀ (s : Shared) (H : Hp) (C : Addr) (cl : List (Str × Addr)) (fp : List Addr), PE (X.blk s H scope (compEnvC scope cl C X.env) fp) vx tv) (hs : ∀ x, foldedSetIterable iter X.env x = pure x := by intro _; rfl) :
    PE X (.DictComp kx vx [⟨tg, iter, ifs, 0⟩] scope pos) (tDcx d0 wi g tt tk tv (own.map (·.2))) := ⟨fun pins s σ H Q I hq => by
  rw [arm_eval_DictComp]
  refine dcx_core hc hN I hi ok hg ht hk he hs hd0 hu hq fun D C s' mm H' I' qq hn fo => ⟨mm, hn, fun h'' sb => ?_⟩
  obtain ⟨g0, g1, g2, g3, g4, g5⟩ := fo
  exact ⟨.ref D, H', I'.turned (t' := s'.toks) (fun b o hb eo => (sb.2 b hb).trans eo) g0 g1 g3 g4 g5, rfl, qq⟩⟩
theorem d0_flat {P : Program} {w : World} : ∀ (h : Heap) (Ha : Hp), sysModules < h.objs.size → ObjOk P w Ha (h.push { cls := .type "dict", data := .dict #[] }) h.objs.size (.dK []) := fun h Ha hb => dk_empty h hb
theorem d0_tup {P : Program} {w : World} : ∀ (h : Heap) (Ha : Hp), sysModules < h.objs.size → ObjOk P w Ha (h.push { cls := .type "dict", data := .dict #[] }) h.objs.size (.dT []) := fun h Ha hb => dt_empty h hb
end
end L2
/-! a dict's keys and values as two lists: the put -/
namespace MI
open PySem PySem.Spec
open PyProof.Rows L2
def putKs (ks : List D) (k : D) : List D := if (ks.any fun x => D.eqb x k) = true then ks else ks ++ [k]
def swapV (k v : D) : List D → List D → List D
  | x :: ks, y :: vs => (if D.eqb x k = true then v else y) :: swapV k v ks vs
  | _, _ => []
def putVs (ks vs : List D) (k v : D) : List D := if (ks.any fun x => D.eqb x k) = true then swapV k v ks vs else vs ++ [v]
/-- a key as the library has it: a number or a text -/
def flatK : D → Option Key
  | .int i => some (.inl i)
  | .str s => some (.inr s)
  | _ => none
def flatKs : List D → Option (List Key)
  | [] => some []
  | d :: r => (flatK d).bind fun k => (flatKs r).map (k :: ·)
theorem flatK_eq {d : D} {k : Key} (h : flatK d = some k) : d = keyD k := by
  cases d <;> simp [flatK] at h <;> subst h <;> rfl
theorem flatKs_eq : ∀ {l : List D} {ks : List Key}, flatKs l = some ks → l = ks.map keyD
  | [], ks, h => by simp [flatKs] at h; subst h; rfl
  | d :: r, ks, h => by
    simp only [flatKs] at h
    cases h1 : flatK d with
    | none => simp [h1] at h
    | some k =>
      cases h2 : flatKs r with
      | none => simp [h1, h2] at h
      | some q =>
        simp [h1, h2] at h
        subst h
        rw [flatK_eq h1, flatKs_eq h2]
        rfl
theorem key_eqb (a b : Key) : D.eqb (keyD a) (keyD b) = decide (a = b) := by
  cases a <;> cases b <;> simp [keyD, D.eqb] <;> (rename_i x y; by_cases q : x = y <;> simp [q])
theorem keys_eqb : ∀ a b : List Key, Ds.eqb (a.map keyD) (b.map keyD) = decide (a = b)
  | [], [] => rfl
  | [], _ :: _ => rfl
  | _ :: _, [] => rfl
  | x :: a, y :: b => by
    simp only [List.map_cons, Ds.eqb, key_eqb, keys_eqb a b, List.cons.injEq]
    by_cases h1 : x = y <;> by_cases h2 : a = b <;> simp [h1, h2]
section
variable {κ : Type} [DecidableEq κ] {f : κ → D}
theorem putKs_of (he : ∀ a b, D.eqb (f a) (f b) = decide (a = b)) (kvs : List (κ × V)) (k : κ) (v : V) : (putK kvs k v).map (fun p => f p.1) = putKs (kvs.map fun p => f p.1) (f k) := by
  unfold putK putKs
  have e : ((kvs.map fun p => f p.1).any fun x => D.eqb x (f k)) = kvs.any fun kv => decide (kv.1 = k) := by
    rw [List.any_map]
    congr 1
    funext p
    exact he _ _
  rw [e]
  split
  · rw [List.map_map]
    refine List.map_congr_left fun p _ => ?_
    show f (if p.1 = k then (p.1, v) else p).1 = f p.1
    split <;> rfl
  · simp
theorem swapV_of {g : Rm} {φ : Ph} {H : Hp} (he : ∀ a b, D.eqb (f a) (f b) = decide (a = b)) (k : κ) {v : V} {d : D} (rv : Rep g φ H v d) : ∀ (kvs : List (κ × V)) (ds : List D), Reps g φ H (kvs.map (·.2)) ds →
    Reps g φ H ((kvs.map fun kv => if kv.1 = k then (kv.1, v) else kv).map (·.2)) (swapV (f k) d (kvs.map fun p => f p.1) ds)
  | [], _, .nil => .nil
  | p :: r, _, .cons (d := e) (ds := ds) rp rr => by
    have ih := swapV_of he k rv r ds rr
    show Reps g φ H ((if p.1 = k then (p.1, v) else p).2 :: _) ((if D.eqb (f p.1) (f k) = true then d else e) :: _)
    rw [he]
    by_cases q : p.1 = k
    · rw [if_pos q, if_pos (decide_eq_true q)]; exact .cons rv ih
    · rw [if_neg q, if_neg (fun z => q (of_decide_eq_true z))]; exact .cons rp ih
theorem putVs_of {g : Rm} {φ : Ph} {H : Hp} (he : ∀ a b, D.eqb (f a) (f b) = decide (a = b)) {kvs : List (κ × V)} {ds : List D} (k : κ) {v : V} {d : D} (rv : Rep g φ H v d) (r : Reps g φ H (kvs.map (·.2)) ds) :
    Reps g φ H ((putK kvs k v).map (·.2)) (putVs (kvs.map fun p => f p.1) ds (f k) d) := by
  unfold putK putVs
  have e : ((kvs.map fun p => f p.1).any fun x => D.eqb x (f k)) = kvs.any fun kv => decide (kv.1 = k) := by
    rw [List.any_map]
    congr 1
    funext p
    exact he _ _
  rw [e]
  split
  · exact swapV_of he k rv kvs ds r
  · rw [List.map_append]
    exact r.append (.cons rv .nil)
end
end MI
/-! dict comprehensions over D -/
namespace MI
open PySem PySem.Spec
open PyProof.Rows L2
/-- a key that a dict of the kind takes: fl, a number or text; else a tuple of such -/
def okKey (fl : Bool) (d : D) : Bool := match fl, d with
  | true, d => (flatK d).isSome
  | false, .tup l => (flatKs l).isSome
  | false, _ => false
def loopD (fl : Bool) (u : MG) (t : MT) (mk mv : ME) (ρ : Env1) (chk : MH → Bool) : List D → List D → List D → MH → R (List D × List D)
  | [], ks, vs, h => if chk h = true then .ok (ks, vs) h else .bad
  | d :: r, ks, vs, h => if chk h = true then (match u d ρ h with
    | none => .bad
    | some (ρ1, h1) => (noEx (t ρ1 h1)).bind fun b h2 => match b with
      | true => (noEx (mk ρ1 h2)).bind fun k h3 => (noEx (mv ρ1 h3)).bind fun v h4 => if (okKey fl k && decide (ks.length < 16777216)) = true then loopD fl u t mk mv ρ chk r (putKs ks k) (putVs ks vs k v) h4 else .bad
      | false => loopD fl u t mk mv ρ chk r ks vs h2) else .bad
def mDc (fl : Bool) (i : MI') (u : MG) (t : MT) (mk mv : ME) (vs : List Nat) : ME := fun ρ h => (i ρ h).bind fun s h1 => (loopD fl u t mk mv (wipeM ρ vs) s.chk s.items [] [] h1).bind fun p h2 => .ok (.dic p.1 p.2) h2
def DKind (fl : Bool) (g : Rm) (φ : Ph) (H : Hp) (u : HO) (ks ds : List D) : Prop := match fl with
  | true => ∃ kvs : List (Key × V), u = .dK kvs ∧ kvs.map (fun p => keyD p.1) = ks ∧ Reps g φ H (kvs.map (·.2)) ds
  | false => ∃ kvs : List (List Key × V), u = .dT kvs ∧ kvs.map (fun p => D.tup (p.1.map keyD)) = ks ∧ Reps g φ H (kvs.map (·.2)) ds
theorem rep_flat {g : Rm} {φ : Ph} {H : Hp} {v : V} {d : D} {k : Key} (r : Rep g φ H v d) (e : flatK d = some k) : v = kV k := by
  cases r <;> simp [flatK] at e <;> subst e <;> rfl
theorem reps_flat {g : Rm} {φ : Ph} {H : Hp} : ∀ {xs : List V} {ds : List D} {ks : List Key}, Reps g φ H xs ds → flatKs ds = some ks → xs = ks.map kV
  | _, _, ks, .nil, e => by simp [flatKs] at e; subst e; rfl
  | _, _, ks, .cons (d := d) (ds := ds) r rr, e => by
    simp only [flatKs] at e
    cases h1 : flatK d with
    | none => simp [h1] at e
    | some k =>
      cases h2 : flatKs ds with
      | none => simp [h1, h2] at e
      | some q =>
        simp [h1, h2] at e
        subst e
        rw [rep_flat r h1, reps_flat rr h2]
        rfl
theorem tup_eqb (a b : List Key) : D.eqb (D.tup (a.map keyD)) (D.tup (b.map keyD)) = decide (a = b) := by
  show Ds.eqb _ _ = _
  exact keys_eqb a b
/-- one put -/
theorem dput {fl : Bool} {g : Rm} {φ : Ph} {H : Hp} {D0 : Addr} {u : HO} {ks ds : List D} {y z : V} {k d : D} (eu : H D0 = some u) (r : DKind fl g φ H u ks ds) (ry : Rep g φ H y k) (rz : Rep g φ H z d) (ok : okKey fl k = true) (hl : ks.length < sizeLine) :
    ∃ u', DPut H D0 y z (upd H D0 u') ∧ DKind fl g φ H u' (putKs ks k) (putVs ks ds k d) ∧ Pl u' := by
  cases fl with
  | true =>
    obtain ⟨kvs, rfl, rfl, rr⟩ := r
    obtain ⟨q, hq⟩ := Option.isSome_iff_exists.mp (show (flatK k).isSome = true from ok)
    have ek := flatK_eq hq
    have ey := rep_flat ry hq
    subst ek ey
    refine ⟨.dK (putK kvs q z), DPut.k eu (by simpa using hl), ⟨_, rfl, putKs_of key_eqb kvs q z, putVs_of key_eqb q rz rr⟩, .dK⟩
  | false =>
    obtain ⟨kvs, rfl, rfl, rr⟩ := r
    cases k with
    | tup l =>
      obtain ⟨q, hq⟩ := Option.isSome_iff_exists.mp (show (flatKs l).isSome = true from ok)
      obtain ⟨b, xs, rfl, ft, rl⟩ : ∃ b xs, y = .ref b ∧ FT g.K φ H b xs ∧ Reps g φ H xs l := by
        cases ry with
        | tup a b => exact ⟨_, _, rfl, a, b⟩
      have el := flatKs_eq hq
      have ex := reps_flat rl hq
      subst el ex
      refine ⟨.dT (putK kvs q z), DPut.t eu ft.1 (by simpa using hl), ⟨_, rfl, putKs_of (f := fun a => D.tup (a.map keyD)) tup_eqb kvs q z, putVs_of (f := fun a => D.tup (a.map keyD)) tup_eqb q rz rr⟩, .dT⟩
    | _ => cases ok
theorem DKind.ext {fl : Bool} {g : Rm} {φ φ' : Ph} {H H' : Hp} {u : HO} {ks ds : List D} (e : Tr φ H φ' H') (r : DKind fl g φ H u ks ds) : DKind fl g φ' H' u ks ds := by
  cases fl with
  | true => obtain ⟨k, a, b, c⟩ := r; exact ⟨k, a, b, c.tr e⟩
  | false => obtain ⟨k, a, b, c⟩ := r; exact ⟨k, a, b, c.tr e⟩
theorem DKind.len {fl : Bool} {g : Rm} {φ : Ph} {H : Hp} {u : HO} {ks ds : List D} (r : DKind fl g φ H u ks ds) : True := trivial
section
variable {g : Gm} {W : WX} {X : Cx} {mi : MI'} {u : MG} {mt : MT} {mk mv : ME} {wt : TG} {vs : List Nat} {fl : Bool}
structure DcAt (fl : Bool) (g : Gm) (φ1 : Ph) (H1 : Hp) (D0 : Addr) (φ : Ph) (H : Hp) (h : MH) (ks ds : List D) : Prop where
  e : Ext φ1 H1 φ H
  m : Hok g φ H h
  d : D0 ∈ φ.g
  o : ∃ w, H D0 = some w ∧ DKind fl g.r φ H w ks ds
def d0Of : Bool → HO
  | true => .dK []
  | false => .dT []
theorem imp_dc (hg : GOk g vs wt u) (σ : L2.St) (H : Hp) (Q : VK) (t : tE g W (mDc fl mi u mt mk mv vs) σ H Q) : tDcx (d0Of fl) (tI g W mi) wt (tT g W0 mt) (tE g W0 mk) (tE g W0 mv) vs σ H Q := by
  obtain ⟨φ, ρ, h, s, m, o⟩ := t
  refine ⟨φ, ρ, h, s, m, ?_⟩
  unfold mDc at o
  cases hr : mi ρ h with
  | bad => rw [hr] at o; exact o
  | exc x h1 => rw [hr] at o; exact o
  | ok src h1 =>
    rw [hr] at o
    have o : Out g W σ φ H (Rep g.r) Q ((loopD fl u mt mk mv (wipeM ρ vs) src.chk src.items [] [] h1).bind fun p h2 => .ok (.dic p.1 p.2) h2) := o
    intro φ1 J H1 e1 m1 wk D0 hD0
    have nD := m1.notin hD0
    have o1 := Out.base e1 o
    have s1 := s.ext e1
    have pl0 : Pl (d0Of fl) := by cases fl; exact .dT; exact .dK
    obtain ⟨eg, mg⟩ := mk_g (o := d0Of fl) m1 hD0 pl0
    have k0 : ∀ φ' H', DKind fl g.r φ' H' (d0Of fl) [] [] := fun φ' H' => by cases fl <;> exact ⟨[], rfl, rfl, .nil⟩
    refine ⟨fun i k H' => k = src.items.length - i ∧ i ≤ src.items.length ∧ ∃ φ2 h2 ks ds, DcAt fl g φ1 H1 D0 φ2 H' h2 ks ds ∧ Out g W σ φ1 H1 (Rep g.r) Q ((loopD fl u mt mk mv (wipeM ρ vs) src.chk (src.items.drop i) ks ds h2).bind fun p h2 => .ok (.dic p.1 p.2) h2),
      ⟨src.items.length, by simp, Nat.zero_le _, ⟨φ1.c, D0 :: φ1.g, φ1.m⟩, h1, [], [], ⟨eg, mg, List.mem_cons_self, _, upd_same, k0 _ _⟩, o1⟩, ?_⟩
    rintro i k H2 ⟨rfl, hi, φ2, h2, ks, ds, L, o2⟩
    by_cases hlt : i < src.items.length
    · rw [List.drop_eq_getElem_cons hlt] at o2
      unfold loopD at o2
      split at o2
      · rename_i hck
        obtain ⟨w1, w2⟩ := (wk φ2 H2 h2 L.e.tr L.m hck i)
        obtain ⟨go, yl⟩ := w1 src.items[i] (by simp [hlt])
        refine .inr ⟨go, fun H' => ∃ φ2 h2 ks ds, DcAt fl g φ1 H1 D0 φ2 H' h2 ks ds ∧ Out g W σ φ1 H1 (Rep g.r) Q ((loopD fl u mt mk mv (wipeM ρ vs) src.chk (src.items.drop (i + 1)) ks ds h2).bind fun p h2 => .ok (.dic p.1 p.2) h2), fun H' q => ⟨src.items.length - (i + 1), by omega, rfl, hlt, q⟩, fun x H3 y => ?_⟩
        obtain ⟨φ3, e3, r3, m3⟩ := yl x H3 y
        cases hu : u src.items[i] (wipeM ρ vs) h2 with
        | none => rw [hu] at o2; exact o2.elim
        | some q =>
          obtain ⟨ρ4, h4⟩ := q
          rw [hu] at o2
          refine hg ((s1.ext (L.e.trans e3)).wipe vs) r3 hu fun σ4 eh s4 w4 => ⟨w4.trans (wipe_wipe vs vs σ fun _ h => h), ?_⟩
          subst eh
          dsimp only at o2
          refine ⟨φ3, ρ4, h4, s4, m3, ?_⟩
          have keep : ∀ {φ' H' h'}, Ext φ2 H2 φ' H' → Hok g φ' H' h' → DcAt fl g φ1 H1 D0 φ' H' h' ks ds := fun x5 m5 => by
            obtain ⟨w, ew, kw⟩ := L.o
            exact ⟨L.e.trans x5, m5, x5.gh _ L.d, w, (x5.gk _ L.d).trans ew, kw.ext x5.tr⟩
          cases ht : mt ρ4 h4 with
          | bad => rw [ht] at o2; exact o2.elim
          | exc _ _ => rw [ht] at o2; exact o2.elim
          | ok b h5 =>
            rw [ht] at o2
            intro φ5 b' H5 e5 r5 m5
            cases (show b' = b from r5)
            have e25 := e3.trans e5
            cases b with
            | false => exact ⟨φ5, h5, ks, ds, keep e25 m5, o2⟩
            | true =>
              refine ⟨φ5, ρ4, h5, s4.ext e5, m5, ?_⟩
              have o3 : Out g W σ φ1 H1 (Rep g.r) Q (((noEx (mk ρ4 h5)).bind fun k h3 => (noEx (mv ρ4 h3)).bind fun v h4 => if (okKey fl k && decide (ks.length < 16777216)) = true then loopD fl u mt mk mv (wipeM ρ vs) src.chk (src.items.drop (i + 1)) (putKs ks k) (putVs ks ds k v) h4 else .bad : R (List D × List D)).bind fun p h2 => .ok (.dic p.1 p.2) h2) := o2
              clear o2
              cases hm : mk ρ4 h5 with
              | bad => rw [hm] at o3; exact o3.elim
              | exc _ _ => rw [hm] at o3; exact o3.elim
              | ok kd h6 =>
                rw [hm] at o3
                have o4 : Out g W σ φ1 H1 (Rep g.r) Q (((noEx (mv ρ4 h6)).bind fun v h4 => if (okKey fl kd && decide (ks.length < 16777216)) = true then loopD fl u mt mk mv (wipeM ρ vs) src.chk (src.items.drop (i + 1)) (putKs ks kd) (putVs ks ds kd v) h4 else .bad : R (List D × List D)).bind fun p h2 => .ok (.dic p.1 p.2) h2) := o3
                clear o3
                intro φ6 v6 H6 e6 r6 m6
                refine ⟨φ6, ρ4, h6, (s4.ext e5).ext e6, m6, ?_⟩
                cases hv : mv ρ4 h6 with
                | bad => rw [hv] at o4; exact o4.elim
                | exc _ _ => rw [hv] at o4; exact o4.elim
                | ok vd h7 =>
                  rw [hv] at o4
                  have o5 : Out g W σ φ1 H1 (Rep g.r) Q ((if (okKey fl kd && decide (ks.length < 16777216)) = true then loopD fl u mt mk mv (wipeM ρ vs) src.chk (src.items.drop (i + 1)) (putKs ks kd) (putVs ks ds kd vd) h7 else .bad : R (List D × List D)).bind fun p h2 => .ok (.dic p.1 p.2) h2) := o4
                  clear o4
                  intro φ7 v7 H7 e7 r7 m7
                  split at o5
                  · rename_i hs
                    rw [Bool.and_eq_true, decide_eq_true_eq] at hs
                    have e27 := (e25.trans e6).trans e7
                    obtain ⟨x7, _, d7, w, ew, kw⟩ := keep e27 m7
                    obtain ⟨w', dp, kw', pw⟩ := dput ew kw (r6.ext e7) r7 hs.1 (by rw [sizeLine_eq]; exact hs.2)
                    exact ⟨_, dp, φ7, h7, _, _, ⟨x7.gset nD d7, m7.gput d7 pw, d7, w', upd_same, kw'.ext (Tr.upd (.inr (.inr d7)))⟩, o5⟩
                  · exact o5.elim
      · exact o2.elim
    · have ei : i = src.items.length := by omega
      subst ei
      rw [List.drop_length] at o2
      unfold loopD at o2
      split at o2
      · rename_i hck
        obtain ⟨w1, w2⟩ := (wk φ2 H2 h2 L.e.tr L.m hck src.items.length)
        refine .inl ⟨w2 (Nat.le_refl _), ?_⟩
        obtain ⟨w, ew, kw⟩ := L.o
        obtain ⟨a, b, t, n⟩ := made L.e L.m nD L.d
        have kw' := kw.ext t
        have o3 : Out g W σ φ1 H1 (Rep g.r) Q (.ok (.dic ks ds) h2) := o2
        cases fl with
        | true => obtain ⟨kvs, rfl, q1, q2⟩ := kw'; exact o3 _ _ _ a (.dic (.inl ew) n q1 q2) b
        | false => obtain ⟨kvs, rfl, q1, q2⟩ := kw'; exact o3 _ _ _ a (.dicT (.inl ew) n q1 q2) b
      · exact o2.elim
end
end MI
namespace MI
open PySem PySem.Spec
open PyProof.Rows L2
section
variable {g : Gm} {W : WX} {X : Cx} {mi : MI'} {u : MG} {mt : MT} {mk mv : ME} {wt : TG} {fl : Bool} {kx vx tg iter : Expr} {ifs : List Expr} {scope : Scope} {own : List (Str × Nat)} {pos : Pos}
theorem d0_ok (fl : Bool) {P : Program} {w : World} : ∀ (h : Heap) (Ha : Hp), sysModules < h.objs.size → ObjOk P w Ha (h.push { cls := .type "dict", data := .dict #[] }) h.objs.size (d0Of fl) := by
  cases fl
  · exact d0_tup
  · exact d0_flat
theorem s_dc (fl : Bool) (hc : X.calm = true) (hN : X.N.Nodup) (hu : X.A.units + 1 < cLine) (hi : PI X tg iter (tI g W mi)) (ok : BlkOk X.N X.env.scope scope own) (hgo : GOk g (own.map (·.2)) wt u)
    (hg : ∀ (s : Shared) (H : Hp) (C : Addr) (cl : List (Str × Addr)) (fp : List Addr), PG (X.blk s H scope (compEnvC scope cl C X.env) fp) tg wt) (ht : ∀ (s : Shared) (H : Hp) (C : Addr) (cl : List (Str × Addr)) (fp : List Addr), PTs (X.blk s H scope (compEnvC scope cl C X.env) fp) ifs (tT g W0 mt))
    (hk : ∀ (s : Shared) (H : Hp) (C : Addr) (cl : List (Str × Addr)) (fp : List Addr), PE (X.blk s H scope (compEnvC scope cl C X.env) fp) kx (tE g W0 mk)) (he : ∀ (s : Shared) (H : Hp) (C : Addr) (cl : List (Str × Addr)) (fp : List Addr), PE (X.blk s H scope (compEnvC scope cl C X.env) fp) vx (tE g W0 mv))
    (hs : ∀ x, foldedSetIterable iter X.env x = pure x := by intro _; rfl) :
    PE X (.DictComp kx vx [⟨tg, iter, ifs, 0⟩] scope pos) (tE g W (mDc fl mi u mt mk mv (own.map (·.2)))) := pe_imp (pe_dcx hc hN hi ok (d0_ok fl) hu hg ht hk he hs) (imp_dc hgo)
end
end MI
namespace PySem
section
variable {prog : Program} {w : World} {A : Around} {E : Value → Shared → Prop} {s : Shared} {l : Addr} {xs : Array (Int × Tok)}
/-- sum of a tuple of ints -/
theorem sum_intTup {Q : Value → Shared → Prop} (hh : A.handled = none) (hl : s.heap.IsTuple l (intItems xs))
    (h : ∀ h' tk t', (∀ b o, s.heap.get? b = some o → h'.get? b = some o) → Q (.int (preSum (numAt xs) xs.size) t') { s with heap := h', toks := tk }) :
    wpAny (model prog w) A (call (.builtin "sum") [.ref l]) Q E s := by
  have hlt : l < s.heap.objs.size := by obtain ⟨_, e, _⟩ := hl; exact Heap.lt_size e
  refine call_sum_walkG (wpAny_pyIter_tuple hl ?_)
  refine ⟨_, [_, l], [_], _, _, _, numAt xs, rfl, Walks.tuple (A := A.in1) hh _ l (Nat.ne_of_lt hlt) (intItems xs), ⟨⟨_, Heap.get?_push_size _ rfl, rfl, rfl⟩, hl.push _⟩, fun b hb => ?_, (fun _ _ => intItems_at), fun h' tk t' hk => ?_⟩
  · show b < (s.heap.push _).objs.size
    rw [Heap.size_push]
    rcases List.mem_cons.mp hb with rfl | hb
    · exact Nat.lt_succ_self _
    · rcases List.mem_cons.mp hb with rfl | hb
      · exact Nat.lt_succ_of_lt hlt
      · cases hb
  · have := h h' tk t' (fun b o e => by
      refine hk b o (fun hm => ?_) (Heap.get?_push_of_some _ e)
      rcases List.mem_cons.mp hm with e1 | hm
      · exact absurd (e1 ▸ Heap.lt_size e) (Nat.lt_irrefl _)
      · cases hm)
    simpa [intItems] using this
end
end PySem
namespace L2
open PySem PySem.Spec PyProof.Rows
section
variable {X : Cx}
def rSumT (K : PySem.W.Frag) : List V → Hp → VK → Prop := fun vs H Q => ∃ (a : Addr) (ns : List Int), vs = [V.ref a] ∧ SqT K H a (ns.map V.int) ∧ Q (.int ns.sum) H
theorem cr_sumT (hc : X.calm = true) : CallR X (.builtin "sum") (rSumT X.K) := by
  intro pins s σ H vs us Q I r h
  obtain ⟨a, ns, rfl, hs, q⟩ := h
  obtain ⟨its, rv, hl, _⟩ := I.tuple hs
  rw [Vals.ref1 r]
  have hi := rv.ints
  obtain ⟨xs, e⟩ := hi.allInts.items
  have hn : numsOf (intItems xs).toList = ns := by rw [← e]; exact hi.numsOf
  rw [nums_intItems] at hn
  have hl' : s.heap.IsTuple a (intItems xs) := by rw [← e]; exact hl
  refine PySem.sum_intTup (I.ok.hd hc) hl' fun h' tk t' hk => ?_
  rw [preSum_eq, List.take_of_length_le (by simp), hn]
  exact ⟨.int _, H, I.kept hk, ⟨_, rfl⟩, q⟩
/-- len of a dict of either kind -/
def rLenD : List V → Hp → VK → Prop := fun xs H Q => ∃ (a : Addr) (n : Nat), xs = [.ref a] ∧ ((∃ kvs : List (Key × V), Rd H a (.dK kvs) ∧ n = kvs.length) ∨ ∃ kvs : List (List Key × V), Rd H a (.dT kvs) ∧ n = kvs.length) ∧ Q (.int (n : Int)) H
theorem call_lenDD : CallR X (.builtin "len") rLenD := by
  intro pins s σ H xs us Q I r h
  obtain ⟨a, n, rfl, ha, q⟩ := h
  obtain ⟨u, rfl, rx⟩ := vals1 r
  cases rx
  rcases ha with ⟨kvs, ha, rfl⟩ | ⟨kvs, ha, rfl⟩
  · exact d_len I ha fun t s' I' => ⟨.int kvs.length, H, I', ⟨t, rfl⟩, q⟩
  · obtain ⟨z, hd, ys, rel, dd⟩ := dt_rd I.hok ha
    have hl : kvs.length = ys.length := Paired.length rel
    refine call_len_dictH hd dd (by rw [← hl]; rw [sizeLine_eq] at z; omega) ?_
    rw [← hl]
    exact ⟨.int ((kvs.length : Nat) : Int), H, I.tok _, ⟨_, rfl⟩, q⟩
end
end L2
namespace MI
open PySem PySem.Spec
open PyProof.Rows L2
section
variable {g : Gm} {W : WX} {X : Cx} {a : Expr} {ma : ME} {mas : MA} {e : Expr} {es : List Expr} {p pos : Pos}
/-- sum of a tuple -/
def vSumT (d : D) (h : MH) : R D := match d with
  | .tup l => match asInts l with
    | some l => .ok (.int l.sum) h
    | none => .bad
  | .ctp l => .ok (.int l.sum) h
  | _ => .bad
theorem sumT_o (hk : g.r.K = X.K) : Op1 g (fun x H Q => rSumT X.K [x] H Q) vSumT := by
  intro W σ φ H h x d Q rx m o
  cases rx with
  | tup q rr =>
    rename_i a xs ds
    have o' : Out g W σ φ H (Rep g.r) Q (match asInts ds with
      | some l => .ok (.int l.sum) h
      | none => .bad) := o
    cases hl : asInts ds with
    | none => rw [hl] at o'; exact o'.elim
    | some l =>
      rw [hl] at o'
      rw [asInts_map hl] at rr
      exact ⟨a, l, rfl, by rw [← hk, ← reps_int_v rr]; exact q.sq, o' φ _ H Ext.refl (.int _) m⟩
  | ctp q =>
    rename_i a l
    exact ⟨a, l, rfl, by rw [← hk]; exact ctp_sq q, o φ _ H Ext.refl (.int _) m⟩
  | _ => exact o.elim
theorem b_sumT (hk : g.r.K = X.K) (hc : X.calm = true) (hm : X.mg "sum" = none) (ha : PA X (e :: es) (tA g W mas)) (hg : Gl X "sum" := by rfl) (he : starEach (e :: es) X.env = (false, eval e X.env) :: starEach es X.env := by rfl) (hpl : (backTo pos (starEach es X.env)).any (·.1) = false := by rfl) :
    PE X (.Call (.Name "sum" p) (e :: es) [] pos) (tE g W (mCall (vOne vSumT) mas)) := s_blt (cr_sumT hc) (oOne (sumT_o hk)) bt_sum hm ha hg (by decide) (by decide) he hpl
/-- len of a dict -/
def vLenD (d : D) (h : MH) : R D := match d with
  | .dic ks _ => .ok (.int (ks.length : Int)) h
  | _ => .bad
theorem lenD_o : Op1 g (fun x H Q => rLenD [x] H Q) vLenD := by
  intro W σ φ H h x d Q rx m o
  cases rx with
  | dic q n e rr =>
    rename_i a kvs ks ds
    have hl : ks.length = kvs.length := by rw [← e, List.length_map]
    have o' : Out g W σ φ H (Rep g.r) Q (.ok (.int (ks.length : Int)) h) := o
    rw [hl] at o'
    exact ⟨a, kvs.length, rfl, .inl ⟨kvs, q, rfl⟩, o' φ _ H Ext.refl (.int _) m⟩
  | dicT q n e rr =>
    rename_i a kvs ks ds
    have hl : ks.length = kvs.length := by rw [← e, List.length_map]
    have o' : Out g W σ φ H (Rep g.r) Q (.ok (.int (ks.length : Int)) h) := o
    rw [hl] at o'
    exact ⟨a, kvs.length, rfl, .inr ⟨kvs, q, rfl⟩, o' φ _ H Ext.refl (.int _) m⟩
  | _ => exact o.elim
theorem b_lenD (hm : X.mg "len" = none) (ha : PA X (e :: es) (tA g W mas)) (hg : Gl X "len" := by rfl) (he : starEach (e :: es) X.env = (false, eval e X.env) :: starEach es X.env := by rfl) (hpl : (backTo pos (starEach es X.env)).any (·.1) = false := by rfl) :
    PE X (.Call (.Name "len" p) (e :: es) [] pos) (tE g W (mCall (vOne vLenD) mas)) := s_blt call_lenDD (oOne lenD_o) bt_len hm ha hg (by decide) (by decide) he hpl
/-- xs[lo:hi] as a cell -/
def vCutC (d : D) (lo hi : Option Int) (h : MH) : R D := match lstOf h d with
  | some l => .ok (.cell h.length) (h ++ [cutD l lo hi])
  | none => .bad
def mCutC (a : ME) (lo hi : MO) : ME := fun ρ h => (a ρ h).bind fun x h1 => (lo ρ h1).bind fun l h2 => (hi ρ h2).bind fun u h3 => vCutC x l u h3
theorem cutC_o {lo hi : Option Int} {σ : L2.St} {φ : Ph} {H : Hp} {h : MH} {x : V} {d : D} {Q : VK} (hk : g.r.K = X.K) (rx : Rep g.r φ H x d) (m : Hok g φ H h) (o : Out g W σ φ H (Rep g.r) Q (vCutC d lo hi h)) : rSlL X.K x lo hi H Q := by
  unfold vCutC at o
  cases hl : lstOf h d with
  | none => rw [hl] at o; exact o.elim
  | some l =>
    rw [hl] at o
    obtain ⟨a, xs, rfl, q, r⟩ : ∃ a xs, x = .ref a ∧ SqL g.r.K H a xs ∧ Reps g.r φ H xs l := by
      cases rx with
      | lst q r => cases hl; exact ⟨_, _, rfl, q.sq, r⟩
      | cell q =>
        obtain ⟨xs, e1, r⟩ := m.at_ _ _ _ q hl
        exact ⟨_, xs, rfl, SqL.of e1, r⟩
      | _ => cases hl
    refine ⟨a, xs, rfl, hk ▸ q, fun p hp => ?_⟩
    obtain ⟨φ2, e2, m2, c2⟩ := m.cell hp (r.cut lo hi)
    exact o _ _ _ e2 (.cell c2) m2
theorem s_cutC {lo hi : Option Expr} {ml mh : MO} {p2 : Pos} (hk : g.r.K = X.K) (ha : PE X a (tE g W ma)) (hl : PO X lo (tOM g W ml)) (hh : PO X hi (tOM g W mh)) : PE X (.Subscript a (.Slice lo hi none p2) pos) (tE g W (mCutC ma ml mh)) :=
  pe_imp (pe_slice sl_list ha hl hh) fun σ H Q t => by
    obtain ⟨φ, ρ, h, s, m, o⟩ := t
    refine ⟨φ, ρ, h, s, m, Out.next o fun x h1 φ1 v H1 e1 r1 m1 o1 => ?_⟩
    refine ⟨φ1, ρ, h1, s.ext e1, m1, Out.next (rel' := rO) o1 fun l h2 φ2 l' H2 e2 r2 m2 o2 => ?_⟩
    refine ⟨φ2, ρ, h2, (s.ext e1).ext e2, m2, Out.next (rel' := rO) o2 fun u h3 φ3 u' H3 e3 r3 m3 o3 => ?_⟩
    cases (show l' = l from r2)
    cases (show u' = u from r3)
    exact cutC_o hk ((r1.ext e2).ext e3) m3 o3
/-! ### defs as values -/
/-- the n-th thing is what the module calls x -/
def ThAt (th : Nat → Addr) (mg : Str → Option Value) (x : Str) (n : Nat) : Prop := mg x = some (.ref (th n))
def refOf : Option Value → Addr
  | some (.ref f) => f
  | _ => 0
theorem th_mk {K : PySem.W.Frag} {mg : Str → Option Value} {h : Heap} {x : Str} {n : Nat} {f : Addr} {th : Nat → Addr} (X : K.In h) (G : h.Ns mainGlobals mg) (he : ∀ f, mg x = some (.ref f) → th n = f) (a : PySem.W.nsIn K mainGlobals x = some (some (.ref f))) : ThAt th mg x n := by
  have e := PySem.W.mg_of X G a
  show mg x = some (.ref (th n))
  rw [he f e]
  exact e
theorem hu1 {k : Nat} {A : Around} (r : Room k A) : A.units + 1 < cLine := by have := r.un; omega
theorem sc_th {n : Nat} {x : Str} (T : ThAt g.r.th X.mg x n) (hg : Gl X x := by rfl) (hd : (x == ("__debug__" : Str)) = false := by decide) : PE X (.Name x pos) (tE g W (mC (.th n))) := sc_glob hg T (v := .ref (g.r.th n)) rfl (fun _ _ => .th n) hd
/-- a call of what the i-th slot holds -/
def mCallT (i : Nat) (tab : Nat → Option (Nat × FnM)) (a : MA) : ME := fun ρ h => match ρ[i]? with
  | some (some (.th n)) => match tab n with
    | some (np, m) => (a ρ h).bind fun xs h1 => if xs.length = np then m xs h1 else .bad
    | none => .bad
  | _ => .bad
/-- what is known of the defs of the table -/
def TabOk (P : Program) (w : World) (K : PySem.W.Frag) (mg : Str → Option Value) (base : Heap) (g : Gm) (k : Nat) (tab : Nat → Option (Nat × FnM)) : Prop := ∀ n np m, tab n = some (np, m) → ∃ x k', k' ≤ k ∧ ThAt g.r.th mg x n ∧ Dn P w K mg base g k' x [] np m
theorem tab_nil {P : Program} {w : World} {K : PySem.W.Frag} {mg : Str → Option Value} {base : Heap} {k : Nat} : TabOk P w K mg base g k fun _ => none := fun _ _ _ e => by cases e
theorem tab_cons {P : Program} {w : World} {K : PySem.W.Frag} {mg : Str → Option Value} {base : Heap} {k k' : Nat} {n np : Nat} {m : FnM} {x : Str} {tab : Nat → Option (Nat × FnM)} (t : ThAt g.r.th mg x n) (F : Dn P w K mg base g k' x [] np m) (hk : k' ≤ k) (r : TabOk P w K mg base g k tab) :
    TabOk P w K mg base g k fun j => if j = n then some (np, m) else tab j := fun j q mm e => by
  have e : (if j = n then some (np, m) else tab j) = some (q, mm) := e
  by_cases hj : j = n
  · rw [if_pos hj] at e
    cases e
    subst hj
    exact ⟨x, k', hk, t, F⟩
  · rw [if_neg hj] at e
    exact r j q mm e
theorem s_loc (i k : Nat) {x : Str} {tab : Nat → Option (Nat × FnM)} (T : TabOk X.prog X.w X.K X.mg X.base g k tab) (tk : Takes X W) (hr : Room k X.A) (ha : PA X (e :: es) (tA g W mas)) (hN : X.N[i]? = some x := by rfl) (hv : Vis X.env.scope x := by first | exact Or.inl rfl | exact Or.inr (Or.inl rfl) | exact Or.inr (Or.inr rfl))
    (hdb : (x == ("__debug__" : Str)) = false := by decide) (hcd : (x == ("__classdict__" : Str)) = false := by decide) (he : starEach (e :: es) X.env = (false, eval e X.env) :: starEach es X.env := by rfl) (hpl : (backTo pos (starEach es X.env)).any (·.1) = false := by rfl) :
    PE X (.Call (.Name x p) (e :: es) [] pos) (tE g W (mCallT i tab mas)) := by
  refine ⟨fun pins s σ H Q I t => ?_⟩
  obtain ⟨φ, ρ, h, sl, mm, o⟩ := t
  unfold mCallT at o
  split at o
  · rename_i n hn
    cases ht : tab n with
    | none => rw [ht] at o; exact o.elim
    | some q =>
      obtain ⟨np, m⟩ := q
      rw [ht] at o
      have o : Out g W σ φ H (Rep g.r) Q ((mas ρ h).bind fun xs h1 => if xs.length = np then m xs h1 else .bad) := o
      obtain ⟨y, k', hk', ty, F⟩ := T n np m ht
      obtain ⟨f, fd, ps, dvs, ds, h1, h2, h3, h4, h5, h6⟩ := F.ex
      obtain ⟨v, hs, rv⟩ := sl.2 i _ hn
      rw [show X.mg y = _ from ty] at h1
      cases h1
      have ev : v = .ref (g.r.th n) := by cases rv; rfl
      subst ev
      refine wpAny_Call_Name_kw (thn ((pe_var (pos := p) hN hv hdb hcd).run pins s σ H (fun v H1 => v = .ref (g.r.th n) ∧ H1 = H) I ⟨.ref _, hs, rfl, rfl⟩) fun u s1 ⟨v, H1, I1, r1, q1⟩ => ?_)
      obtain ⟨rfl, rfl⟩ := q1
      cases r1
      refine PySem.W.callWith_K (h₀ := X.base) I.ok.mod.kin h2 (thn (ha.run pos pins s1 σ _ (fun vs H1 => spM g np m (vs ++ dvs) H1 Q (fun c dx H' => W c dx σ H')) I1 ?_) fun us s2 ⟨vs, H2, I2, r, q⟩ => ⟨I2.kIn, ?_⟩) he hpl
      · refine ⟨φ, ρ, h, sl, mm, Out.next o fun xs h1 φ1 vs H1 e1 r1 m1 o1 => ?_⟩
        have rr := r1.append (h5 φ1 H1)
        rw [List.append_nil] at rr
        split at o1
        · rename_i hl
          refine ⟨by rw [rr.length]; exact hl, φ1, _, h1, rr, m1, ?_⟩
          cases hm' : m xs h1 with
          | ok d h2 => rw [hm'] at o1; exact o1
          | exc x h2 => rw [hm'] at o1; exact o1
          | bad => rw [hm'] at o1; exact o1
        · exact o1.elim
      · exact run_fnSD (E := fun σ c dx H' => W c dx σ H') h6 (hr.mono hk') h3 h4 (passAt tk σ) I2 r q
  · exact o.elim
end
end MI
/-! rows of whole numbers, made normal: plain -/
namespace MI
def hd : List Int → Int
  | [] => 0
  | i :: r => if i = 0 then hd r else i
def gcdF : Nat → List Int → Nat
  | g, [] => g
  | g, i :: r => gcdF (Nat.gcd g i.natAbs) r
def gL (l : List Int) : Int := (gcdF 0 l : Nat)
def sg (f g : Int) : Int := if 0 < f then g else -g
def inv (p f : Int) : Int := (((List.range p.toNat).map fun (i : Nat) => (i : Int)).find? fun r => decide (r * f % p = 1)).getD 0
def nrm (p : Int) (l : List Int) : List Int := if hd l = 0 then l else if p = 0 then l.map (fun x => fDiv x (sg (hd l) (gL l))) else l.map (fun x => x * inv p (hd l) % p)
theorem hd_zero : ∀ {l : List Int}, hd l = 0 ↔ ∀ i ∈ l, i = 0
  | [] => by simp [hd]
  | i :: r => by
    unfold hd
    by_cases e : i = 0
    · rw [if_pos e, hd_zero (l := r)]
      simp [e]
    · rw [if_neg e]
      simp [e]
theorem hd_mem : ∀ {l : List Int}, hd l ≠ 0 → hd l ∈ l
  | [], h => absurd rfl h
  | i :: r, h => by
    unfold hd at *
    by_cases e : i = 0
    · rw [if_pos e] at *
      exact List.mem_cons_of_mem _ (hd_mem h)
    · rw [if_neg e]
      exact List.mem_cons_self
theorem hd_map {φ : Int → Int} : ∀ {l : List Int}, (∀ i ∈ l, φ i = 0 ↔ i = 0) → hd l ≠ 0 → hd (l.map φ) = φ (hd l)
  | [], _, h => absurd rfl h
  | i :: r, hφ, h => by
    have h0 := hφ i List.mem_cons_self
    by_cases e : i = 0
    · have e2 : φ i = 0 := h0.mpr e
      have q : hd (i :: r) = hd r := by simp [hd, e]
      rw [q] at h
      rw [q]
      show (if φ i = 0 then hd (r.map φ) else φ i) = _
      rw [if_pos e2]
      exact hd_map (fun j hj => hφ j (List.mem_cons_of_mem _ hj)) h
    · have e2 : ¬ φ i = 0 := fun z => e (h0.mp z)
      show (if φ i = 0 then hd (r.map φ) else φ i) = φ (if i = 0 then hd r else i)
      rw [if_neg e2, if_neg e]
theorem hd_mul {c : Int} (hc : c ≠ 0) (l : List Int) : hd (l.map (c * ·)) = c * hd l := by
  by_cases h : hd l = 0
  · rw [h, Int.mul_zero, hd_zero]
    intro i hi
    obtain ⟨j, hj, rfl⟩ := List.mem_map.mp hi
    rw [hd_zero.mp h j hj, Int.mul_zero]
  · exact hd_map (fun i _ => ⟨fun z => (Int.mul_eq_zero.mp z).resolve_left hc, fun z => by rw [z, Int.mul_zero]⟩) h
theorem gcdF_dvd : ∀ {l : List Int} {g : Nat}, gcdF g l ∣ g ∧ ∀ i ∈ l, gcdF g l ∣ i.natAbs
  | [], g => ⟨Nat.dvd_refl _, fun i hi => by cases hi⟩
  | i :: r, g => by
    obtain ⟨a, b⟩ := gcdF_dvd (l := r) (g := Nat.gcd g i.natAbs)
    refine ⟨Nat.dvd_trans a (Nat.gcd_dvd_left _ _), fun j hj => ?_⟩
    rcases List.mem_cons.mp hj with e | e
    · rw [e]; exact Nat.dvd_trans a (Nat.gcd_dvd_right _ _)
    · exact b j e
theorem gcdF_mul {k : Nat} {c : Int} (hk : c.natAbs = k) : ∀ (l : List Int) (g : Nat), gcdF (k * g) (l.map (c * ·)) = k * gcdF g l
  | [], g => rfl
  | i :: r, g => by
    show gcdF (Nat.gcd (k * g) (c * i).natAbs) (r.map (c * ·)) = k * gcdF (Nat.gcd g i.natAbs) r
    rw [Int.natAbs_mul, hk, Nat.gcd_mul_left, gcdF_mul hk]
theorem gL_mul (c : Int) (l : List Int) : gL (l.map (c * ·)) = (c.natAbs : Int) * gL l := by
  unfold gL
  have := gcdF_mul (k := c.natAbs) (c := c) rfl l 0
  rw [Nat.mul_zero] at this
  rw [this]
  norm_cast
theorem gL_nn (l : List Int) : 0 ≤ gL l := by unfold gL; omega
theorem gL_dvd {l : List Int} {i : Int} (h : i ∈ l) : gL l ∣ i := by
  unfold gL
  exact Int.natAbs_dvd_natAbs.mp (by rw [Int.natAbs_natCast]; exact (gcdF_dvd (l := l) (g := 0)).2 i h)
theorem gL_pos {l : List Int} (h : hd l ≠ 0) : 0 < gL l := by
  have h0 : gL l ≠ 0 := fun e => h (by
    have d := gL_dvd (hd_mem h)
    rw [e] at d
    exact Int.zero_dvd.mp d)
  have := gL_nn l
  omega
theorem sg_dvd {l : List Int} {f i : Int} (h : i ∈ l) : sg f (gL l) ∣ i := by
  unfold sg
  split
  · exact gL_dvd h
  · exact Int.neg_dvd.mpr (gL_dvd h)
theorem sg_ne {f g : Int} (hg : g ≠ 0) : sg f g ≠ 0 := by
  unfold sg
  split <;> omega
theorem sg_abs {f g : Int} (hg : 0 ≤ g) : ((sg f g).natAbs : Int) = g := by
  unfold sg
  split <;> omega
theorem fDiv_mul {d a : Int} (hd : d ≠ 0) : fDiv (d * a) d = a := by
  unfold fDiv
  split
  · exact Int.mul_ediv_cancel_left _ hd
  · rw [Int.fdiv_eq_ediv_of_dvd ⟨a, rfl⟩]
    exact Int.mul_ediv_cancel_left _ hd
/-- a row is a number times its normal row -/
theorem nrm_split {l : List Int} (h : hd l ≠ 0) : ∃ s u, s = sg (hd l) (gL l) ∧ s ≠ 0 ∧ l = u.map (s * ·) ∧ gL u = 1 ∧ 0 < hd u := by
  have gp := gL_pos h
  refine ⟨sg (hd l) (gL l), l.map (· / sg (hd l) (gL l)), rfl, sg_ne (by omega), ?_⟩
  have s0 : sg (hd l) (gL l) ≠ 0 := sg_ne (by omega)
  generalize hs : sg (hd l) (gL l) = s at *
  have e : l = (l.map (· / s)).map (s * ·) := by
    rw [List.map_map]
    conv => lhs; rw [← List.map_id l]
    refine List.map_congr_left fun i hi => ?_
    have d : s ∣ i := by rw [← hs]; exact sg_dvd hi
    exact (Int.mul_ediv_cancel' d).symm
  refine ⟨e, ?_, ?_⟩
  · have g1 := gL_mul s (l.map (· / s))
    rw [← e] at g1
    have a : (s.natAbs : Int) = gL l := by rw [← hs]; exact sg_abs (by omega)
    rw [a] at g1
    have g2 : gL l * gL (l.map (· / s)) = gL l * 1 := by omega
    exact Int.eq_of_mul_eq_mul_left (by omega) g2
  · have h1 := hd_mul s0 (l.map (· / s))
    rw [← e] at h1
    generalize hd (l.map (· / s)) = y at *
    unfold sg at hs
    split at hs
    · rename_i hp
      have sp : 0 < s := by omega
      rw [h1] at hp
      exact Int.pos_of_mul_pos_right hp (by omega)
    · rename_i hp
      have sn : s < 0 := by omega
      have hlt : s * y < 0 := by omega
      rcases Int.lt_trichotomy y 0 with k | k | k
      · have := Int.mul_pos_of_neg_of_neg sn k
        omega
      · rw [k, Int.mul_zero] at hlt; omega
      · exact k
theorem nrm0_scale {c : Int} {u : List Int} (hc : c ≠ 0) (g : gL u = 1) (h : 0 < hd u) : nrm 0 (u.map (c * ·)) = u := by
  have h1 := hd_mul hc u
  have g1 := gL_mul c u
  rw [g, Int.mul_one] at g1
  have hn : hd (u.map (c * ·)) ≠ 0 := by rw [h1]; exact Int.mul_ne_zero hc (by omega)
  have s : sg (hd (u.map (c * ·))) (gL (u.map (c * ·))) = c := by
    rw [h1, g1]
    unfold sg
    rcases Int.lt_trichotomy c 0 with k | k | k
    · have := Int.mul_neg_of_neg_of_pos k h
      rw [if_neg (by omega)]
      omega
    · exact absurd k hc
    · have := Int.mul_pos k h
      rw [if_pos this]
      omega
  unfold nrm
  rw [if_neg hn, if_pos rfl, s, List.map_map]
  conv => rhs; rw [← List.map_id u]
  exact List.map_congr_left fun i _ => fDiv_mul hc
theorem map_one (u : List Int) : u.map ((1 : Int) * ·) = u := by
  conv => rhs; rw [← List.map_id u]
  exact List.map_congr_left fun i _ => Int.one_mul i
theorem nrm_len {p : Int} {l : List Int} : (nrm p l).length = l.length := by
  unfold nrm
  split
  · rfl
  · split <;> rw [List.length_map]
/-! over a prime -/
def Pq (p : Int) : Prop := p = 2 ∨ p = 3 ∨ p = 5 ∨ p = 7 ∨ p = 11 ∨ p = 13 ∨ p = 17 ∨ p = 19
theorem Pq.pos {p : Int} (hp : Pq p) : 2 ≤ p ∧ p ≤ 19 := by rcases hp with h | h | h | h | h | h | h | h <;> omega
theorem fin_p2 {P : Int → Int → Bool} (c : ([2, 3, 5, 7, 11, 13, 17, 19] : List Int).all (fun p => ((List.range p.toNat).all fun (f : Nat) => P p f)) = true) {p f : Int} (hp : Pq p) (h1 : 0 ≤ f) (h2 : f < p) : P p f = true := by
  have hm : p ∈ ([2, 3, 5, 7, 11, 13, 17, 19] : List Int) := by rcases hp with rfl | rfl | rfl | rfl | rfl | rfl | rfl | rfl <;> simp
  have a := List.all_eq_true.mp (List.all_eq_true.mp c p hm) f.toNat (List.mem_range.mpr (by omega))
  rwa [show ((f.toNat : Nat) : Int) = f by omega] at a
theorem fin_p3 {P : Int → Int → Int → Bool} (c : ([2, 3, 5, 7, 11, 13, 17, 19] : List Int).all (fun p => ((List.range p.toNat).all fun (f : Nat) => (List.range p.toNat).all fun (x : Nat) => P p f x)) = true) {p f x : Int} (hp : Pq p) (h1 : 0 ≤ f) (h2 : f < p) (h3 : 0 ≤ x) (h4 : x < p) : P p f x = true := by
  have a := fin_p2 (P := fun p f => (List.range p.toNat).all fun (x : Nat) => P p f x) c hp h1 h2
  have b := List.all_eq_true.mp a x.toNat (List.mem_range.mpr (by omega))
  rwa [show ((x.toNat : Nat) : Int) = x by omega] at b
def invB (p f : Int) : Bool := decide (f = 0) || (decide (0 ≤ inv p f) && decide (inv p f < p) && decide (f * inv p f % p = 1))
theorem inv_ok {p f : Int} (hp : Pq p) (h1 : 1 ≤ f) (h2 : f < p) : 0 ≤ inv p f ∧ inv p f < p ∧ f * inv p f % p = 1 := by
  have k := fin_p2 (P := invB) (by decide +kernel) hp (by omega) h2
  simp only [invB, Bool.or_eq_true, Bool.and_eq_true, decide_eq_true_eq] at k
  rcases k with k | k
  · omega
  · exact ⟨k.1.1, k.1.2, k.2⟩
def inv2 (p f x : Int) : Bool := decide (f = 0) || (decide (x * inv p f % p = 0) == decide (x = 0)) && decide ((x * inv p f % p) * f % p = x) && (decide (f * x % p = 0) == decide (x = 0))
theorem inv2_ok {p f x : Int} (hp : Pq p) (h1 : 1 ≤ f) (h2 : f < p) (h3 : 0 ≤ x) (h4 : x < p) : (x * inv p f % p = 0 ↔ x = 0) ∧ (x * inv p f % p) * f % p = x ∧ (f * x % p = 0 ↔ x = 0) := by
  have k := fin_p3 (P := inv2) (by decide +kernel) hp (by omega) h2 h3 h4
  simp only [inv2, Bool.or_eq_true, Bool.and_eq_true, decide_eq_true_eq, beq_iff_eq, decide_eq_decide] at k
  rcases k with k | k
  · omega
  · exact ⟨k.1.1, k.1.2, k.2⟩
theorem emod_mul {p a b : Int} : a % p * b % p = a * b % p := by rw [Int.mul_emod, Int.emod_emod_of_dvd _ (Int.dvd_refl p), ← Int.mul_emod]
theorem mul_emod' {p a b : Int} : a * (b % p) % p = a * b % p := by rw [Int.mul_comm, emod_mul, Int.mul_comm]
/-- t x by the inverse of t f: x by the inverse of f -/
theorem inv_scale {p f x t : Int} (hp : Pq p) (h1 : 1 ≤ f) (h2 : f < p) (h3 : 0 ≤ x) (h4 : x < p) (t1 : 1 ≤ t) (t2 : t < p) : (t * x % p) * inv p (t * f % p) % p = x * inv p f % p := by
  have pp := hp.pos
  have a := inv2_ok hp t1 t2 (by omega : 0 ≤ f) h2
  have b0 : t * f % p ≠ 0 := fun z => by have := a.2.2.mp z; omega
  have b1 : 0 ≤ t * f % p := Int.emod_nonneg _ (by omega)
  have b2 : t * f % p < p := Int.emod_lt_of_pos _ (by omega)
  have c := inv_ok hp (by omega : 1 ≤ t * f % p) b2
  have d := inv_ok hp h1 h2
  generalize inv p (t * f % p) = j at *
  generalize inv p f = i at *
  have c3 : t * f * j % p = 1 := by rw [← emod_mul]; exact c.2.2
  have e1 : (t * x % p) * j % p = (t * x) * j % p := emod_mul
  -- x t j = x t j (f i) = x i (t f j) = x i
  have e2 : (t * x) * j % p = (t * x) * j * (f * i) % p := by rw [← mul_emod' (a := t * x * j), d.2.2, Int.mul_one]
  have e3 : (t * x) * j * (f * i) = x * i * (t * f * j) := by grind
  rw [e1, e2, e3, ← mul_emod' (a := x * i), c3, Int.mul_one]
theorem nrm_p {p : Int} {l : List Int} (hp : Pq p) (h : hd l ≠ 0) : nrm p l = l.map (fun x => x * inv p (hd l) % p) := by
  unfold nrm
  have := hp.pos
  rw [if_neg h, if_neg (by omega)]
section
variable {p : Int} {l : List Int}
theorem hd_rg (hr : ∀ i ∈ l, 0 ≤ i ∧ i < p) (h : hd l ≠ 0) : 1 ≤ hd l ∧ hd l < p := by
  have a := hr _ (hd_mem h)
  omega
theorem nrm_hd (hp : Pq p) (hr : ∀ i ∈ l, 0 ≤ i ∧ i < p) (h : hd l ≠ 0) : hd (nrm p l) = 1 := by
  obtain ⟨a, b⟩ := hd_rg hr h
  rw [nrm_p hp h, hd_map (fun i hi => (inv2_ok hp a b (hr i hi).1 (hr i hi).2).1) h]
  exact (inv_ok hp a b).2.2
theorem nrm_rg (hp : Pq p) (hr : ∀ i ∈ l, 0 ≤ i ∧ i < p) : ∀ i ∈ nrm p l, 0 ≤ i ∧ i < p := by
  have pp := hp.pos
  by_cases h : hd l = 0
  · unfold nrm; rw [if_pos h]; exact hr
  · rw [nrm_p hp h]
    intro i hi
    obtain ⟨j, _, rfl⟩ := List.mem_map.mp hi
    exact ⟨Int.emod_nonneg _ (by omega), Int.emod_lt_of_pos _ (by omega)⟩
theorem inv_one (hp : Pq p) : inv p 1 = 1 := by rcases hp with rfl | rfl | rfl | rfl | rfl | rfl | rfl | rfl <;> decide +kernel
theorem nrm_idem (hp : Pq p) (hr : ∀ i ∈ l, 0 ≤ i ∧ i < p) (h : hd l ≠ 0) : nrm p (nrm p l) = nrm p l := by
  have h1 := nrm_hd hp hr h
  have r1 := nrm_rg hp hr
  rw [nrm_p hp (l := nrm p l) (by omega), h1, inv_one hp]
  conv => rhs; rw [← List.map_id (nrm p l)]
  refine List.map_congr_left fun i hi => ?_
  have := r1 i hi
  show i * 1 % p = i
  rw [Int.mul_one]
  exact Int.emod_eq_of_lt this.1 this.2
theorem nrm_times (hp : Pq p) (hr : ∀ i ∈ l, 0 ≤ i ∧ i < p) (h : hd l ≠ 0) {t : Int} (t1 : 1 ≤ t) (t2 : t < p) : hd (l.map (fun x => t * x % p)) ≠ 0 ∧ nrm p (l.map (fun x => t * x % p)) = nrm p l := by
  obtain ⟨a, b⟩ := hd_rg hr h
  have e := hd_map (φ := fun x => t * x % p) (fun i hi => (inv2_ok hp t1 t2 (hr i hi).1 (hr i hi).2).2.2) h
  have n : hd (l.map (fun x => t * x % p)) ≠ 0 := by
    rw [e]
    intro z
    exact h ((inv2_ok hp t1 t2 (by omega) b).2.2.mp z)
  refine ⟨n, ?_⟩
  rw [nrm_p hp n, nrm_p hp h, List.map_map, e]
  exact List.map_congr_left fun i hi => inv_scale hp a b (hr i hi).1 (hr i hi).2 t1 t2
theorem nrm_back (hp : Pq p) (hr : ∀ i ∈ l, 0 ≤ i ∧ i < p) (h : hd l ≠ 0) : (nrm p l).map (fun x => x * hd l % p) = l := by
  obtain ⟨a, b⟩ := hd_rg hr h
  rw [nrm_p hp h, List.map_map]
  conv => rhs; rw [← List.map_id l]
  exact List.map_congr_left fun i hi => (inv2_ok hp a b (hr i hi).1 (hr i hi).2).2.1
end
end MI
/-! pairs of whole numbers over 0 and over a prime: plain -/
namespace MI
def Pz (p : Int) : Prop := p = 0 ∨ Pq p
/-- zero over p -/
def Z2 (p a b : Int) : Prop := p ∣ a ∧ p ∣ b
def NP (p a b : Int) : List Int := nrm p [a % p, b % p]
theorem dvd_mod {p a : Int} : p ∣ a ↔ a % p = 0 := Int.dvd_iff_emod_eq_zero
theorem Pq.ne {p : Int} (h : Pq p) : p ≠ 0 := by have := h.pos; omega
theorem dom {p a b : Int} (hp : Pz p) (h : p ∣ a * b) : p ∣ a ∨ p ∣ b := by
  rcases hp with rfl | hp
  · rw [Int.zero_dvd] at h ⊢
    rw [Int.zero_dvd]
    exact Int.mul_eq_zero.mp h
  · have pp := hp.pos
    rw [dvd_mod] at h ⊢
    rw [dvd_mod]
    by_cases e : a % p = 0
    · exact .inl e
    · have a0 : 0 ≤ a % p := Int.emod_nonneg _ (by omega)
      have a1 : a % p < p := Int.emod_lt_of_pos _ (by omega)
      have b0 : 0 ≤ b % p := Int.emod_nonneg _ (by omega)
      have b1 : b % p < p := Int.emod_lt_of_pos _ (by omega)
      have k := (inv2_ok hp (by omega : 1 ≤ a % p) a1 b0 b1).2.2
      rw [← Int.mul_emod] at k
      exact .inr (k.mp h)
theorem domN {p a b : Int} (hp : Pz p) (h1 : ¬ p ∣ a) (h2 : ¬ p ∣ b) : ¬ p ∣ a * b := fun z => (dom hp z).elim h1 h2
theorem hd2 {p a b : Int} (h : ¬ Z2 p a b) : hd [a % p, b % p] ≠ 0 := fun z => h (by
  have q := hd_zero.mp z
  exact ⟨dvd_mod.mpr (q _ (by simp)), dvd_mod.mpr (q _ (by simp))⟩)
theorem len2 {l : List Int} (h : l.length = 2) : ∃ a b, l = [a, b] := by
  match l, h with
  | [a, b], _ => exact ⟨a, b, rfl⟩
theorem NP_two (p a b : Int) : ∃ u v, NP p a b = [u, v] := len2 (by unfold NP; rw [nrm_len]; rfl)
theorem rg2 {p a b : Int} (hp : Pq p) : ∀ i ∈ [a % p, b % p], 0 ≤ i ∧ i < p := fun i hi => by
  have pp := hp.pos
  rcases List.mem_cons.mp hi with rfl | hi
  · exact ⟨Int.emod_nonneg _ (by omega), Int.emod_lt_of_pos _ (by omega)⟩
  · rw [List.mem_singleton] at hi
    subst hi
    exact ⟨Int.emod_nonneg _ (by omega), Int.emod_lt_of_pos _ (by omega)⟩
/-- what normal is -/
theorem NP_split {p a b : Int} (hp : Pz p) (h : ¬ Z2 p a b) : ∃ t u v, NP p a b = [u, v] ∧ ¬ p ∣ t ∧ p ∣ a - t * u ∧ p ∣ b - t * v ∧ (p = 0 → a = t * u ∧ b = t * v) ∧ (p ≠ 0 → 0 ≤ u ∧ u < p ∧ 0 ≤ v ∧ v < p) ∧ NP p u v = [u, v] := by
  have h0 := hd2 h
  rcases hp with rfl | hp
  · unfold NP
    rw [Int.emod_zero, Int.emod_zero] at h0 ⊢
    obtain ⟨s, w, _, s0, e, g, hw⟩ := nrm_split h0
    have lw : w.length = 2 := by have := congrArg List.length e; simpa using this.symm
    obtain ⟨u, v, rfl⟩ := len2 lw
    have en : nrm 0 [a, b] = [u, v] := by
      rw [e]
      exact nrm0_scale s0 g hw
    simp only [List.map_cons, List.map_nil, List.cons.injEq, and_true] at e
    refine ⟨s, u, v, en, fun z => s0 (Int.zero_dvd.mp z), by rw [e.1]; simp, by rw [e.2]; simp, fun _ => e, fun z => absurd rfl z, ?_⟩
    rw [Int.emod_zero, Int.emod_zero]
    have := nrm0_scale (c := 1) (u := [u, v]) (by decide) g hw
    rwa [map_one] at this
  · have pp := hp.pos
    have r := rg2 (a := a) (b := b) hp
    obtain ⟨a1, a2⟩ := hd_rg r h0
    obtain ⟨u, v, e⟩ := NP_two p a b
    have bk := nrm_back hp r h0
    have e' : nrm p [a % p, b % p] = [u, v] := e
    have rg := nrm_rg hp r
    rw [e'] at bk rg
    have ru := rg u (by simp)
    have rv := rg v (by simp)
    simp only [List.map_cons, List.map_nil, List.cons.injEq, and_true] at bk
    generalize hd [a % p, b % p] = t at *
    refine ⟨t, u, v, e, fun z => ?_, ?_, ?_, fun z => absurd z hp.ne, fun _ => ⟨ru.1, ru.2, rv.1, rv.2⟩, ?_⟩
    · have := Int.emod_eq_of_lt (show 0 ≤ t by omega) a2
      rw [dvd_mod] at z
      omega
    · exact Int.dvd_of_emod_eq_zero (by rw [Int.mul_comm]; exact Int.emod_eq_emod_iff_emod_sub_eq_zero.mp bk.1.symm)
    · exact Int.dvd_of_emod_eq_zero (by rw [Int.mul_comm]; exact Int.emod_eq_emod_iff_emod_sub_eq_zero.mp bk.2.symm)
    · have i := nrm_idem hp r (hd2 h)
      rw [e'] at i
      unfold NP
      rw [Int.emod_eq_of_lt ru.1 ru.2, Int.emod_eq_of_lt rv.1 rv.2]
      exact i
theorem NP_scale {p c a b : Int} (hp : Pz p) (hc : ¬ p ∣ c) (h : ¬ Z2 p a b) : NP p (c * a) (c * b) = NP p a b := by
  have h0 := hd2 h
  rcases hp with rfl | hp
  · unfold NP
    rw [Int.emod_zero, Int.emod_zero] at h0
    simp only [Int.emod_zero]
    obtain ⟨s, w, _, s0, e, g, hw⟩ := nrm_split h0
    have c0 : c ≠ 0 := fun z => hc (by rw [z]; exact Int.dvd_refl 0)
    have e2 : [c * a, c * b] = w.map ((c * s) * ·) := by
      have : [c * a, c * b] = [a, b].map (c * ·) := rfl
      rw [this, e, List.map_map]
      exact List.map_congr_left fun i _ => (Int.mul_assoc c s i).symm
    rw [e2, nrm0_scale (Int.mul_ne_zero c0 s0) g hw, e, nrm0_scale s0 g hw]
  · have pp := hp.pos
    have r := rg2 (a := a) (b := b) hp
    have c1 : c % p ≠ 0 := fun z => hc (dvd_mod.mpr z)
    have c0 : 0 ≤ c % p := Int.emod_nonneg _ (by omega)
    have k := (nrm_times hp r h0 (t := c % p) (by omega) (Int.emod_lt_of_pos _ (by omega))).2
    simp only [List.map_cons, List.map_nil] at k
    rw [← Int.mul_emod, ← Int.mul_emod] at k
    exact k
theorem NP_congr {p a b c d : Int} (h1 : p ∣ a - c) (h2 : p ∣ b - d) : NP p a b = NP p c d := by
  unfold NP
  rw [Int.emod_eq_emod_iff_emod_sub_eq_zero.mpr (dvd_mod.mp h1), Int.emod_eq_emod_iff_emod_sub_eq_zero.mpr (dvd_mod.mp h2)]
/-- pairs that are multiples of one another -/
theorem NP_uniq {p a b c d : Int} (hp : Pz p) (h1 : ¬ Z2 p a b) (h2 : ¬ Z2 p c d) (h : p ∣ a * d - b * c) : NP p a b = NP p c d := by
  by_cases ha : p ∣ a
  · have hb : ¬ p ∣ b := fun z => h1 ⟨ha, z⟩
    have hbc : p ∣ b * c := by
      have : b * c = a * d - (a * d - b * c) := by omega
      rw [this]
      exact Int.dvd_sub (Int.dvd_mul_of_dvd_left ha) h
    have hc : p ∣ c := (dom hp hbc).resolve_left hb
    have hd' : ¬ p ∣ d := fun z => h2 ⟨hc, z⟩
    rw [← NP_scale hp hd' h1, ← NP_scale (c := b) hp hb h2]
    refine NP_congr ?_ ?_
    · exact Int.dvd_sub (Int.dvd_mul_of_dvd_right ha) (Int.dvd_mul_of_dvd_right hc)
    · rw [Int.mul_comm d b, Int.sub_self]
      exact Int.dvd_zero p
  · have hc : ¬ p ∣ c := fun z => by
      have hd' : ¬ p ∣ d := fun y => h2 ⟨z, y⟩
      have had : p ∣ a * d := by
        have : a * d = (a * d - b * c) + b * c := by omega
        rw [this]
        exact Int.dvd_add h (Int.dvd_mul_of_dvd_right z)
      exact (dom hp had).elim ha hd'
    rw [← NP_scale hp hc h1, ← NP_scale (c := a) hp ha h2]
    refine NP_congr ?_ ?_
    · rw [Int.mul_comm c a, Int.sub_self]
      exact Int.dvd_zero p
    · have : c * b - a * d = -(a * d - b * c) := by rw [Int.mul_comm c b]; omega
      rw [this]
      exact Int.dvd_neg.mpr h
/-! congruence -/
def Cg (p a b : Int) : Prop := p ∣ a - b
section
variable {p a b c d : Int}
theorem Cg.refl : Cg p a a := by unfold Cg; rw [Int.sub_self]; exact Int.dvd_zero p
theorem Cg.symm (h : Cg p a b) : Cg p b a := by
  unfold Cg at *
  rw [show b - a = -(a - b) by omega]
  exact Int.dvd_neg.mpr h
theorem Cg.trans (h : Cg p a b) (k : Cg p b c) : Cg p a c := by
  unfold Cg at *
  rw [show a - c = (a - b) + (b - c) by omega]
  exact Int.dvd_add h k
theorem Cg.sub (h : Cg p a b) (k : Cg p c d) : Cg p (a - c) (b - d) := by
  unfold Cg at *
  rw [show a - c - (b - d) = (a - b) - (c - d) by omega]
  exact Int.dvd_sub h k
theorem Cg.mul (h : Cg p a b) (k : Cg p c d) : Cg p (a * c) (b * d) := by
  unfold Cg at *
  have e : a * c - b * d = (a - b) * c + b * (c - d) := by grind
  rw [e]
  exact Int.dvd_add (Int.dvd_mul_of_dvd_left h) (Int.dvd_mul_of_dvd_right k)
theorem Cg.zero (h : Cg p a b) (k : p ∣ b) : p ∣ a := by
  unfold Cg at h
  rw [show a = (a - b) + b by omega]
  exact Int.dvd_add h k
end
/-! brackets -/
def br (a b c d : Int) : Int := a * d - b * c
/-- a spot: normal -/
structure Spt (p a b : Int) : Prop where
  n : NP p a b = [a, b]
  z : ¬ Z2 p a b
theorem Spt.br {p a b c d : Int} (hp : Pz p) (s : Spt p a b) (t : Spt p c d) (h : ¬ (a = c ∧ b = d)) : ¬ p ∣ br a b c d := fun z => h (by
  have e := NP_uniq hp s.z t.z z
  rw [s.n, t.n] at e
  simpa using e)
theorem nz_l {p a b : Int} (h : ¬ p ∣ a) : ¬ Z2 p a b := fun z => h z.1
theorem nz_r {p a b : Int} (h : ¬ p ∣ b) : ¬ Z2 p a b := fun z => h z.2
section
variable {p top bot t0 t1 l : Int}
/-- top and bottom exchanged -/
theorem cr_swap (hp : Pz p) (hb : ¬ p ∣ bot) (n1 : ¬ p ∣ t1) (e0 : p ∣ top - l * t0) (e1 : p ∣ bot - l * t1) : NP p bot top = NP p t1 t0 := by
  refine NP_uniq hp (nz_l hb) (nz_l n1) ?_
  have c : bot * t0 - top * t1 = (bot - l * t1) * t0 - (top - l * t0) * t1 := by grind
  rw [c]
  exact Int.dvd_sub (Int.dvd_mul_of_dvd_left e1) (Int.dvd_mul_of_dvd_left e0)
/-- .. and the third: other is the third product of brackets -/
theorem cr_third (hp : Pz p) (n1 : ¬ p ∣ t1) (hb : ¬ p ∣ bot) (e0 : p ∣ top - l * t0) (e1 : p ∣ bot - l * t1) : NP p (top - bot) (-bot) = NP p (t0 - t1) (0 - t1) := by
  refine NP_uniq hp (nz_r fun z => hb (Int.dvd_neg.mp z)) (nz_r fun z => n1 (Int.dvd_neg.mp (by rwa [Int.zero_sub] at z))) ?_
  have c : (top - bot) * (0 - t1) - -bot * (t0 - t1) = (bot - l * t1) * t0 - (top - l * t0) * t1 := by grind
  rw [c]
  exact Int.dvd_sub (Int.dvd_mul_of_dvd_left e1) (Int.dvd_mul_of_dvd_left e0)
end
theorem pluecker (a b c d e f g h : Int) : br a b c d * br e f g h = br a b e f * br c d g h - br a b g h * br c d e f := by
  unfold br
  grind
/-- led: second, 0 - first -/
def ldx (A B C D' a b : Int) : Int := C * b + D' * (0 - a)
def ldy (A B C D' a b : Int) : Int := 0 - (A * b + B * (0 - a))
theorem br_led (A B C D' a b c d : Int) : br (ldx A B C D' a b) (ldy A B C D' a b) (ldx A B C D' c d) (ldy A B C D' c d) = (A * D' - B * C) * br a b c d := by
  unfold br ldx ldy
  grind
theorem br_cg {p l m u v w x a b c d : Int} (h1 : p ∣ a - l * u) (h2 : p ∣ b - l * v) (h3 : p ∣ c - m * w) (h4 : p ∣ d - m * x) : Cg p (br a b c d) ((l * m) * br u v w x) := by
  have e : (l * m) * br u v w x = (l * u) * (m * x) - (l * v) * (m * w) := by unfold br; grind
  rw [e]
  exact Cg.sub (Cg.mul h1 h4) (Cg.mul h2 h3)
/-- the cross ratio of what is led -/
theorem cr_led {p T B T' B' D L : Int} (hp : Pz p) (hT : ¬ p ∣ T) (hT' : ¬ p ∣ T') (hL : ¬ p ∣ L) (e1 : Cg p (D * T) (L * T')) (e2 : Cg p (D * B) (L * B')) : NP p T' B' = NP p T B := by
  refine NP_uniq hp (nz_l hT') (nz_l hT) ?_
  have k : p ∣ L * (T' * B - B' * T) := by
    have e : L * (T' * B - B' * T) = (L * T') * B - (L * B') * T := by grind
    have z : (D * T) * B - (D * B) * T = 0 := by grind
    rw [e]
    have c := Cg.sub (Cg.mul e1.symm (Cg.refl (a := B))) (Cg.mul e2.symm (Cg.refl (a := T)))
    rw [z] at c
    exact c.zero (Int.dvd_zero p)
  exact (dom hp k).resolve_left hL
end MI
namespace MI
section
variable {p A B C D' a b c d : Int}
theorem led_nz (hp : Pz p) (hD : ¬ p ∣ A * D' - B * C) (z : ¬ Z2 p a b) : ¬ Z2 p (ldx A B C D' a b) (ldy A B C D' a b) := fun k => z (by
  have e1 : (A * D' - B * C) * a = -(A * ldx A B C D' a b + C * ldy A B C D' a b) := by unfold ldx ldy; grind
  have e2 : (A * D' - B * C) * b = -(B * ldx A B C D' a b + D' * ldy A B C D' a b) := by unfold ldx ldy; grind
  have d1 : p ∣ (A * D' - B * C) * a := by rw [e1]; exact Int.dvd_neg.mpr (Int.dvd_add (Int.dvd_mul_of_dvd_right k.1) (Int.dvd_mul_of_dvd_right k.2))
  have d2 : p ∣ (A * D' - B * C) * b := by rw [e2]; exact Int.dvd_neg.mpr (Int.dvd_add (Int.dvd_mul_of_dvd_right k.1) (Int.dvd_mul_of_dvd_right k.2))
  exact ⟨(dom hp d1).resolve_left hD, (dom hp d2).resolve_left hD⟩)
/-- what a pair is led to -/
structure Led (p A B C D' a b u v t : Int) : Prop where
  e : NP p (ldx A B C D' a b) (ldy A B C D' a b) = [u, v]
  nt : ¬ p ∣ t
  x : p ∣ ldx A B C D' a b - t * u
  y : p ∣ ldy A B C D' a b - t * v
  z : p = 0 → ldx A B C D' a b = t * u ∧ ldy A B C D' a b = t * v
  r : p ≠ 0 → 0 ≤ u ∧ u < p ∧ 0 ≤ v ∧ v < p
  sp : Spt p u v
theorem led_of (hp : Pz p) (hD : ¬ p ∣ A * D' - B * C) (z : ¬ Z2 p a b) : ∃ u v t, Led p A B C D' a b u v t := by
  have n := led_nz hp hD z
  obtain ⟨t, u, v, e, h1, h2, h3, h4, h5, h6⟩ := NP_split hp n
  refine ⟨u, v, t, ⟨e, h1, h2, h3, h4, h5, ⟨h6, fun k => n ⟨?_, ?_⟩⟩⟩⟩
  · exact Cg.zero (b := t * u) h2 (Int.dvd_mul_of_dvd_right k.1)
  · exact Cg.zero (b := t * v) h3 (Int.dvd_mul_of_dvd_right k.2)
theorem Led.br {u v t u' v' t' : Int} (l : Led p A B C D' a b u v t) (m : Led p A B C D' c d u' v' t') : Cg p ((A * D' - B * C) * br a b c d) ((t * t') * MI.br u v u' v') := by
  rw [← br_led A B C D' a b c d]
  exact br_cg l.x l.y m.x m.y
theorem Led.ne {u v t u' v' t' : Int} (hp : Pz p) (hD : ¬ p ∣ A * D' - B * C) (l : Led p A B C D' a b u v t) (m : Led p A B C D' c d u' v' t') (n : ¬ p ∣ MI.br a b c d) : ¬ (u = u' ∧ v = v') := fun k => by
  have e := l.br m
  rw [k.1, k.2] at e
  have z : MI.br u' v' u' v' = 0 := by unfold MI.br; rw [Int.mul_comm]; omega
  rw [z, Int.mul_zero] at e
  exact domN hp hD n (e.zero (Int.dvd_zero p))
theorem nat_le_of_mul {x t u : Int} (e : x = t * u) (ht : t ≠ 0) : u.natAbs ≤ x.natAbs := by
  rw [e, Int.natAbs_mul]
  have : 1 ≤ t.natAbs := by omega
  calc u.natAbs = 1 * u.natAbs := (Nat.one_mul _).symm
    _ ≤ t.natAbs * u.natAbs := Nat.mul_le_mul_right _ this
theorem Led.bd {u v t : Int} (l : Led 0 A B C D' a b u v t) : u.natAbs ≤ (ldx A B C D' a b).natAbs ∧ v.natAbs ≤ (ldy A B C D' a b).natAbs := by
  have t0 : t ≠ 0 := fun z => l.nt (by rw [z]; exact Int.dvd_refl 0)
  exact ⟨nat_le_of_mul (l.z rfl).1 t0, nat_le_of_mul (l.z rfl).2 t0⟩
end
/-- the cross ratio along a table -/
theorem cr_along {p A B C D' a1 b1 a2 b2 a3 b3 a4 b4 u1 v1 t1 u2 v2 t2 u3 v3 t3 u4 v4 t4 : Int} (hp : Pz p) (hD : ¬ p ∣ A * D' - B * C)
    (l1 : Led p A B C D' a1 b1 u1 v1 t1) (l2 : Led p A B C D' a2 b2 u2 v2 t2) (l3 : Led p A B C D' a3 b3 u3 v3 t3) (l4 : Led p A B C D' a4 b4 u4 v4 t4)
    (n13 : ¬ p ∣ br a1 b1 a3 b3) (n24 : ¬ p ∣ br a2 b2 a4 b4) (m13 : ¬ p ∣ br u1 v1 u3 v3) (m24 : ¬ p ∣ br u2 v2 u4 v4) :
    NP p (br u1 v1 u3 v3 * br u2 v2 u4 v4) (br u1 v1 u4 v4 * br u2 v2 u3 v3) = NP p (br a1 b1 a3 b3 * br a2 b2 a4 b4) (br a1 b1 a4 b4 * br a2 b2 a3 b3) := by
  have e1 := Cg.mul (l1.br l3) (l2.br l4)
  have e2 := Cg.mul (l1.br l4) (l2.br l3)
  refine cr_led (D := (A * D' - B * C) * (A * D' - B * C)) (L := t1 * t2 * t3 * t4) hp (domN hp n13 n24) (domN hp m13 m24) (domN hp (domN hp (domN hp l1.nt l2.nt) l3.nt) l4.nt) ?_ ?_
  · generalize A * D' - B * C = q at *
    generalize br u1 v1 u3 v3 = x at *
    generalize br u2 v2 u4 v4 = y at *
    generalize br a1 b1 a3 b3 = z at *
    generalize br a2 b2 a4 b4 = w at *
    rwa [show q * q * (z * w) = q * z * (q * w) by grind, show t1 * t2 * t3 * t4 * (x * y) = t1 * t3 * x * (t2 * t4 * y) by grind]
  · generalize A * D' - B * C = q at *
    generalize br u1 v1 u4 v4 = x at *
    generalize br u2 v2 u3 v3 = y at *
    generalize br a1 b1 a4 b4 = z at *
    generalize br a2 b2 a3 b3 = w at *
    rwa [show q * q * (z * w) = q * z * (q * w) by grind, show t1 * t2 * t3 * t4 * (x * y) = t1 * t4 * x * (t2 * t3 * y) by grind]
end MI
namespace G
open PySem PySem.Spec PyProof.Rows L2 MI
def subX : Nat → Nat → Option Bool := fun e c => match e, c with
  | 3, 4 => some false
  | 3, 3 => some true
  | 4, 4 => some true
  | _, _ => none
def m_law_bag : FnM := mFn 2 5
    (mSeq (mAsg (mIf (mTest (mBin vLt (mVar 1) (mCall (vOne vLen) (mCons (mVar 0) mNil)))) (mBin vIx (mVar 0) (mVar 1)) (mBin vAdd (mBin vAdd (mCall (vOne vSum) (mCons (mCut (mVar 0) mNoPart (mPart (mC (.int 1)))) mNil)) (mBin vMul (mC (.int 127)) (mVar 1))) (mC (.int 73)))) (gN 2))
    (mSeq (mAsg (mBin vMod (mCall (vOne vInt) (mCons (mCall (vOne vAbs) (mCons (mVar 2) mNil)) mNil)) (mBin vPow (mBin vPow (mC (.int 10)) (mC (.int 45))) (mC (.int 13)))) (gN 3))
    (mSeq (mAsg (mBin vAdd (mBin vAdd (mBin vAdd (mBin vMul (mBin vMod (mCall (vOne vInt) (mCons (mVar 3) mNil)) (mC (.int 2305843009213693723))) (mC (.int 1000403))) (mBin vMul (mC (.int 9041)) (mVar 1))) (mBin vMul (mC (.int 47)) (mCall (vOne vInt) (mCons (mBin vLt (mVar 2) (mC (.int 0))) mNil)))) (mC (.int 31))) (gN 4))
    (mRet (mCell (mCons (mCall (vTwo vMax2) (mCons (mC (.int 0)) (mCons (mBin vSub (mVar 3) (mBin vPow (mC (.int 10)) (mC (.int 18)))) mNil))) (mCons (mBin vMod (mCall (vOne vInt) (mCons (mVar 4) mNil)) (mC (.int 2305843009213693951))) (mCons (mC (.int 0)) mNil))))))))
def m_law_grab : FnM := mFn 2 5
    (mSeq (mIfS (mTest (mBin vGt (mBin vIx (mVar 0) (mC (.int 0))) (mC (.int 0)))) (mSeq (mAsg (mBin vMod (mCall (vOne vInt) (mCons (mBin vIx (mVar 0) (mC (.int 0))) mNil)) (mVar 1)) (gN 2))
    (mSeq (mAsg (mBin vDiv (mBin vIx (mVar 0) (mC (.int 0))) (mVar 1)) (gSubC (mVar 0) (mC (.int 0))))
    (mRet (mVar 2)))) mNext)
    (mSeq (mAsg (mBin vAdd (mBin vIx (mVar 0) (mC (.int 2))) (mC (.int 1))) (gSubC (mVar 0) (mC (.int 2))))
    (mSeq (mAsg (mBin vMod (mCall (vOne vInt) (mCons (mBin vAdd (mBin vIx (mVar 0) (mC (.int 1))) (mBin vMul (mC (.int 1048627)) (mBin vIx (mVar 0) (mC (.int 2))))) mNil)) (mC (.int 2305843009213693951))) (gN 3))
    (mSeq (mAsg (mBin vAdd (mBin vMul (mBin vMod (mCall (vOne vInt) (mCons (mBin vMul (mVar 3) (mVar 3)) mNil)) (mC (.int 2305843009213693723))) (mVar 3)) (mBin vMul (mC (.int 8147)) (mBin vIx (mVar 0) (mC (.int 2))))) (gN 4))
    (mRet (mBin vMod (mCall (vOne vInt) (mCons (mBin vDiv (mBin vMod (mCall (vOne vInt) (mCons (mVar 4) mNil)) (mC (.int 2305843009213693921))) (mC (.int 16384))) mNil)) (mVar 1)))))))
def m_law_one_of : FnM := mFn 2 2
    (mRet (mBin vIx (mVar 1) (mCallD 2 m_law_grab [] (mCons (mVar 0) (mCons (mCall (vOne vLen) (mCons (mVar 1) mNil)) mNil)))))
def m_is_whole : FnM := mFn 1 1
    (mRet (mAnd (mCall (vTwo vIsi) (mCons (mVar 0) (mCons (mC (.ty "int")) mNil))) (mUn vNot (mCall (vTwo vIsi) (mCons (mVar 0) (mCons (mC (.ty "bool")) mNil))))))
def m_is_prime : FnM := mFn 1 1
    (mRet (mAnd (mCallD 1 m_is_whole [] (mCons (mVar 0) mNil)) (mOr (mBin vEq (mVar 0) (mC (.int 0))) (mBin vIn (mVar 0) (mC (.ctp ([2, 3, 5, 7, 11, 13, 17, 19] : List Int)))))))
def m_require_prime : FnM := mFn 1 1
    (mIfS (mNotT (mTest (mCallD 1 m_is_prime [] (mCons (mVar 0) mNil)))) (mRaiseV 4 "given" (mVar 0)) mNext)
def m_is_number_of : FnM := mFn 3 3
    (mSeq (mIfS (mNotT (mTest (mCallD 1 m_is_whole [] (mCons (mVar 1) mNil)))) (mRet (mC (.bl false))) mNext)
    (mSeq (mIfS (mTest (mBin vNe (mVar 0) (mC (.int 0)))) (mRet (mChain vLe vLt (mC (.int 0)) (mVar 1) (mVar 0))) mNext)
    (mRet (mOr (mBin vIsN (mVar 2) (mC .non)) (mChain vLt vLt (mUn vNeg (mVar 2)) (mVar 1) (mVar 2))))))
def m_is_couple : FnM := mFn 2 3
    (mRet (mAnd (mCall (vTwo vIsi) (mCons (mVar 1) (mCons (mC (.ty "tuple")) mNil))) (mAnd (mBin vEq (mCall (vOne vLen) (mCons (mVar 1) mNil)) (mC (.int 2))) (mCall (vOne vAll) (mCons (mLc (mSrc (mVar 1) srcS) (gN 2) mYes (mCallD 3 m_is_number_of [.int 1000000000000000000000000000000000000000000000000000000000000] (mCons (mVar 0) (mCons (mVar 2) mNil))) [2]) mNil)))))
def m_inverse_of : FnM := mFn 2 7
    (mSeq (mAsg (mTup (mCons (mVar 0) (mCons (mBin vMod (mVar 1) (mVar 0)) (mCons (mC (.int 0)) (mCons (mC (.int 1)) mNil))))) (gTA 4 (gsCons (gN 2) (gsCons (gN 3) (gsCons (gN 4) (gsCons (gN 5) gsNil))))))
    (mSeq (mWhile 4000 (mTest (mBin vGt (mVar 3) (mC (.int 1)))) (mSeq (mAsg (mBin vDiv (mVar 2) (mVar 3)) (gN 6))
    (mSeq (mPar 2 3 (mVar 3) (mBin vSub (mVar 2) (mBin vMul (mVar 6) (mVar 3))))
    (mPar 4 5 (mVar 5) (mBin vSub (mVar 4) (mBin vMul (mVar 6) (mVar 5)))))))
    (mRet (mBin vMod (mVar 5) (mVar 0)))))
def m_divisor_of : FnM := mFn 1 3
    (mSeq (mAsg (mC (.int 0)) (gN 1))
    (mSeq (mFor (mSrc (mVar 0) srcS) (gN 2) (mAsg (mCall (vTwo vGcd) (mCons (mVar 1) (mCons (mVar 2) mNil))) (gN 1)))
    (mRet (mVar 1))))
def m_normal_of : FnM := mFn 2 6
    (mSeq (mAsg (mBin vIx (mLst (mStar (mLc (mSrc (mVar 1) srcS) (gN 5) (mTest (mBin vNe (mVar 5) (mC (.int 0)))) (mVar 5) [5]) (mCons (mC (.int 0)) mNil))) (mC (.int 0))) (gN 2))
    (mSeq (mIfS (mTest (mBin vEq (mVar 2) (mC (.int 0)))) (mRet (mCall (vOne vTuple) (mCons (mVar 1) mNil))) mNext)
    (mSeq (mIfS (mTest (mBin vNe (mVar 0) (mC (.int 0)))) (mSeq (mAsg (mCallD 2 m_inverse_of [] (mCons (mVar 0) (mCons (mVar 2) mNil))) (gN 3))
    (mRet (mCall (vOne vTuple) (mCons (mLc (mSrc (mVar 1) srcS) (gN 5) mYes (mBin vMod (mBin vMul (mVar 5) (mVar 3)) (mVar 0)) [5]) mNil)))) mNext)
    (mSeq (mAsg (mIf (mTest (mBin vGt (mVar 2) (mC (.int 0)))) (mCallD 1 m_divisor_of [] (mCons (mVar 1) mNil)) (mUn vNeg (mCallD 1 m_divisor_of [] (mCons (mVar 1) mNil)))) (gN 4))
    (mRet (mCall (vOne vTuple) (mCons (mLc (mSrc (mVar 1) srcS) (gN 5) mYes (mBin vDiv (mVar 5) (mVar 4)) [5]) mNil)))))))
def m_is_spot : FnM := mFn 2 3
    (mSeq (mIfS (mOrT (mNotT (mTest (mCallD 2 m_is_couple [] (mCons (mVar 0) (mCons (mVar 1) mNil))))) (mTest (mBin vEq (mVar 1) (mTup (mCons (mC (.int 0)) (mCons (mC (.int 0)) mNil)))))) (mRet (mC (.bl false))) mNext)
    (mRet (mAnd (mCall (vOne vAll) (mCons (mLc (mSrc (mVar 1) srcS) (gN 2) mYes (mChain vLe vLe (mUn vNeg (mC (.int 10000000))) (mVar 2) (mC (.int 10000000))) [2]) mNil)) (mBin vEq (mCallD 2 m_normal_of [] (mCons (mVar 0) (mCons (mVar 1) mNil))) (mVar 1)))))
def m_require_four : FnM := mFn 2 3
    (mSeq (mIfS (mOrT (mNotT (mTest (mCall (vTwo vIsi) (mCons (mVar 1) (mCons (mC (.ty "tuple")) mNil))))) (mOrT (mTest (mBin vNe (mCall (vOne vLen) (mCons (mVar 1) mNil)) (mC (.int 4)))) (mNotT (mTest (mCall (vOne vAll) (mCons (mLc (mSrc (mVar 1) srcS) (gN 2) mYes (mCallD 2 m_is_spot [] (mCons (mVar 0) (mCons (mVar 2) mNil))) [2]) mNil)))))) (mRaise 3) mNext)
    (mIfS (mTest (mBin vNe (mCall (vOne vLenD) (mCons (mDc false (mSrc (mVar 1) srcS) (gN 2) mYes (mVar 2) (mC (.bl true)) [2]) mNil)) (mC (.int 4)))) (mRaise 3) mNext))
def m_bracket : FnM := mFn 2 2
    (mRet (mBin vSub (mBin vMul (mBin vIx (mVar 0) (mC (.int 0))) (mBin vIx (mVar 1) (mC (.int 1)))) (mBin vMul (mBin vIx (mVar 0) (mC (.int 1))) (mBin vIx (mVar 1) (mC (.int 0))))))
def m_lowered_by : FnM := mFn 2 2
    (mRet (mIf (mTest (mBin vEq (mVar 0) (mC (.int 0)))) (mVar 1) (mBin vMod (mVar 1) (mVar 0))))
def m_ratio_of : FnM := mFn 2 8
    (mSeq (mAsg (mVar 1) (gTA 4 (gsCons (gN 2) (gsCons (gN 3) (gsCons (gN 4) (gsCons (gN 5) gsNil))))))
    (mSeq (mPar 6 7 (mBin vMul (mCallD 2 m_bracket [] (mCons (mVar 2) (mCons (mVar 4) mNil))) (mCallD 2 m_bracket [] (mCons (mVar 3) (mCons (mVar 5) mNil)))) (mBin vMul (mCallD 2 m_bracket [] (mCons (mVar 2) (mCons (mVar 5) mNil))) (mCallD 2 m_bracket [] (mCons (mVar 3) (mCons (mVar 4) mNil)))))
    (mRet (mCallD 2 m_normal_of [] (mCons (mVar 0) (mCons (mTup (mCons (mCallD 2 m_lowered_by [] (mCons (mVar 0) (mCons (mVar 6) mNil))) (mCons (mCallD 2 m_lowered_by [] (mCons (mVar 0) (mCons (mVar 7) mNil))) mNil))) mNil))))))
def m_cross_ratio : FnM := mFn 2 2
    (mSeq (mDrop (mCallD 1 m_require_prime [] (mCons (mVar 0) mNil)))
    (mSeq (mDrop (mCallD 2 m_require_four [] (mCons (mVar 0) (mCons (mVar 1) mNil))))
    (mRet (mCallD 2 m_ratio_of [] (mCons (mVar 0) (mCons (mVar 1) mNil))))))
def m_is_harmonic : FnM := mFn 2 2
    (mSeq (mDrop (mCallD 1 m_require_prime [] (mCons (mVar 0) mNil)))
    (mSeq (mDrop (mCallD 2 m_require_four [] (mCons (mVar 0) (mCons (mVar 1) mNil))))
    (mRet (mBin vEq (mCallD 2 m_lowered_by [] (mCons (mVar 0) (mCons (mCall (vOne vSumT) (mCons (mCallD 2 m_ratio_of [] (mCons (mVar 0) (mCons (mVar 1) mNil))) mNil)) mNil))) (mC (.int 0))))))
def tabX : Nat → Option (Nat × FnM) := fun j => if j = 0 then some (2, m_cross_ratio) else (fun j => if j = 1 then some (2, m_is_harmonic) else (fun _ => none) j) j
def thOf (mg : Str → Option Value) : Nat → Addr := fun n => match n with
  | 0 => refOf (mg "cross_ratio")
  | 1 => refOf (mg "is_harmonic")
  | _ => 0
def m_law_mixed : FnM := mFn 2 4
    (mSeq (mAsg (mCall (vOne vListC) (mCons (mVar 1) mNil)) (gN 2))
    (mRet (mLc (mSrcA (mCons (mCall (vOne vLen) (mCons (mVar 1) mNil)) mNil) srcR1) (gN 3) mYes (mMeth vPopAt (mVar 2) (mCons (mCallD 2 m_law_grab [] (mCons (mVar 0) (mCons (mCall (vOne vLen) (mCons (mVar 2) mNil)) mNil))) mNil)) [3])))
def m_law_small_spots : FnM := mFn 1 3
    (mSeq (mIfS (mTest (mBin vGt (mVar 0) (mC (.int 0)))) (mRet (mBin vAdd (mLst (mCons (mTup (mCons (mC (.int 0)) (mCons (mC (.int 1)) mNil))) mNil)) (mLc (mSrcA (mCons (mVar 0) mNil) srcR1) (gN 2) mYes (mTup (mCons (mC (.int 1)) (mCons (mVar 2) mNil))) [2]))) mNext)
    (mSeq (mAsg (mBin vAdd (mBin vAdd (mLst (mCons (mTup (mCons (mC (.int 0)) (mCons (mC (.int 1)) mNil))) mNil)) (mLc (mSrcA (mCons (mUn vNeg (mC (.int 4))) (mCons (mC (.int 5)) mNil)) srcR2) (gN 2) mYes (mTup (mCons (mC (.int 1)) (mCons (mVar 2) mNil))) [2])) (mLc (mSrc (mTup (mCons (mUn vNeg (mC (.int 3))) (mCons (mUn vNeg (mC (.int 1))) (mCons (mC (.int 1)) (mCons (mC (.int 3)) mNil))))) srcS) (gN 2) mYes (mTup (mCons (mC (.int 2)) (mCons (mVar 2) mNil))) [2])) (gN 1))
    (mRet (mBin vAdd (mVar 1) (mLc (mSrc (mTup (mCons (mUn vNeg (mC (.int 2))) (mCons (mUn vNeg (mC (.int 1))) (mCons (mC (.int 1)) (mCons (mC (.int 2)) mNil))))) srcS) (gN 2) mYes (mTup (mCons (mC (.int 3)) (mCons (mVar 2) mNil))) [2])))))
def m_law_spots : FnM := mFn 3 5
    (mSeq (mAsg (mCutC (mCallD 2 m_law_mixed [] (mCons (mVar 0) (mCons (mCallD 1 m_law_small_spots [] (mCons (mVar 1) mNil)) mNil))) mNoPart (mPart (mVar 2))) (gN 3))
    (mSeq (mIfS (mAndT (mTest (mBin vEq (mVar 1) (mC (.int 0)))) (mTest (mBin vEq (mCallD 2 m_law_grab [] (mCons (mVar 0) (mCons (mC (.int 5)) mNil))) (mC (.int 0))))) (mSeq (mAsg (mCallD 2 m_law_one_of [] (mCons (mVar 0) (mCons (mLst (mCons (mTup (mCons (mC (.int 1)) (mCons (mC (.int 9999999)) mNil))) (mCons (mTup (mCons (mC (.int 1)) (mCons (mUn vNeg (mC (.int 9999991))) mNil))) (mCons (mTup (mCons (mC (.int 997)) (mCons (mC (.int 1000)) mNil))) (mCons (mTup (mCons (mC (.int 9999999)) (mCons (mUn vNeg (mC (.int 2))) mNil))) (mCons (mTup (mCons (mC (.int 1000)) (mCons (mUn vNeg (mC (.int 999))) mNil))) mNil)))))) mNil))) (gN 4))
    (mAsg (mVar 4) (gSubC (mVar 3) (mCallD 2 m_law_grab [] (mCons (mVar 0) (mCons (mCall (vOne vLen) (mCons (mVar 3) mNil)) mNil)))))) mNext)
    (mRet (mVar 3))))
def m_law_table_two : FnM := mFn 2 8
    (mSeq (mAsg (mIf (mTest (mBin vEq (mVar 1) (mC (.int 0)))) (mTup (mCons (mUn vNeg (mC (.int 2))) (mCons (mC (.int 2)) mNil))) (mTup (mCons (mC (.int 0)) (mCons (mBin vSub (mVar 1) (mC (.int 1))) mNil)))) (gTA 2 (gsCons (gN 2) (gsCons (gN 3) gsNil))))
    (mSeq (mFor (mSrcA (mCons (mC (.int 8)) mNil) srcR1) (gN 4) (mSeq (mAsg (mLc (mSrcA (mCons (mC (.int 4)) mNil) srcR1) (gN 7) mYes (mBin vAdd (mVar 2) (mCallD 2 m_law_grab [] (mCons (mVar 0) (mCons (mBin vAdd (mBin vSub (mVar 3) (mVar 2)) (mC (.int 1))) mNil)))) [7]) (gN 5))
    (mSeq (mAsg (mCall (vOne vInt) (mCons (mBin vSub (mBin vMul (mBin vIx (mVar 5) (mC (.int 0))) (mBin vIx (mVar 5) (mC (.int 3)))) (mBin vMul (mBin vIx (mVar 5) (mC (.int 1))) (mBin vIx (mVar 5) (mC (.int 2))))) mNil)) (gN 6))
    (mIfS (mTest (mBin vNe (mIf (mTest (mBin vEq (mVar 1) (mC (.int 0)))) (mVar 6) (mBin vMod (mVar 6) (mVar 1))) (mC (.int 0)))) (mRet (mTup (mCons (mTup (mCons (mBin vIx (mVar 5) (mC (.int 0))) (mCons (mBin vIx (mVar 5) (mC (.int 1))) mNil))) (mCons (mTup (mCons (mBin vIx (mVar 5) (mC (.int 2))) (mCons (mBin vIx (mVar 5) (mC (.int 3))) mNil))) mNil)))) mNext))))
    (mRet (mTup (mCons (mTup (mCons (mC (.int 0)) (mCons (mC (.int 1)) mNil))) (mCons (mTup (mCons (mC (.int 1)) (mCons (mC (.int 0)) mNil))) mNil))))))
def m_law_common : FnM := mFn 1 4
    (mSeq (mAsg (mC (.int 0)) (gN 1))
    (mSeq (mFor (mSrc (mVar 0) srcS) (gN 2) (mSeq (mAsg (mCall (vOne vAbs) (mCons (mVar 2) mNil)) (gN 3))
    (mWhile 4000 (mTest (mBin vGt (mVar 3) (mC (.int 0)))) (mPar 1 3 (mVar 3) (mBin vMod (mVar 1) (mVar 3))))))
    (mRet (mVar 1))))
def m_law_low : FnM := mFn 2 2
    (mRet (mIf (mTest (mBin vEq (mVar 0) (mC (.int 0)))) (mCall (vOne vInt) (mCons (mVar 1) mNil)) (mBin vMod (mCall (vOne vInt) (mCons (mVar 1) mNil)) (mVar 0))))
def m_law_back : FnM := mFn 2 3
    (mRet (mBin vIx (mLc (mSrcA (mCons (mC (.int 1)) (mCons (mVar 0) mNil)) srcR2) (gN 2) (mTest (mBin vEq (mBin vMod (mCall (vOne vInt) (mCons (mBin vMul (mVar 2) (mVar 1)) mNil)) (mVar 0)) (mC (.int 1)))) (mVar 2) [2]) (mC (.int 0))))
def m_law_normal : FnM := mFn 2 7
    (mSeq (mAsg (mLc (mSrc (mVar 1) srcS) (gN 6) mYes (mCallD 2 m_law_low [] (mCons (mVar 0) (mCons (mVar 6) mNil))) [6]) (gN 2))
    (mSeq (mAsg (mLc (mSrc (mVar 2) srcS) (gN 6) (mTest (mBin vNe (mVar 6) (mC (.int 0)))) (mVar 6) [6]) (gN 3))
    (mSeq (mIfS (mTest (mBin vEq (mVar 3) (mLst mNil))) (mRet (mCall (vOne vTuple) (mCons (mVar 2) mNil))) mNext)
    (mSeq (mIfS (mTest (mBin vNe (mVar 0) (mC (.int 0)))) (mSeq (mAsg (mCallD 2 m_law_back [] (mCons (mVar 0) (mCons (mBin vIx (mVar 3) (mC (.int 0))) mNil))) (gN 4))
    (mRet (mCall (vOne vTuple) (mCons (mLc (mSrc (mVar 2) srcS) (gN 6) mYes (mBin vMod (mCall (vOne vInt) (mCons (mBin vMul (mVar 6) (mVar 4)) mNil)) (mVar 0)) [6]) mNil)))) mNext)
    (mSeq (mAsg (mCallD 1 m_law_common [] (mCons (mVar 2) mNil)) (gN 5))
    (mSeq (mAsg (mIf (mTest (mBin vGt (mBin vIx (mVar 3) (mC (.int 0))) (mC (.int 0)))) (mVar 5) (mUn vNeg (mVar 5))) (gN 5))
    (mRet (mCall (vOne vTuple) (mCons (mLc (mSrc (mVar 2) srcS) (gN 6) mYes (mBin vDiv (mVar 6) (mVar 5)) [6]) mNil)))))))))
def m_law_spot_led : FnM := mFn 3 8
    (mSeq (mAsg (mTup (mCons (mBin vIx (mVar 1) (mC (.int 1))) (mCons (mBin vSub (mC (.int 0)) (mBin vIx (mVar 1) (mC (.int 0)))) mNil))) (gTA 2 (gsCons (gN 3) (gsCons (gN 4) gsNil))))
    (mSeq (mAsg (mLc (mSrc (mVar 2) srcS) (gN 7) mYes (mBin vAdd (mBin vMul (mBin vIx (mVar 7) (mC (.int 0))) (mVar 3)) (mBin vMul (mBin vIx (mVar 7) (mC (.int 1))) (mVar 4))) [7]) (gTA 2 (gsCons (gN 5) (gsCons (gN 6) gsNil))))
    (mRet (mCallD 2 m_law_normal [] (mCons (mVar 0) (mCons (mTup (mCons (mVar 6) (mCons (mBin vSub (mC (.int 0)) (mVar 5)) mNil))) mNil))))))
def m_law_four : FnM := mFn 2 6
    (mSeq (mIfS (mTest (mBin vGt (mCallD 2 m_law_grab [] (mCons (mVar 0) (mCons (mC (.int 3)) mNil))) (mC (.int 0)))) (mRet (mCallD 3 m_law_spots [] (mCons (mVar 0) (mCons (mVar 1) (mCons (mC (.int 4)) mNil))))) mNext)
    (mSeq (mAsg (mTup (mCons (mCallD 2 m_law_table_two [] (mCons (mVar 0) (mCons (mVar 1) mNil))) (mCons (mIf (mTest (mBin vEq (mVar 1) (mC (.int 0)))) (mUn vNeg (mC (.int 1))) (mBin vSub (mVar 1) (mC (.int 1)))) mNil))) (gTA 2 (gsCons (gN 2) (gsCons (gN 3) gsNil))))
    (mSeq (mAsg (mLc (mSrc (mLst (mCons (mTup (mCons (mC (.int 1)) (mCons (mC (.int 0)) mNil))) (mCons (mTup (mCons (mC (.int 0)) (mCons (mC (.int 1)) mNil))) (mCons (mTup (mCons (mC (.int 1)) (mCons (mC (.int 1)) mNil))) (mCons (mTup (mCons (mC (.int 1)) (mCons (mVar 3) mNil))) mNil))))) srcS) (gN 5) mYes (mCallD 3 m_law_spot_led [] (mCons (mVar 1) (mCons (mVar 5) (mCons (mVar 2) mNil)))) [5]) (gN 4))
    (mRet (mIf (mTest (mBin vEq (mCallD 2 m_law_grab [] (mCons (mVar 0) (mCons (mC (.int 3)) mNil))) (mC (.int 0)))) (mCallD 2 m_law_mixed [] (mCons (mVar 0) (mCons (mVar 4) mNil))) (mVar 4))))))
def m_law_bracket : FnM := mFn 2 2
    (mRet (mBin vSub (mBin vMul (mBin vIx (mVar 0) (mC (.int 0))) (mBin vIx (mVar 1) (mC (.int 1)))) (mBin vMul (mBin vIx (mVar 0) (mC (.int 1))) (mBin vIx (mVar 1) (mC (.int 0))))))
def m_law_cross_ratio : FnM := mFn 2 7
    (mSeq (mAsg (mVar 1) (gTA 4 (gsCons (gN 2) (gsCons (gN 3) (gsCons (gN 4) (gsCons (gN 5) gsNil))))))
    (mSeq (mAsg (mBin vMul (mCallD 2 m_law_bracket [] (mCons (mVar 2) (mCons (mVar 4) mNil))) (mCallD 2 m_law_bracket [] (mCons (mVar 3) (mCons (mVar 5) mNil)))) (gN 6))
    (mRet (mCallD 2 m_law_normal [] (mCons (mVar 0) (mCons (mTup (mCons (mVar 6) (mCons (mBin vMul (mCallD 2 m_law_bracket [] (mCons (mVar 2) (mCons (mVar 5) mNil))) (mCallD 2 m_law_bracket [] (mCons (mVar 3) (mCons (mVar 4) mNil)))) mNil))) mNil))))))
def m_law_is_zero : FnM := mFn 2 2
    (mRet (mIf (mTest (mBin vEq (mVar 0) (mC (.int 0)))) (mBin vEq (mVar 1) (mC (.int 0))) (mBin vEq (mBin vMod (mCall (vOne vInt) (mCons (mVar 1) mNil)) (mVar 0)) (mC (.int 0)))))
def m_law_told_right : FnM := mFn 2 12
    (mSeq (mAsg (mCallD 2 m_law_four [] (mCons (mVar 0) (mCons (mVar 1) mNil))) (gTA 4 (gsCons (gN 2) (gsCons (gN 3) (gsCons (gN 4) (gsCons (gN 5) gsNil))))))
    (mSeq (mAsg (mTup (mCons (mCallD 2 m_cross_ratio [] (mCons (mVar 1) (mCons (mTup (mCons (mVar 2) (mCons (mVar 3) (mCons (mVar 4) (mCons (mVar 5) mNil))))) mNil))) (mCons (mCallD 2 m_law_table_two [] (mCons (mVar 0) (mCons (mVar 1) mNil))) mNil))) (gTA 2 (gsCons (gN 6) (gsCons (gN 7) gsNil))))
    (mSeq (mIfS (mTest (mBin vNe (mCall (vOne vReprD) (mCons (mVar 6) mNil)) (mCall (vOne vReprD) (mCons (mCallD 2 m_law_cross_ratio [] (mCons (mVar 1) (mCons (mTup (mCons (mVar 2) (mCons (mVar 3) (mCons (mVar 4) (mCons (mVar 5) mNil))))) mNil))) mNil)))) (mRet (mC (.bl false))) mNext)
    (mSeq (mIfS (mTest (mBin vNe (mCall (vOne vReprD) (mCons (mCallD 2 m_is_harmonic [] (mCons (mVar 1) (mCons (mTup (mCons (mVar 2) (mCons (mVar 3) (mCons (mVar 4) (mCons (mVar 5) mNil))))) mNil))) mNil)) (mCall (vOne vReprD) (mCons (mCallD 2 m_law_is_zero [] (mCons (mVar 1) (mCons (mBin vAdd (mBin vIx (mVar 6) (mC (.int 0))) (mBin vIx (mVar 6) (mC (.int 1)))) mNil))) mNil)))) (mRet (mC (.bl false))) mNext)
    (mSeq (mAsg (mCell (mCons (mCallD 2 m_cross_ratio [] (mCons (mVar 1) (mCons (mTup (mCons (mVar 2) (mCons (mVar 3) (mCons (mVar 5) (mCons (mVar 4) mNil))))) mNil))) (mCons (mCallD 2 m_cross_ratio [] (mCons (mVar 1) (mCons (mTup (mCons (mVar 4) (mCons (mVar 5) (mCons (mVar 2) (mCons (mVar 3) mNil))))) mNil))) mNil))) (gN 8))
    (mSeq (mDrop (mMeth vAppend (mVar 8) (mCons (mCallD 2 m_cross_ratio [] (mCons (mVar 1) (mCons (mTup (mCons (mVar 2) (mCons (mVar 4) (mCons (mVar 3) (mCons (mVar 5) mNil))))) mNil))) mNil)))
    (mSeq (mAsg (mLst (mCons (mCallD 2 m_law_normal [] (mCons (mVar 1) (mCons (mTup (mCons (mBin vIx (mVar 6) (mC (.int 1))) (mCons (mBin vIx (mVar 6) (mC (.int 0))) mNil))) mNil))) (mCons (mVar 6) (mCons (mCallD 2 m_law_normal [] (mCons (mVar 1) (mCons (mTup (mCons (mBin vSub (mBin vIx (mVar 6) (mC (.int 0))) (mBin vIx (mVar 6) (mC (.int 1)))) (mCons (mBin vSub (mC (.int 0)) (mBin vIx (mVar 6) (mC (.int 1)))) mNil))) mNil))) mNil)))) (gN 9))
    (mSeq (mIfS (mTest (mBin vNe (mVar 8) (mVar 9))) (mRet (mC (.bl false))) mNext)
    (mSeq (mAsg (mCall (vOne vTuple) (mCons (mLc (mSrc (mTup (mCons (mVar 2) (mCons (mVar 3) (mCons (mVar 4) (mCons (mVar 5) mNil))))) srcS) (gN 11) mYes (mCallD 3 m_law_spot_led [] (mCons (mVar 1) (mCons (mVar 11) (mCons (mVar 7) mNil)))) [11]) mNil)) (gN 10))
    (mRet (mOr (mBin vGt (mCall (vOne vMaxL) (mCons (mLc (mSrc (mVar 10) srcS) (gN 11) mYes (mCall (vTwo vMax2) (mCons (mCall (vOne vAbs) (mCons (mBin vIx (mVar 11) (mC (.int 0))) mNil)) (mCons (mCall (vOne vAbs) (mCons (mBin vIx (mVar 11) (mC (.int 1))) mNil)) mNil))) [11]) mNil)) (mBin vPow (mC (.int 10)) (mC (.int 7)))) (mBin vEq (mCallD 2 m_cross_ratio [] (mCons (mVar 1) (mCons (mVar 10) mNil))) (mVar 6)))))))))))))
def m_law_met : FnL := mWord subX [⟨4, (some 1), (fnR "number " 4 "given")⟩, ⟨3, none, (fnC (.str "operation"))⟩, ⟨1, none, (fnC (.str "marks"))⟩, ⟨2, none, (fnC (.str "pair"))⟩, ⟨5, (some 1), (fnR "many " 5 "most")⟩] 2 (mRet (mC (.str "fine")))
def m_law_strange_spot : FnM := mFn 3 4
    (mSeq (mAsg (mLst (mCons (mC .non) (mCons (mC (.int 1)) (mCons (mC (.str "a")) (mCons (mLst (mCons (mC (.int 1)) (mCons (mC (.int 0)) mNil))) (mCons (mTup (mCons (mC (.int 1)) mNil)) (mCons (mTup (mCons (mC (.int 1)) (mCons (mC (.int 0)) (mCons (mC (.int 0)) mNil)))) (mCons (mTup (mCons (mC (.int 0)) (mCons (mC (.int 0)) mNil))) (mCons (mIf (mTest (mBin vEq (mVar 1) (mC (.int 0)))) (mTup (mCons (mC (.int 2)) (mCons (mC (.int 4)) mNil))) (mTup (mCons (mC (.int 2)) (mCons (mC (.int 1)) mNil)))) (mCons (mTup (mCons (mUn vNeg (mC (.int 1))) (mCons (mC (.int 2)) mNil))) (mCons (mTup (mCons (mC (.bl true)) (mCons (mC (.int 0)) mNil))) (mCons (mTup (mCons (mC (.int 1)) (mCons (mC .non) mNil))) mNil)))))))))))) (gN 3))
    (mRet (mCallD 2 m_law_one_of [] (mCons (mVar 0) (mCons (mBin vAdd (mVar 3) (mLst (mCons (mIf (mTest (mBin vEq (mVar 1) (mC (.int 0)))) (mTup (mCons (mC (.int 1)) (mCons (mBin vAdd (mBin vPow (mC (.int 10)) (mC (.int 7))) (mC (.int 1))) mNil))) (mTup (mCons (mC (.int 1)) (mCons (mVar 1) mNil)))) (mCons (mTup (mCons (mC (.int 1)) (mCons (mBin vPow (mC (.int 10)) (mC (.int 60))) mNil))) (mCons (mC (.dic [] [])) (mCons (mBin vIx (mVar 2) (mC (.int 0))) mNil)))))) mNil)))))
def m_law_refused_right : FnM := mFn 2 8
    (mSeq (mAsg (mTup (mCons (mCallD 3 m_law_spots [] (mCons (mVar 0) (mCons (mVar 1) (mCons (mC (.int 4)) mNil)))) (mCons (mCallD 2 m_law_one_of [] (mCons (mVar 0) (mCons (mLst (mCons (mC .non) (mCons (mC (.int 1)) (mCons (mC (.int 4)) (mCons (mC (.int 23)) (mCons (mUn vNeg (mC (.int 3))) (mCons (mC (.bl true)) (mCons (mC (.str "3")) (mCons (mTup (mCons (mC (.int 3)) mNil)) (mCons (mBin vPow (mC (.int 10)) (mC (.int 61))) mNil)))))))))) mNil))) mNil))) (gTA 2 (gsCons (gN 2) (gsCons (gN 3) gsNil))))
    (mSeq (mAsg (mBin vAdd (mCall (vOne vTuple) (mCons (mCut (mVar 2) mNoPart (mPart (mC (.int 3)))) mNil)) (mTup (mCons (mCallD 3 m_law_strange_spot [] (mCons (mVar 0) (mCons (mVar 1) (mCons (mVar 2) mNil)))) mNil))) (gN 4))
    (mSeq (mAsg (mCallD 2 m_law_one_of [] (mCons (mVar 0) (mCons (mLst (mCons (mC .non) (mCons (mCall (vOne vList) (mCons (mVar 2) mNil)) (mCons (mCall (vOne vTuple) (mCons (mCut (mVar 2) mNoPart (mPart (mC (.int 3)))) mNil)) (mCons (mBin vAdd (mCall (vOne vTuple) (mCons (mVar 2) mNil)) (mTup (mCons (mTup (mCons (mC (.int 1)) (mCons (mC (.int 0)) mNil))) mNil))) (mCons (mTup mNil) (mCons (mC (.dic [] [])) (mCons (mC (.str "abcd")) (mCons (mVar 4) (mCons (mUn vRev (mVar 4)) mNil)))))))))) mNil))) (gN 5))
    (mSeq (mFor (mSrc (mTup (mCons (mC (.th 0)) (mCons (mC (.th 1)) mNil))) srcS) (gN 6) (mSeq (mAsg (mCell (mCons (mLam m_law_met (mCallT 6 tabX (mCons (mVar 3) (mCons (mVar 5) mNil)))) mNil)) (gN 7))
    (mSeq (mDrop (mMeth vAppend (mVar 7) (mCons (mLam m_law_met (mCallT 6 tabX (mCons (mVar 1) (mCons (mVar 5) mNil)))) mNil)))
    (mSeq (mDrop (mMeth vAppend (mVar 7) (mCons (mLam m_law_met (mCallT 6 tabX (mCons (mVar 1) (mCons (mCall (vOne vTuple) (mCons (mVar 2) mNil)) mNil)))) mNil)))
    (mIfS (mTest (mBin vNe (mVar 7) (mLst (mCons (mBin vAdd (mC (.str "number ")) (mCall (vOne vReprD) (mCons (mVar 3) mNil))) (mCons (mC (.str "operation")) (mCons (mC (.str "fine")) mNil)))))) (mRet (mC (.bl false))) mNext)))))
    (mRet (mBin vEq (mLam m_law_met (mCallD 2 m_cross_ratio [] (mCons (mC (.int 2)) (mCons (mTup (mCons (mTup (mCons (mC (.int 1)) (mCons (mC (.int 0)) mNil))) (mCons (mTup (mCons (mC (.int 0)) (mCons (mC (.int 1)) mNil))) (mCons (mTup (mCons (mC (.int 1)) (mCons (mC (.int 1)) mNil))) (mCons (mTup (mCons (mC (.int 1)) (mCons (mC (.int 0)) mNil))) mNil))))) mNil)))) (mC (.str "operation"))))))))
def b_law : MS :=
    (mSeq (mFor (mSrcA (mCons (mCall (vTwo vMax2) (mCons (mC (.int 1)) (mCons (mCall (vTwo vMin2) (mCons (mC (.int 6)) (mCons (mCall (vOne vLen) (mCons (mVar 0) mNil)) mNil))) mNil))) mNil) srcR1) (gN 1) (mSeq (mAsg (mCallD 2 m_law_bag [] (mCons (mVar 0) (mCons (mVar 1) mNil))) (gN 2))
    (mSeq (mAsg (mCallD 2 m_law_one_of [] (mCons (mVar 2) (mCons (mLst (mCons (mC (.int 0)) (mCons (mC (.int 0)) (mCons (mC (.int 3)) (mCons (mC (.int 5)) (mCons (mC (.int 7)) (mCons (mC (.int 11)) (mCons (mC (.int 13)) mNil)))))))) mNil))) (gN 3))
    (mIfS (mOrT (mNotT (mTest (mCallD 2 m_law_told_right [] (mCons (mVar 2) (mCons (mVar 3) mNil))))) (mNotT (mTest (mCallD 2 m_law_refused_right [] (mCons (mVar 2) (mCons (mVar 3) mNil)))))) (mRet (mC (.bl false))) mNext))))
    (mSeq (mAsg (mLst (mCons (mCallD 2 m_cross_ratio [] (mCons (mC (.int 0)) (mCons (mTup (mCons (mTup (mCons (mC (.int 1)) (mCons (mC (.int 0)) mNil))) (mCons (mTup (mCons (mC (.int 0)) (mCons (mC (.int 1)) mNil))) (mCons (mTup (mCons (mC (.int 1)) (mCons (mC (.int 1)) mNil))) (mCons (mTup (mCons (mC (.int 1)) (mCons (mUn vNeg (mC (.int 1))) mNil))) mNil))))) mNil))) (mCons (mCallD 2 m_cross_ratio [] (mCons (mC (.int 5)) (mCons (mTup (mCons (mTup (mCons (mC (.int 1)) (mCons (mC (.int 0)) mNil))) (mCons (mTup (mCons (mC (.int 0)) (mCons (mC (.int 1)) mNil))) (mCons (mTup (mCons (mC (.int 1)) (mCons (mC (.int 1)) mNil))) (mCons (mTup (mCons (mC (.int 1)) (mCons (mC (.int 2)) mNil))) mNil))))) mNil))) mNil))) (gN 4))
    (mSeq (mIfS (mTest (mBin vNe (mVar 4) (mLst (mCons (mTup (mCons (mC (.int 1)) (mCons (mUn vNeg (mC (.int 1))) mNil))) (mCons (mTup (mCons (mC (.int 1)) (mCons (mC (.int 2)) mNil))) mNil))))) (mRet (mC (.bl false))) mNext)
    (mRet (mAnd (mCallD 2 m_is_harmonic [] (mCons (mC (.int 3)) (mCons (mTup (mCons (mTup (mCons (mC (.int 1)) (mCons (mC (.int 0)) mNil))) (mCons (mTup (mCons (mC (.int 0)) (mCons (mC (.int 1)) mNil))) (mCons (mTup (mCons (mC (.int 1)) (mCons (mC (.int 1)) mNil))) (mCons (mTup (mCons (mC (.int 1)) (mCons (mC (.int 2)) mNil))) mNil))))) mNil))) (mUn vNot (mCallD 2 m_is_harmonic [] (mCons (mC (.int 0)) (mCons (mTup (mCons (mTup (mCons (mC (.int 1)) (mCons (mC (.int 0)) mNil))) (mCons (mTup (mCons (mC (.int 1)) (mCons (mC (.int 1)) mNil))) (mCons (mTup (mCons (mC (.int 0)) (mCons (mC (.int 1)) mNil))) (mCons (mTup (mCons (mC (.int 1)) (mCons (mUn vNeg (mC (.int 1))) mNil))) mNil))))) mNil)))))))))
def m_law : FnM := mFn 1 5 b_law
end G
namespace G
open PySem PySem.Spec PyProof.Rows L2 MI
/-! the words that all laws have: bag, grab, one_of, mixed -/
theorem s_grab {n : Nat} {t c : Int} {h : MH} (ht : 0 < t) (hs : Sm t) (hb : Bg h n c) (hc : c ≤ 1000000) : ∃ r l, m_law_grab [.cell n, .int t] h = .ok (.int r) (h.set n l) ∧ 0 ≤ r ∧ r < t ∧ Bg (h.set n l) n (c + 1) := by
  obtain ⟨a, b, c', e, c0, c1⟩ := hb
  have hn : n < h.length := (List.getElem?_eq_some_iff.mp e).1
  have i0 := vIx_cell (i := 0) e
  have i1 := vIx_cell (i := 1) e
  have i2 := vIx_cell (i := 2) e
  simp only [atI_0, atI_1, atI_2] at i0 i1 i2
  have mt := fun (i : Int) (hh : MH) => vMod_i (i := i) (h := hh) (show t ≠ 0 by omega)
  have ft := fun (i : Int) => fMod_pos (i := i) ht
  by_cases ha : 0 < a
  · have g := fun (ρ : Env1) (d : D) (q : ρ[0]? = some (some (.cell n))) => gSub_cell (ρ := ρ) (o := mVar 0) (m := mC (.int 0)) (d := d) (i := 0) (j := 0) e (by simp [q]) rfl rfl
    have dv := vDiv_i (i := a) (h := h) (div_ok hs (show t ≠ 0 by omega))
    refine ⟨a % t, [.int (fDiv a t), .int b, .int c'], ?_, Int.emod_nonneg _ (by omega), Int.emod_lt_of_pos _ ht, fDiv a t, b, c', List.getElem?_set_self hn, c0, by omega⟩
    have g' := g [some (.cell n), some (.int t), some (.int (a % t)), none, none] (.int (fDiv a t)) rfl
    simp [m_law_grab, i0, ha, mt, ft, dv, g']
  · let l : List D := [.int a, .int b, .int (c' + 1)]
    have e2 : (h.set n l)[n]? = some l := List.getElem?_set_self hn
    have j1 := vIx_cell (i := 1) e2
    have j2 := vIx_cell (i := 2) e2
    simp only [l, atI_0, atI_1, atI_2] at j1 j2
    have g' := gSub_cell (ρ := [some (.cell n), some (.int t), none, none, none]) (o := mVar 0) (m := mC (.int 2)) (d := .int (c' + 1)) (i := 2) (j := 2) e (by simp) rfl rfl
    have M1 : ∀ (i : Int) (hh : MH), vMod (.int i) (.int 2305843009213693951) hh = .ok (.int (i % 2305843009213693951)) hh := fun i hh => by rw [vMod_i (by decide), fMod_pos (by decide)]
    have M2 : ∀ (i : Int) (hh : MH), vMod (.int i) (.int 2305843009213693723) hh = .ok (.int (i % 2305843009213693723)) hh := fun i hh => by rw [vMod_i (by decide), fMod_pos (by decide)]
    have M3 : ∀ (i : Int) (hh : MH), vMod (.int i) (.int 2305843009213693921) hh = .ok (.int (i % 2305843009213693921)) hh := fun i hh => by rw [vMod_i (by decide), fMod_pos (by decide)]
    have D1 : ∀ (i : Int) (hh : MH), vDiv (.int i) (.int 16384) hh = .ok (.int (i / 16384)) hh := fun i hh => by rw [div_small (by decide) (by decide) (by decide), fDiv_pos (by decide)]
    have m1 : ∀ hh : MH, vMul (.int 1048627) (.int (c' + 1)) hh = .ok (.int (1048627 * (c' + 1))) hh := fun hh => vMul_i (mul_ok (sm40 (by decide) (by decide)) (sm40 (by omega) (by omega)))
    let one : Int := (b + 1048627 * (c' + 1)) % 2305843009213693951
    have o1 : 0 ≤ one := Int.emod_nonneg _ (by decide)
    have o2 : one < 2305843009213693951 := Int.emod_lt_of_pos _ (by decide)
    have m2 : ∀ hh : MH, vMul (.int ((b + 1048627 * (c' + 1)) % 2305843009213693951)) (.int ((b + 1048627 * (c' + 1)) % 2305843009213693951)) hh = .ok (.int (one * one)) hh := fun hh => vMul_i (mul_ok (sm40 (i := one) (by omega) (by omega)) (sm40 (i := one) (by omega) (by omega)))
    have q1 : 0 ≤ one * one % 2305843009213693723 := Int.emod_nonneg _ (by decide)
    have q2 : one * one % 2305843009213693723 < 2305843009213693723 := Int.emod_lt_of_pos _ (by decide)
    have m3 : ∀ hh : MH, vMul (.int (one * one % 2305843009213693723)) (.int ((b + 1048627 * (c' + 1)) % 2305843009213693951)) hh = .ok (.int (one * one % 2305843009213693723 * one)) hh := fun hh => vMul_i (mul_ok (sm40 (by omega) (by omega)) (sm40 (i := one) (by omega) (by omega)))
    have m4 : ∀ hh : MH, vMul (.int 8147) (.int (c' + 1)) hh = .ok (.int (8147 * (c' + 1))) hh := fun hh => vMul_i (mul_ok (sm40 (by decide) (by decide)) (sm40 (by omega) (by omega)))
    refine ⟨(one * one % 2305843009213693723 * one + 8147 * (c' + 1)) % 2305843009213693921 / 16384 % t, l, ?_, Int.emod_nonneg _ (by omega), Int.emod_lt_of_pos _ ht, a, b, c' + 1, e2, by omega, by omega⟩
    have g2 : h.set n (([.int a, .int b, .int c'] : List D).set 2 (.int (c' + 1))) = h.set n l := rfl
    rw [g2] at g'
    have kk : l = [.int a, .int b, .int (c' + 1)] := rfl
    simp only [← kk] at j1 j2
    generalize l = l' at *
    simp [m_law_grab, i0, i2, ha, g', j1, j2, m1, M1, m2, M2, m3, m4, M3, D1, mt, ft]
theorem s_one_of {n : Nat} {c : Int} {l : List D} {h : MH} (hl : l ≠ []) (hs : l.length ≤ 1000) (hb : Bg h n c) (hc : c ≤ 1000000) : ∃ x m, m_law_one_of [.cell n, .lst l] h = .ok x (h.set n m) ∧ Bg (h.set n m) n (c + 1) ∧ x ∈ l := by
  have l0 : 0 < l.length := List.length_pos_iff.mpr hl
  obtain ⟨r, m, g, r0, r1, b⟩ := s_grab (t := (l.length : Int)) (by omega) (sm_small (by omega) (by omega)) hb hc
  have hlt : r.toNat < l.length := by omega
  refine ⟨l[r.toNat], m, ?_, b, List.getElem_mem hlt⟩
  have a : atI l r = some l[r.toNat] := by rw [atI_nn r0 r1, List.getElem?_eq_getElem hlt]
  simp [m_law_one_of, vLen_lst, g, a]
theorem s_one_ofT {n : Nat} {c : Int} {l : List D} {h : MH} (hl : l ≠ []) (hs : l.length ≤ 1000) (hb : Bg h n c) (hc : c ≤ 1000000) : ∃ x m, m_law_one_of [.cell n, .tup l] h = .ok x (h.set n m) ∧ Bg (h.set n m) n (c + 1) ∧ x ∈ l := by
  have l0 : 0 < l.length := List.length_pos_iff.mpr hl
  obtain ⟨r, m, g, r0, r1, b⟩ := s_grab (t := (l.length : Int)) (by omega) (sm_small (by omega) (by omega)) hb hc
  have hlt : r.toNat < l.length := by omega
  refine ⟨l[r.toNat], m, ?_, b, List.getElem_mem hlt⟩
  have a : atI l r = some l[r.toNat] := by rw [atI_nn r0 r1, List.getElem?_eq_getElem hlt]
  simp [m_law_one_of, vLen_tup, g, a]
/-! shuffled -/
abbrev mxE : ME := mMeth vPopAt (mVar 2) (mCons (mCallD 2 m_law_grab [] (mCons (mVar 0) (mCons (mCall (vOne vLen) (mCons (mVar 2) mNil)) mNil))) mNil)
theorem perm_out {α : Type} {W : List α} {k : Nat} (h : k < W.length) : (W[k] :: W.eraseIdx k).Perm W := by
  have e : W = W.take k ++ W[k] :: W.drop (k + 1) := by rw [← List.drop_eq_getElem_cons h, List.take_append_drop]
  have q : (W[k] :: W.eraseIdx k).Perm (W.take k ++ W[k] :: W.drop (k + 1)) := by
    rw [List.eraseIdx_eq_take_drop_succ]
    exact List.perm_middle.symm
  rw [← e] at q
  exact q
theorem mix_loop {n m : Nat} {x : Option D} {chk : MH → Bool} (hk : ∀ h, chk h = true) : ∀ (items W acc : List D) (c : Int) (h : MH) (y : Option D), W.length = items.length → acc.length + W.length ≤ 1000 → h[m]? = some W → m ≠ n → Bg h n c → c + (W.length : Int) ≤ 1000000 →
    ∃ l' h', loopC (gN 3) mYes mxE [some (.cell n), x, some (.cell m), y] chk items acc h = .ok (acc ++ l') h' ∧ Bg h' n (c + (W.length : Int)) ∧ l'.Perm W ∧ h'.length = h.length ∧ ∀ j, j ≠ n → j ≠ m → h'[j]? = h[j]?
  | [], W, acc, c, h, y, hl, _, _, _, hb, _ => by
    have hW : W = [] := List.length_eq_zero_iff.mp hl
    subst hW
    exact ⟨[], h, by unfold loopC; simp [hk], by simpa using hb, .refl _, rfl, fun _ _ _ => rfl⟩
  | d :: r, W, acc, c, h, y, hl, hz, e, hm, hb, hc => by
    have hW : 0 < W.length := by rw [hl]; simp
    obtain ⟨i, l1, g1, r0, r1, b1⟩ := s_grab (t := (W.length : Int)) (by omega) (sm_small (by omega) (by omega)) hb (by omega)
    have hlt : i.toNat < W.length := by omega
    have e1 : (h.set n l1)[m]? = some W := by rw [List.getElem?_set_ne (fun z => hm z.symm)]; exact e
    have q : ixN W.length i = some i.toNat := by unfold ixN; rw [if_pos r0, if_pos r1]
    have p1 := popAt_at (y := W[i.toNat]) e1 ⟨by omega, by omega⟩ q (List.getElem?_eq_getElem hlt)
    have mlt : m < h.length := (List.getElem?_eq_some_iff.mp e).1
    have e2 : ((h.set n l1).set m (W.eraseIdx i.toNat))[m]? = some (W.eraseIdx i.toNat) := List.getElem?_set_self (by rw [List.length_set]; exact mlt)
    have hle : (W.eraseIdx i.toNat).length = r.length := by rw [List.length_eraseIdx_of_lt hlt, hl]; simp
    have hw : (W.eraseIdx i.toNat).length + 1 = W.length := by rw [List.length_eraseIdx_of_lt hlt]; omega
    have b2 : Bg ((h.set n l1).set m (W.eraseIdx i.toNat)) n (c + 1) := b1.other hm
    obtain ⟨l', h', k1, k2, k3, k4, k5⟩ := mix_loop hk r (W.eraseIdx i.toNat) (acc ++ [W[i.toNat]]) (c + 1) _ y hle (by rw [List.length_append, List.length_singleton]; omega) e2 hm b2 (by omega)
    refine ⟨W[i.toNat] :: l', h', ?_, ?_, (k3.cons _).trans (perm_out hlt), by rw [k4, List.length_set, List.length_set], fun j h1 h2 => ?_⟩
    · unfold loopC
      have vl := vLen_cell e
      have c1 : acc.length < 16777216 := by omega
      simp only [hk, if_true, gN_ap, List.set, mYes_ap, noEx_ok, bind_ok, mMeth_ap, mVar_ap, List.getElem?_cons_zero, List.getElem?_cons_succ, mlt, mCons_ap, mCallD_ap, mCall_ap, mNil_ap, vOne_ap, vl, List.append_nil, List.length, Nat.zero_add, Nat.reduceAdd, g1, p1]
      rw [if_pos (by omega)]
      rw [k1]
      simp
    · rw [show c + (W.length : Int) = c + 1 + ((W.eraseIdx i.toNat).length : Int) by omega]
      exact k2
    · rw [k5 j h1 h2, List.getElem?_set_ne (fun z => h2 z.symm), List.getElem?_set_ne (fun z => h1 z.symm)]
theorem mixed_run {n : Nat} {h h' : MH} {l l' I : List D} (sr : srcR1 [.int (l.length : Int)] (h ++ [l]) = .ok ⟨I, none⟩ (h ++ [l]))
    (k1 : loopC (gN 3) mYes mxE [some (.cell n), some (.lst l), some (.cell h.length), none] (Src.mk I none).chk I [] (h ++ [l]) = .ok ([] ++ l') h') : m_law_mixed [.cell n, .lst l] h = .ok (.lst l') h' := by
  unfold m_law_mixed
  rw [mFn_ap (show [D.cell n, D.lst l].length = 2 from rfl), show startM 4 [D.cell n, D.lst l] = [some (.cell n), some (.lst l), none, none] from rfl, mSeq_ap, mAsg_ap]
  have s1 : mCall (vOne vListC) (mCons (mVar 1) mNil) [some (.cell n), some (.lst l), none, none] h = .ok (.cell h.length) (h ++ [l]) := rfl
  have s2 : mSrcA (mCons (mCall (vOne vLen) (mCons (mVar 1) mNil)) mNil) srcR1 [some (.cell n), some (.lst l), some (.cell h.length), none] (h ++ [l]) = .ok ⟨I, none⟩ (h ++ [l]) := by
    have q : mCons (mCall (vOne vLen) (mCons (mVar 1) mNil)) mNil [some (.cell n), some (.lst l), some (.cell h.length), none] (h ++ [l]) = .ok [.int (l.length : Int)] (h ++ [l]) := rfl
    rw [mSrcA_ap, q, bind_ok, sr]
  rw [s1, toF_ok, gN_ap, ofG_some, seq_nx]
  dsimp only [List.set]
  rw [mRet_ap, mLc_ap, s2, bind_ok, show wipeM [some (.cell n), some (.lst l), some (.cell h.length), none] [3] = [some (.cell n), some (.lst l), some (.cell h.length), none] from rfl, k1]
  rfl
theorem s_mixed {n : Nat} {c : Int} {h : MH} {l : List D} (hl : l.length ≤ 1000) (hb : Bg h n c) (hc : c ≤ 990000) :
    ∃ l' h', m_law_mixed [.cell n, .lst l] h = .ok (.lst l') h' ∧ Bg h' n (c + (l.length : Int)) ∧ l'.Perm l ∧ Kp n h h' := by
  have hn := hb.lt
  have a1 : l.length = (rngD 0 ((l.length : Int)).toNat).length := by rw [rngD_len, Int.toNat_natCast]
  have a2 : ([] : List D).length + l.length ≤ 1000 := by rw [List.length_nil, Nat.zero_add]; exact hl
  have a3 : h.length ≠ n := by omega
  have a4 : c + (l.length : Int) ≤ 1000000 := by omega
  obtain ⟨l', h', k1, k2, k3, k4, k5⟩ := mix_loop (n := n) (m := h.length) (x := some (.lst l)) (chk := fun _ => true) (fun _ => rfl) (rngD 0 ((l.length : Int)).toNat) l [] c (h ++ [l]) none a1 a2 at_end a3 hb.app a4
  have a5 : h.length ≤ h'.length := by rw [k4, List.length_append]; exact Nat.le_add_right _ _
  refine ⟨l', h', ?_, k2, k3, a5, fun j h1 h2 => by rw [k5 j h2 (Nat.ne_of_lt h1), List.getElem?_append_left h1]⟩
  exact mixed_run (src_r1 (p := (l.length : Int)) (by omega) (by omega) (h ++ [l])) k1
/-! the bag of a script -/
theorem s_bag {ns : List Int} {k : Nat} {h : MH} (hk : k ≤ 100) : ∃ a b : Int, m_law_bag [.scr ns, .int (k : Nat)] h = .ok (.cell h.length) (h ++ [[.int a, .int b, .int 0]]) := by
  have vl : vLen (.scr ns) h = .ok (.int ((ns.length : Nat) : Int)) h := by
    unfold vLen
    simp only [seqOf, List.length_map]
  have st : ∃ z : Int, mIf (mTest (mBin vLt (mVar 1) (mCall (vOne vLen) (mCons (mVar 0) mNil)))) (mBin vIx (mVar 0) (mVar 1)) (mBin vAdd (mBin vAdd (mCall (vOne vSum) (mCons (mCut (mVar 0) mNoPart (mPart (mC (.int 1)))) mNil)) (mBin vMul (mC (.int 127)) (mVar 1))) (mC (.int 73))) [some (.scr ns), some (.int (k : Nat)), none, none, none] h = .ok (.int z) h := by
    by_cases e : k < ns.length
    · have a : atI (ns.map D.int) (k : Nat) = some (.int ns[k]) := by
        rw [atI_nn (by omega) (by rw [List.length_map]; omega)]
        simp [e]
      have ix : vIx (.scr ns) (.int (k : Nat)) h = .ok (.int ns[k]) h := by
        have : vIx (.scr ns) (.int (k : Nat)) h = match atI (ns.map D.int) (k : Nat) with | some x => .ok x h | none => .bad := rfl
        rw [this, a]
      exact ⟨ns[k], by simp [vl, e, ix]⟩
    · have cu : vCut (.scr ns) none (some 1) h = .ok (.lst ((ns.map .int).take 1)) h := by
        have c := cut_to (l := ns.map D.int) (k := 1) (h := h) (by decide)
        have : vCut (.scr ns) none (some 1) h = vCut (.lst (ns.map D.int)) none (some 1) h := rfl
        rw [this, c]
        rfl
      have ai : ∀ l : List Int, asInts (l.map D.int) = some l := fun l => by
        induction l with
        | nil => rfl
        | cons i l ih => simp [asInts, ih]
      have sm : vSum (.lst ((ns.map .int).take 1)) h = .ok (.int (ns.take 1).sum) h := by
        rw [← List.map_take]
        unfold vSum
        simp only [MI.listOf, Option.bind_some, ai]
      exact ⟨(ns.take 1).sum + 127 * (k : Nat) + 73, by simp [vl, e, cu, sm, mul_small (show (-1000000 : Int) ≤ 127 by decide) (by decide) (show (-1000000 : Int) ≤ ((k : Nat) : Int) by omega) (show ((k : Nat) : Int) ≤ 1000000 by omega)]⟩
  obtain ⟨z, st⟩ := st
  have p1 : ∀ hh, vPow (.int 10) (.int 45) hh = .ok (.int (10 ^ 45)) hh := fun hh => pw 45 hh (by decide)
  have p2 : ∀ hh, vPow (.int (10 ^ 45)) (.int 13) hh = .ok (.int ((10 ^ 45) ^ 13)) hh := fun hh => by
    have c : cPow (10 ^ 45) 13 = true := by decide +kernel
    show vIc cPow (fun i j => .int (i ^ j.toNat)) (.int (10 ^ 45)) (.int 13) hh = _
    unfold vIc
    simp only [c, if_true]
    rfl
  have p3 : ∀ hh, vPow (.int 10) (.int 18) hh = .ok (.int (10 ^ 18)) hh := fun hh => pw 18 hh (by decide)
  have t0 : (0 : Int) < (10 ^ 45) ^ 13 := by decide +kernel
  have M0 : ∀ (i : Int) (hh : MH), vMod (.int i) (.int ((10 ^ 45) ^ 13)) hh = .ok (.int (i % (10 ^ 45) ^ 13)) hh := fun i hh => by rw [vMod_i (by omega), fMod_pos t0]
  have M1 : ∀ (i : Int) (hh : MH), vMod (.int i) (.int 2305843009213693951) hh = .ok (.int (i % 2305843009213693951)) hh := fun i hh => by rw [vMod_i (by decide), fMod_pos (by decide)]
  have M2 : ∀ (i : Int) (hh : MH), vMod (.int i) (.int 2305843009213693723) hh = .ok (.int (i % 2305843009213693723)) hh := fun i hh => by rw [vMod_i (by decide), fMod_pos (by decide)]
  have m1 : ∀ (i : Int) (hh : MH), vMul (.int (i % 2305843009213693723)) (.int 1000403) hh = .ok (.int (i % 2305843009213693723 * 1000403)) hh := fun i hh => by
    have q1 : 0 ≤ i % 2305843009213693723 := Int.emod_nonneg _ (by decide)
    have q2 : i % 2305843009213693723 < 2305843009213693723 := Int.emod_lt_of_pos _ (by decide)
    exact vMul_i (mul_ok (sm40 (by omega) (by omega)) (sm40 (by decide) (by decide)))
  have m2 := fun (hh : MH) => mul_small (h := hh) (show (-1000000 : Int) ≤ 9041 by decide) (by decide) (show (-1000000 : Int) ≤ ((k : Nat) : Int) by omega) (show ((k : Nat) : Int) ≤ 1000000 by omega)
  have m3 : ∀ (b : Bool) (hh : MH), vMul (.int 47) (.int (if b then 1 else 0)) hh = .ok (.int (47 * (if b then 1 else 0))) hh := fun b hh => by
    cases b <;> exact mul_small (by decide) (by decide) (by decide) (by decide)
  have P := (10 : Int)
  clear P
  generalize hP : ((10 : Int) ^ 45) ^ 13 = P13 at *
  generalize hQ : (10 : Int) ^ 45 = P45 at *
  generalize hR : (10 : Int) ^ 18 = P18 at *
  apply Exists.intro
  apply Exists.intro
  unfold m_law_bag
  rw [mFn_ap (show [D.scr ns, D.int (k : Nat)].length = 2 from rfl), show startM 5 [D.scr ns, D.int (k : Nat)] = [some (.scr ns), some (.int (k : Nat)), none, none, none] from rfl]
  rw [mSeq_ap, mAsg_ap, st]
  simp only [toF_ok, gN_ap, ofG_some, List.set, seq_nx, mSeq_ap, mAsg_ap, mBin_ap, mCall_ap, mCons_ap, mVar_ap, mC_ap, mNil_ap, List.getElem?_cons_zero, List.getElem?_cons_succ, bind_ok, vOne_ap, vAbs_i, vInt_i, p1, p2, M0, M2, m1, m2, vLt_i, vInt_b, m3, vAdd_i, mRet_ap, mCell_ap, vTwo_ap, p3, vSub_i, vMax2_i, M1, List.length, Nat.zero_add, Nat.reduceAdd, Nat.reduceLeDiff, if_true, fnOut_rt]
  rfl
end G
namespace G
open PySem PySem.Spec PyProof.Rows L2 MI
abbrev B60 : Int := 1000000000000000000000000000000000000000000000000000000000000
abbrev zs (l : List Int) : List D := l.map D.int
def Pr (p : Int) : Prop := p = 0 ∨ Pq p
theorem Pr.nn {p : Int} (hp : Pr p) : 0 ≤ p ∧ p ≤ 19 := by
  rcases hp with h | h
  · omega
  · have := h.pos; omega
theorem s_whole (i : Int) (h : MH) : m_is_whole [.int i] h = .ok (.bl true) h := by kernel_rfl
def PRS : List Int := [2, 3, 5, 7, 11, 13, 17, 19]
theorem s_prime (i : Int) (h : MH) : m_is_prime [.int i] h = .ok (.bl (decide (i = 0) || decide (i ∈ PRS))) h := by
  have e := vIn_tup i PRS h
  have e' : vIn (.int i) (.ctp ([2, 3, 5, 7, 11, 13, 17, 19] : List Int)) h = _ := e
  unfold m_is_prime
  rw [mFn_ap (show [D.int i].length = 1 from rfl)]
  have w : mCallD 1 m_is_whole [] (mCons (mVar 0) mNil) [some (.int i)] h = .ok (.bl true) h := s_whole i h
  show fnOut (mRet _ [some (.int i)] h) = _
  rw [mRet_ap, mAnd_ap, w, bind_ok, mOr_ap, mBin_ap, mVar_ap]
  simp only [List.getElem?_cons_zero, bind_ok, mC_ap, vEq_i, mBin_ap, mVar_ap, e']
  by_cases h0 : i = 0 <;> simp [h0]
theorem Pr.prs {p : Int} (hp : Pr p) : (decide (p = 0) || decide (p ∈ PRS)) = true := by
  rcases hp with rfl | rfl | rfl | rfl | rfl | rfl | rfl | rfl | rfl <;> decide +kernel
theorem s_req {p : Int} (hp : Pr p) (h : MH) : m_require_prime [.int p] h = .ok .non h := by
  simp [m_require_prime, s_prime, hp.prs]
theorem s_low {p : Int} (x : Int) (hp : 0 ≤ p) (h : MH) : m_law_low [.int p, .int x] h = .ok (.int (if p = 0 then x else x % p)) h := by
  by_cases e : p = 0
  · simp [m_law_low, e]
  · simp [m_law_low, e, vMod_i e, fMod_pos (by omega : 0 < p)]
def nk (p x : Int) : Bool := if p = 0 then decide (-B60 < x) && decide (x < B60) else decide (0 ≤ x) && decide (x < p)
theorem s_nof (p x : Int) (h : MH) : m_is_number_of [.int p, .int x, .int B60] h = .ok (.bl (nk p x)) h := by
  unfold nk
  by_cases e : p = 0
  · subst e
    by_cases a : -B60 < x <;> by_cases b : x < B60 <;> simp [m_is_number_of, s_whole, a, b]
  · by_cases a : 0 ≤ x <;> by_cases b : x < p <;> simp [m_is_number_of, s_whole, e, a, b]
theorem iv2 (h : MH) {f : Int} (h1 : 1 ≤ f) (h2 : f < 2) : m_inverse_of [.int 2, .int f] h = .ok (.int (inv 2 f)) h := by
  have e : f = 1 := by omega
  subst e
  kernel_rfl
theorem iv3 (h : MH) {f : Int} (h1 : 1 ≤ f) (h2 : f < 3) : m_inverse_of [.int 3, .int f] h = .ok (.int (inv 3 f)) h := by
  have e : f = 1 ∨ f = 2 := by omega
  rcases e with rfl | rfl <;> kernel_rfl
theorem iv5 (h : MH) {f : Int} (h1 : 1 ≤ f) (h2 : f < 5) : m_inverse_of [.int 5, .int f] h = .ok (.int (inv 5 f)) h := by
  have e : f = 1 ∨ f = 2 ∨ f = 3 ∨ f = 4 := by omega
  rcases e with rfl | rfl | rfl | rfl <;> kernel_rfl
theorem iv7 (h : MH) {f : Int} (h1 : 1 ≤ f) (h2 : f < 7) : m_inverse_of [.int 7, .int f] h = .ok (.int (inv 7 f)) h := by
  have e : f = 1 ∨ f = 2 ∨ f = 3 ∨ f = 4 ∨ f = 5 ∨ f = 6 := by omega
  rcases e with rfl | rfl | rfl | rfl | rfl | rfl <;> kernel_rfl
theorem iv11 (h : MH) {f : Int} (h1 : 1 ≤ f) (h2 : f < 11) : m_inverse_of [.int 11, .int f] h = .ok (.int (inv 11 f)) h := by
  have e : f = 1 ∨ f = 2 ∨ f = 3 ∨ f = 4 ∨ f = 5 ∨ f = 6 ∨ f = 7 ∨ f = 8 ∨ f = 9 ∨ f = 10 := by omega
  rcases e with rfl | rfl | rfl | rfl | rfl | rfl | rfl | rfl | rfl | rfl <;> kernel_rfl
theorem iv13 (h : MH) {f : Int} (h1 : 1 ≤ f) (h2 : f < 13) : m_inverse_of [.int 13, .int f] h = .ok (.int (inv 13 f)) h := by
  have e : f = 1 ∨ f = 2 ∨ f = 3 ∨ f = 4 ∨ f = 5 ∨ f = 6 ∨ f = 7 ∨ f = 8 ∨ f = 9 ∨ f = 10 ∨ f = 11 ∨ f = 12 := by omega
  rcases e with rfl | rfl | rfl | rfl | rfl | rfl | rfl | rfl | rfl | rfl | rfl | rfl <;> kernel_rfl
theorem iv17 (h : MH) {f : Int} (h1 : 1 ≤ f) (h2 : f < 17) : m_inverse_of [.int 17, .int f] h = .ok (.int (inv 17 f)) h := by
  have e : f = 1 ∨ f = 2 ∨ f = 3 ∨ f = 4 ∨ f = 5 ∨ f = 6 ∨ f = 7 ∨ f = 8 ∨ f = 9 ∨ f = 10 ∨ f = 11 ∨ f = 12 ∨ f = 13 ∨ f = 14 ∨ f = 15 ∨ f = 16 := by omega
  rcases e with rfl | rfl | rfl | rfl | rfl | rfl | rfl | rfl | rfl | rfl | rfl | rfl | rfl | rfl | rfl | rfl <;> kernel_rfl
theorem iv19 (h : MH) {f : Int} (h1 : 1 ≤ f) (h2 : f < 19) : m_inverse_of [.int 19, .int f] h = .ok (.int (inv 19 f)) h := by
  have e : f = 1 ∨ f = 2 ∨ f = 3 ∨ f = 4 ∨ f = 5 ∨ f = 6 ∨ f = 7 ∨ f = 8 ∨ f = 9 ∨ f = 10 ∨ f = 11 ∨ f = 12 ∨ f = 13 ∨ f = 14 ∨ f = 15 ∨ f = 16 ∨ f = 17 ∨ f = 18 := by omega
  rcases e with rfl | rfl | rfl | rfl | rfl | rfl | rfl | rfl | rfl | rfl | rfl | rfl | rfl | rfl | rfl | rfl | rfl | rfl <;> kernel_rfl
theorem s_inverse {p f : Int} (hp : Pq p) (h1 : 1 ≤ f) (h2 : f < p) (h : MH) : m_inverse_of [.int p, .int f] h = .ok (.int (inv p f)) h := by
  rcases hp with rfl | rfl | rfl | rfl | rfl | rfl | rfl | rfl
  · exact iv2 h h1 h2
  · exact iv3 h h1 h2
  · exact iv5 h h1 h2
  · exact iv7 h h1 h2
  · exact iv11 h h1 h2
  · exact iv13 h h1 h2
  · exact iv17 h h1 h2
  · exact iv19 h h1 h2
theorem bk2 (h : MH) {f : Int} (h1 : 1 ≤ f) (h2 : f < 2) : m_law_back [.int 2, .int f] h = .ok (.int (inv 2 f)) h := by
  have e : f = 1 := by omega
  subst e
  kernel_rfl
theorem bk3 (h : MH) {f : Int} (h1 : 1 ≤ f) (h2 : f < 3) : m_law_back [.int 3, .int f] h = .ok (.int (inv 3 f)) h := by
  have e : f = 1 ∨ f = 2 := by omega
  rcases e with rfl | rfl <;> kernel_rfl
theorem bk5 (h : MH) {f : Int} (h1 : 1 ≤ f) (h2 : f < 5) : m_law_back [.int 5, .int f] h = .ok (.int (inv 5 f)) h := by
  have e : f = 1 ∨ f = 2 ∨ f = 3 ∨ f = 4 := by omega
  rcases e with rfl | rfl | rfl | rfl <;> kernel_rfl
theorem bk7 (h : MH) {f : Int} (h1 : 1 ≤ f) (h2 : f < 7) : m_law_back [.int 7, .int f] h = .ok (.int (inv 7 f)) h := by
  have e : f = 1 ∨ f = 2 ∨ f = 3 ∨ f = 4 ∨ f = 5 ∨ f = 6 := by omega
  rcases e with rfl | rfl | rfl | rfl | rfl | rfl <;> kernel_rfl
theorem bk11 (h : MH) {f : Int} (h1 : 1 ≤ f) (h2 : f < 11) : m_law_back [.int 11, .int f] h = .ok (.int (inv 11 f)) h := by
  have e : f = 1 ∨ f = 2 ∨ f = 3 ∨ f = 4 ∨ f = 5 ∨ f = 6 ∨ f = 7 ∨ f = 8 ∨ f = 9 ∨ f = 10 := by omega
  rcases e with rfl | rfl | rfl | rfl | rfl | rfl | rfl | rfl | rfl | rfl <;> kernel_rfl
theorem bk13 (h : MH) {f : Int} (h1 : 1 ≤ f) (h2 : f < 13) : m_law_back [.int 13, .int f] h = .ok (.int (inv 13 f)) h := by
  have e : f = 1 ∨ f = 2 ∨ f = 3 ∨ f = 4 ∨ f = 5 ∨ f = 6 ∨ f = 7 ∨ f = 8 ∨ f = 9 ∨ f = 10 ∨ f = 11 ∨ f = 12 := by omega
  rcases e with rfl | rfl | rfl | rfl | rfl | rfl | rfl | rfl | rfl | rfl | rfl | rfl <;> kernel_rfl
theorem bk17 (h : MH) {f : Int} (h1 : 1 ≤ f) (h2 : f < 17) : m_law_back [.int 17, .int f] h = .ok (.int (inv 17 f)) h := by
  have e : f = 1 ∨ f = 2 ∨ f = 3 ∨ f = 4 ∨ f = 5 ∨ f = 6 ∨ f = 7 ∨ f = 8 ∨ f = 9 ∨ f = 10 ∨ f = 11 ∨ f = 12 ∨ f = 13 ∨ f = 14 ∨ f = 15 ∨ f = 16 := by omega
  rcases e with rfl | rfl | rfl | rfl | rfl | rfl | rfl | rfl | rfl | rfl | rfl | rfl | rfl | rfl | rfl | rfl <;> kernel_rfl
theorem bk19 (h : MH) {f : Int} (h1 : 1 ≤ f) (h2 : f < 19) : m_law_back [.int 19, .int f] h = .ok (.int (inv 19 f)) h := by
  have e : f = 1 ∨ f = 2 ∨ f = 3 ∨ f = 4 ∨ f = 5 ∨ f = 6 ∨ f = 7 ∨ f = 8 ∨ f = 9 ∨ f = 10 ∨ f = 11 ∨ f = 12 ∨ f = 13 ∨ f = 14 ∨ f = 15 ∨ f = 16 ∨ f = 17 ∨ f = 18 := by omega
  rcases e with rfl | rfl | rfl | rfl | rfl | rfl | rfl | rfl | rfl | rfl | rfl | rfl | rfl | rfl | rfl | rfl | rfl | rfl <;> kernel_rfl
theorem s_back {p f : Int} (hp : Pq p) (h1 : 1 ≤ f) (h2 : f < p) (h : MH) : m_law_back [.int p, .int f] h = .ok (.int (inv p f)) h := by
  rcases hp with rfl | rfl | rfl | rfl | rfl | rfl | rfl | rfl
  · exact bk2 h h1 h2
  · exact bk3 h h1 h2
  · exact bk5 h h1 h2
  · exact bk7 h h1 h2
  · exact bk11 h h1 h2
  · exact bk13 h h1 h2
  · exact bk17 h h1 h2
  · exact bk19 h h1 h2
end G
namespace G
open PySem PySem.Spec PyProof.Rows L2 MI
abbrev tz (l : List Int) : D := .tup (zs l)
abbrev lz (l : List Int) : D := .lst (zs l)
theorem div_loop {x : Option D} {chk : MH → Bool} {h : MH} (hc : ∀ h, chk h = true) : ∀ (l : List Int) (g : Nat) (x2 : Option D), ∃ y, loopF (gN 2) (mAsg (mCall (vTwo vGcd) (mCons (mVar 1) (mCons (mVar 2) mNil))) (gN 1)) chk (zs l) [x, some (.int (g : Nat)), x2] h = .nx [x, some (.int ((gcdF g l : Nat) : Int)), y] h
  | [], g, x2 => ⟨x2, by simp [loopF, hc, gcdF]⟩
  | i :: r, g, x2 => by
    obtain ⟨y, e⟩ := div_loop hc r (Nat.gcd g i.natAbs) (some (.int i))
    refine ⟨y, ?_⟩
    rw [zs, List.map_cons, loopF]
    simp only [hc, if_true, gN_ap, List.set, mAsg_ap, mCall_ap, mCons_ap, mVar_ap, mNil_ap, List.getElem?_cons_zero, List.getElem?_cons_succ, bind_ok, vTwo_ap, vGcd_i, toF_ok, ofG_some, Int.natAbs_natCast]
    exact e
theorem s_divisor (l : List Int) (h : MH) : m_divisor_of [tz l] h = .ok (.int (gL l)) h := by
  obtain ⟨y, e⟩ := div_loop (x := some (tz l)) (chk := fun _ => true) (h := h) (fun _ => rfl) l 0 none
  unfold m_divisor_of
  rw [mFn_ap (show [tz l].length = 1 from rfl), show startM 3 [tz l] = [some (tz l), none, none] from rfl, mSeq_ap, mAsg_ap, mC_ap, toF_ok, gN_ap, ofG_some, seq_nx]
  dsimp only [List.set]
  rw [mSeq_ap, mFor_ap, mSrc_ap, mVar_ap]
  have s : (srcS (tz l) h) = .ok ⟨zs l, none⟩ h := rfl
  simp only [List.getElem?_cons_zero, bind_ok, s, toF_ok]
  have ck : (Src.mk (zs l) none).chk = fun _ => true := rfl
  rw [ck, show (0 : Int) = ((0 : Nat) : Int) from rfl, e]
  rfl
abbrev nzP (i : Int) : Bool := !decide (i = 0)
theorem nz_list (l : List Int) : ∃ r, (l.filter nzP).map D.int ++ [.int 0] = .int (hd l) :: r := by
  induction l with
  | nil => exact ⟨[], rfl⟩
  | cons i r ih =>
    obtain ⟨q, e⟩ := ih
    by_cases h0 : i = 0
    · exact ⟨q, by simp [h0, hd]; simpa using e⟩
    · exact ⟨(r.filter nzP).map D.int ++ [.int 0], by simp [h0, hd]⟩
theorem filter_len (l : List Int) (q : Int → Bool) : (l.filter q).length ≤ l.length := List.length_filter_le _ _
def Dm (p : Int) (l : List Int) : Prop := (p = 0 → ∀ i ∈ l, Sm i) ∧ (p ≠ 0 → ∀ i ∈ l, 0 ≤ i ∧ i < p)
theorem gL_sm {l : List Int} (hl : ∀ i ∈ l, Sm i) (h : hd l ≠ 0) : Sm (gL l) := by
  have d := gL_dvd (hd_mem h)
  have s := hl _ (hd_mem h)
  unfold Sm at *
  exact Nat.lt_of_le_of_lt (Nat.le_of_dvd (by omega) (Int.natAbs_dvd_natAbs.mpr d)) s
theorem sg_sm {f g : Int} (hg : Sm g) : Sm (sg f g) := by
  unfold sg Sm at *
  split
  · exact hg
  · rw [Int.natAbs_neg]; exact hg
theorem filter_true (l : List Int) : l.filter (fun _ => true) = l := List.filter_eq_self.mpr fun _ _ => rfl
theorem s_normal_of {p : Int} {l : List Int} (hp : Pr p) (hd' : Dm p l) (hl : l.length ≤ 1000) (h : MH) : m_normal_of [.int p, tz l] h = .ok (tz (nrm p l)) h := by
  obtain ⟨r, er⟩ := nz_list l
  have fl := filter_len l nzP
  unfold m_normal_of
  rw [mFn_ap (show [D.int p, tz l].length = 2 from rfl), show startM 6 [D.int p, tz l] = [some (.int p), some (tz l), none, none, none, none] from rfl, mSeq_ap, mAsg_ap, mBin_ap, mLst_ap, mStar_ap, mLc_ap, mSrc_ap, mVar_ap]
  have s : (srcS (tz l) h) = .ok ⟨zs l, none⟩ h := rfl
  have ck : (Src.mk (zs l) none).chk = fun _ => true := rfl
  simp only [List.getElem?_cons_zero, List.getElem?_cons_succ, bind_ok, s, wipe_cons, wipe_nil, List.set, ck]
  rw [loopC_ints (q := nzP) (F := D.int) rfl l (fun i _ => by simp) (by omega)]
  simp only [bind_ok, seqOf_lst, mCons_ap, mC_ap, mNil_ap, er]
  rw [if_pos (by
    have e2 := congrArg List.length er
    rw [List.length_append, List.length_map] at e2
    simp only [List.length_singleton] at e2
    rw [← e2]
    omega)]
  simp only [bind_ok, vIx_lst, atI_0, toF_ok, gN_ap, ofG_some, List.set, seq_nx]
  by_cases h0 : hd l = 0
  · have e : nrm p l = l := by unfold nrm; rw [if_pos h0]
    rw [e]
    simp [h0]
  · by_cases p0 : p = 0
    · subst p0
      have gp := gL_pos h0
      have gs := gL_sm (hd'.1 rfl) h0
      have e : nrm 0 l = l.map (fun x => fDiv x (sg (hd l) (gL l))) := by unfold nrm; rw [if_neg h0, if_pos rfl]
      have dv : ∀ i : Int, vDiv (.int i) (.int (sg (hd l) (gL l))) h = .ok (.int (fDiv i (sg (hd l) (gL l)))) h := fun i => vDiv_i (div_ok (sg_sm gs) (sg_ne (by omega)))
      have s1 : ∀ ρ : Env1, ρ[1]? = some (some (tz l)) → ρ[2]? = some (some (.int (hd l))) → mIf (mTest (mBin vGt (mVar 2) (mC (.int 0)))) (mCallD 1 m_divisor_of [] (mCons (mVar 1) mNil)) (mUn vNeg (mCallD 1 m_divisor_of [] (mCons (mVar 1) mNil))) ρ h = .ok (.int (sg (hd l) (gL l))) h := fun ρ e1 e2 => by
        unfold sg
        by_cases q : 0 < hd l <;> simp [e1, e2, q, s_divisor]
      simp only [mSeq_ap, mIfS_ap, mTest_ap, mBin_ap, mVar_ap, mC_ap, List.getElem?_cons_zero, List.getElem?_cons_succ, bind_ok, vEq_i, vNe_i, asB_bl, toF_ok, h0, decide_false, decide_true, Bool.not_true, mNext_ap, seq_nx]
      rw [mAsg_ap, s1 _ rfl rfl, toF_ok, gN_ap, ofG_some, seq_nx]
      dsimp only [List.set]
      rw [mRet_ap, mCall_ap, mCons_ap, mLc_ap, mSrc_ap, mVar_ap]
      simp only [List.getElem?_cons_zero, List.getElem?_cons_succ, bind_ok, s, wipe_cons, wipe_nil, List.set, ck]
      rw [loopC_ints (q := fun _ => true) (F := fun i => .int (fDiv i (sg (hd l) (gL l)))) rfl l (fun i _ => by simp [dv]) (by omega), filter_true]
      simp only [bind_ok, mNil_ap, vOne_ap, vTuple_lst, toF_ok, fnOut_rt, e]
      show R.ok (D.tup _) h = R.ok (D.tup (List.map D.int (List.map _ l))) h
      rw [List.map_map]
      rfl
    · have pq : Pq p := hp.resolve_left p0
      have pp := pq.pos
      have hr := hd'.2 p0
      obtain ⟨a1, a2⟩ := hd_rg hr h0
      have iv := inv_ok pq a1 a2
      have e := nrm_p pq h0
      have dv : ∀ i ∈ l, vMul (.int i) (.int (inv p (hd l))) h = .ok (.int (i * inv p (hd l))) h := fun i hi => by
        have := hr i hi
        exact mul_small (by omega) (by omega) (by omega) (by omega)
      have md : ∀ i : Int, vMod (.int i) (.int p) h = .ok (.int (i % p)) h := fun i => by rw [vMod_i p0, fMod_pos (by omega)]
      have si := s_inverse pq a1 a2 h
      simp only [mSeq_ap, mIfS_ap, mTest_ap, mBin_ap, mVar_ap, mC_ap, List.getElem?_cons_zero, List.getElem?_cons_succ, bind_ok, vEq_i, vNe_i, asB_bl, toF_ok, h0, p0, decide_false, decide_true, Bool.not_true, Bool.not_false, mNext_ap, seq_nx, mAsg_ap, mCallD_ap, mCons_ap, mNil_ap, List.append_nil, List.length, Nat.zero_add, Nat.reduceAdd, if_true, si, gN_ap, ofG_some, List.set]
      rw [mRet_ap, mCall_ap, mCons_ap, mLc_ap, mSrc_ap, mVar_ap]
      simp only [List.getElem?_cons_zero, List.getElem?_cons_succ, bind_ok, s, wipe_cons, wipe_nil, List.set, ck]
      rw [loopC_ints (q := fun _ => true) (F := fun i => .int (i * inv p (hd l) % p)) rfl l (fun i hi => by simp [dv i hi, md]) (by omega), filter_true]
      simp only [bind_ok, mNil_ap, vOne_ap, vTuple_lst, toF_ok, fnOut_rt, seq_rt, e]
      show R.ok (D.tup _) h = R.ok (D.tup (List.map D.int (List.map _ l))) h
      rw [List.map_map]
      rfl
end G
namespace G
open PySem PySem.Spec PyProof.Rows L2 MI
theorem b60_sm {x : Int} (h : nk 0 x = true) : Sm x := by
  unfold nk at h
  rw [if_pos rfl, Bool.and_eq_true, decide_eq_true_eq, decide_eq_true_eq] at h
  have : (10 : Int) ^ 250 ≥ B60 := by decide +kernel
  exact sm_of (by omega) (by omega)
theorem nk_dm {p : Int} {l : List Int} (h : ∀ i ∈ l, nk p i = true) : Dm p l := by
  refine ⟨fun e i hi => ?_, fun e i hi => ?_⟩
  · subst e; exact b60_sm (h i hi)
  · have := h i hi
    unfold nk at this
    rw [if_neg e, Bool.and_eq_true, decide_eq_true_eq, decide_eq_true_eq] at this
    exact this
theorem isi_tup {l : List D} {h : MH} : vIsi (.tup l) (.ty "tuple") h = .ok (.bl true) h := rfl
theorem any_nz {l : List Int} (h : hd l ≠ 0) : (l.any fun i => !decide (i = 0)) = true := by
  rw [List.any_eq_true]
  exact ⟨hd l, hd_mem h, by simp [h]⟩
/-! gcd -/
abbrev gT' : MT := mTest (mBin vGt (mVar 3) (mC (.int 0)))
abbrev gB' : MS := mPar 1 3 (mVar 3) (mBin vMod (mVar 1) (mVar 3))
theorem gcd_step {a b : Nat} (hb : 0 < b) : Nat.gcd a b = Nat.gcd b (a % b) := by rw [Nat.gcd_comm a b, Nat.gcd_rec b a, Nat.gcd_comm]
theorem gcd_loop {x y : Option D} {H : MH} : ∀ (k n a b : Nat), b < 2 ^ k → 2 * k < n →
    loopW gT' gB' n [x, some (.int (a : Nat)), y, some (.int (b : Nat))] H = .nx [x, some (.int ((Nat.gcd a b : Nat) : Int)), y, some (.int 0)] H
  | k, n, a, 0, _, hn => by
    cases n with
    | zero => omega
    | succ n => unfold loopW; simp
  | 0, n, a, b + 1, hb, hn => by simp at hb
  | k + 1, n, a, b + 1, hb, hn => by
    obtain ⟨m, rfl⟩ : ∃ m, n = m + 2 := ⟨n - 2, by omega⟩
    have e1 : fMod ((a : Nat) : Int) ((b + 1 : Nat) : Int) = ((a % (b + 1) : Nat) : Int) := by rw [fMod_pos (by omega), ← Int.natCast_emod]
    rw [gcd_step (by omega : 0 < b + 1)]
    have st : loopW gT' gB' (m + 2) [x, some (.int (a : Nat)), y, some (.int ((b + 1 : Nat) : Int))] H = loopW gT' gB' (m + 1) [x, some (.int ((b + 1 : Nat) : Int)), y, some (.int ((a % (b + 1) : Nat) : Int))] H := by
      rw [loopW]
      have h0 : (0 : Int) < ((b + 1 : Nat) : Int) := by omega
      have hm := vMod_i (i := ((a : Nat) : Int)) (h := H) (show ((b + 1 : Nat) : Int) ≠ 0 by omega)
      rw [e1] at hm
      simp only [mTest_ap, mBin_ap, mVar_ap, mC_ap, List.getElem?_cons_succ, List.getElem?_cons_zero, bind_ok, vGt_i, h0, decide_true, asB_bl, toF_ok, mPar_ap, hm, List.set]
    rw [st]
    cases hr : a % (b + 1) with
    | zero =>
      unfold loopW
      simp
    | succ r =>
      have e2 : fMod ((b + 1 : Nat) : Int) ((r + 1 : Nat) : Int) = (((b + 1) % (r + 1) : Nat) : Int) := by rw [fMod_pos (by omega), ← Int.natCast_emod]
      have st2 : loopW gT' gB' (m + 1) [x, some (.int ((b + 1 : Nat) : Int)), y, some (.int ((r + 1 : Nat) : Int))] H = loopW gT' gB' m [x, some (.int ((r + 1 : Nat) : Int)), y, some (.int (((b + 1) % (r + 1) : Nat) : Int))] H := by
        rw [loopW]
        have h0 : (0 : Int) < ((r + 1 : Nat) : Int) := by omega
        have hm := vMod_i (i := ((b + 1 : Nat) : Int)) (h := H) (show ((r + 1 : Nat) : Int) ≠ 0 by omega)
        rw [e2] at hm
        simp only [mTest_ap, mBin_ap, mVar_ap, mC_ap, List.getElem?_cons_succ, List.getElem?_cons_zero, bind_ok, vGt_i, h0, decide_true, asB_bl, toF_ok, mPar_ap, hm, List.set]
      rw [st2, gcd_step (by omega : 0 < r + 1)]
      have hlt : r + 1 < b + 1 := by rw [← hr]; exact Nat.mod_lt _ (by omega)
      have h2 : (b + 1) % (r + 1) < 2 ^ k := by
        have a1 := Nat.mod_lt (b + 1) (by omega : 0 < r + 1)
        have a2 := Nat.div_add_mod (b + 1) (r + 1)
        have a3 : 1 ≤ (b + 1) / (r + 1) := (Nat.one_le_div_iff (by omega)).mpr (by omega)
        have a4 : (r + 1) * 1 ≤ (r + 1) * ((b + 1) / (r + 1)) := Nat.mul_le_mul_left _ a3
        rw [Nat.pow_succ] at hb
        omega
      exact gcd_loop k m (r + 1) ((b + 1) % (r + 1)) h2 (by omega)
theorem com_loop {x : Option D} {chk : MH → Bool} {h : MH} (hc : ∀ h, chk h = true) : ∀ (l : List Int) (g : Nat) (x2 x3 : Option D), (∀ i ∈ l, Sm i) → ∃ y z, loopF (gN 2) (mSeq (mAsg (mCall (vOne MI.vAbs) (mCons (mVar 2) mNil)) (gN 3)) (mWhile 4000 gT' gB')) chk (zs l) [x, some (.int (g : Nat)), x2, x3] h = .nx [x, some (.int ((gcdF g l : Nat) : Int)), y, z] h
  | [], g, x2, x3, _ => ⟨x2, x3, by simp [loopF, hc, gcdF]⟩
  | i :: r, g, x2, x3, hs => by
    obtain ⟨y, z, e⟩ := com_loop hc r (Nat.gcd g i.natAbs) (some (.int i)) (some (.int 0)) (fun j hj => hs j (List.mem_cons_of_mem _ hj))
    refine ⟨y, z, ?_⟩
    have gl := gcd_loop (x := x) (y := some (.int i)) (H := h) 1000 4000 g i.natAbs (hs i List.mem_cons_self) (by omega)
    rw [zs, List.map_cons, loopF]
    simp only [hc, if_true, gN_ap, List.set, mSeq_ap, mAsg_ap, mCall_ap, mCons_ap, mVar_ap, mNil_ap, List.getElem?_cons_zero, List.getElem?_cons_succ, bind_ok, vOne_ap, vAbs_i, abs_nat, toF_ok, ofG_some, seq_nx, mWhile, gl]
    exact e
theorem s_common {l : List Int} {d : D} (hd' : d = tz l ∨ d = lz l) (hs : ∀ i ∈ l, Sm i) (h : MH) : m_law_common [d] h = .ok (.int (gL l)) h := by
  obtain ⟨y, z, e⟩ := com_loop (x := some d) (chk := fun _ => true) (h := h) (fun _ => rfl) l 0 none none hs
  unfold m_law_common
  rw [mFn_ap (show [d].length = 1 from rfl), show startM 4 [d] = [some d, none, none, none] from rfl, mSeq_ap, mAsg_ap, mC_ap, toF_ok, gN_ap, ofG_some, seq_nx]
  dsimp only [List.set]
  rw [mSeq_ap, mFor_ap, mSrc_ap, mVar_ap]
  have s : (srcS d h) = .ok ⟨zs l, none⟩ h := by rcases hd' with rfl | rfl <;> rfl
  simp only [List.getElem?_cons_zero, bind_ok, s, toF_ok]
  have ck : (Src.mk (zs l) none).chk = fun _ => true := rfl
  simp only [Int.natCast_zero] at e
  rw [ck, e]
  rfl
end G
namespace G
open PySem PySem.Spec PyProof.Rows L2 MI
theorem filter_hd : ∀ {l : List Int}, hd l ≠ 0 → ∃ r, l.filter nzP = hd l :: r
  | [], h => absurd rfl h
  | i :: r, h => by
    by_cases h0 : i = 0
    · have q : hd (i :: r) = hd r := by simp [hd, h0]
      rw [q] at h
      obtain ⟨t, e⟩ := filter_hd h
      exact ⟨t, by rw [q]; simpa [h0] using e⟩
    · exact ⟨r.filter nzP, by simp [h0, hd]⟩
theorem eq_nil {l : List Int} (h0 : l ≠ []) (h : MH) : vEq (lz l) (.lst []) h = .ok (.bl false) h := by
  have e := vEq_lsts l [] h
  rw [List.map_nil] at e
  rw [e]
  simp [h0]
def lw (p x : Int) : Int := if p = 0 then x else x % p
theorem lw_mod (p x : Int) : lw p x = x % p := by
  unfold lw
  split
  · rename_i e; rw [e, Int.emod_zero]
  · rfl
theorem s_law_normal {p : Int} {l0 : List Int} (hp : Pr p) (hd' : Dm p (l0.map (lw p))) (hl : l0.length ≤ 1000) (h0 : hd (l0.map (lw p)) ≠ 0) (h : MH) : m_law_normal [.int p, tz l0] h = .ok (tz (nrm p (l0.map (lw p)))) h := by
  have s : (srcS (tz l0) h) = .ok ⟨zs l0, none⟩ h := rfl
  have hll : (l0.map (lw p)).length ≤ 1000 := by rw [List.length_map]; exact hl
  have ck : ∀ l : List Int, (Src.mk (zs l) none).chk = fun _ => true := fun _ => rfl
  obtain ⟨r, er⟩ := filter_hd h0
  unfold m_law_normal
  rw [mFn_ap (show [D.int p, tz l0].length = 2 from rfl), show startM 7 [D.int p, tz l0] = [some (.int p), some (tz l0), none, none, none, none, none] from rfl, mSeq_ap, mAsg_ap, mLc_ap, mSrc_ap, mVar_ap]
  simp only [List.getElem?_cons_zero, List.getElem?_cons_succ, bind_ok, s, wipe_cons, wipe_nil, List.set, ck]
  rw [loopC_ints (q := fun _ => true) (F := fun i => D.int (lw p i)) rfl l0 (fun i hi => by simp [s_low i hp.nn.1, lw]) (by omega), filter_true]
  have em : l0.map (fun i => D.int (lw p i)) = (l0.map (lw p)).map D.int := by rw [List.map_map]; rfl
  rw [em]
  clear em s
  generalize l0.map (lw p) = l at *
  simp only [bind_ok, toF_ok, gN_ap, ofG_some, List.set, seq_nx]
  rw [mSeq_ap, mAsg_ap, mLc_ap, mSrc_ap, mVar_ap]
  have s2 : (srcS (.lst (l.map D.int)) h) = .ok ⟨zs l, none⟩ h := rfl
  simp only [List.getElem?_cons_zero, List.getElem?_cons_succ, bind_ok, s2, wipe_cons, wipe_nil, List.set, ck]
  rw [loopC_ints (q := nzP) (F := D.int) rfl l (fun i hi => by simp) (by omega)]
  have en : vEq (.lst (List.map D.int (l.filter nzP))) (.lst []) h = .ok (.bl false) h := eq_nil (l := l.filter nzP) (by rw [er]; simp) h
  have ix : vIx (.lst (List.map D.int (l.filter nzP))) (.int 0) h = .ok (.int (hd l)) h := by rw [er]; simp
  simp only [bind_ok, toF_ok, gN_ap, ofG_some, List.set, seq_nx]
  generalize hF : (List.map D.int (List.filter nzP l)) = F at *
  have nil0 : mLst mNil = fun (ρ : Env1) (h : MH) => R.ok (D.lst []) h := by funext ρ h; simp
  by_cases p0 : p = 0
  · subst p0
    have gp := gL_pos h0
    have gs := gL_sm (hd'.1 rfl) h0
    have e : nrm 0 l = l.map (fun x => fDiv x (sg (hd l) (gL l))) := by unfold nrm; rw [if_neg h0, if_pos rfl]
    have dv : ∀ i : Int, vDiv (.int i) (.int (sg (hd l) (gL l))) h = .ok (.int (fDiv i (sg (hd l) (gL l)))) h := fun i => vDiv_i (div_ok (sg_sm gs) (sg_ne (by omega)))
    have cm := s_common (l := l) (d := .lst (l.map D.int)) (.inr rfl) (hd'.1 rfl) h
    simp only [mSeq_ap, mIfS_ap, mTest_ap, mBin_ap, mVar_ap, mC_ap, nil0, List.getElem?_cons_zero, List.getElem?_cons_succ, bind_ok, en, vNe_i, asB_bl, toF_ok, decide_true, Bool.not_true, mNext_ap, seq_nx, mAsg_ap, mCallD_ap, mCons_ap, mNil_ap, List.append_nil, List.length, Nat.zero_add, if_true, cm, gN_ap, ofG_some, List.set]
    have s1 : ∀ ρ : Env1, ρ[3]? = some (some (.lst F)) → ρ[5]? = some (some (.int (gL l))) → mIf (mTest (mBin vGt (mBin vIx (mVar 3) (mC (.int 0))) (mC (.int 0)))) (mVar 5) (mUn vNeg (mVar 5)) ρ h = .ok (.int (sg (hd l) (gL l))) h := fun ρ e1 e2 => by
      have ix' : vIx (.lst F) (.int 0) h = .ok (.int (hd l)) h := ix
      unfold sg
      simp only [mIf_ap, mTest_ap, mBin_ap, mVar_ap, e1, e2, mC_ap, bind_ok, ix', vGt_i, asB_bl]
      by_cases q : 0 < hd l <;> simp [q, e2]
    rw [s1 _ rfl rfl, toF_ok, seq_nx]
    rw [mRet_ap, mCall_ap, mCons_ap, mLc_ap, mSrc_ap, mVar_ap]
    simp only [List.getElem?_cons_zero, List.getElem?_cons_succ, bind_ok, s2, wipe_cons, wipe_nil, List.set, ck]
    rw [loopC_ints (q := fun _ => true) (F := fun i => .int (fDiv i (sg (hd l) (gL l)))) rfl l (fun i _ => by simp [dv]) (by omega), filter_true]
    simp only [bind_ok, mNil_ap, vOne_ap, vTuple_lst, toF_ok, fnOut_rt, e]
    show R.ok (D.tup _) h = R.ok (D.tup (List.map D.int (List.map _ l))) h
    rw [List.map_map]
    rfl
  · have pq : Pq p := hp.resolve_left p0
    have pp := pq.pos
    have hr := hd'.2 p0
    obtain ⟨a1, a2⟩ := hd_rg hr h0
    have iv := inv_ok pq a1 a2
    have e := nrm_p pq h0
    have dv : ∀ i ∈ l, vMul (.int i) (.int (inv p (hd l))) h = .ok (.int (i * inv p (hd l))) h := fun i hi => by
      have := hr i hi
      exact mul_small (by omega) (by omega) (by omega) (by omega)
    have md : ∀ i : Int, vMod (.int i) (.int p) h = .ok (.int (i % p)) h := fun i => by rw [vMod_i p0, fMod_pos (by omega)]
    have si := s_back pq a1 a2 h
    have ix' : vIx (.lst F) (.int 0) h = .ok (.int (hd l)) h := ix
    simp only [mSeq_ap, mIfS_ap, mTest_ap, mBin_ap, mVar_ap, mC_ap, nil0, List.getElem?_cons_zero, List.getElem?_cons_succ, bind_ok, en, vNe_i, p0, asB_bl, toF_ok, decide_false, Bool.not_false, mNext_ap, seq_nx, mAsg_ap, mCallD_ap, mCons_ap, mNil_ap, ix', List.append_nil, List.length, Nat.zero_add, Nat.reduceAdd, if_true, si, gN_ap, ofG_some, List.set]
    rw [mRet_ap, mCall_ap, mCons_ap, mLc_ap, mSrc_ap, mVar_ap]
    simp only [List.getElem?_cons_zero, List.getElem?_cons_succ, bind_ok, s2, wipe_cons, wipe_nil, List.set, ck]
    rw [loopC_ints (q := fun _ => true) (F := fun i => .int (i * inv p (hd l) % p)) rfl l (fun i hi => by simp [dv i hi, md]) (by omega), filter_true]
    simp only [bind_ok, mNil_ap, vOne_ap, vTuple_lst, toF_ok, fnOut_rt, seq_rt, e]
    show R.ok (D.tup _) h = R.ok (D.tup (List.map D.int (List.map _ l))) h
    rw [List.map_map]
    rfl
end G
namespace G
open PySem PySem.Spec PyProof.Rows L2 MI
/-! spots, brackets, ratios: what the program computes -/
abbrev tp (s : Int × Int) : D := .tup [.int s.1, .int s.2]
structure Spo (p : Int) (s : Int × Int) : Prop where
  sp : Spt p s.1 s.2
  md : (-10000000 ≤ s.1 ∧ s.1 ≤ 10000000) ∧ (-10000000 ≤ s.2 ∧ s.2 ≤ 10000000)
  rg : p ≠ 0 → (0 ≤ s.1 ∧ s.1 < p) ∧ (0 ≤ s.2 ∧ s.2 < p)
theorem Pr.pz {p : Int} (hp : Pr p) : Pz p := hp
section
variable {p : Int} {s t u v : Int × Int} {h : MH}
theorem Spo.dm (a : Spo p s) : Dm p [s.1, s.2] := by
  refine ⟨fun e i hi => ?_, fun e i hi => ?_⟩
  · rcases List.mem_cons.mp hi with rfl | hi
    · exact sm40 (by have := a.md; omega) (by have := a.md; omega)
    · rw [List.mem_singleton] at hi
      subst hi
      exact sm40 (by have := a.md; omega) (by have := a.md; omega)
  · have := a.rg e
    rcases List.mem_cons.mp hi with rfl | hi
    · exact this.1
    · rw [List.mem_singleton] at hi
      subst hi
      exact this.2
theorem Spo.nk (a : Spo p s) : nk p s.1 = true ∧ nk p s.2 = true := by
  unfold G.nk
  have hb : B60 = 1000000000000000000000000000000000000000000000000000000000000 := rfl
  by_cases e : p = 0
  · have := a.md
    simp [e]
    omega
  · have := a.rg e
    simp [e]
    omega
theorem Spo.nm (a : Spo p s) : nrm p [s.1, s.2] = [s.1, s.2] := by
  have e := a.sp.n
  unfold NP at e
  by_cases q : p = 0
  · subst q
    rwa [Int.emod_zero, Int.emod_zero] at e
  · have := a.rg q
    rwa [Int.emod_eq_of_lt this.1.1 this.1.2, Int.emod_eq_of_lt this.2.1 this.2.2] at e
theorem Spo.n0 (a : Spo p s) : ¬ (s.1 = 0 ∧ s.2 = 0) := fun z => a.sp.z (by rw [z.1, z.2]; exact ⟨Int.dvd_zero p, Int.dvd_zero p⟩)
theorem s_couple (a : Spo p s) : m_is_couple [.int p, tp s] h = .ok (.bl true) h := by
  have sr : (srcS (tp s) h) = .ok ⟨zs [s.1, s.2], none⟩ h := rfl
  have ck : (Src.mk (zs [s.1, s.2]) none).chk = fun _ => true := rfl
  have vl : vLen (tp s) h = .ok (.int 2) h := rfl
  have nk := a.nk
  have al : [s.1, s.2].all (G.nk p) = true := by simp [nk.1, nk.2]
  unfold m_is_couple
  rw [mFn_ap (show [D.int p, tp s].length = 2 from rfl), show startM 3 [D.int p, tp s] = [some (.int p), some (tp s), none] from rfl, mRet_ap, mAnd_ap]
  simp only [mCall_ap, mCons_ap, mVar_ap, mC_ap, mNil_ap, List.getElem?_cons_zero, List.getElem?_cons_succ, bind_ok, vTwo_ap, isi_tup, mAnd_ap, mBin_ap, vOne_ap, vl, vEq_i, decide_true]
  rw [mLc_ap, mSrc_ap, mVar_ap]
  simp only [List.getElem?_cons_zero, List.getElem?_cons_succ, bind_ok, sr, wipe_cons, wipe_nil, List.set, ck]
  rw [loopC_ints (q := fun _ => true) (F := fun i => .bl (G.nk p i)) rfl [s.1, s.2] (fun i _ => by simp [s_nof]) (by simp), filter_true]
  simp only [bind_ok, vOne_ap, vAll_bls, al, toF_ok, fnOut_rt]
theorem s_spot (hp : Pr p) (a : Spo p s) : m_is_spot [.int p, tp s] h = .ok (.bl true) h := by
  have sr : (srcS (tp s) h) = .ok ⟨zs [s.1, s.2], none⟩ h := rfl
  have ck : (Src.mk (zs [s.1, s.2]) none).chk = fun _ => true := rfl
  have e0 : vEq (tp s) (.tup [.int 0, .int 0]) h = .ok (.bl false) h := by
    have := vEq_tups [s.1, s.2] [0, 0] h
    rw [show decide ([s.1, s.2] = [0, 0]) = false from decide_eq_false fun z => a.n0 (by simpa using z)] at this
    exact this
  have en : vEq (tz (nrm p [s.1, s.2])) (tp s) h = .ok (.bl true) h := by
    rw [a.nm]
    have := vEq_tups [s.1, s.2] [s.1, s.2] h
    rw [decide_eq_true rfl] at this
    exact this
  have no := s_normal_of (l := [s.1, s.2]) hp a.dm (by simp) h
  have no : m_normal_of [.int p, tp s] h = .ok (tz (nrm p [s.1, s.2])) h := no
  have bd := a.md
  have al : [s.1, s.2].all (fun i => decide (-10000000 ≤ i) && decide (i ≤ 10000000)) = true := by simp; omega
  unfold m_is_spot
  rw [mFn_ap (show [D.int p, tp s].length = 2 from rfl), show startM 3 [D.int p, tp s] = [some (.int p), some (tp s), none] from rfl, mSeq_ap, mIfS_ap, mOrT_ap, mNotT_ap, mTest_ap]
  simp only [mCallD_ap, mCons_ap, mVar_ap, mNil_ap, List.getElem?_cons_zero, List.getElem?_cons_succ, bind_ok, List.append_nil, List.length, Nat.zero_add, Nat.reduceAdd, if_true, s_couple a, asB_bl, Bool.not_true, mTest_ap, mBin_ap, mTup_ap, mC_ap]
  rw [if_pos (by decide)]
  simp only [bind_ok, e0, asB_bl, toF_ok, mNext_ap, seq_nx, mRet_ap, mAnd_ap, mCall_ap, mCons_ap]
  rw [mLc_ap, mSrc_ap, mVar_ap]
  simp only [List.getElem?_cons_zero, List.getElem?_cons_succ, bind_ok, sr, wipe_cons, wipe_nil, List.set, ck]
  rw [loopC_ints (q := fun _ => true) (F := fun i => .bl (decide (-10000000 ≤ i) && decide (i ≤ 10000000))) rfl [s.1, s.2] (fun i _ => by by_cases q : -10000000 ≤ i <;> simp [q]) (by simp), filter_true]
  simp only [bind_ok, mNil_ap, vOne_ap, vAll_bls, al, mBin_ap, mCallD_ap, mCons_ap, mVar_ap, List.getElem?_cons_zero, List.getElem?_cons_succ, List.append_nil, List.length, Nat.zero_add, Nat.reduceAdd, if_true, no, en, toF_ok, fnOut_rt]
abbrev B2 (s t : Int × Int) : Int := br s.1 s.2 t.1 t.2
theorem mul_bd {a b : Int} {m n : Nat} (h1 : a.natAbs ≤ m) (h2 : b.natAbs ≤ n) : (a * b).natAbs ≤ m * n := by rw [Int.natAbs_mul]; exact Nat.mul_le_mul h1 h2
theorem Spo.ab (a : Spo p s) : s.1.natAbs ≤ 10000000 ∧ s.2.natAbs ≤ 10000000 := by have := a.md; omega
theorem B2_bd (a : Spo p s) (b : Spo p t) : (B2 s t).natAbs ≤ 200000000000000 := by
  have x := mul_bd a.ab.1 b.ab.2
  have y := mul_bd a.ab.2 b.ab.1
  unfold B2 br
  omega
theorem s_bracket (a : Spo p s) (b : Spo p t) : m_bracket [tp s, tp t] h = .ok (.int (B2 s t)) h := by
  have x := a.ab
  have y := b.ab
  have m1 := vMul_i (h := h) (mul_ok (i := s.1) (j := t.2) (sm40 (by omega) (by omega)) (sm40 (by omega) (by omega)))
  have m2 := vMul_i (h := h) (mul_ok (i := s.2) (j := t.1) (sm40 (by omega) (by omega)) (sm40 (by omega) (by omega)))
  simp [m_bracket, m1, m2, br]
theorem s_lbracket (a : Spo p s) (b : Spo p t) : m_law_bracket [tp s, tp t] h = .ok (.int (B2 s t)) h := by
  have x := a.ab
  have y := b.ab
  have m1 := vMul_i (h := h) (mul_ok (i := s.1) (j := t.2) (sm40 (by omega) (by omega)) (sm40 (by omega) (by omega)))
  have m2 := vMul_i (h := h) (mul_ok (i := s.2) (j := t.1) (sm40 (by omega) (by omega)) (sm40 (by omega) (by omega)))
  simp [m_law_bracket, m1, m2, br]
theorem s_lowby (hp : Pr p) (x : Int) : m_lowered_by [.int p, .int x] h = .ok (.int (x % p)) h := by
  by_cases e : p = 0
  · subst e; simp [m_lowered_by]
  · simp [m_lowered_by, e, vMod_i e, fMod_pos (by have := hp.nn; omega : 0 < p)]
theorem dm_mod (hp : Pr p) {a b : Int} (ha : a.natAbs ≤ 200000000000000 * 200000000000000) (hb : b.natAbs ≤ 200000000000000 * 200000000000000) : Dm p [a % p, b % p] := by
  refine ⟨fun e i hi => ?_, fun e => rg2 (hp.resolve_left e)⟩
  subst e
  rw [Int.emod_zero, Int.emod_zero] at hi
  rcases List.mem_cons.mp hi with rfl | hi
  · exact sm40 (by omega) (by omega)
  · rw [List.mem_singleton] at hi
    subst hi
    exact sm40 (by omega) (by omega)
abbrev top4 (s t u v : Int × Int) : Int := B2 s u * B2 t v
abbrev bot4 (s t u v : Int × Int) : Int := B2 s v * B2 t u
abbrev CR (p : Int) (s t u v : Int × Int) : List Int := NP p (top4 s t u v) (bot4 s t u v)
abbrev t4 (s t u v : Int × Int) : D := .tup [tp s, tp t, tp u, tp v]
theorem B2_sm (a : Spo p s) (b : Spo p t) : Sm (B2 s t) := by
  have := B2_bd a b
  exact sm40 (by omega) (by omega)
theorem s_ratio (hp : Pr p) (a : Spo p s) (b : Spo p t) (c : Spo p u) (d : Spo p v) : m_ratio_of [.int p, t4 s t u v] h = .ok (tz (CR p s t u v)) h := by
  have m1 := vMul_i (h := h) (mul_ok (B2_sm a c) (B2_sm b d))
  have m2 := vMul_i (h := h) (mul_ok (B2_sm a d) (B2_sm b c))
  have no := s_normal_of (l := [top4 s t u v % p, bot4 s t u v % p]) hp (dm_mod hp (mul_bd (B2_bd a c) (B2_bd b d)) (mul_bd (B2_bd a d) (B2_bd b c))) (by simp) h
  have no : m_normal_of [.int p, .tup [.int (top4 s t u v % p), .int (bot4 s t u v % p)]] h = .ok (tz (CR p s t u v)) h := no
  unfold m_ratio_of
  rw [mFn_ap (show [D.int p, t4 s t u v].length = 2 from rfl), show startM 8 [D.int p, t4 s t u v] = [some (.int p), some (t4 s t u v), none, none, none, none, none, none] from rfl, mSeq_ap, mAsg_ap, mVar_ap]
  simp only [List.getElem?_cons_zero, List.getElem?_cons_succ, toF_ok, gTA_tup, List.length, Nat.zero_add, Nat.reduceAdd, if_true, gsCons_ap, gN_ap, List.set, Option.bind_some, gsNil_ap, ofG_some, seq_nx]
  rw [mSeq_ap, mPar_ap]
  simp only [mBin_ap, mCallD_ap, mCons_ap, mVar_ap, mNil_ap, List.getElem?_cons_zero, List.getElem?_cons_succ, bind_ok, List.append_nil, List.length, Nat.zero_add, Nat.reduceAdd, if_true, s_bracket a c, s_bracket b d, s_bracket a d, s_bracket b c, m1, m2, toF_ok, List.set, seq_nx]
  simp only [mRet_ap, mCallD_ap, mCons_ap, mVar_ap, mNil_ap, mTup_ap, List.getElem?_cons_zero, List.getElem?_cons_succ, bind_ok, List.append_nil, List.length, Nat.zero_add, Nat.reduceAdd, if_true, s_lowby hp]
  rw [if_pos (by decide)]
  simp only [bind_ok, List.length, Nat.zero_add, Nat.reduceAdd, if_true, no, toF_ok, fnOut_rt]
/-- what a law's row is -/
theorem s_lnorm (hp : Pr p) {a b : Int} (ha : a.natAbs ≤ 200000000000000 * 200000000000000) (hb : b.natAbs ≤ 200000000000000 * 200000000000000) (z : ¬ Z2 p a b) : m_law_normal [.int p, .tup [.int a, .int b]] h = .ok (tz (NP p a b)) h := by
  have e : [a, b].map (lw p) = [a % p, b % p] := by simp [lw_mod]
  have q := s_law_normal (l0 := [a, b]) hp (by rw [e]; exact dm_mod hp ha hb) (by simp) (by rw [e]; exact hd2 z) h
  rw [e] at q
  exact q
theorem s_lcross (hp : Pr p) (a : Spo p s) (b : Spo p t) (c : Spo p u) (d : Spo p v) (z : ¬ Z2 p (top4 s t u v) (bot4 s t u v)) : m_law_cross_ratio [.int p, t4 s t u v] h = .ok (tz (CR p s t u v)) h := by
  have m1 := vMul_i (h := h) (mul_ok (B2_sm a c) (B2_sm b d))
  have m2 := vMul_i (h := h) (mul_ok (B2_sm a d) (B2_sm b c))
  have no := s_lnorm (h := h) hp (mul_bd (B2_bd a c) (B2_bd b d)) (mul_bd (B2_bd a d) (B2_bd b c)) z
  unfold m_law_cross_ratio
  rw [mFn_ap (show [D.int p, t4 s t u v].length = 2 from rfl), show startM 7 [D.int p, t4 s t u v] = [some (.int p), some (t4 s t u v), none, none, none, none, none] from rfl, mSeq_ap, mAsg_ap, mVar_ap]
  simp only [List.getElem?_cons_zero, List.getElem?_cons_succ, toF_ok, gTA_tup, List.length, Nat.zero_add, Nat.reduceAdd, if_true, gsCons_ap, gN_ap, List.set, Option.bind_some, gsNil_ap, ofG_some, seq_nx]
  rw [mSeq_ap, mAsg_ap]
  simp only [mBin_ap, mCallD_ap, mCons_ap, mVar_ap, mNil_ap, List.getElem?_cons_zero, List.getElem?_cons_succ, bind_ok, List.append_nil, List.length, Nat.zero_add, Nat.reduceAdd, if_true, s_lbracket a c, s_lbracket b d, m1, toF_ok, gN_ap, ofG_some, List.set, seq_nx]
  simp only [mRet_ap, mCallD_ap, mCons_ap, mVar_ap, mNil_ap, mTup_ap, mBin_ap, List.getElem?_cons_zero, List.getElem?_cons_succ, bind_ok, List.append_nil, List.length, Nat.zero_add, Nat.reduceAdd, if_true, s_lbracket a d, s_lbracket b c, m2]
  rw [if_pos (by decide)]
  simp only [bind_ok, List.length, Nat.zero_add, Nat.reduceAdd, if_true, no, toF_ok, fnOut_rt]
/-! four unlike spots -/
theorem tp_eqb : D.eqb (tp s) (tp t) = decide (s = t) := by
  obtain ⟨a, b⟩ := s
  obtain ⟨c, d⟩ := t
  show ((a == c) && ((b == d) && true)) = _
  by_cases e1 : a = c <;> by_cases e2 : b = d <;> simp [e1, e2]
abbrev dcK : ME := mDc false (mSrc (mVar 1) srcS) (gN 2) mYes (mVar 2) (mC (.bl true)) [2]
theorem ok_tp : okKey false (tp s) = true := rfl
theorem loopD_tp {x y : Option D} {s : Int × Int} {h : MH} {r ks vs : List D} {chk : MH → Bool} (hc : chk h = true) (hl : ks.length < 16777216) :
    loopD false (gN 2) mYes (mVar 2) (mC (.bl true)) [x, y, none] chk (tp s :: r) ks vs h = loopD false (gN 2) mYes (mVar 2) (mC (.bl true)) [x, y, none] chk r (putKs ks (tp s)) (putVs ks vs (tp s) (.bl true)) h := by
  rw [loopD, if_pos hc]
  show (if (okKey false (tp s) && decide (ks.length < 16777216)) = true then _ else _) = _
  rw [if_pos (by rw [ok_tp, decide_eq_true hl]; rfl)]
theorem dcK_four (n1 : s ≠ t) (n2 : s ≠ u) (n3 : t ≠ u) {x : D} {y : Option D} : ∃ ks vs, dcK [some x, some (t4 s t u v), y] h = .ok (.dic ks vs) h ∧ ks.length = (if v = s ∨ v = t ∨ v = u then 3 else 4) := by
  have sr : (srcS (t4 s t u v) h) = .ok ⟨[tp s, tp t, tp u, tp v], none⟩ h := rfl
  have ck : (Src.mk [tp s, tp t, tp u, tp v] none).chk = fun _ => true := rfl
  have e1 : D.eqb (tp s) (tp t) = false := by rw [tp_eqb, decide_eq_false n1]
  have e2 : D.eqb (tp s) (tp u) = false := by rw [tp_eqb, decide_eq_false n2]
  have e3 : D.eqb (tp t) (tp u) = false := by rw [tp_eqb, decide_eq_false n3]
  have p1 : putKs [] (tp s) = [tp s] := rfl
  have p2 : putKs [tp s] (tp t) = [tp s, tp t] := by simp [putKs, e1]
  have p3 : putKs [tp s, tp t] (tp u) = [tp s, tp t, tp u] := by simp [putKs, e2, e3]
  have run : dcK [some x, some (t4 s t u v), y] h = .ok (.dic (putKs [tp s, tp t, tp u] (tp v)) (putVs [tp s, tp t, tp u] (putVs [tp s, tp t] (putVs [tp s] (putVs [] [] (tp s) (.bl true)) (tp t) (.bl true)) (tp u) (.bl true)) (tp v) (.bl true))) h := by
    unfold dcK mDc
    rw [mSrc_ap, mVar_ap]
    simp only [List.getElem?_cons_zero, List.getElem?_cons_succ, bind_ok, sr, wipe_cons, wipe_nil, List.set, ck]
    rw [loopD_tp rfl (by decide), p1, loopD_tp rfl (by simp), p2, loopD_tp rfl (by simp), p3, loopD_tp rfl (by simp), loopD, if_pos rfl]
    rfl
  refine ⟨_, _, run, ?_⟩
  have q : (([tp s, tp t, tp u] : List D).any fun x => D.eqb x (tp v)) = decide (v = s ∨ v = t ∨ v = u) := by
    have e (x : Int × Int) : D.eqb (tp x) (tp v) = decide (v = x) := by rw [tp_eqb]; exact decide_eq_decide.mpr eq_comm
    simp only [List.any_cons, List.any_nil, e, Bool.or_false, Bool.decide_or]
  unfold putKs
  rw [q]
  by_cases z : v = s ∨ v = t ∨ v = u
  · rw [if_pos (decide_eq_true z), if_pos z]; rfl
  · rw [if_neg (by simpa using z), if_neg z]; rfl
end
end G
namespace G
open PySem PySem.Spec PyProof.Rows L2 MI
section
variable {p : Int} {s t u v : Int × Int} {h : MH}
def spB (p : Int) (h : MH) (d : D) : Bool := match m_is_spot [.int p, d] h with
  | .ok (.bl b) _ => b
  | _ => false
theorem vAll_ds (B : D → Bool) (l : List D) (h : MH) : vAll (.lst (l.map fun d => D.bl (B d))) h = .ok (.bl (l.all B)) h := by
  have e : asBools (l.map fun i => D.bl (B i)) = some (l.map B) := by
    clear h
    induction l with
    | nil => rfl
    | cons i r ih => simp only [List.map_cons, asBools, ih, Option.map_some]
  show (match ((some (l.map fun i => D.bl (B i))).bind asBools) with | some l => R.ok (D.bl (l.all id)) h | none => .bad) = _
  rw [Option.bind_some, e]
  simp only [List.all_map, Function.id_comp, id]
def SpOk (p : Int) (h : MH) (d : D) : Prop := m_is_spot [.int p, d] h = .ok (.bl (spB p h d)) h
theorem spOk_of {b : Bool} {d : D} (e : m_is_spot [.int p, d] h = .ok (.bl b) h) : SpOk p h d ∧ spB p h d = b := by
  unfold SpOk spB
  rw [e]
  exact ⟨rfl, rfl⟩
theorem s_reqf0 {l : List D} (hl : l.length ≠ 4) (hz : l.length ≤ 1000) : m_require_four [.int p, .tup l] h = .exc ⟨3, none⟩ h := by
  have vl : vLen (.tup l) h = .ok (.int (l.length : Int)) h := rfl
  have g : ¬ ((l.length : Int) = 4) := by omega
  unfold m_require_four
  rw [mFn_ap (show [D.int p, D.tup l].length = 2 from rfl), show startM 3 [D.int p, D.tup l] = [some (.int p), some (.tup l), none] from rfl, mSeq_ap, mIfS_ap, mOrT_ap]
  simp only [mNotT_ap, mTest_ap, mCall_ap, mCons_ap, mVar_ap, mC_ap, mNil_ap, List.getElem?_cons_zero, List.getElem?_cons_succ, bind_ok, vTwo_ap, isi_tup, asB_bl, Bool.not_true, mOrT_ap, mBin_ap, vOne_ap, vl, vNe_i, g, decide_false, Bool.not_false, toF_ok]
  rfl
theorem all_spots {l : List D} (hz : l.length ≤ 1000) (hs : ∀ d ∈ l, SpOk p h d) {y : Option D} : mCall (vOne MI.vAll) (mCons (mLc (mSrc (mVar 1) srcS) (gN 2) mYes (mCallD 2 m_is_spot [] (mCons (mVar 0) (mCons (mVar 2) mNil))) [2]) mNil) [some (.int p), some (.tup l), y] h = .ok (.bl (l.all (spB p h))) h := by
  have sr : (srcS (.tup l) h) = .ok ⟨l, none⟩ h := rfl
  have ck : (Src.mk l none).chk = fun _ => true := rfl
  rw [mCall_ap, mCons_ap, mLc_ap, mSrc_ap, mVar_ap]
  simp only [List.getElem?_cons_zero, List.getElem?_cons_succ, bind_ok, sr, wipe_cons, wipe_nil, List.set, ck]
  rw [loopC_pure (P := fun _ => true) (f := fun d => .bl (spB p h d)) rfl l [] (fun d hd => by
    have e := hs d hd
    unfold SpOk at e
    simp [e]) (by simp; omega)]
  have f : l.filter (fun _ => true) = l := List.filter_eq_self.mpr fun _ _ => rfl
  rw [f, List.nil_append]
  simp only [bind_ok, mNil_ap, vOne_ap, vAll_ds]
theorem s_reqf1 {l : List D} (hl : l.length = 4) (hs : ∀ d ∈ l, SpOk p h d) (ha : l.all (spB p h) = false) : m_require_four [.int p, .tup l] h = .exc ⟨3, none⟩ h := by
  have vl : vLen (.tup l) h = .ok (.int 4) h := by rw [vLen_tup, hl]; rfl
  have al := all_spots (p := p) (y := none) (by omega : l.length ≤ 1000) hs
  rw [ha] at al
  unfold m_require_four
  rw [mFn_ap (show [D.int p, D.tup l].length = 2 from rfl), show startM 3 [D.int p, D.tup l] = [some (.int p), some (.tup l), none] from rfl, mSeq_ap, mIfS_ap, mOrT_ap, mNotT_ap, mTest_ap, mCall_ap, mCons_ap, mVar_ap]
  simp only [mCons_ap, mC_ap, mNil_ap, List.getElem?_cons_zero, List.getElem?_cons_succ, bind_ok, vTwo_ap, isi_tup, asB_bl, Bool.not_true]
  rw [mOrT_ap, mTest_ap, mBin_ap, mCall_ap, mCons_ap, mVar_ap]
  simp only [mC_ap, mNil_ap, List.getElem?_cons_zero, List.getElem?_cons_succ, bind_ok, vOne_ap, vl, vNe_i, decide_true, Bool.not_true, asB_bl]
  rw [mNotT_ap, mTest_ap, al]
  rfl
theorem s_reqf2 {d1 d2 d3 d4 : D} (hs : ∀ d ∈ [d1, d2, d3, d4], SpOk p h d) (ha : [d1, d2, d3, d4].all (spB p h) = true) {ks vs : List D} (hd' : dcK [some (.int p), some (.tup [d1, d2, d3, d4]), none] h = .ok (.dic ks vs) h) :
    m_require_four [.int p, .tup [d1, d2, d3, d4]] h = if ks.length = 4 then .ok .non h else .exc ⟨3, none⟩ h := by
  have vl : vLen (.tup [d1, d2, d3, d4]) h = .ok (.int 4) h := rfl
  have al := all_spots (p := p) (y := none) (by simp : [d1, d2, d3, d4].length ≤ 1000) hs
  rw [ha] at al
  unfold m_require_four
  rw [mFn_ap (show [D.int p, D.tup [d1, d2, d3, d4]].length = 2 from rfl), show startM 3 [D.int p, D.tup [d1, d2, d3, d4]] = [some (.int p), some (.tup [d1, d2, d3, d4]), none] from rfl, mSeq_ap, mIfS_ap, mOrT_ap, mNotT_ap, mTest_ap, mCall_ap, mCons_ap, mVar_ap]
  simp only [mCons_ap, mC_ap, mNil_ap, List.getElem?_cons_zero, List.getElem?_cons_succ, bind_ok, vTwo_ap, isi_tup, asB_bl, Bool.not_true]
  rw [mOrT_ap, mTest_ap, mBin_ap, mCall_ap, mCons_ap, mVar_ap]
  simp only [mC_ap, mNil_ap, List.getElem?_cons_zero, List.getElem?_cons_succ, bind_ok, vOne_ap, vl, vNe_i, decide_true, Bool.not_true, asB_bl]
  rw [mNotT_ap, mTest_ap, al]
  simp only [bind_ok, asB_bl, Bool.not_true, toF_ok, mNext_ap, seq_nx]
  rw [mIfS_ap, mTest_ap, mBin_ap, mCall_ap, mCons_ap, show mDc false (mSrc (mVar 1) srcS) (gN 2) mYes (mVar 2) (mC (.bl true)) [2] = dcK from rfl, hd']
  have vd : vLenD (.dic ks vs) h = .ok (.int (ks.length : Int)) h := rfl
  simp only [bind_ok, mNil_ap, vOne_ap, vd, mC_ap, vNe_i, asB_bl, toF_ok]
  by_cases e : ks.length = 4
  · rw [if_pos e, e]
    rfl
  · have g : ¬ ((ks.length : Int) = 4) := by omega
    rw [if_neg e, decide_eq_false g]
    rfl
theorem Spo.ok (hp : Pr p) (a : Spo p s) : SpOk p h (tp s) ∧ spB p h (tp s) = true := spOk_of (s_spot hp a)
theorem s_req4 (hp : Pr p) (a : Spo p s) (b : Spo p t) (c : Spo p u) (d : Spo p v) (n1 : s ≠ t) (n2 : s ≠ u) (n3 : t ≠ u) : m_require_four [.int p, t4 s t u v] h = if v = s ∨ v = t ∨ v = u then .exc ⟨3, none⟩ h else .ok .non h := by
  obtain ⟨ks, vs, e, l⟩ := dcK_four (v := v) (h := h) n1 n2 n3 (x := .int p) (y := none)
  rw [s_reqf2 (by
    intro x hx
    simp only [List.mem_cons, List.not_mem_nil, or_false] at hx
    rcases hx with rfl | rfl | rfl | rfl
    · exact (a.ok hp).1
    · exact (b.ok hp).1
    · exact (c.ok hp).1
    · exact (d.ok hp).1) (by simp [(a.ok hp).2, (b.ok hp).2, (c.ok hp).2, (d.ok hp).2]) e, l]
  split <;> rfl
/-- the program's two words, of four unlike spots -/
structure Four (p : Int) (s t u v : Int × Int) : Prop where
  a : Spo p s
  b : Spo p t
  c : Spo p u
  d : Spo p v
  st : s ≠ t
  su : s ≠ u
  sv : s ≠ v
  tu : t ≠ u
  tv : t ≠ v
  uv : u ≠ v
theorem s_req4ok (hp : Pr p) (F : Four p s t u v) : m_require_four [.int p, t4 s t u v] h = .ok .non h := by
  rw [s_req4 hp F.a F.b F.c F.d F.st F.su F.tu, if_neg fun z => by
    rcases z with z | z | z
    · exact F.sv z.symm
    · exact F.tv z.symm
    · exact F.uv z.symm]
theorem s_cross (hp : Pr p) (F : Four p s t u v) : m_cross_ratio [.int p, t4 s t u v] h = .ok (tz (CR p s t u v)) h := by
  have r := s_req4ok (h := h) hp F
  have q := s_ratio (h := h) hp F.a F.b F.c F.d
  unfold m_cross_ratio
  rw [mFn_ap (show [D.int p, t4 s t u v].length = 2 from rfl), show startM 2 [D.int p, t4 s t u v] = [some (.int p), some (t4 s t u v)] from rfl]
  simp only [mSeq_ap, mDrop_ap, mRet_ap, mCallD_ap, mCons_ap, mVar_ap, mNil_ap, List.getElem?_cons_zero, List.getElem?_cons_succ, bind_ok, List.append_nil, List.length, Nat.zero_add, Nat.reduceAdd, if_true, s_req hp, r, q, toF_ok, seq_nx, fnOut_rt]
theorem s_harm (hp : Pr p) (F : Four p s t u v) {x y : Int} (e : CR p s t u v = [x, y]) : m_is_harmonic [.int p, t4 s t u v] h = .ok (.bl (decide ((x + y) % p = 0))) h := by
  have r := s_req4ok (h := h) hp F
  have q := s_ratio (h := h) hp F.a F.b F.c F.d
  rw [e] at q
  have sm : vSumT (tz [x, y]) h = .ok (.int (x + y)) h := by
    show R.ok (D.int (x + (y + 0))) h = _
    rw [Int.add_zero]
  unfold m_is_harmonic
  rw [mFn_ap (show [D.int p, t4 s t u v].length = 2 from rfl), show startM 2 [D.int p, t4 s t u v] = [some (.int p), some (t4 s t u v)] from rfl]
  simp only [mSeq_ap, mDrop_ap, mRet_ap, mBin_ap, mCall_ap, mC_ap, mCallD_ap, mCons_ap, mVar_ap, mNil_ap, List.getElem?_cons_zero, List.getElem?_cons_succ, bind_ok, List.append_nil, List.length, Nat.zero_add, Nat.reduceAdd, if_true, s_req hp, r, q, vOne_ap, sm, s_lowby hp, vEq_i, toF_ok, seq_nx, fnOut_rt]
/-! refusals -/
theorem cr_bad {d x : D} {e : Exc} (r : m_require_prime [d] h = .exc e h) : m_cross_ratio [d, x] h = .exc e h ∧ m_is_harmonic [d, x] h = .exc e h := by
  constructor
  · unfold m_cross_ratio
    rw [mFn_ap (show [d, x].length = 2 from rfl), show startM 2 [d, x] = [some d, some x] from rfl]
    simp only [mSeq_ap, mDrop_ap, mCallD_ap, mCons_ap, mVar_ap, mNil_ap, List.getElem?_cons_zero, bind_ok, List.append_nil, List.length, Nat.zero_add, Nat.reduceAdd, if_true, r]
    rfl
  · unfold m_is_harmonic
    rw [mFn_ap (show [d, x].length = 2 from rfl), show startM 2 [d, x] = [some d, some x] from rfl]
    simp only [mSeq_ap, mDrop_ap, mCallD_ap, mCons_ap, mVar_ap, mNil_ap, List.getElem?_cons_zero, bind_ok, List.append_nil, List.length, Nat.zero_add, Nat.reduceAdd, if_true, r]
    rfl
theorem cr_odd (hp : Pr p) {x : D} {e : Exc} (r : m_require_four [.int p, x] h = .exc e h) : m_cross_ratio [.int p, x] h = .exc e h ∧ m_is_harmonic [.int p, x] h = .exc e h := by
  constructor
  · unfold m_cross_ratio
    rw [mFn_ap (show [.int p, x].length = 2 from rfl), show startM 2 [.int p, x] = [some (.int p), some x] from rfl]
    simp only [mSeq_ap, mDrop_ap, mCallD_ap, mCons_ap, mVar_ap, mNil_ap, List.getElem?_cons_zero, List.getElem?_cons_succ, bind_ok, List.append_nil, List.length, Nat.zero_add, Nat.reduceAdd, if_true, s_req hp, toF_ok, seq_nx, r]
    rfl
  · unfold m_is_harmonic
    rw [mFn_ap (show [.int p, x].length = 2 from rfl), show startM 2 [.int p, x] = [some (.int p), some x] from rfl]
    simp only [mSeq_ap, mDrop_ap, mCallD_ap, mCons_ap, mVar_ap, mNil_ap, List.getElem?_cons_zero, List.getElem?_cons_succ, bind_ok, List.append_nil, List.length, Nat.zero_add, Nat.reduceAdd, if_true, s_req hp, toF_ok, seq_nx, r]
    rfl
end
end G
namespace G
open PySem PySem.Spec PyProof.Rows L2 MI
/-! drawing spots -/
def Pm (p : Int) : Prop := p = 0 ∨ p = 3 ∨ p = 5 ∨ p = 7 ∨ p = 11 ∨ p = 13
theorem Pm.pr {p : Int} (h : Pm p) : Pr p := by
  rcases h with h | h | h | h | h | h
  · exact .inl h
  · exact .inr (.inr (.inl h))
  · exact .inr (.inr (.inr (.inl h)))
  · exact .inr (.inr (.inr (.inr (.inl h))))
  · exact .inr (.inr (.inr (.inr (.inr (.inl h)))))
  · exact .inr (.inr (.inr (.inr (.inr (.inr (.inl h))))))
theorem Pm.nn {p : Int} (h : Pm p) : 0 ≤ p ∧ p ≤ 13 := by rcases h with h | h | h | h | h | h <;> omega
def smallL (p : Int) : List (Int × Int) := if p = 0 then [(0, 1), (1, -4), (1, -3), (1, -2), (1, -1), (1, 0), (1, 1), (1, 2), (1, 3), (1, 4), (2, -3), (2, -1), (2, 1), (2, 3), (3, -2), (3, -1), (3, 1), (3, 2)] else (0, 1) :: (List.range p.toNat).map fun i => (1, ((i : Nat) : Int))
theorem s_small {p : Int} (hp : Pm p) (h : MH) : m_law_small_spots [.int p] h = .ok (.lst ((smallL p).map tp)) h := by
  rcases hp with rfl | rfl | rfl | rfl | rfl | rfl <;> kernel_rfl
def spoB (p : Int) (s : Int × Int) : Bool := decide (NP p s.1 s.2 = [s.1, s.2]) && decide (¬ (p ∣ s.1 ∧ p ∣ s.2)) && decide ((-10000000 ≤ s.1 ∧ s.1 ≤ 10000000) ∧ (-10000000 ≤ s.2 ∧ s.2 ≤ 10000000)) && (decide (p = 0) || decide ((0 ≤ s.1 ∧ s.1 < p) ∧ (0 ≤ s.2 ∧ s.2 < p)))
theorem spo_of {p : Int} {s : Int × Int} (h : spoB p s = true) : Spo p s := by
  unfold spoB at h
  simp only [Bool.and_eq_true, Bool.or_eq_true, decide_eq_true_eq] at h
  obtain ⟨⟨⟨a, b⟩, c⟩, d⟩ := h
  exact ⟨⟨a, b⟩, c, fun e => d.resolve_left e⟩
theorem small_ok {p : Int} (hp : Pm p) : ((smallL p).all (spoB p)) = true ∧ (smallL p).Nodup ∧ 4 ≤ (smallL p).length ∧ (smallL p).length ≤ 20 := by
  rcases hp with rfl | rfl | rfl | rfl | rfl | rfl <;> decide +kernel
def GR : List (Int × Int) := [(1, 9999999), (1, -9999991), (997, 1000), (9999999, -2), (1000, -999)]
theorem gr_ok : GR.all (fun g => spoB 0 g && decide (g ∉ smallL 0)) = true := by decide +kernel
def untp : D → Int × Int
  | .tup [.int a, .int b] => (a, b)
  | _ => (0, 0)
theorem untp_tp (s : Int × Int) : untp (tp s) = s := rfl
theorem perm_tp {l : List D} {S : List (Int × Int)} (h : l.Perm (S.map tp)) : ∃ L : List (Int × Int), L.Perm S ∧ l = L.map tp := by
  refine ⟨l.map untp, ?_, ?_⟩
  · have := h.map untp
    rw [List.map_map] at this
    have e : S.map (untp ∘ tp) = S := by
      conv => rhs; rw [← List.map_id S]
      exact List.map_congr_left fun s _ => rfl
    rwa [e] at this
  · rw [List.map_map]
    conv => lhs; rw [← List.map_id l]
    refine List.map_congr_left fun d hd => ?_
    obtain ⟨s, _, rfl⟩ := List.mem_map.mp (h.mem_iff.mp hd)
    rfl
theorem four_of {p : Int} {s t u v : Int × Int} (n : [s, t, u, v].Nodup) (h : ∀ x ∈ [s, t, u, v], Spo p x) : Four p s t u v := by
  simp only [List.nodup_cons, List.mem_cons, List.not_mem_nil, or_false, not_or, not_false_eq_true, List.nodup_nil, and_true] at n
  exact ⟨h s (by simp), h t (by simp), h u (by simp), h v (by simp), n.1.1, n.1.2.1, n.1.2.2, n.2.1.1, n.2.1.2, n.2.2⟩
/-- four that are drawn -/
theorem take4 {p : Int} {L S : List (Int × Int)} (hL : L.Perm S) (h4 : 4 ≤ S.length) (hn : S.Nodup) : ∃ s t u v, L.take 4 = [s, t, u, v] ∧ [s, t, u, v].Nodup ∧ ∀ x ∈ [s, t, u, v], x ∈ S := by
  have hl : 4 ≤ L.length := by rw [hL.length_eq]; exact h4
  have nL : L.Nodup := hL.nodup_iff.mpr hn
  match L, hl, hL, nL with
  | s :: t :: u :: v :: r, _, hL, nL =>
    refine ⟨s, t, u, v, rfl, ?_, fun x hx => hL.mem_iff.mp ?_⟩
    · exact List.Sublist.nodup (l₂ := s :: t :: u :: v :: r) (List.take_sublist 4 (s :: t :: u :: v :: r)) nL
    · exact List.mem_of_mem_take (i := 4) (show x ∈ (s :: t :: u :: v :: r).take 4 from hx)
def sp_1 : MS := mAsg (mCutC (mCallD 2 m_law_mixed [] (mCons (mVar 0) (mCons (mCallD 1 m_law_small_spots [] (mCons (mVar 1) mNil)) mNil))) mNoPart (mPart (mVar 2))) (gN 3)
def spT : MT := mAndT (mTest (mBin vEq (mVar 1) (mC (.int 0)))) (mTest (mBin vEq (mCallD 2 m_law_grab [] (mCons (mVar 0) (mCons (mC (.int 5)) mNil))) (mC (.int 0))))
def sp_a : MS := mAsg (mCallD 2 m_law_one_of [] (mCons (mVar 0) (mCons (mLst (mCons (mTup (mCons (mC (.int 1)) (mCons (mC (.int 9999999)) mNil))) (mCons (mTup (mCons (mC (.int 1)) (mCons (mUn vNeg (mC (.int 9999991))) mNil))) (mCons (mTup (mCons (mC (.int 997)) (mCons (mC (.int 1000)) mNil))) (mCons (mTup (mCons (mC (.int 9999999)) (mCons (mUn vNeg (mC (.int 2))) mNil))) (mCons (mTup (mCons (mC (.int 1000)) (mCons (mUn vNeg (mC (.int 999))) mNil))) mNil)))))) mNil))) (gN 4)
def sp_b : MS := mAsg (mVar 4) (gSubC (mVar 3) (mCallD 2 m_law_grab [] (mCons (mVar 0) (mCons (mCall (vOne vLen) (mCons (mVar 3) mNil)) mNil))))
theorem sp_eq : m_law_spots = mFn 3 5 (mSeq sp_1 (mSeq (mIfS spT (mSeq sp_a sp_b) mNext) (mRet (mVar 3)))) := rfl
theorem cutC_k {l : List D} {k : Int} {h : MH} (hk : 0 ≤ k) : vCutC (.lst l) none (some k) h = .ok (.cell h.length) (h ++ [l.take k.toNat]) := by
  have e : MI.cutD l none (some k) = l.take k.toNat := by
    unfold MI.cutD
    show (l.drop 0).take ((if k < 0 then (k + (l.length : Int)).toNat else min k.toNat l.length) - 0) = _
    rw [if_neg (by omega), List.drop_zero, Nat.sub_zero]
    by_cases q : k.toNat ≤ l.length
    · rw [Nat.min_eq_left q]
    · rw [Nat.min_eq_right (by omega), List.take_of_length_le (by omega), List.take_of_length_le (by omega)]
  unfold vCutC
  simp only [lstOf, e]
theorem cutC_to {l : List D} {h : MH} : vCutC (.lst l) none (some 4) h = .ok (.cell h.length) (h ++ [l.take 4]) := cutC_k (k := 4) (by decide)
theorem spots1 {n : Nat} {c p : Int} {h : MH} (hp : Pm p) (hb : Bg h n c) (hc : c ≤ 900000) : ∃ q s t u v h', sp_1 [some (.cell n), some (.int p), some (.int 4), none, none] h = .nx [some (.cell n), some (.int p), some (.int 4), some (.cell q), none] h' ∧
    h'[q]? = some [tp s, tp t, tp u, tp v] ∧ q ≠ n ∧ h.length ≤ q ∧ Bg h' n (c + 20) ∧ Kp n h h' ∧ Four p s t u v ∧ ∀ x ∈ [s, t, u, v], x ∈ smallL p := by
  obtain ⟨k1, k2, k3, k4⟩ := small_ok hp
  obtain ⟨l', h1, e1, b1, pm, kp⟩ := s_mixed (l := (smallL p).map tp) (by rw [List.length_map]; omega) hb (by omega)
  rw [List.length_map] at b1
  obtain ⟨L, hL, rfl⟩ := perm_tp pm
  obtain ⟨s, t, u, v, et, nd, mem⟩ := take4 (p := p) hL k3 k2
  have e2 : (L.map tp).take 4 = [tp s, tp t, tp u, tp v] := by rw [← List.map_take, et]; rfl
  refine ⟨h1.length, s, t, u, v, h1 ++ [[tp s, tp t, tp u, tp v]], ?_, at_end, ?_, kp.1, (b1.up (by omega)).app, kp.trans .app, four_of nd fun x hx => spo_of (List.all_eq_true.mp k1 x (mem x hx)), mem⟩
  · unfold sp_1
    rw [mAsg_ap]
    have a1 : mCallD 1 m_law_small_spots [] (mCons (mVar 1) mNil) [some (.cell n), some (.int p), some (.int 4), none, none] h = .ok (.lst ((smallL p).map tp)) h := by
      simp [s_small hp]
    have a2 : mCallD 2 m_law_mixed [] (mCons (mVar 0) (mCons (mCallD 1 m_law_small_spots [] (mCons (mVar 1) mNil)) mNil)) [some (.cell n), some (.int p), some (.int 4), none, none] h = .ok (.lst (L.map tp)) h1 := by
      have q : mCons (mVar 0) (mCons (mCallD 1 m_law_small_spots [] (mCons (mVar 1) mNil)) mNil) [some (.cell n), some (.int p), some (.int 4), none, none] h = .ok [.cell n, .lst ((smallL p).map tp)] h := by
        rw [mCons_ap, show mVar 0 [some (.cell n), some (.int p), some (.int 4), none, none] h = .ok (.cell n) h from rfl, bind_ok, mCons_ap, a1]
        rfl
      rw [mCallD_ap, q, bind_ok, List.append_nil, if_pos (by simp)]
      exact e1
    unfold mCutC
    rw [a2, bind_ok, mNoPart_ap, bind_ok, mPart_ap, mVar_ap]
    simp only [List.getElem?_cons_zero, List.getElem?_cons_succ, bind_ok, cutC_to, e2, toF_ok, gN_ap, ofG_some, List.set]
  · have := b1.lt; omega
theorem four_set {p : Int} {s t u v g : Int × Int} (F : Four p s t u v) (hg : Spo p g) (hn : g ≠ s ∧ g ≠ t ∧ g ≠ u ∧ g ≠ v) {i : Nat} (hi : i < 4) : ∃ s' t' u' v', ([tp s, tp t, tp u, tp v] : List D).set i (tp g) = [tp s', tp t', tp u', tp v'] ∧ Four p s' t' u' v' := by
  obtain ⟨n1, n2, n3, n4⟩ := hn
  have hi : i = 0 ∨ i = 1 ∨ i = 2 ∨ i = 3 := by omega
  rcases hi with rfl | rfl | rfl | rfl
  · exact ⟨g, t, u, v, rfl, ⟨hg, F.b, F.c, F.d, n2, n3, n4, F.tu, F.tv, F.uv⟩⟩
  · exact ⟨s, g, u, v, rfl, ⟨F.a, hg, F.c, F.d, n1.symm, F.su, F.sv, n3, n4, F.uv⟩⟩
  · exact ⟨s, t, g, v, rfl, ⟨F.a, F.b, hg, F.d, F.st, n1.symm, F.sv, n2.symm, F.tv, n4⟩⟩
  · exact ⟨s, t, u, g, rfl, ⟨F.a, F.b, F.c, hg, F.st, F.su, n1.symm, F.tu, n2.symm, n3.symm⟩⟩
theorem s_spots {n : Nat} {c p : Int} {h : MH} (hp : Pm p) (hb : Bg h n c) (hc : c ≤ 900000) : ∃ q s t u v h', m_law_spots [.cell n, .int p, .int 4] h = .ok (.cell q) h' ∧
    h'[q]? = some [tp s, tp t, tp u, tp v] ∧ q ≠ n ∧ h.length ≤ q ∧ Bg h' n (c + 30) ∧ Kp n h h' ∧ Four p s t u v := by
  obtain ⟨q, s, t, u, v, h1, e1, eq, hq, hl, b1, kp1, F, mem⟩ := spots1 hp hb hc
  by_cases p0 : p = 0
  · subst p0
    obtain ⟨r, l2, g2, r0, r1, b2⟩ := s_grab (t := 5) (by decide) (sm_small (by decide) (by decide)) b1 (by omega)
    have ql : q < h1.length := (List.getElem?_eq_some_iff.mp eq).1
    have eq2 : (h1.set n l2)[q]? = some [tp s, tp t, tp u, tp v] := by rw [List.getElem?_set_ne (fun z => hq z.symm)]; exact eq
    by_cases hr : r = 0
    · subst hr
      obtain ⟨x, l3, g3, b3, mx⟩ := s_one_of (l := GR.map tp) (by decide) (by decide) b2 (by omega)
      obtain ⟨g, hg, rfl⟩ := List.mem_map.mp mx
      have gk := List.all_eq_true.mp gr_ok g hg
      rw [Bool.and_eq_true, decide_eq_true_eq] at gk
      have eq3 : ((h1.set n l2).set n l3)[q]? = some [tp s, tp t, tp u, tp v] := by rw [List.getElem?_set_ne (fun z => hq z.symm)]; exact eq2
      obtain ⟨i, l4, g4, i0, i1, b4⟩ := s_grab (t := 4) (by decide) (sm_small (by decide) (by decide)) b3 (by omega)
      have eq4 : (((h1.set n l2).set n l3).set n l4)[q]? = some [tp s, tp t, tp u, tp v] := by rw [List.getElem?_set_ne (fun z => hq z.symm)]; exact eq3
      have gn : ∀ y ∈ [s, t, u, v], g ≠ y := fun y hy z => gk.2 (by rw [z]; exact mem y hy)
      obtain ⟨s', t', u', v', es, F'⟩ := four_set F (spo_of gk.1) ⟨gn s (by simp), gn t (by simp), gn u (by simp), gn v (by simp)⟩ (show i.toNat < 4 by omega)
      refine ⟨q, s', t', u', v', (((h1.set n l2).set n l3).set n l4).set q [tp s', tp t', tp u', tp v'], ?_, ?_, hq, hl, ?_, ?_, F'⟩
      · rw [sp_eq, mFn_ap (show [D.cell n, D.int 0, D.int 4].length = 3 from rfl), show startM 5 [D.cell n, D.int 0, D.int 4] = [some (.cell n), some (.int 0), some (.int 4), none, none] from rfl, mSeq_ap, e1, seq_nx, mSeq_ap, mIfS_ap]
        have T : spT [some (.cell n), some (.int 0), some (.int 4), some (.cell q), none] h1 = .ok true (h1.set n l2) := by
          unfold spT
          simp [g2]
        rw [T, toF_ok]
        have A : sp_a [some (.cell n), some (.int 0), some (.int 4), some (.cell q), none] (h1.set n l2) = .nx [some (.cell n), some (.int 0), some (.int 4), some (.cell q), some (tp g)] ((h1.set n l2).set n l3) := by
          have m1 : ∀ (ρ : Env1) (hh : MH), mLst (mCons (mTup (mCons (mC (.int 1)) (mCons (mC (.int 9999999)) mNil))) (mCons (mTup (mCons (mC (.int 1)) (mCons (mUn vNeg (mC (.int 9999991))) mNil))) (mCons (mTup (mCons (mC (.int 997)) (mCons (mC (.int 1000)) mNil))) (mCons (mTup (mCons (mC (.int 9999999)) (mCons (mUn vNeg (mC (.int 2))) mNil))) (mCons (mTup (mCons (mC (.int 1000)) (mCons (mUn vNeg (mC (.int 999))) mNil))) mNil))))) ρ hh = .ok (.lst (GR.map tp)) hh := fun ρ hh => by kernel_rfl
          unfold sp_a
          rw [mAsg_ap, mCallD_ap, mCons_ap, mVar_ap]
          simp only [List.getElem?_cons_zero, bind_ok, mCons_ap, m1, mNil_ap, List.append_nil, List.length, Nat.zero_add, Nat.reduceAdd, if_true, g3, toF_ok, gN_ap, ofG_some, List.set]
        have B : sp_b [some (.cell n), some (.int 0), some (.int 4), some (.cell q), some (tp g)] ((h1.set n l2).set n l3) = .nx [some (.cell n), some (.int 0), some (.int 4), some (.cell q), some (tp g)] ((((h1.set n l2).set n l3).set n l4).set q [tp s', tp t', tp u', tp v']) := by
          have vl := vLen_cell eq3
          have vl : vLen (.cell q) ((h1.set n l2).set n l3) = .ok (.int 4) ((h1.set n l2).set n l3) := vl
          have ix : ixN 4 i = some i.toNat := by unfold ixN; rw [if_pos i0, if_pos (by omega)]
          have mi : mCallD 2 m_law_grab [] (mCons (mVar 0) (mCons (mCall (vOne vLen) (mCons (mVar 3) mNil)) mNil)) [some (.cell n), some (.int 0), some (.int 4), some (.cell q), some (tp g)] ((h1.set n l2).set n l3) = .ok (.int i) (((h1.set n l2).set n l3).set n l4) := by
            rw [mCallD_ap, mCons_ap, mVar_ap]
            simp only [List.getElem?_cons_zero, List.getElem?_cons_succ, bind_ok, mCons_ap, mCall_ap, mVar_ap, mNil_ap, vOne_ap, vl, List.append_nil, List.length, Nat.zero_add, Nat.reduceAdd, if_true, g4]
          unfold sp_b
          rw [mAsg_ap, mVar_ap]
          simp only [List.getElem?_cons_zero, List.getElem?_cons_succ, toF_ok]
          have : gSubC (mVar 3) (mCallD 2 m_law_grab [] (mCons (mVar 0) (mCons (mCall (vOne vLen) (mCons (mVar 3) mNil)) mNil))) (tp g) [some (.cell n), some (.int 0), some (.int 4), some (.cell q), some (tp g)] ((h1.set n l2).set n l3) = some ([some (.cell n), some (.int 0), some (.int 4), some (.cell q), some (tp g)], (((h1.set n l2).set n l3).set n l4).set q [tp s', tp t', tp u', tp v']) := by
            unfold gSubC
            rw [mVar_ap]
            simp only [List.getElem?_cons_zero, List.getElem?_cons_succ, mi, eq4, List.length, Nat.zero_add, Nat.reduceAdd, ix, es]
          rw [this, ofG_some]
        rw [mSeq_ap, A, seq_nx, B, seq_nx]
        rfl
      · exact List.getElem?_set_self (by simpa using ql)
      · exact (b4.up (by omega)).other hq
      · exact ((((kp1.trans .set).trans .set).trans .set).over hl)
    · refine ⟨q, s, t, u, v, h1.set n l2, ?_, eq2, hq, hl, b2.up (by omega), kp1.trans .set, F⟩
      rw [sp_eq, mFn_ap (show [D.cell n, D.int 0, D.int 4].length = 3 from rfl), show startM 5 [D.cell n, D.int 0, D.int 4] = [some (.cell n), some (.int 0), some (.int 4), none, none] from rfl, mSeq_ap, e1, seq_nx, mSeq_ap, mIfS_ap]
      have T : spT [some (.cell n), some (.int 0), some (.int 4), some (.cell q), none] h1 = .ok false (h1.set n l2) := by
        unfold spT
        simp [g2, hr]
      rw [T, toF_ok, mNext_ap, seq_nx]
      rfl
  · refine ⟨q, s, t, u, v, h1, ?_, eq, hq, hl, b1.up (by omega), kp1, F⟩
    rw [sp_eq, mFn_ap (show [D.cell n, D.int p, D.int 4].length = 3 from rfl), show startM 5 [D.cell n, D.int p, D.int 4] = [some (.cell n), some (.int p), some (.int 4), none, none] from rfl, mSeq_ap, e1, seq_nx, mSeq_ap, mIfS_ap]
    have T : spT [some (.cell n), some (.int p), some (.int 4), some (.cell q), none] h1 = .ok false h1 := by
      unfold spT
      simp [p0]
    rw [T, toF_ok, mNext_ap, seq_nx]
    rfl
end G
namespace G
open PySem PySem.Spec PyProof.Rows L2 MI
/-! tables of two rows -/
def tb_1 : MS := mAsg (mIf (mTest (mBin vEq (mVar 1) (mC (.int 0)))) (mTup (mCons (mUn vNeg (mC (.int 2))) (mCons (mC (.int 2)) mNil))) (mTup (mCons (mC (.int 0)) (mCons (mBin vSub (mVar 1) (mC (.int 1))) mNil)))) (gTA 2 (gsCons (gN 2) (gsCons (gN 3) gsNil)))
def tb_2 : MS := mFor (mSrcA (mCons (mC (.int 8)) mNil) srcR1) (gN 4) (mSeq (mAsg (mLc (mSrcA (mCons (mC (.int 4)) mNil) srcR1) (gN 7) mYes (mBin vAdd (mVar 2) (mCallD 2 m_law_grab [] (mCons (mVar 0) (mCons (mBin vAdd (mBin vSub (mVar 3) (mVar 2)) (mC (.int 1))) mNil)))) [7]) (gN 5)) (mSeq (mAsg (mCall (vOne vInt) (mCons (mBin vSub (mBin vMul (mBin vIx (mVar 5) (mC (.int 0))) (mBin vIx (mVar 5) (mC (.int 3)))) (mBin vMul (mBin vIx (mVar 5) (mC (.int 1))) (mBin vIx (mVar 5) (mC (.int 2))))) mNil)) (gN 6)) (mIfS (mTest (mBin vNe (mIf (mTest (mBin vEq (mVar 1) (mC (.int 0)))) (mVar 6) (mBin vMod (mVar 6) (mVar 1))) (mC (.int 0)))) (mRet (mTup (mCons (mTup (mCons (mBin vIx (mVar 5) (mC (.int 0))) (mCons (mBin vIx (mVar 5) (mC (.int 1))) mNil))) (mCons (mTup (mCons (mBin vIx (mVar 5) (mC (.int 2))) (mCons (mBin vIx (mVar 5) (mC (.int 3))) mNil))) mNil)))) mNext)))
def tb_3 : MS := mRet (mTup (mCons (mTup (mCons (mC (.int 0)) (mCons (mC (.int 1)) mNil))) (mCons (mTup (mCons (mC (.int 1)) (mCons (mC (.int 0)) mNil))) mNil)))
theorem tb_eq : m_law_table_two = mFn 2 8 (mSeq tb_1 (mSeq tb_2 tb_3)) := rfl
def tbb_1 : MS := mAsg (mLc (mSrcA (mCons (mC (.int 4)) mNil) srcR1) (gN 7) mYes (mBin vAdd (mVar 2) (mCallD 2 m_law_grab [] (mCons (mVar 0) (mCons (mBin vAdd (mBin vSub (mVar 3) (mVar 2)) (mC (.int 1))) mNil)))) [7]) (gN 5)
def tbb_2 : MS := mAsg (mCall (vOne vInt) (mCons (mBin vSub (mBin vMul (mBin vIx (mVar 5) (mC (.int 0))) (mBin vIx (mVar 5) (mC (.int 3)))) (mBin vMul (mBin vIx (mVar 5) (mC (.int 1))) (mBin vIx (mVar 5) (mC (.int 2))))) mNil)) (gN 6)
def tbb_3 : MS := mIfS (mTest (mBin vNe (mIf (mTest (mBin vEq (mVar 1) (mC (.int 0)))) (mVar 6) (mBin vMod (mVar 6) (mVar 1))) (mC (.int 0)))) (mRet (mTup (mCons (mTup (mCons (mBin vIx (mVar 5) (mC (.int 0))) (mCons (mBin vIx (mVar 5) (mC (.int 1))) mNil))) (mCons (mTup (mCons (mBin vIx (mVar 5) (mC (.int 2))) (mCons (mBin vIx (mVar 5) (mC (.int 3))) mNil))) mNil)))) mNext
def tbb : MS := (mSeq tbb_1 (mSeq tbb_2 tbb_3))
theorem tb_eq2 : tb_2 = mFor (mSrcA (mCons (mC (.int 8)) mNil) srcR1) (gN 4) tbb := rfl

abbrev tabD (A B C D' : Int) : D := .tup [.tup [.int A, .int B], .tup [.int C, .int D']]
def e13 (i : Int) : Prop := -13 ≤ i ∧ i ≤ 13
structure Tab (p A B C D' : Int) : Prop where
  a : e13 A
  b : e13 B
  c : e13 C
  d : e13 D'
  n : ¬ p ∣ A * D' - B * C
theorem four_ints {l : List D} (hl : l.length = 4) (h : ∀ v ∈ l, ∃ i : Int, v = .int i ∧ e13 i) : ∃ a b c d : Int, l = [.int a, .int b, .int c, .int d] ∧ e13 a ∧ e13 b ∧ e13 c ∧ e13 d := by
  match l, hl with
  | [x, y, z, w], _ =>
    obtain ⟨a, rfl, ha⟩ := h x (by simp)
    obtain ⟨b, rfl, hb⟩ := h y (by simp)
    obtain ⟨c, rfl, hc⟩ := h z (by simp)
    obtain ⟨d, rfl, hd⟩ := h w (by simp)
    exact ⟨a, b, c, d, rfl, ha, hb, hc, hd⟩
theorem e13_mul {a b : Int} (ha : e13 a) (hb : e13 b) (h : MH) : vMul (.int a) (.int b) h = .ok (.int (a * b)) h := by
  unfold e13 at ha hb
  exact mul_small (by omega) (by omega) (by omega) (by omega)
abbrev tEnv (n : Nat) (p lo hi : Int) (x y z : Option D) : Env1 := [some (.cell n), some (.int p), some (.int lo), some (.int hi), x, y, z, none]
theorem tb_one {n : Nat} {c p lo hi : Int} {d : D} {x y : Option D} {h : MH} (hlo : -2 ≤ lo ∧ lo ≤ 0) (hhi : 0 < hi - lo + 1 ∧ hi - lo + 1 ≤ 13) (hb : Bg h n c) (hc : c ≤ 900000) :
    ∃ A B C D' h', tbb_1 (tEnv n p lo hi (some d) x y) h = .nx (tEnv n p lo hi (some d) (some (.lst [.int A, .int B, .int C, .int D'])) y) h' ∧ e13 A ∧ e13 B ∧ e13 C ∧ e13 D' ∧ Bg h' n (c + 4) ∧ Kp n h h' := by
  have sr := src_r1 (p := 4) (by decide) (by decide) h
  have ck : (Src.mk (rngD 0 (4 : Int).toNat) none).chk = fun _ => true := rfl
  obtain ⟨out, h', e, l, pd, inv⟩ := loopC_inv (vi := 7) (a := mBin vAdd (mVar 2) (mCallD 2 m_law_grab [] (mCons (mVar 0) (mCons (mBin vAdd (mBin vSub (mVar 3) (mVar 2)) (mC (.int 1))) mNil)))) (ρ := tEnv n p lo hi (some d) x y) (chk := fun _ => true)
    (I := fun k h' => Bg h' n (c + (k : Int)) ∧ Kp n h h' ∧ k ≤ 4) (Pd := fun v => ∃ i : Int, v = .int i ∧ e13 i) (N := 4) (fun _ => rfl) (fun k dd hh hk inv => by
      obtain ⟨r, m, g, r0, r1, b⟩ := s_grab (t := hi - lo + 1) hhi.1 (sm_small (by omega) (by omega)) inv.1 (by omega)
      refine ⟨.int (lo + r), hh.set n m, ?_, ⟨lo + r, rfl, by unfold e13; omega⟩, by rw [Int.natCast_add, ← Int.add_assoc]; exact b, inv.2.1.trans .set, by omega⟩
      simp [g]) (rngD 0 (4 : Int).toNat) [] 0 h (by rw [rngD_len]; decide) ⟨by simpa using hb, .refl, by omega⟩ (by rw [rngD_len]; decide)
  rw [rngD_len] at l inv
  obtain ⟨A, B, C, D', rfl, ha, hb', hc', hd⟩ := four_ints l pd
  refine ⟨A, B, C, D', h', ?_, ha, hb', hc', hd, by simpa using inv.1, inv.2.1⟩
  unfold tbb_1
  rw [mAsg_ap, mLc_ap, mSrcA_ap, show mCons (mC (.int 4)) mNil (tEnv n p lo hi (some d) x y) h = .ok [.int 4] h from rfl, bind_ok, sr, bind_ok]
  show R.toF (R.bind (loopC (gN 7) mYes _ (tEnv n p lo hi (some d) x y) (Src.mk (rngD 0 (4 : Int).toNat) none).chk (rngD 0 (4 : Int).toNat) [] h) _) _ _ = _
  rw [ck, e]
  rfl
theorem tb_round {n : Nat} {c p lo hi : Int} {d : D} {x y : Option D} {h : MH} (hp : Pr p) (hlo : -2 ≤ lo ∧ lo ≤ 0) (hhi : 0 < hi - lo + 1 ∧ hi - lo + 1 ≤ 13) (hb : Bg h n c) (hc : c ≤ 900000) :
    (∃ A B C D' h', tbb (tEnv n p lo hi (some d) x y) h = .rt (tabD A B C D') h' ∧ Tab p A B C D' ∧ Bg h' n (c + 4) ∧ Kp n h h') ∨
    ∃ y1 y2 h', tbb (tEnv n p lo hi (some d) x y) h = .nx (tEnv n p lo hi (some d) y1 y2) h' ∧ Bg h' n (c + 4) ∧ Kp n h h' := by
  obtain ⟨A, B, C, D', h', e, ha, hb', hc', hd, b, kp⟩ := tb_one (p := p) (d := d) (x := x) (y := y) hlo hhi hb hc
  have m1 := e13_mul ha hd h'
  have m2 := e13_mul hb' hc' h'
  have i3 : atI [D.int A, .int B, .int C, .int D'] 3 = some (.int D') := by simp [atI, ixN]
  have e2 : tbb_2 (tEnv n p lo hi (some d) (some (.lst [.int A, .int B, .int C, .int D'])) y) h' = .nx (tEnv n p lo hi (some d) (some (.lst [.int A, .int B, .int C, .int D'])) (some (.int (A * D' - B * C)))) h' := by
    unfold tbb_2
    simp [m1, m2, i3]
  have low : mIf (mTest (mBin vEq (mVar 1) (mC (.int 0)))) (mVar 6) (mBin vMod (mVar 6) (mVar 1)) (tEnv n p lo hi (some d) (some (.lst [.int A, .int B, .int C, .int D'])) (some (.int (A * D' - B * C)))) h' = .ok (.int ((A * D' - B * C) % p)) h' := by
    by_cases p0 : p = 0
    · subst p0; simp
    · simp [p0, vMod_i p0, fMod_pos (by have := hp.nn; omega : 0 < p)]
  have run : tbb (tEnv n p lo hi (some d) x y) h = tbb_3 (tEnv n p lo hi (some d) (some (.lst [.int A, .int B, .int C, .int D'])) (some (.int (A * D' - B * C)))) h' := by
    unfold tbb
    rw [mSeq_ap, e, seq_nx, mSeq_ap, e2, seq_nx]
  by_cases z : (A * D' - B * C) % p = 0
  · refine .inr ⟨some (.lst [.int A, .int B, .int C, .int D']), some (.int (A * D' - B * C)), h', ?_, b, kp⟩
    rw [run]
    unfold tbb_3
    rw [mIfS_ap, mTest_ap, mBin_ap, low]
    simp [z]
  · refine .inl ⟨A, B, C, D', h', ?_, ⟨ha, hb', hc', hd, fun k => z (dvd_mod.mp k)⟩, b, kp⟩
    rw [run]
    unfold tbb_3
    rw [mIfS_ap, mTest_ap, mBin_ap, low]
    simp [z, i3]
theorem tb_loop {n : Nat} {p lo hi : Int} (hp : Pr p) (hlo : -2 ≤ lo ∧ lo ≤ 0) (hhi : 0 < hi - lo + 1 ∧ hi - lo + 1 ≤ 13) : ∀ (items : List D) (c : Int) (x y z : Option D) (h : MH), Bg h n c → c + 4 * items.length ≤ 900000 →
    (∃ A B C D' h', loopF (gN 4) tbb (fun _ => true) items (tEnv n p lo hi x y z) h = .rt (tabD A B C D') h' ∧ Tab p A B C D' ∧ Bg h' n (c + 4 * items.length) ∧ Kp n h h') ∨
    ∃ x' y' z' h', loopF (gN 4) tbb (fun _ => true) items (tEnv n p lo hi x y z) h = .nx (tEnv n p lo hi x' y' z') h' ∧ Bg h' n (c + 4 * items.length) ∧ Kp n h h'
  | [], c, x, y, z, h, hb, _ => .inr ⟨x, y, z, h, rfl, by simpa using hb, .refl⟩
  | d :: r, c, x, y, z, h, hb, hc => by
    rw [List.length_cons] at hc ⊢
    rcases tb_round (d := d) (x := y) (y := z) hp hlo hhi hb (by omega) with ⟨A, B, C, D', h1, e, t, b, k⟩ | ⟨y1, y2, h1, e, b, k⟩
    · refine .inl ⟨A, B, C, D', h1, ?_, t, b.up (by omega), k⟩
      unfold loopF
      rw [if_pos rfl]
      have e' : tbb ((tEnv n p lo hi x y z).set 4 (some d)) h = .rt (tabD A B C D') h1 := e
      simp only [gN_ap, e']
    · have ih := tb_loop hp hlo hhi r (c + 4) (some d) y1 y2 h1 b (by omega)
      have e' : tbb ((tEnv n p lo hi x y z).set 4 (some d)) h = .nx (tEnv n p lo hi (some d) y1 y2) h1 := e
      have st : loopF (gN 4) tbb (fun _ => true) (d :: r) (tEnv n p lo hi x y z) h = loopF (gN 4) tbb (fun _ => true) r (tEnv n p lo hi (some d) y1 y2) h1 := by
        conv => lhs; unfold loopF
        rw [if_pos rfl]
        simp only [gN_ap, e']
      rw [st]
      rcases ih with ⟨A, B, C, D', h2, e2, t, b2, k2⟩ | ⟨x', y', z', h2, e2, b2, k2⟩
      · exact .inl ⟨A, B, C, D', h2, e2, t, b2.up (by omega), k.trans k2⟩
      · exact .inr ⟨x', y', z', h2, e2, b2.up (by omega), k.trans k2⟩
theorem s_table {n : Nat} {c p : Int} {h : MH} (hp : Pm p) (hb : Bg h n c) (hc : c ≤ 800000) : ∃ A B C D' h', m_law_table_two [.cell n, .int p] h = .ok (tabD A B C D') h' ∧ Tab p A B C D' ∧ Bg h' n (c + 40) ∧ Kp n h h' := by
  obtain ⟨lo, hi, e1, hlo, hhi⟩ : ∃ lo hi, tb_1 (tEnv n p 0 0 none none none |>.set 2 none |>.set 3 none) h = .nx (tEnv n p lo hi none none none) h ∧ (-2 ≤ lo ∧ lo ≤ 0) ∧ (0 < hi - lo + 1 ∧ hi - lo + 1 ≤ 13) := by
    by_cases p0 : p = 0
    · subst p0
      refine ⟨-2, 2, ?_, by omega, by omega⟩
      unfold tb_1
      simp
    · refine ⟨0, p - 1, ?_, by omega, by have := hp.nn; omega⟩
      unfold tb_1
      simp [p0]
  have sr := src_r1 (p := 8) (by decide) (by decide) h
  have ck : (Src.mk (rngD 0 (8 : Int).toNat) none).chk = fun _ => true := rfl
  have run : ∀ r, tb_2 (tEnv n p lo hi none none none) h = r → r = loopF (gN 4) tbb (fun _ => true) (rngD 0 (8 : Int).toNat) (tEnv n p lo hi none none none) h := fun r er => by
    rw [← er, tb_eq2, mFor_ap, mSrcA_ap, show mCons (mC (.int 8)) mNil (tEnv n p lo hi none none none) h = .ok [.int 8] h from rfl, bind_ok, sr, toF_ok]
    rfl
  have run := run _ rfl
  have top : m_law_table_two [.cell n, .int p] h = fnOut ((tb_2 (tEnv n p lo hi none none none) h).seq tb_3) := by
    rw [tb_eq, mFn_ap (show [D.cell n, D.int p].length = 2 from rfl), show startM 8 [D.cell n, D.int p] = (tEnv n p 0 0 none none none |>.set 2 none |>.set 3 none) from rfl, mSeq_ap, e1, seq_nx, mSeq_ap]
  rcases tb_loop (n := n) hp.pr hlo hhi (rngD 0 (8 : Int).toNat) c none none none h hb (by rw [rngD_len]; show c + 4 * 8 ≤ 900000; omega) with ⟨A, B, C, D', h1, e, t, b, k⟩ | ⟨x, y, z, h1, e, b, k⟩
  · refine ⟨A, B, C, D', h1, ?_, t, b.up (by rw [rngD_len]; show c + 4 * 8 ≤ c + 40; omega), k⟩
    rw [top, run, e]
    rfl
  · refine ⟨0, 1, 1, 0, h1, ?_, ⟨by unfold e13; omega, by unfold e13; omega, by unfold e13; omega, by unfold e13; omega, ?_⟩, b.up (by rw [rngD_len]; show c + 4 * 8 ≤ c + 40; omega), k⟩
    · rw [top, run, e]
      rfl
    · rcases hp with rfl | rfl | rfl | rfl | rfl | rfl <;> decide
/-! led -/
def sl_1 : MS := mAsg (mTup (mCons (mBin vIx (mVar 1) (mC (.int 1))) (mCons (mBin vSub (mC (.int 0)) (mBin vIx (mVar 1) (mC (.int 0)))) mNil))) (gTA 2 (gsCons (gN 3) (gsCons (gN 4) gsNil)))
def sl_2 : MS := mAsg (mLc (mSrc (mVar 2) srcS) (gN 7) mYes (mBin vAdd (mBin vMul (mBin vIx (mVar 7) (mC (.int 0))) (mVar 3)) (mBin vMul (mBin vIx (mVar 7) (mC (.int 1))) (mVar 4))) [7]) (gTA 2 (gsCons (gN 5) (gsCons (gN 6) gsNil)))
def sl_3 : MS := mRet (mCallD 2 m_law_normal [] (mCons (mVar 0) (mCons (mTup (mCons (mVar 6) (mCons (mBin vSub (mC (.int 0)) (mVar 5)) mNil))) mNil)))
theorem sl_eq : m_law_spot_led = mFn 3 8 (mSeq sl_1 (mSeq sl_2 sl_3)) := rfl

theorem ld_bd {A B a b : Int} (hA : e13 A) (hB : e13 B) (ha : a.natAbs ≤ 10000000) (hb : b.natAbs ≤ 10000000) : (A * b + B * (0 - a)).natAbs ≤ 260000000 := by
  unfold e13 at hA hB
  have x := mul_bd (a := A) (b := b) (show A.natAbs ≤ 13 by omega) hb
  have y := mul_bd (a := B) (b := 0 - a) (show B.natAbs ≤ 13 by omega) (show (0 - a).natAbs ≤ 10000000 by omega)
  omega
theorem s_led {p A B C D' : Int} {s : Int × Int} {h : MH} (hp : Pr p) (t : Tab p A B C D') (hs : s.1.natAbs ≤ 10000000 ∧ s.2.natAbs ≤ 10000000) (z : ¬ Z2 p s.1 s.2) : m_law_spot_led [.int p, tp s, tabD A B C D'] h = .ok (tz (NP p (ldx A B C D' s.1 s.2) (ldy A B C D' s.1 s.2))) h := by
  obtain ⟨a, b⟩ := s
  have bx := ld_bd t.c t.d hs.1 hs.2
  have bt := ld_bd t.a t.b hs.1 hs.2
  have nz := led_nz (A := A) (B := B) (C := C) (D' := D') hp t.n z
  have no := s_lnorm (h := h) hp (a := ldx A B C D' a b) (b := ldy A B C D' a b) (by unfold ldx; simp only at bx; omega) (by unfold ldy; simp only at bt; omega) nz
  have hA := t.a
  have hB := t.b
  have hC := t.c
  have hD := t.d
  unfold e13 at hA hB hC hD
  simp only at hs
  have m1 := vMul_i (h := h) (mul_ok (i := A) (j := b) (sm40 (by omega) (by omega)) (sm40 (by omega) (by omega)))
  have m2 := vMul_i (h := h) (mul_ok (i := B) (j := 0 - a) (sm40 (by omega) (by omega)) (sm40 (by omega) (by omega)))
  have m3 := vMul_i (h := h) (mul_ok (i := C) (j := b) (sm40 (by omega) (by omega)) (sm40 (by omega) (by omega)))
  have m4 := vMul_i (h := h) (mul_ok (i := D') (j := 0 - a) (sm40 (by omega) (by omega)) (sm40 (by omega) (by omega)))
  rw [sl_eq, mFn_ap (show [D.int p, tp (a, b), tabD A B C D'].length = 3 from rfl), show startM 8 [D.int p, tp (a, b), tabD A B C D'] = [some (.int p), some (tp (a, b)), some (tabD A B C D'), none, none, none, none, none] from rfl, mSeq_ap]
  have e1 : sl_1 [some (.int p), some (tp (a, b)), some (tabD A B C D'), none, none, none, none, none] h = .nx [some (.int p), some (tp (a, b)), some (tabD A B C D'), some (.int b), some (.int (0 - a)), none, none, none] h := by
    unfold sl_1
    simp
  have e2 : sl_2 [some (.int p), some (tp (a, b)), some (tabD A B C D'), some (.int b), some (.int (0 - a)), none, none, none] h = .nx [some (.int p), some (tp (a, b)), some (tabD A B C D'), some (.int b), some (.int (0 - a)), some (.int (A * b + B * (0 - a))), some (.int (C * b + D' * (0 - a))), none] h := by
    have sr : (srcS (tabD A B C D') h) = .ok ⟨[.tup [.int A, .int B], .tup [.int C, .int D']], none⟩ h := rfl
    have ck : (Src.mk [.tup [.int A, .int B], .tup [.int C, .int D']] none).chk = fun _ => true := rfl
    unfold sl_2
    rw [mAsg_ap, mLc_ap, mSrc_ap, mVar_ap]
    simp only [List.getElem?_cons_zero, List.getElem?_cons_succ, bind_ok, sr, wipe_cons, wipe_nil, List.set, ck]
    rw [loopC, if_pos rfl]
    simp only [gN_ap, List.set, mYes_ap, noEx_ok, bind_ok, mBin_ap, mVar_ap, mC_ap, List.getElem?_cons_zero, List.getElem?_cons_succ, vIx_tup, atI_0, atI_1, m1, m2, vAdd_i]
    rw [if_pos (by simp), loopC, if_pos rfl]
    simp only [gN_ap, List.set, mYes_ap, noEx_ok, bind_ok, mBin_ap, mVar_ap, mC_ap, List.getElem?_cons_zero, List.getElem?_cons_succ, vIx_tup, atI_0, atI_1, m3, m4, vAdd_i]
    rw [if_pos (by simp), loopC, if_pos rfl]
    rfl
  have e3 : sl_3 [some (.int p), some (tp (a, b)), some (tabD A B C D'), some (.int b), some (.int (0 - a)), some (.int (A * b + B * (0 - a))), some (.int (C * b + D' * (0 - a))), none] h = .rt (tz (NP p (ldx A B C D' a b) (ldy A B C D' a b))) h := by
    unfold sl_3
    rw [mRet_ap, mCallD_ap, mCons_ap, mVar_ap]
    simp only [List.getElem?_cons_zero, List.getElem?_cons_succ, bind_ok, mCons_ap, mTup_ap, mVar_ap, mBin_ap, mC_ap, vSub_i, mNil_ap]
    rw [if_pos (by simp)]
    simp only [bind_ok, List.append_nil, List.length, Nat.zero_add, Nat.reduceAdd, if_true]
    have no' : m_law_normal [.int p, .tup [.int (C * b + D' * (0 - a)), .int (0 - (A * b + B * (0 - a)))]] h = .ok (tz (NP p (ldx A B C D' a b) (ldy A B C D' a b))) h := no
    rw [no', toF_ok]
  rw [e1, seq_nx, mSeq_ap, e2, seq_nx, e3]
  rfl
end G
namespace G
open PySem PySem.Spec PyProof.Rows L2 MI
def fo_1 : MS := mIfS (mTest (mBin vGt (mCallD 2 m_law_grab [] (mCons (mVar 0) (mCons (mC (.int 3)) mNil))) (mC (.int 0)))) (mRet (mCallD 3 m_law_spots [] (mCons (mVar 0) (mCons (mVar 1) (mCons (mC (.int 4)) mNil))))) mNext
def fo_2 : MS := mAsg (mTup (mCons (mCallD 2 m_law_table_two [] (mCons (mVar 0) (mCons (mVar 1) mNil))) (mCons (mIf (mTest (mBin vEq (mVar 1) (mC (.int 0)))) (mUn vNeg (mC (.int 1))) (mBin vSub (mVar 1) (mC (.int 1)))) mNil))) (gTA 2 (gsCons (gN 2) (gsCons (gN 3) gsNil)))
def fo_3 : MS := mAsg (mLc (mSrc (mLst (mCons (mTup (mCons (mC (.int 1)) (mCons (mC (.int 0)) mNil))) (mCons (mTup (mCons (mC (.int 0)) (mCons (mC (.int 1)) mNil))) (mCons (mTup (mCons (mC (.int 1)) (mCons (mC (.int 1)) mNil))) (mCons (mTup (mCons (mC (.int 1)) (mCons (mVar 3) mNil))) mNil))))) srcS) (gN 5) mYes (mCallD 3 m_law_spot_led [] (mCons (mVar 1) (mCons (mVar 5) (mCons (mVar 2) mNil)))) [5]) (gN 4)
def fo_4 : MS := mRet (mIf (mTest (mBin vEq (mCallD 2 m_law_grab [] (mCons (mVar 0) (mCons (mC (.int 3)) mNil))) (mC (.int 0)))) (mCallD 2 m_law_mixed [] (mCons (mVar 0) (mCons (mVar 4) mNil))) (mVar 4))
theorem fo_eq : m_law_four = mFn 2 6 (mSeq fo_1 (mSeq fo_2 (mSeq fo_3 fo_4))) := rfl

theorem ld_small {A B a b : Int} (hA : e13 A) (hB : e13 B) (ha : a.natAbs ≤ 13) (hb : b.natAbs ≤ 13) : (A * b + B * (0 - a)).natAbs ≤ 338 := by
  unfold e13 at hA hB
  have x := mul_bd (a := A) (b := b) (show A.natAbs ≤ 13 by omega) hb
  have y := mul_bd (a := B) (b := 0 - a) (show B.natAbs ≤ 13 by omega) (show (0 - a).natAbs ≤ 13 by omega)
  omega
theorem led_spo {p A B C D' a b u v t : Int} (hp : Pm p) (T : Tab p A B C D') (ha : a.natAbs ≤ 13) (hb : b.natAbs ≤ 13) (l : Led p A B C D' a b u v t) : Spo p (u, v) := by
  refine ⟨l.sp, ?_, fun e => ?_⟩
  · by_cases e : p = 0
    · subst e
      have x := ld_small T.c T.d ha hb
      have y := ld_small T.a T.b ha hb
      have bd := l.bd
      unfold ldx ldy at bd
      simp only
      omega
    · have := l.r e
      have := hp.nn
      simp only
      omega
  · have := l.r e
    simp only
    omega
abbrev lastP (p : Int) : Int := if p = 0 then -1 else p - 1
theorem base_br {p : Int} (hp : Pm p) : (¬ p ∣ br 1 0 0 1 ∧ ¬ p ∣ br 1 0 1 1 ∧ ¬ p ∣ br 1 0 1 (lastP p)) ∧ (¬ p ∣ br 0 1 1 1 ∧ ¬ p ∣ br 0 1 1 (lastP p)) ∧ ¬ p ∣ br 1 1 1 (lastP p) := by
  rcases hp with rfl | rfl | rfl | rfl | rfl | rfl <;> decide +kernel
theorem base_nz {p : Int} (hp : Pm p) : ¬ Z2 p 1 0 ∧ ¬ Z2 p 0 1 ∧ ¬ Z2 p 1 1 ∧ ¬ Z2 p 1 (lastP p) := by
  have one : ¬ p ∣ 1 := by rcases hp with rfl | rfl | rfl | rfl | rfl | rfl <;> decide +kernel
  exact ⟨nz_l one, nz_r one, nz_l one, nz_l one⟩
theorem last_bd {p : Int} (hp : Pm p) : (lastP p).natAbs ≤ 13 := by rcases hp with rfl | rfl | rfl | rfl | rfl | rfl <;> decide +kernel
def FourD (h : MH) (d : D) (s t u v : Int × Int) : Prop := d = .lst [tp s, tp t, tp u, tp v] ∨ ∃ q, d = .cell q ∧ h[q]? = some [tp s, tp t, tp u, tp v]
theorem led_four {p A B C D' : Int} (hp : Pm p) (T : Tab p A B C D') : ∃ s t u v : Int × Int, Four p s t u v ∧ ∀ (h : MH) (y : Option D), fo_3 [y, some (.int p), some (tabD A B C D'), some (.int (lastP p)), none, none] h = .nx [y, some (.int p), some (tabD A B C D'), some (.int (lastP p)), some (.lst [tp s, tp t, tp u, tp v]), none] h := by
  obtain ⟨z1, z2, z3, z4⟩ := base_nz hp
  obtain ⟨⟨b12, b13, b14⟩, ⟨b23, b24⟩, b34⟩ := base_br hp
  have lb := last_bd hp
  obtain ⟨u1, v1, t1, l1⟩ := led_of hp.pr T.n z1
  obtain ⟨u2, v2, t2, l2⟩ := led_of hp.pr T.n z2
  obtain ⟨u3, v3, t3, l3⟩ := led_of hp.pr T.n z3
  obtain ⟨u4, v4, t4', l4⟩ := led_of hp.pr T.n z4
  have s1 := led_spo hp T (by decide) (by decide) l1
  have s2 := led_spo hp T (by decide) (by decide) l2
  have s3 := led_spo hp T (by decide) (by decide) l3
  have s4 := led_spo hp T (by decide) lb l4
  have n12 := l1.ne hp.pr T.n l2 b12
  have n13 := l1.ne hp.pr T.n l3 b13
  have n14 := l1.ne hp.pr T.n l4 b14
  have n23 := l2.ne hp.pr T.n l3 b23
  have n24 := l2.ne hp.pr T.n l4 b24
  have n34 := l3.ne hp.pr T.n l4 b34
  refine ⟨(u1, v1), (u2, v2), (u3, v3), (u4, v4), ⟨s1, s2, s3, s4, ?_, ?_, ?_, ?_, ?_, ?_⟩, fun h y => ?_⟩
  · intro z; injection z with a b; exact n12 ⟨a, b⟩
  · intro z; injection z with a b; exact n13 ⟨a, b⟩
  · intro z; injection z with a b; exact n14 ⟨a, b⟩
  · intro z; injection z with a b; exact n23 ⟨a, b⟩
  · intro z; injection z with a b; exact n24 ⟨a, b⟩
  · intro z; injection z with a b; exact n34 ⟨a, b⟩
  have r1 := s_led (s := (1, 0)) (h := h) hp.pr T (by decide) z1
  have r2 := s_led (s := (0, 1)) (h := h) hp.pr T (by decide) z2
  have r3 := s_led (s := (1, 1)) (h := h) hp.pr T (by decide) z3
  have r4 := s_led (s := (1, lastP p)) (h := h) hp.pr T ⟨(show (1 : Int).natAbs ≤ 10000000 by decide), (show (lastP p).natAbs ≤ 10000000 by omega)⟩ z4
  simp only [l1.e, l2.e, l3.e, l4.e] at r1 r2 r3 r4
  have sr : mSrc (mLst (mCons (mTup (mCons (mC (.int 1)) (mCons (mC (.int 0)) mNil))) (mCons (mTup (mCons (mC (.int 0)) (mCons (mC (.int 1)) mNil))) (mCons (mTup (mCons (mC (.int 1)) (mCons (mC (.int 1)) mNil))) (mCons (mTup (mCons (mC (.int 1)) (mCons (mVar 3) mNil))) mNil))))) srcS [y, some (.int p), some (tabD A B C D'), some (.int (lastP p)), none, none] h = .ok ⟨[tp (1, 0), tp (0, 1), tp (1, 1), tp (1, lastP p)], none⟩ h := rfl
  have ck : (Src.mk [tp (1, 0), tp (0, 1), tp (1, 1), tp (1, lastP p)] none).chk = fun _ => true := rfl
  have step : ∀ (s : Int × Int) (w : D) (r acc : List D), m_law_spot_led [.int p, tp s, tabD A B C D'] h = .ok w h → acc.length < 10 → loopC (gN 5) mYes (mCallD 3 m_law_spot_led [] (mCons (mVar 1) (mCons (mVar 5) (mCons (mVar 2) mNil)))) [y, some (.int p), some (tabD A B C D'), some (.int (lastP p)), none, none] (fun _ => true) (tp s :: r) acc h = loopC (gN 5) mYes (mCallD 3 m_law_spot_led [] (mCons (mVar 1) (mCons (mVar 5) (mCons (mVar 2) mNil)))) [y, some (.int p), some (tabD A B C D'), some (.int (lastP p)), none, none] (fun _ => true) r (acc ++ [w]) h := fun s w r acc e hl => by
    rw [loopC, if_pos rfl]
    simp only [gN_ap, List.set, mYes_ap, noEx_ok, bind_ok, mCallD_ap, mCons_ap, mVar_ap, mNil_ap, List.getElem?_cons_zero, List.getElem?_cons_succ, List.append_nil, List.length, Nat.zero_add, Nat.reduceAdd, if_true, e]
    rw [if_pos (by omega)]
  unfold fo_3
  rw [mAsg_ap, mLc_ap, sr, bind_ok]
  simp only [wipe_cons, wipe_nil, List.set, ck]
  rw [step _ _ _ _ r1 (by simp), step _ _ _ _ r2 (by simp), step _ _ _ _ r3 (by simp), step _ _ _ _ r4 (by simp), loopC, if_pos rfl]
  rfl
theorem s_four {n : Nat} {c p : Int} {h : MH} (hp : Pm p) (hb : Bg h n c) (hc : c ≤ 700000) : ∃ d s t u v h', m_law_four [.cell n, .int p] h = .ok d h' ∧ FourD h' d s t u v ∧ Bg h' n (c + 100) ∧ Kp n h h' ∧ Four p s t u v := by
  obtain ⟨r, l2, g2, r0, r1, b1⟩ := s_grab (t := 3) (by decide) (sm_small (by decide) (by decide)) hb (by omega)
  have k1 : Kp n h (h.set n l2) := .set
  rw [fo_eq, mFn_ap (show [D.cell n, D.int p].length = 2 from rfl), show startM 6 [D.cell n, D.int p] = [some (.cell n), some (.int p), none, none, none, none] from rfl, mSeq_ap]
  by_cases hr : 0 < r
  · obtain ⟨q, s, t, u, v, h1, e1, eq, hq, hl, b2, k2, F⟩ := s_spots hp b1 (by omega)
    refine ⟨.cell q, s, t, u, v, h1, ?_, .inr ⟨q, rfl, eq⟩, b2.up (by omega), k1.trans k2, F⟩
    have e : fo_1 [some (.cell n), some (.int p), none, none, none, none] h = .rt (.cell q) h1 := by
      unfold fo_1
      simp [g2, hr, e1]
    rw [e]
    rfl
  · have e1 : fo_1 [some (.cell n), some (.int p), none, none, none, none] h = .nx [some (.cell n), some (.int p), none, none, none, none] (h.set n l2) := by
      unfold fo_1
      simp [g2, hr]
    obtain ⟨A, B, C, D', h1, e2, T, b2, k2⟩ := s_table hp b1 (by omega)
    obtain ⟨s, t, u, v, F, e3⟩ := led_four hp T
    have f2 : fo_2 [some (.cell n), some (.int p), none, none, none, none] (h.set n l2) = .nx [some (.cell n), some (.int p), some (tabD A B C D'), some (.int (lastP p)), none, none] h1 := by
      have le : ∀ hh, mIf (mTest (mBin vEq (mVar 1) (mC (.int 0)))) (mUn vNeg (mC (.int 1))) (mBin vSub (mVar 1) (mC (.int 1))) [some (.cell n), some (.int p), none, none, none, none] hh = .ok (.int (lastP p)) hh := fun hh => by
        by_cases p0 : p = 0
        · subst p0; simp
        · simp [p0]
      unfold fo_2
      rw [mAsg_ap, mTup_ap, mCons_ap, mCallD_ap, mCons_ap, mVar_ap]
      simp only [List.getElem?_cons_zero, List.getElem?_cons_succ, bind_ok, mCons_ap, mVar_ap, mNil_ap, List.append_nil, List.length, Nat.zero_add, Nat.reduceAdd, if_true, e2, le]
      rfl
    obtain ⟨i, l3, g3, i0, i1, b3⟩ := s_grab (t := 3) (by decide) (sm_small (by decide) (by decide)) b2 (by omega)
    rw [e1, seq_nx, mSeq_ap, f2, seq_nx, mSeq_ap, e3, seq_nx]
    by_cases hi : i = 0
    · obtain ⟨l', h2, e4, b4, pm, k4⟩ := s_mixed (l := [tp s, tp t, tp u, tp v]) (by simp) b3 (by omega)
      obtain ⟨L, hL, rfl⟩ := perm_tp (S := [s, t, u, v]) pm
      have nd : [s, t, u, v].Nodup := by
        simp [F.st, F.su, F.sv, F.tu, F.tv, F.uv]
      obtain ⟨s', t', u', v', et, nd', mem⟩ := take4 (p := p) hL (by simp) nd
      have L4 : L = [s', t', u', v'] := by
        have : L.length = 4 := hL.length_eq
        rw [← et, List.take_of_length_le (by omega)]
      subst L4
      refine ⟨.lst [tp s', tp t', tp u', tp v'], s', t', u', v', h2, ?_, .inl rfl, b4.up (by simp; omega), ((k1.trans k2).trans .set).trans k4, four_of nd' fun x hx => ?_⟩
      · have e4 : m_law_mixed [.cell n, .lst [tp s, tp t, tp u, tp v]] (h1.set n l3) = .ok (.lst [tp s', tp t', tp u', tp v']) h2 := e4
        unfold fo_4
        simp [g3, hi, e4]
      · have := mem x hx
        simp only [List.mem_cons, List.not_mem_nil, or_false] at this
        rcases this with rfl | rfl | rfl | rfl
        · exact F.a
        · exact F.b
        · exact F.c
        · exact F.d
    · refine ⟨.lst [tp s, tp t, tp u, tp v], s, t, u, v, h1.set n l3, ?_, .inl rfl, b3.up (by omega), (k1.trans k2).trans .set, F⟩
      unfold fo_4
      simp [g3, hi]
end G
namespace G
open PySem PySem.Spec PyProof.Rows L2 MI
/-! texts of pairs; lists of pairs -/
theorem strOk_of (s : String) : PyData.strOk (Str.ofString s) = true := by
  show (Str.ofString s).cps.all (fun c => decide (c < 0x110000)) = true
  unfold Str.ofString
  rw [cpsOfBytes_string, List.all_toArray, List.all_eq_true]
  intro n hn
  obtain ⟨c, _, rfl⟩ := List.mem_map.mp hn
  have h := c.valid
  have ht : c.toNat = c.val.toNat := rfl
  simp only [UInt32.isValidChar, Nat.isValidChar] at h
  exact decide_eq_true (by omega)
theorem strOk_app {a b : Str} (ha : PyData.strOk a = true) (hb : PyData.strOk b = true) : PyData.strOk (a ++ b) = true := by
  show (a.cps ++ b.cps).all (fun c => decide (c < 0x110000)) = true
  rw [Array.all_append, Bool.and_eq_true]
  exact ⟨ha, hb⟩
def N40 : Nat := 100000000000000000000000000000000000000000
theorem n40_log {x : Int} (h : x.natAbs ≤ N40) : x.natAbs.log2 < 1920 := log2_lt (by decide) (Nat.lt_of_le_of_lt h (by decide +kernel))
theorem repr_tz {x y : Int} {h : MH} (hx : x.natAbs ≤ N40) (hy : y.natAbs ≤ N40) : ∃ z : Str, vReprD (.tup [.int x, .int y]) h = .ok (.str z) h ∧ PyData.strOk z = true := by
  have o : pyOf h (.tup [.int x, .int y]) = some (.tuple [.int x, .int y]) := py_ltup [x, y]
  have lx := int_text_len_1921 (n40_log hx)
  have ly := int_text_len_1921 (n40_log hy)
  have e : PyData.shown (.tuple [.int x, .int y]) = tupleText [Str.ofString (toString x), Str.ofString (toString y)] := rfl
  refine ⟨PyData.shown (.tuple [.int x, .int y]), ?_, ?_⟩
  · have l := tupleText_len_le [Str.ofString (toString x), Str.ofString (toString y)]
    simp only [List.map_cons, List.map_nil, List.sum_cons, List.sum_nil, List.length_cons, List.length_nil] at l
    have c : ((PyData.tuple [.int x, .int y]).showable && !(PyData.tuple [.int x, .int y]).hasDict && small (PyData.shown (.tuple [.int x, .int y])).length && decide ((PyData.tuple [.int x, .int y]).depth ≤ 60)) = true := by
      rw [Bool.and_eq_true, Bool.and_eq_true, Bool.and_eq_true]
      refine ⟨⟨⟨?_, rfl⟩, ?_⟩, rfl⟩
      · show (decide (x.natAbs.log2 < 1920) && (decide (y.natAbs.log2 < 1920) && true)) = true
        rw [decide_eq_true (n40_log hx), decide_eq_true (n40_log hy)]
        rfl
      · unfold small
        rw [e]
        exact decide_eq_true (by omega)
    unfold vReprD
    rw [o]
    dsimp only
    rw [if_pos c]
  · rw [e]
    exact strOk_app (strOk_app (by decide +kernel) (strOk_app (strOk_app (strOk_of _) (by decide +kernel)) (strOk_of _))) (strOk_of _)
theorem ne_strs {z : Str} {h : MH} (hz : PyData.strOk z = true) : vNe (.str z) (.str z) h = .ok (.bl false) h := by
  have o : pyOf h (.str z) = some (.str z) := by
    unfold pyOf
    show (if SeqAt.shaped (.str z) = true then some (PyData.str z) else none) = _
    have q : SeqAt.shaped (.str z) = true := by
      show (PyData.strOk z && decide (PyData.depth (.str z) ≤ 64)) = true
      rw [hz]
      rfl
    rw [if_pos q]
  unfold vNe
  rw [o]
  show R.ok (D.bl (!(z == z))) h = _
  rw [beq_self_eq_true]
  rfl
/-- lists of rows -/
theorem pyAll_rows {h : MH} {k : Nat} : ∀ ls : List (List Int), pyAll (D.py h (k + 1)) (ls.map fun l => tz l) = some (ls.map fun l => PyData.tuple (l.map PyData.int))
  | [] => rfl
  | l :: r => by
    have e : D.py h (k + 1) (tz l) = some (.tuple (l.map PyData.int)) := by
      show ((pyAll (D.py h k) (l.map D.int)).map PyData.tuple) = _
      rw [pyAll_ints]; rfl
    simp only [List.map_cons, pyAll, e, pyAll_rows r, Option.bind_some]
theorem lay_rows : ∀ ls : List (List Int), PyData.canLayAll0 (ls.map fun l => PyData.tuple (l.map PyData.int)) = true
  | [] => rfl
  | l :: r => by
    show (PyData.canLayAll0 (l.map PyData.int) && PyData.canLayAll0 (r.map fun l => PyData.tuple (l.map PyData.int))) = true
    rw [lay_ints l, lay_rows r]
    rfl
theorem dep_rows : ∀ ls : List (List Int), PyData.depthAll (ls.map fun l => PyData.tuple (l.map PyData.int)) ≤ 1
  | [] => by decide
  | l :: r => by
    show max (PyData.depthAll (l.map PyData.int) + 1) (PyData.depthAll (r.map fun l => PyData.tuple (l.map PyData.int))) ≤ 1
    rw [dep_ints l]
    have := dep_rows r
    omega
theorem eqv_rows : ∀ ls : List (List Int), PyData.eqvAll (ls.map fun l => PyData.tuple (l.map PyData.int)) (ls.map fun l => PyData.tuple (l.map PyData.int)) = true
  | [] => rfl
  | l :: r => by
    show (PyData.eqvAll (l.map PyData.int) (l.map PyData.int) && PyData.eqvAll (r.map fun l => PyData.tuple (l.map PyData.int)) (r.map fun l => PyData.tuple (l.map PyData.int))) = true
    rw [eqv_ints, eqv_rows r, decide_eq_true rfl]
    rfl
theorem py_rows (ls : List (List Int)) (h : MH) : pyOf h (.lst (ls.map fun l => tz l)) = some (.list (ls.map fun l => PyData.tuple (l.map PyData.int))) := by
  have e : D.py h 12 (.lst (ls.map fun l => tz l)) = some (.list (ls.map fun l => PyData.tuple (l.map PyData.int))) := by
    show ((pyAll (D.py h 11) (ls.map fun l => tz l)).map PyData.list) = _
    rw [pyAll_rows]; rfl
  have q : SeqAt.shaped (.list (ls.map fun l => PyData.tuple (l.map PyData.int))) = true := by
    show (PyData.canLayAll0 (ls.map fun l => PyData.tuple (l.map PyData.int)) && decide (PyData.depthAll (ls.map fun l => PyData.tuple (l.map PyData.int)) + 1 ≤ 64)) = true
    rw [lay_rows]
    have := dep_rows ls
    rw [decide_eq_true (by omega)]
    rfl
  unfold pyOf
  rw [e]
  show (if SeqAt.shaped (.list (ls.map fun l => PyData.tuple (l.map PyData.int))) = true then some (PyData.list (ls.map fun l => PyData.tuple (l.map PyData.int))) else none) = _
  rw [if_pos q]
theorem ne_rows {q : Nat} {h : MH} (ls : List (List Int)) (e : h[q]? = some (ls.map fun l => tz l)) : vNe (.cell q) (.lst (ls.map fun l => tz l)) h = .ok (.bl false) h := by
  unfold vNe
  rw [py_cell e, py_rows]
  show R.ok (D.bl (!PyData.eqvAll _ _)) h = _
  rw [eqv_rows]
  rfl
/-- a law's row of greater numbers -/
theorem dm_mod' {p a b : Int} (hp : Pr p) (ha : a.natAbs ≤ N40) (hb : b.natAbs ≤ N40) : Dm p [a % p, b % p] := by
  have n : N40 = 100000000000000000000000000000000000000000 := rfl
  refine ⟨fun e i hi => ?_, fun e => rg2 (hp.resolve_left e)⟩
  subst e
  rw [Int.emod_zero, Int.emod_zero] at hi
  rcases List.mem_cons.mp hi with rfl | hi
  · exact sm40 (by omega) (by omega)
  · rw [List.mem_singleton] at hi
    subst hi
    exact sm40 (by omega) (by omega)
theorem s_lnorm' {p a b : Int} {h : MH} (hp : Pr p) (ha : a.natAbs ≤ N40) (hb : b.natAbs ≤ N40) (z : ¬ Z2 p a b) : m_law_normal [.int p, .tup [.int a, .int b]] h = .ok (tz (NP p a b)) h := by
  have e : [a, b].map (lw p) = [a % p, b % p] := by simp [lw_mod]
  have q := s_law_normal (l0 := [a, b]) hp (by rw [e]; exact dm_mod' hp ha hb) (by simp) (by rw [e]; exact hd2 z) h
  rw [e] at q
  exact q
end G
namespace G
open PySem PySem.Spec PyProof.Rows L2 MI
def tr_1 : MS := mAsg (mCallD 2 m_law_four [] (mCons (mVar 0) (mCons (mVar 1) mNil))) (gTA 4 (gsCons (gN 2) (gsCons (gN 3) (gsCons (gN 4) (gsCons (gN 5) gsNil)))))
def tr_2 : MS := mAsg (mTup (mCons (mCallD 2 m_cross_ratio [] (mCons (mVar 1) (mCons (mTup (mCons (mVar 2) (mCons (mVar 3) (mCons (mVar 4) (mCons (mVar 5) mNil))))) mNil))) (mCons (mCallD 2 m_law_table_two [] (mCons (mVar 0) (mCons (mVar 1) mNil))) mNil))) (gTA 2 (gsCons (gN 6) (gsCons (gN 7) gsNil)))
def tr_3 : MS := mIfS (mTest (mBin vNe (mCall (vOne vReprD) (mCons (mVar 6) mNil)) (mCall (vOne vReprD) (mCons (mCallD 2 m_law_cross_ratio [] (mCons (mVar 1) (mCons (mTup (mCons (mVar 2) (mCons (mVar 3) (mCons (mVar 4) (mCons (mVar 5) mNil))))) mNil))) mNil)))) (mRet (mC (.bl false))) mNext
def tr_4 : MS := mIfS (mTest (mBin vNe (mCall (vOne vReprD) (mCons (mCallD 2 m_is_harmonic [] (mCons (mVar 1) (mCons (mTup (mCons (mVar 2) (mCons (mVar 3) (mCons (mVar 4) (mCons (mVar 5) mNil))))) mNil))) mNil)) (mCall (vOne vReprD) (mCons (mCallD 2 m_law_is_zero [] (mCons (mVar 1) (mCons (mBin vAdd (mBin vIx (mVar 6) (mC (.int 0))) (mBin vIx (mVar 6) (mC (.int 1)))) mNil))) mNil)))) (mRet (mC (.bl false))) mNext
def tr_5 : MS := mAsg (mCell (mCons (mCallD 2 m_cross_ratio [] (mCons (mVar 1) (mCons (mTup (mCons (mVar 2) (mCons (mVar 3) (mCons (mVar 5) (mCons (mVar 4) mNil))))) mNil))) (mCons (mCallD 2 m_cross_ratio [] (mCons (mVar 1) (mCons (mTup (mCons (mVar 4) (mCons (mVar 5) (mCons (mVar 2) (mCons (mVar 3) mNil))))) mNil))) mNil))) (gN 8)
def tr_6 : MS := mDrop (mMeth vAppend (mVar 8) (mCons (mCallD 2 m_cross_ratio [] (mCons (mVar 1) (mCons (mTup (mCons (mVar 2) (mCons (mVar 4) (mCons (mVar 3) (mCons (mVar 5) mNil))))) mNil))) mNil))
def tr_7 : MS := mAsg (mLst (mCons (mCallD 2 m_law_normal [] (mCons (mVar 1) (mCons (mTup (mCons (mBin vIx (mVar 6) (mC (.int 1))) (mCons (mBin vIx (mVar 6) (mC (.int 0))) mNil))) mNil))) (mCons (mVar 6) (mCons (mCallD 2 m_law_normal [] (mCons (mVar 1) (mCons (mTup (mCons (mBin vSub (mBin vIx (mVar 6) (mC (.int 0))) (mBin vIx (mVar 6) (mC (.int 1)))) (mCons (mBin vSub (mC (.int 0)) (mBin vIx (mVar 6) (mC (.int 1)))) mNil))) mNil))) mNil)))) (gN 9)
def tr_8 : MS := mIfS (mTest (mBin vNe (mVar 8) (mVar 9))) (mRet (mC (.bl false))) mNext
def tr_9 : MS := mAsg (mCall (vOne vTuple) (mCons (mLc (mSrc (mTup (mCons (mVar 2) (mCons (mVar 3) (mCons (mVar 4) (mCons (mVar 5) mNil))))) srcS) (gN 11) mYes (mCallD 3 m_law_spot_led [] (mCons (mVar 1) (mCons (mVar 11) (mCons (mVar 7) mNil)))) [11]) mNil)) (gN 10)
def tr_10 : MS := mRet (mOr (mBin vGt (mCall (vOne vMaxL) (mCons (mLc (mSrc (mVar 10) srcS) (gN 11) mYes (mCall (vTwo vMax2) (mCons (mCall (vOne vAbs) (mCons (mBin vIx (mVar 11) (mC (.int 0))) mNil)) (mCons (mCall (vOne vAbs) (mCons (mBin vIx (mVar 11) (mC (.int 1))) mNil)) mNil))) [11]) mNil)) (mBin vPow (mC (.int 10)) (mC (.int 7)))) (mBin vEq (mCallD 2 m_cross_ratio [] (mCons (mVar 1) (mCons (mVar 10) mNil))) (mVar 6)))
theorem tr_eq : m_law_told_right = mFn 2 12 (mSeq tr_1 (mSeq tr_2 (mSeq tr_3 (mSeq tr_4 (mSeq tr_5 (mSeq tr_6 (mSeq tr_7 (mSeq tr_8 (mSeq tr_9 tr_10))))))))) := rfl

section
variable {p : Int} {s t u v : Int × Int} {h : MH}
theorem Spo.ne (hp : Pr p) (a : Spo p s) (b : Spo p t) (n : s ≠ t) : ¬ p ∣ B2 s t := a.sp.br hp b.sp fun z => n (Prod.ext z.1 z.2)
theorem B2_neg (s t : Int × Int) : B2 t s = - B2 s t := by unfold B2 br; grind
/-- what is known of the cross ratio of four unlike spots -/
structure Rto (p : Int) (s t u v : Int × Int) (l x y : Int) : Prop where
  e : CR p s t u v = [x, y]
  nt : ¬ p ∣ top4 s t u v
  nb : ¬ p ∣ bot4 s t u v
  nl : ¬ p ∣ l
  ex : p ∣ top4 s t u v - l * x
  ey : p ∣ bot4 s t u v - l * y
  nx : ¬ p ∣ x
  ny : ¬ p ∣ y
  bx : x.natAbs ≤ 200000000000000 * 200000000000000
  by_ : y.natAbs ≤ 200000000000000 * 200000000000000
theorem rat_of (hp : Pr p) (F : Four p s t u v) : ∃ l x y, Rto p s t u v l x y := by
  have nt : ¬ p ∣ top4 s t u v := domN hp (F.a.ne hp F.c F.su) (F.b.ne hp F.d F.tv)
  have nb : ¬ p ∣ bot4 s t u v := domN hp (F.a.ne hp F.d F.sv) (F.b.ne hp F.c F.tu)
  have bt := mul_bd (B2_bd F.a F.c) (B2_bd F.b F.d)
  have bb := mul_bd (B2_bd F.a F.d) (B2_bd F.b F.c)
  obtain ⟨l, x, y, e, h1, h2, h3, h4, h5, h6⟩ := NP_split hp (nz_l (b := bot4 s t u v) nt)
  refine ⟨l, x, y, e, nt, nb, h1, h2, h3, fun z => nt (Cg.zero h2 (Int.dvd_mul_of_dvd_right z)), fun z => nb (Cg.zero h3 (Int.dvd_mul_of_dvd_right z)), ?_, ?_⟩
  · by_cases q : p = 0
    · subst q
      exact Nat.le_trans (nat_le_of_mul (h4 rfl).1 fun z => h1 (by rw [z]; exact Int.dvd_refl 0)) bt
    · have := h5 q
      have := hp.nn
      omega
  · by_cases q : p = 0
    · subst q
      exact Nat.le_trans (nat_le_of_mul (h4 rfl).2 fun z => h1 (by rw [z]; exact Int.dvd_refl 0)) bb
    · have := h5 q
      have := hp.nn
      omega
theorem Four.p1 (F : Four p s t u v) : Four p s t v u := ⟨F.a, F.b, F.d, F.c, F.st, F.sv, F.su, F.tv, F.tu, F.uv.symm⟩
theorem Four.p2 (F : Four p s t u v) : Four p u v s t := ⟨F.c, F.d, F.a, F.b, F.uv, F.su.symm, F.tu.symm, F.sv.symm, F.tv.symm, F.st⟩
theorem Four.p3 (F : Four p s t u v) : Four p s u t v := ⟨F.a, F.c, F.b, F.d, F.su, F.st, F.sv, F.tu.symm, F.uv, F.tv⟩
variable {l x y : Int}
theorem cr1 (hp : Pr p) (R : Rto p s t u v l x y) : CR p s t v u = NP p y x := cr_swap hp R.nb R.ny R.ex R.ey
theorem cr2 (R : Rto p s t u v l x y) : CR p u v s t = [x, y] := by
  have e1 : top4 u v s t = top4 s t u v := by unfold top4; rw [B2_neg s u, B2_neg t v]; grind
  have e2 : bot4 u v s t = bot4 s t u v := by unfold bot4; rw [B2_neg t u, B2_neg s v]; grind
  unfold CR
  rw [e1, e2]
  exact R.e
theorem cr3 (hp : Pr p) (R : Rto p s t u v l x y) : CR p s u t v = NP p (x - y) (0 - y) := by
  have e1 : top4 s u t v = top4 s t u v - bot4 s t u v := pluecker _ _ _ _ _ _ _ _
  have e2 : bot4 s u t v = - bot4 s t u v := by unfold bot4; rw [B2_neg t u]; grind
  unfold CR
  rw [e1, e2]
  exact cr_third hp R.ny R.nb R.ex R.ey
end
/-! the statements -/
section
variable {p : Int} {s t u v : Int × Int} {h : MH} {n : Nat} {l x y : Int}
abbrev trE (n : Nat) (p : Int) (s t u v : Int × Int) (a b c d e f : Option D) : Env1 := [some (.cell n), some (.int p), some (tp s), some (tp t), some (tp u), some (tp v), a, b, c, d, e, f]
theorem tup4 (ρ : Env1) (i j k m : Nat) {h : MH} {a b c d : D} (e1 : ρ[i]? = some (some a)) (e2 : ρ[j]? = some (some b)) (e3 : ρ[k]? = some (some c)) (e4 : ρ[m]? = some (some d)) : mTup (mCons (mVar i) (mCons (mVar j) (mCons (mVar k) (mCons (mVar m) mNil)))) ρ h = .ok (.tup [a, b, c, d]) h := by
  rw [mTup_ap, mCons_ap, mVar_ap]
  simp only [e1, e2, e3, e4, bind_ok, mCons_ap, mVar_ap, mNil_ap]
  rw [if_pos (by simp)]
theorem call2 {m : FnM} {ρ : Env1} {a : ME} {x : D} (e1 : ρ[1]? = some (some (.int p))) (e2 : a ρ h = .ok x h) : mCallD 2 m [] (mCons (mVar 1) (mCons a mNil)) ρ h = m [.int p, x] h := by
  rw [mCallD_ap, mCons_ap, mVar_ap]
  simp only [e1, bind_ok, mCons_ap, e2, mNil_ap, List.append_nil, List.length, Nat.zero_add, Nat.reduceAdd, if_true]
theorem s_zero (hp : Pr p) (i : Int) : m_law_is_zero [.int p, .int i] h = .ok (.bl (decide (i % p = 0))) h := by
  by_cases e : p = 0
  · subst e; simp [m_law_is_zero]
  · simp [m_law_is_zero, e, vMod_i e, fMod_pos (by have := hp.nn; omega : 0 < p)]
theorem reprB (b : Bool) : ∃ z : Str, vReprD (.bl b) h = .ok (.str z) h ∧ PyData.strOk z = true := by
  cases b
  · exact ⟨"False", by kernel_rfl, by decide +kernel⟩
  · exact ⟨"True", by kernel_rfl, by decide +kernel⟩
theorem n40_of {x : Int} (h : x.natAbs ≤ 200000000000000 * 200000000000000) : x.natAbs ≤ N40 := Nat.le_trans h (by decide +kernel)
theorem t3 (hp : Pr p) (F : Four p s t u v) (R : Rto p s t u v l x y) {b : D} : tr_3 (trE n p s t u v (some (.tup [.int x, .int y])) (some b) none none none none) h = .nx (trE n p s t u v (some (.tup [.int x, .int y])) (some b) none none none none) h := by
  obtain ⟨z, e, ok⟩ := repr_tz (h := h) (n40_of R.bx) (n40_of R.by_)
  have c := s_lcross (h := h) hp F.a F.b F.c F.d (nz_l R.nt)
  rw [R.e] at c
  have c : m_law_cross_ratio [.int p, t4 s t u v] h = .ok (.tup [.int x, .int y]) h := c
  have q := call2 (p := p) (h := h) (m := m_law_cross_ratio) (ρ := trE n p s t u v (some (.tup [.int x, .int y])) (some b) none none none none) rfl (tup4 (h := h) (trE n p s t u v (some (.tup [.int x, .int y])) (some b) none none none none) 2 3 4 5 rfl rfl rfl rfl)
  rw [c] at q
  unfold tr_3
  rw [mIfS_ap, mTest_ap, mBin_ap, mCall_ap, mCons_ap, mVar_ap]
  simp only [List.getElem?_cons_zero, List.getElem?_cons_succ, bind_ok, mNil_ap, vOne_ap, e, mCall_ap, mCons_ap, q, ne_strs ok, asB_bl, toF_ok, mNext_ap]
theorem t4' (hp : Pr p) (F : Four p s t u v) (R : Rto p s t u v l x y) {b : D} : tr_4 (trE n p s t u v (some (.tup [.int x, .int y])) (some b) none none none none) h = .nx (trE n p s t u v (some (.tup [.int x, .int y])) (some b) none none none none) h := by
  obtain ⟨z, e, ok⟩ := reprB (h := h) (decide ((x + y) % p = 0))
  have c := s_harm (h := h) hp F R.e
  have zz := s_zero (h := h) hp (x + y)
  have q := call2 (p := p) (h := h) (m := m_is_harmonic) (ρ := trE n p s t u v (some (.tup [.int x, .int y])) (some b) none none none none) rfl (tup4 (h := h) (trE n p s t u v (some (.tup [.int x, .int y])) (some b) none none none none) 2 3 4 5 rfl rfl rfl rfl)
  rw [c] at q
  unfold tr_4
  rw [mIfS_ap, mTest_ap, mBin_ap, mCall_ap, mCons_ap, q]
  simp only [bind_ok, mNil_ap, vOne_ap, e, mCall_ap, mCons_ap, mCallD_ap, mVar_ap, mBin_ap, mC_ap, vIx_tup, atI_0, atI_1, vAdd_i, List.getElem?_cons_zero, List.getElem?_cons_succ, List.append_nil, List.length, Nat.zero_add, Nat.reduceAdd, if_true, zz, ne_strs ok, asB_bl, toF_ok, mNext_ap]
theorem t5 (hp : Pr p) (F : Four p s t u v) (R : Rto p s t u v l x y) {b : D} : tr_5 (trE n p s t u v (some (.tup [.int x, .int y])) (some b) none none none none) h = .nx (trE n p s t u v (some (.tup [.int x, .int y])) (some b) (some (.cell h.length)) none none none) (h ++ [[tz (NP p y x), tz [x, y]]]) := by
  have c1 := s_cross (h := h) hp F.p1
  have c2 := s_cross (h := h) hp F.p2
  rw [cr1 hp R] at c1
  rw [cr2 R] at c2
  have q1 := call2 (p := p) (h := h) (m := m_cross_ratio) (ρ := trE n p s t u v (some (.tup [.int x, .int y])) (some b) none none none none) rfl (tup4 (h := h) (trE n p s t u v (some (.tup [.int x, .int y])) (some b) none none none none) 2 3 5 4 rfl rfl rfl rfl)
  have q2 := call2 (p := p) (h := h) (m := m_cross_ratio) (ρ := trE n p s t u v (some (.tup [.int x, .int y])) (some b) none none none none) rfl (tup4 (h := h) (trE n p s t u v (some (.tup [.int x, .int y])) (some b) none none none none) 4 5 2 3 rfl rfl rfl rfl)
  rw [c1] at q1
  rw [c2] at q2
  unfold tr_5
  rw [mAsg_ap, mCell_ap, mCons_ap, q1, bind_ok, mCons_ap, q2]
  rfl
theorem t6 (hp : Pr p) (F : Four p s t u v) (R : Rto p s t u v l x y) {b : D} {q : Nat} (eq : h[q]? = some [tz (NP p y x), tz [x, y]]) : tr_6 (trE n p s t u v (some (.tup [.int x, .int y])) (some b) (some (.cell q)) none none none) h = .nx (trE n p s t u v (some (.tup [.int x, .int y])) (some b) (some (.cell q)) none none none) (h.set q [tz (NP p y x), tz [x, y], tz (NP p (x - y) (0 - y))]) := by
  have c1 := s_cross (h := h) hp F.p3
  rw [cr3 hp R] at c1
  have q1 := call2 (p := p) (h := h) (m := m_cross_ratio) (ρ := trE n p s t u v (some (.tup [.int x, .int y])) (some b) (some (.cell q)) none none none) rfl (tup4 (h := h) (trE n p s t u v (some (.tup [.int x, .int y])) (some b) (some (.cell q)) none none none) 2 4 3 5 rfl rfl rfl rfl)
  rw [c1] at q1
  have ql : q < h.length := (List.getElem?_eq_some_iff.mp eq).1
  have ap := app_at (y := tz (NP p (x - y) (0 - y))) eq (by simp)
  unfold tr_6
  rw [mDrop_ap, mMeth_ap, mVar_ap]
  simp only [List.getElem?_cons_zero, List.getElem?_cons_succ, bind_ok, ql, if_true, mCons_ap, q1, mNil_ap, ap, toF_ok]
  rfl
theorem t7 (hp : Pr p) (R : Rto p s t u v l x y) {b : D} {q : Nat} : tr_7 (trE n p s t u v (some (.tup [.int x, .int y])) (some b) (some (.cell q)) none none none) h = .nx (trE n p s t u v (some (.tup [.int x, .int y])) (some b) (some (.cell q)) (some (.lst [tz (NP p y x), tz [x, y], tz (NP p (x - y) (0 - y))])) none none) h := by
  have n40 : N40 = 100000000000000000000000000000000000000000 := rfl
  have bx := R.bx
  have by_ := R.by_
  have c1 := s_lnorm' (h := h) hp (n40_of R.by_) (n40_of R.bx) (nz_l R.ny)
  have c2 := s_lnorm' (h := h) (a := x - y) (b := 0 - y) hp (by omega) (by omega) (nz_r fun z => R.ny (Int.dvd_neg.mp (by rwa [Int.zero_sub] at z)))
  unfold tr_7
  rw [mAsg_ap, mLst_ap, mCons_ap, mCallD_ap, mCons_ap, mVar_ap]
  simp only [List.getElem?_cons_zero, List.getElem?_cons_succ, bind_ok, mCons_ap, mTup_ap, mVar_ap, mBin_ap, mC_ap, vIx_tup, atI_0, atI_1, vSub_i, mNil_ap, mCallD_ap]
  rw [if_pos (by simp)]
  simp only [bind_ok, List.append_nil, List.length, Nat.zero_add, Nat.reduceAdd, if_true, c1]
  rw [if_pos (by simp)]
  simp only [bind_ok, List.append_nil, List.length, Nat.zero_add, Nat.reduceAdd, if_true, c2]
  rfl
theorem t8 {a b : D} {q : Nat} {L : List (List Int)} (eq : h[q]? = some (L.map fun l => tz l)) : tr_8 (trE n p s t u v (some a) (some b) (some (.cell q)) (some (.lst (L.map fun l => tz l))) none none) h = .nx (trE n p s t u v (some a) (some b) (some (.cell q)) (some (.lst (L.map fun l => tz l))) none none) h := by
  have e := ne_rows L eq
  unfold tr_8
  rw [mIfS_ap, mTest_ap, mBin_ap, mVar_ap]
  simp only [List.getElem?_cons_zero, List.getElem?_cons_succ, bind_ok, mVar_ap, e, asB_bl, toF_ok, mNext_ap]
end
end G
namespace G
open PySem PySem.Spec PyProof.Rows L2 MI
section
variable {p : Int} {s t u v : Int × Int} {h : MH} {n : Nat} {l x y : Int}
theorem t1 {d : D} {c : Int} {h1 : MH} (e : m_law_four [.cell n, .int p] h = .ok d h1) (fd : FourD h1 d s t u v) : tr_1 [some (.cell n), some (.int p), none, none, none, none, none, none, none, none, none, none] h = .nx (trE n p s t u v none none none none none none) h1 := by
  unfold tr_1
  rw [mAsg_ap, mCallD_ap, mCons_ap, mVar_ap]
  simp only [List.getElem?_cons_zero, List.getElem?_cons_succ, bind_ok, mCons_ap, mVar_ap, mNil_ap, List.append_nil, List.length, Nat.zero_add, Nat.reduceAdd, if_true, e, toF_ok]
  rcases fd with rfl | ⟨q, rfl, eq⟩
  · rfl
  · have g : gTA 4 (gsCons (gN 2) (gsCons (gN 3) (gsCons (gN 4) (gsCons (gN 5) gsNil)))) (.cell q) [some (.cell n), some (.int p), none, none, none, none, none, none, none, none, none, none] h1 = some (trE n p s t u v none none none none none none, h1) := by
      unfold gTA
      simp only [eq]
      rfl
    rw [g]
    rfl
theorem t2 {A B C D' : Int} {h1 : MH} (hp : Pr p) (F : Four p s t u v) (R : Rto p s t u v l x y) (e : m_law_table_two [.cell n, .int p] h = .ok (tabD A B C D') h1) : tr_2 (trE n p s t u v none none none none none none) h = .nx (trE n p s t u v (some (.tup [.int x, .int y])) (some (tabD A B C D')) none none none none) h1 := by
  have c1 := s_cross (h := h) hp F
  rw [R.e] at c1
  have q1 := call2 (p := p) (h := h) (m := m_cross_ratio) (ρ := trE n p s t u v none none none none none none) rfl (tup4 (h := h) (trE n p s t u v none none none none none none) 2 3 4 5 rfl rfl rfl rfl)
  rw [c1] at q1
  unfold tr_2
  rw [mAsg_ap, mTup_ap, mCons_ap, q1, bind_ok, mCons_ap, mCallD_ap, mCons_ap, mVar_ap]
  simp only [List.getElem?_cons_zero, List.getElem?_cons_succ, bind_ok, mCons_ap, mVar_ap, mNil_ap, List.append_nil, List.length, Nat.zero_add, Nat.reduceAdd, if_true, e]
  rfl
theorem Spo.ab' (a : Spo p s) : s.1.natAbs ≤ 10000000 ∧ s.2.natAbs ≤ 10000000 := a.ab
/-- the four led -/
theorem t9 {A B C D' : Int} {c d : Option D} {a b e f : Int × Int} (T : Tab p A B C D') (hp : Pr p) (F : Four p s t u v) {r1 r2 r3 r4 : Int}
    (l1 : Led p A B C D' s.1 s.2 a.1 a.2 r1) (l2 : Led p A B C D' t.1 t.2 b.1 b.2 r2) (l3 : Led p A B C D' u.1 u.2 e.1 e.2 r3) (l4 : Led p A B C D' v.1 v.2 f.1 f.2 r4) {w : D} :
    tr_9 (trE n p s t u v (some w) (some (tabD A B C D')) c d none none) h = .nx (trE n p s t u v (some w) (some (tabD A B C D')) c d (some (t4 a b e f)) none) h := by
  have q1 := s_led (h := h) hp T F.a.ab F.a.sp.z
  have q2 := s_led (h := h) hp T F.b.ab F.b.sp.z
  have q3 := s_led (h := h) hp T F.c.ab F.c.sp.z
  have q4 := s_led (h := h) hp T F.d.ab F.d.sp.z
  rw [l1.e] at q1
  rw [l2.e] at q2
  rw [l3.e] at q3
  rw [l4.e] at q4
  have tt := tup4 (h := h) (trE n p s t u v (some w) (some (tabD A B C D')) c d none none) 2 3 4 5 rfl rfl rfl rfl
  have sr : (srcS (t4 s t u v) h) = .ok ⟨[tp s, tp t, tp u, tp v], none⟩ h := rfl
  have ck : (Src.mk [tp s, tp t, tp u, tp v] none).chk = fun _ => true := rfl
  have step : ∀ (z : Int × Int) (w' : D) (r acc : List D), m_law_spot_led [.int p, tp z, tabD A B C D'] h = .ok w' h → acc.length < 10 → loopC (gN 11) mYes (mCallD 3 m_law_spot_led [] (mCons (mVar 1) (mCons (mVar 11) (mCons (mVar 7) mNil)))) (trE n p s t u v (some w) (some (tabD A B C D')) c d none none) (fun _ => true) (tp z :: r) acc h = loopC (gN 11) mYes (mCallD 3 m_law_spot_led [] (mCons (mVar 1) (mCons (mVar 11) (mCons (mVar 7) mNil)))) (trE n p s t u v (some w) (some (tabD A B C D')) c d none none) (fun _ => true) r (acc ++ [w']) h := fun z w' r acc e hl => by
    rw [loopC, if_pos rfl]
    simp only [gN_ap, List.set, mYes_ap, noEx_ok, bind_ok, mCallD_ap, mCons_ap, mVar_ap, mNil_ap, List.getElem?_cons_zero, List.getElem?_cons_succ, List.append_nil, List.length, Nat.zero_add, Nat.reduceAdd, if_true, e]
    rw [if_pos (by omega)]
  unfold tr_9
  rw [mAsg_ap, mCall_ap, mCons_ap, mLc_ap, mSrc_ap, tt, bind_ok, sr, bind_ok]
  simp only [wipe_cons, wipe_nil, List.set, ck]
  rw [step _ _ _ _ q1 (by simp), step _ _ _ _ q2 (by simp), step _ _ _ _ q3 (by simp), step _ _ _ _ q4 (by simp), loopC, if_pos rfl]
  rfl
/-- the greater of both -/
def mx (a : Int × Int) : Int := if (if a.2 < 0 then -a.2 else a.2) > (if a.1 < 0 then -a.1 else a.1) then (if a.2 < 0 then -a.2 else a.2) else (if a.1 < 0 then -a.1 else a.1)
theorem mx_bd {a : Int × Int} (h : mx a ≤ 10000000) : (-10000000 ≤ a.1 ∧ a.1 ≤ 10000000) ∧ (-10000000 ≤ a.2 ∧ a.2 ≤ 10000000) := by
  unfold mx at h
  repeat' split at h
  all_goals omega
theorem t10 {A B C D' : Int} {c d : Option D} {a b e f : Int × Int} (T : Tab p A B C D') (hp : Pr p) (F : Four p s t u v) (R : Rto p s t u v l x y) {r1 r2 r3 r4 : Int}
    (l1 : Led p A B C D' s.1 s.2 a.1 a.2 r1) (l2 : Led p A B C D' t.1 t.2 b.1 b.2 r2) (l3 : Led p A B C D' u.1 u.2 e.1 e.2 r3) (l4 : Led p A B C D' v.1 v.2 f.1 f.2 r4) {w : D} :
    tr_10 (trE n p s t u v (some (.tup [.int x, .int y])) (some w) c d (some (t4 a b e f)) none) h = .rt (.bl true) h := by
  have ml : mLc (mSrc (mVar 10) srcS) (gN 11) mYes (mCall (vTwo vMax2) (mCons (mCall (vOne MI.vAbs) (mCons (mBin vIx (mVar 11) (mC (.int 0))) mNil)) (mCons (mCall (vOne MI.vAbs) (mCons (mBin vIx (mVar 11) (mC (.int 1))) mNil)) mNil))) [11] (trE n p s t u v (some (.tup [.int x, .int y])) (some w) c d (some (t4 a b e f)) none) h = .ok (.lst ([mx a, mx b, mx e, mx f].map D.int)) h := rfl
  have mm : vMaxL (.lst ([mx a, mx b, mx e, mx f].map D.int)) h = .ok (.int (maxI [mx a, mx b, mx e, mx f])) h := vMaxL_ints
  have p7 : ∀ ρ : Env1, mBin vPow (mC (.int 10)) (mC (.int 7)) ρ h = .ok (.int 10000000) h := fun ρ => by
    rw [mBin_ap, mC_ap, bind_ok, mC_ap, bind_ok]
    exact pw 7 h (by decide)
  have gt : mBin vGt (mCall (vOne vMaxL) (mCons (mLc (mSrc (mVar 10) srcS) (gN 11) mYes (mCall (vTwo vMax2) (mCons (mCall (vOne MI.vAbs) (mCons (mBin vIx (mVar 11) (mC (.int 0))) mNil)) (mCons (mCall (vOne MI.vAbs) (mCons (mBin vIx (mVar 11) (mC (.int 1))) mNil)) mNil))) [11]) mNil)) (mBin vPow (mC (.int 10)) (mC (.int 7))) (trE n p s t u v (some (.tup [.int x, .int y])) (some w) c d (some (t4 a b e f)) none) h = .ok (.bl (decide (10000000 < maxI [mx a, mx b, mx e, mx f]))) h := by
    rw [mBin_ap, mCall_ap, mCons_ap, ml]
    simp only [bind_ok, mNil_ap, vOne_ap, mm, p7, vGt_i]
  unfold tr_10
  rw [mRet_ap, mOr_ap, gt, bind_ok]
  by_cases big : 10000000 < maxI [mx a, mx b, mx e, mx f]
  · rw [decide_eq_true big]
    rfl
  · rw [decide_eq_false big]
    have le : ∀ i ∈ [mx a, mx b, mx e, mx f], i ≤ 10000000 := fun i hi => by
      have := maxI_le (mx a) [mx b, mx e, mx f] i hi
      omega
    have spo : ∀ {z z' : Int × Int} {r : Int}, Led p A B C D' z'.1 z'.2 z.1 z.2 r → mx z ≤ 10000000 → Spo p z := fun {z z' r} l hm => ⟨l.sp, mx_bd hm, fun q => by have := l.r q; exact ⟨⟨this.1, this.2.1⟩, this.2.2⟩⟩
    have sa := spo l1 (le _ (by simp))
    have sb := spo l2 (le _ (by simp))
    have se := spo l3 (le _ (by simp))
    have sf := spo l4 (le _ (by simp))
    have ne : ∀ {z w z' w' : Int × Int} {r r' : Int}, Led p A B C D' z'.1 z'.2 z.1 z.2 r → Led p A B C D' w'.1 w'.2 w.1 w.2 r' → ¬ p ∣ B2 z' w' → z ≠ w := fun {z w z' w' r r'} l m nn q => l.ne hp T.n m nn ⟨by rw [q], by rw [q]⟩
    have F' : Four p a b e f := ⟨sa, sb, se, sf, ne l1 l2 (F.a.ne hp F.b F.st), ne l1 l3 (F.a.ne hp F.c F.su), ne l1 l4 (F.a.ne hp F.d F.sv), ne l2 l3 (F.b.ne hp F.c F.tu), ne l2 l4 (F.b.ne hp F.d F.tv), ne l3 l4 (F.c.ne hp F.d F.uv)⟩
    have cr : CR p a b e f = [x, y] := by
      rw [← R.e]
      exact cr_along hp T.n l1 l2 l3 l4 (F.a.ne hp F.c F.su) (F.b.ne hp F.d F.tv) (sa.ne hp se F'.su) (sb.ne hp sf F'.tv)
    have c1 := s_cross (h := h) hp F'
    rw [cr] at c1
    have eq : vEq (.tup [.int x, .int y]) (.tup [.int x, .int y]) h = .ok (.bl true) h := by
      have := vEq_tups [x, y] [x, y] h
      rw [decide_eq_true rfl] at this
      exact this
    have c1 : m_cross_ratio [.int p, t4 a b e f] h = .ok (.tup [.int x, .int y]) h := c1
    simp only [mBin_ap, mCallD_ap, mCons_ap, mVar_ap, mNil_ap, List.getElem?_cons_zero, List.getElem?_cons_succ, bind_ok, List.append_nil, List.length, Nat.zero_add, Nat.reduceAdd, if_true, c1, eq, toF_ok]
theorem s_told {c : Int} (hp : Pm p) (hb : Bg h n c) (hc : c ≤ 600000) : ∃ h', m_law_told_right [.cell n, .int p] h = .ok (.bl true) h' ∧ Bg h' n (c + 200) ∧ Kp n h h' := by
  obtain ⟨d, s, t, u, v, h1, e1, fd, b1, k1, F⟩ := s_four hp hb (by omega)
  obtain ⟨l, x, y, R⟩ := rat_of hp.pr F
  obtain ⟨A, B, C, D', h2, e2, T, b2, k2⟩ := s_table hp b1 (by omega)
  obtain ⟨a1, a2, r1, l1⟩ := led_of hp.pr T.n F.a.sp.z
  obtain ⟨a3, a4, r2, l2⟩ := led_of hp.pr T.n F.b.sp.z
  obtain ⟨a5, a6, r3, l3⟩ := led_of hp.pr T.n F.c.sp.z
  obtain ⟨a7, a8, r4, l4⟩ := led_of hp.pr T.n F.d.sp.z
  have eq1 : (h2 ++ [[tz (NP p y x), tz [x, y]]])[h2.length]? = some [tz (NP p y x), tz [x, y]] := at_end
  have eq2 : ((h2 ++ [[tz (NP p y x), tz [x, y]]]).set h2.length [tz (NP p y x), tz [x, y], tz (NP p (x - y) (0 - y))])[h2.length]? = some [tz (NP p y x), tz [x, y], tz (NP p (x - y) (0 - y))] := List.getElem?_set_self (by simp)
  have hn : h2.length ≠ n := by have := b2.lt; omega
  refine ⟨(h2 ++ [[tz (NP p y x), tz [x, y]]]).set h2.length [tz (NP p y x), tz [x, y], tz (NP p (x - y) (0 - y))], ?_, (b2.app.other hn).up (by omega), (k1.trans k2).trans (Kp.app.over (Nat.le_refl _))⟩
  have e8 := t8 (p := p) (s := s) (t := t) (u := u) (v := v) (n := n) (a := .tup [.int x, .int y]) (b := tabD A B C D') (L := [NP p y x, [x, y], NP p (x - y) (0 - y)]) eq2
  simp only [List.map_cons, List.map_nil] at e8
  rw [tr_eq, mFn_ap (show [D.cell n, D.int p].length = 2 from rfl), show startM 12 [D.cell n, D.int p] = [some (.cell n), some (.int p), none, none, none, none, none, none, none, none, none, none] from rfl]
  rw [mSeq_ap, t1 (c := c) e1 fd, seq_nx, mSeq_ap, t2 hp.pr F R e2, seq_nx, mSeq_ap, t3 hp.pr F R, seq_nx, mSeq_ap, t4' hp.pr F R, seq_nx, mSeq_ap, t5 hp.pr F R, seq_nx, mSeq_ap, t6 hp.pr F R eq1, seq_nx, mSeq_ap, t7 hp.pr R, seq_nx, mSeq_ap, e8, seq_nx, mSeq_ap, t9 (a := (a1, a2)) (b := (a3, a4)) (e := (a5, a6)) (f := (a7, a8)) T hp.pr F l1 l2 l3 l4, seq_nx, t10 T hp.pr F R l1 l2 l3 l4]
  rfl
end
end G
namespace G
open PySem PySem.Spec PyProof.Rows L2 MI
def ss_1 : MS := mAsg (mLst (mCons (mC .non) (mCons (mC (.int 1)) (mCons (mC (.str "a")) (mCons (mLst (mCons (mC (.int 1)) (mCons (mC (.int 0)) mNil))) (mCons (mTup (mCons (mC (.int 1)) mNil)) (mCons (mTup (mCons (mC (.int 1)) (mCons (mC (.int 0)) (mCons (mC (.int 0)) mNil)))) (mCons (mTup (mCons (mC (.int 0)) (mCons (mC (.int 0)) mNil))) (mCons (mIf (mTest (mBin vEq (mVar 1) (mC (.int 0)))) (mTup (mCons (mC (.int 2)) (mCons (mC (.int 4)) mNil))) (mTup (mCons (mC (.int 2)) (mCons (mC (.int 1)) mNil)))) (mCons (mTup (mCons (mUn vNeg (mC (.int 1))) (mCons (mC (.int 2)) mNil))) (mCons (mTup (mCons (mC (.bl true)) (mCons (mC (.int 0)) mNil))) (mCons (mTup (mCons (mC (.int 1)) (mCons (mC .non) mNil))) mNil)))))))))))) (gN 3)
def ss_2 : MS := mRet (mCallD 2 m_law_one_of [] (mCons (mVar 0) (mCons (mBin vAdd (mVar 3) (mLst (mCons (mIf (mTest (mBin vEq (mVar 1) (mC (.int 0)))) (mTup (mCons (mC (.int 1)) (mCons (mBin vAdd (mBin vPow (mC (.int 10)) (mC (.int 7))) (mC (.int 1))) mNil))) (mTup (mCons (mC (.int 1)) (mCons (mVar 1) mNil)))) (mCons (mTup (mCons (mC (.int 1)) (mCons (mBin vPow (mC (.int 10)) (mC (.int 60))) mNil))) (mCons (mC (.dic [] [])) (mCons (mBin vIx (mVar 2) (mC (.int 0))) mNil)))))) mNil)))
theorem ss_eq : m_law_strange_spot = mFn 3 4 (mSeq ss_1 ss_2) := rfl
def rr_1 : MS := mAsg (mTup (mCons (mCallD 3 m_law_spots [] (mCons (mVar 0) (mCons (mVar 1) (mCons (mC (.int 4)) mNil)))) (mCons (mCallD 2 m_law_one_of [] (mCons (mVar 0) (mCons (mLst (mCons (mC .non) (mCons (mC (.int 1)) (mCons (mC (.int 4)) (mCons (mC (.int 23)) (mCons (mUn vNeg (mC (.int 3))) (mCons (mC (.bl true)) (mCons (mC (.str "3")) (mCons (mTup (mCons (mC (.int 3)) mNil)) (mCons (mBin vPow (mC (.int 10)) (mC (.int 61))) mNil)))))))))) mNil))) mNil))) (gTA 2 (gsCons (gN 2) (gsCons (gN 3) gsNil)))
def rr_2 : MS := mAsg (mBin vAdd (mCall (vOne vTuple) (mCons (mCut (mVar 2) mNoPart (mPart (mC (.int 3)))) mNil)) (mTup (mCons (mCallD 3 m_law_strange_spot [] (mCons (mVar 0) (mCons (mVar 1) (mCons (mVar 2) mNil)))) mNil))) (gN 4)
def rr_3 : MS := mAsg (mCallD 2 m_law_one_of [] (mCons (mVar 0) (mCons (mLst (mCons (mC .non) (mCons (mCall (vOne vList) (mCons (mVar 2) mNil)) (mCons (mCall (vOne vTuple) (mCons (mCut (mVar 2) mNoPart (mPart (mC (.int 3)))) mNil)) (mCons (mBin vAdd (mCall (vOne vTuple) (mCons (mVar 2) mNil)) (mTup (mCons (mTup (mCons (mC (.int 1)) (mCons (mC (.int 0)) mNil))) mNil))) (mCons (mTup mNil) (mCons (mC (.dic [] [])) (mCons (mC (.str "abcd")) (mCons (mVar 4) (mCons (mUn vRev (mVar 4)) mNil)))))))))) mNil))) (gN 5)
def rr_4 : MS := mFor (mSrc (mTup (mCons (mC (.th 0)) (mCons (mC (.th 1)) mNil))) srcS) (gN 6) (mSeq (mAsg (mCell (mCons (mLam m_law_met (mCallT 6 tabX (mCons (mVar 3) (mCons (mVar 5) mNil)))) mNil)) (gN 7)) (mSeq (mDrop (mMeth vAppend (mVar 7) (mCons (mLam m_law_met (mCallT 6 tabX (mCons (mVar 1) (mCons (mVar 5) mNil)))) mNil))) (mSeq (mDrop (mMeth vAppend (mVar 7) (mCons (mLam m_law_met (mCallT 6 tabX (mCons (mVar 1) (mCons (mCall (vOne vTuple) (mCons (mVar 2) mNil)) mNil)))) mNil))) (mIfS (mTest (mBin vNe (mVar 7) (mLst (mCons (mBin vAdd (mC (.str "number ")) (mCall (vOne vReprD) (mCons (mVar 3) mNil))) (mCons (mC (.str "operation")) (mCons (mC (.str "fine")) mNil)))))) (mRet (mC (.bl false))) mNext))))
def rr_5 : MS := mRet (mBin vEq (mLam m_law_met (mCallD 2 m_cross_ratio [] (mCons (mC (.int 2)) (mCons (mTup (mCons (mTup (mCons (mC (.int 1)) (mCons (mC (.int 0)) mNil))) (mCons (mTup (mCons (mC (.int 0)) (mCons (mC (.int 1)) mNil))) (mCons (mTup (mCons (mC (.int 1)) (mCons (mC (.int 1)) mNil))) (mCons (mTup (mCons (mC (.int 1)) (mCons (mC (.int 0)) mNil))) mNil))))) mNil)))) (mC (.str "operation")))
theorem rr_eq : m_law_refused_right = mFn 2 8 (mSeq rr_1 (mSeq rr_2 (mSeq rr_3 (mSeq rr_4 rr_5)))) := rfl
def rb_1 : MS := mAsg (mCell (mCons (mLam m_law_met (mCallT 6 tabX (mCons (mVar 3) (mCons (mVar 5) mNil)))) mNil)) (gN 7)
def rb_2 : MS := mDrop (mMeth vAppend (mVar 7) (mCons (mLam m_law_met (mCallT 6 tabX (mCons (mVar 1) (mCons (mVar 5) mNil)))) mNil))
def rb_3 : MS := mDrop (mMeth vAppend (mVar 7) (mCons (mLam m_law_met (mCallT 6 tabX (mCons (mVar 1) (mCons (mCall (vOne vTuple) (mCons (mVar 2) mNil)) mNil)))) mNil))
def rb_4 : MS := mIfS (mTest (mBin vNe (mVar 7) (mLst (mCons (mBin vAdd (mC (.str "number ")) (mCall (vOne vReprD) (mCons (mVar 3) mNil))) (mCons (mC (.str "operation")) (mCons (mC (.str "fine")) mNil)))))) (mRet (mC (.bl false))) mNext
def rb : MS := (mSeq rb_1 (mSeq rb_2 (mSeq rb_3 rb_4)))
theorem rr_eq4 : rr_4 = mFor (mSrc (mTup (mCons (mC (.th 0)) (mCons (mC (.th 1)) mNil))) srcS) (gN 6) rb := rfl

abbrev B7 : Int := 10000001
def stA (p : Int) : List D := [.non, .int 1, .str "a", .lst [.int 1, .int 0], .tup [.int 1], .tup [.int 1, .int 0, .int 0], .tup [.int 0, .int 0], (if p = 0 then .tup [.int 2, .int 4] else .tup [.int 2, .int 1]), .tup [.int (-1), .int 2], .tup [.bl true, .int 0], .tup [.int 1, .non]]
def stB (p : Int) : List D := [(if p = 0 then .tup [.int 1, .int B7] else .tup [.int 1, .int p]), .tup [.int 1, .int B60], .dic [] []]
def stL (p : Int) (s : D) : List D := stA p ++ (stB p ++ [s])
section
variable {p : Int} {s t u v : Int × Int} {h : MH} {n : Nat}
theorem one_step {c0 : Int} {ml : ME} {ρ : Env1} {l : List D} (hL : ml ρ h = .ok (.lst l) h) (r0 : ρ[0]? = some (some (.cell n))) (hl : l ≠ []) (hs : l.length ≤ 1000) (hb : Bg h n c0) (hc : c0 ≤ 1000000) :
    ∃ x m, mCallD 2 m_law_one_of [] (mCons (mVar 0) (mCons ml mNil)) ρ h = .ok x (h.set n m) ∧ Bg (h.set n m) n (c0 + 1) ∧ x ∈ l := by
  obtain ⟨x, m, g, b, hx⟩ := s_one_of hl hs hb hc
  refine ⟨x, m, ?_, b, hx⟩
  rw [mCallD_ap, mCons_ap, mVar_ap]
  simp only [r0, bind_ok, mCons_ap, hL, mNil_ap, List.append_nil, List.length, Nat.zero_add, Nat.reduceAdd, if_true, g]
theorem s_strange {c : Int} {q : Nat} (hp : Pm p) (eq : h[q]? = some [tp s, tp t, tp u, tp v]) (hb : Bg h n c) (hc : c ≤ 900000) : ∃ S m, m_law_strange_spot [.cell n, .int p, .cell q] h = .ok S (h.set n m) ∧ Bg (h.set n m) n (c + 1) ∧ S ∈ stL p (tp s) := by
  have a1 : ss_1 [some (.cell n), some (.int p), some (.cell q), none] h = .nx [some (.cell n), some (.int p), some (.cell q), some (.lst (stA p))] h := by
    rcases hp with rfl | rfl | rfl | rfl | rfl | rfl <;> kernel_rfl
  have ix : vIx (.cell q) (.int 0) h = .ok (tp s) h := by rw [vIx_cell eq, atI_0]
  have b1 : mIf (mTest (mBin vEq (mVar 1) (mC (.int 0)))) (mTup (mCons (mC (.int 1)) (mCons (mBin vAdd (mBin vPow (mC (.int 10)) (mC (.int 7))) (mC (.int 1))) mNil))) (mTup (mCons (mC (.int 1)) (mCons (mVar 1) mNil))) [some (.cell n), some (.int p), some (.cell q), some (.lst (stA p))] h = .ok (if p = 0 then .tup [.int 1, .int B7] else .tup [.int 1, .int p]) h := by
    rcases hp with rfl | rfl | rfl | rfl | rfl | rfl <;> kernel_rfl
  have b2 : mTup (mCons (mC (.int 1)) (mCons (mBin vPow (mC (.int 10)) (mC (.int 60))) mNil)) [some (.cell n), some (.int p), some (.cell q), some (.lst (stA p))] h = .ok (.tup [.int 1, .int B60]) h := by kernel_rfl
  have l1 : (stA p).length = 11 := rfl
  have l2 : (stB p ++ [tp s]).length = 4 := rfl
  have ad := vAdd_l (a := stA p) (b := stB p ++ [tp s]) (h := h) (by rw [l1, l2]; decide)
  have al : mBin vAdd (mVar 3) (mLst (mCons (mIf (mTest (mBin vEq (mVar 1) (mC (.int 0)))) (mTup (mCons (mC (.int 1)) (mCons (mBin vAdd (mBin vPow (mC (.int 10)) (mC (.int 7))) (mC (.int 1))) mNil))) (mTup (mCons (mC (.int 1)) (mCons (mVar 1) mNil)))) (mCons (mTup (mCons (mC (.int 1)) (mCons (mBin vPow (mC (.int 10)) (mC (.int 60))) mNil))) (mCons (mC (.dic [] [])) (mCons (mBin vIx (mVar 2) (mC (.int 0))) mNil))))) [some (.cell n), some (.int p), some (.cell q), some (.lst (stA p))] h = .ok (.lst (stL p (tp s))) h := by
    rw [mBin_ap, show mVar 3 [some (.cell n), some (.int p), some (.cell q), some (.lst (stA p))] h = .ok (.lst (stA p)) h from rfl, bind_ok, mLst_ap, mCons_ap, b1, bind_ok, mCons_ap, b2, bind_ok, mCons_ap, mC_ap, bind_ok, mCons_ap, mBin_ap, show mVar 2 [some (.cell n), some (.int p), some (.cell q), some (.lst (stA p))] h = .ok (.cell q) h from rfl, bind_ok, mC_ap, bind_ok, ix, bind_ok, mNil_ap, bind_ok, bind_ok, bind_ok, bind_ok, bind_ok, if_pos (by simp), bind_ok]
    exact ad
  obtain ⟨S, m, e, b, hS⟩ := one_step (h := h) (n := n) al rfl (by simp [stL, stA]) (by simp [stL, stA, stB]) hb (by omega)
  refine ⟨S, m, ?_, b, hS⟩
  rw [ss_eq, mFn_ap (show [D.cell n, D.int p, D.cell q].length = 3 from rfl), show startM 4 [D.cell n, D.int p, D.cell q] = [some (.cell n), some (.int p), some (.cell q), none] from rfl, mSeq_ap, a1, seq_nx]
  unfold ss_2
  rw [mRet_ap, e]
  rfl
/-- a strange value is no spot -/
theorem st_no (hp : Pm p) {S : D} (hS : S ∈ stA p ++ stB p) : m_is_spot [.int p, S] h = .ok (.bl false) h := by
  simp only [stA, stB, List.cons_append, List.nil_append, List.mem_cons, List.not_mem_nil, or_false] at hS
  rcases hp with rfl | rfl | rfl | rfl | rfl | rfl <;>
    rcases hS with rfl | rfl | rfl | rfl | rfl | rfl | rfl | rfl | rfl | rfl | rfl | rfl | rfl | rfl <;> kernel_rfl
end
end G
namespace G
open PySem PySem.Spec PyProof.Rows L2 MI
abbrev B61 : Int := 10000000000000000000000000000000000000000000000000000000000000
def bads : List D := [.non, .int 1, .int 4, .int 23, .int (-3), .bl true, .str "3", .tup [.int 3], .int B61]
def odds (s t u v S : D) : List D := [.non, .lst [s, t, u, v], .tup [s, t, u], .tup [s, t, u, v, .tup [.int 1, .int 0]], .tup [], .dic [] [], .str "abcd", .tup [s, t, u, S], .tup [S, u, t, s]]
section
variable {p : Int} {s t u v : Int × Int} {h : MH} {n : Nat}
theorem bad_prime {d : D} (hd : d ∈ bads) : m_require_prime [d] h = .exc ⟨4, some ("given", d)⟩ h := by
  simp only [bads, List.mem_cons, List.not_mem_nil, or_false] at hd
  rcases hd with rfl | rfl | rfl | rfl | rfl | rfl | rfl | rfl | rfl <;> kernel_rfl
theorem odd_four (hp : Pm p) (F : Four p s t u v) {S x : D} (hS : S ∈ stL p (tp s)) (hx : x ∈ odds (tp s) (tp t) (tp u) (tp v) S) : m_require_four [.int p, x] h = .exc ⟨3, none⟩ h := by
  have oa := F.a.ok (h := h) hp.pr
  have ob := F.b.ok (h := h) hp.pr
  have oc := F.c.ok (h := h) hp.pr
  simp only [odds, List.mem_cons, List.not_mem_nil, or_false] at hx
  have hS' : S ∈ stA p ++ stB p ∨ S = tp s := by
    unfold stL at hS
    rw [← List.append_assoc] at hS
    rcases List.mem_append.mp hS with z | z
    · exact .inl z
    · exact .inr (by simpa using z)
  rcases hx with rfl | rfl | rfl | rfl | rfl | rfl | rfl | rfl | rfl
  · kernel_rfl
  · kernel_rfl
  · exact s_reqf0 (by simp) (by simp)
  · exact s_reqf0 (by simp) (by simp)
  · exact s_reqf0 (by simp) (by simp)
  · kernel_rfl
  · kernel_rfl
  · rcases hS' with z | rfl
    · have os := spOk_of (st_no (h := h) hp z)
      refine s_reqf1 rfl (fun d hd => ?_) (by simp [oa.2, ob.2, oc.2, os.2])
      simp only [List.mem_cons, List.not_mem_nil, or_false] at hd
      rcases hd with rfl | rfl | rfl | rfl
      · exact oa.1
      · exact ob.1
      · exact oc.1
      · exact os.1
    · have := s_req4 (h := h) (v := s) hp.pr F.a F.b F.c F.a F.st F.su F.tu
      rw [if_pos (.inl rfl)] at this
      exact this
  · rcases hS' with z | rfl
    · have os := spOk_of (st_no (h := h) hp z)
      refine s_reqf1 rfl (fun d hd => ?_) (by simp [oa.2, ob.2, oc.2, os.2])
      simp only [List.mem_cons, List.not_mem_nil, or_false] at hd
      rcases hd with rfl | rfl | rfl | rfl
      · exact os.1
      · exact oc.1
      · exact ob.1
      · exact oa.1
    · have := s_req4 (h := h) (v := s) hp.pr F.a F.c F.b F.a F.su F.st F.tu.symm
      rw [if_pos (.inl rfl)] at this
      exact this
/-! what is met -/
def nm : D → Str
  | .non => "number None"
  | .int i => if i = 1 then "number 1" else if i = 4 then "number 4" else if i = 23 then "number 23" else if i = -3 then "number -3" else "number 10000000000000000000000000000000000000000000000000000000000000"
  | .bl _ => "number True"
  | .str _ => "number '3'"
  | _ => "number (3,)"
theorem nm_ok {d : D} (hd : d ∈ bads) : PyData.strOk (nm d) = true := by
  simp only [bads, List.mem_cons, List.not_mem_nil, or_false] at hd
  rcases hd with rfl | rfl | rfl | rfl | rfl | rfl | rfl | rfl | rfl <;> kernel_rfl
theorem met_bad {call : MH → R D} {d : D} (hd : d ∈ bads) (e : call h = .exc ⟨4, some ("given", d)⟩ h) : m_law_met call h = .ok (.str (nm d)) h := by
  unfold m_law_met mWord
  rw [e]
  dsimp only
  clear e
  simp only [bads, List.mem_cons, List.not_mem_nil, or_false] at hd
  rcases hd with rfl | rfl | rfl | rfl | rfl | rfl | rfl | rfl | rfl <;> kernel_rfl
theorem met_odd {call : MH → R D} (e : call h = .exc ⟨3, none⟩ h) : m_law_met call h = .ok (.str "operation") h := by
  unfold m_law_met mWord
  rw [e]
  kernel_rfl
theorem met_fine {call : MH → R D} {d : D} (e : call h = .ok d h) : m_law_met call h = .ok (.str "fine") h := by
  unfold m_law_met mWord
  rw [e]
  kernel_rfl
theorem said {d : D} {ρ : Env1} (hd : d ∈ bads) (r : ρ[3]? = some (some d)) : mBin vAdd (mC (.str "number ")) (mCall (vOne vReprD) (mCons (mVar 3) mNil)) ρ h = .ok (.str (nm d)) h := by
  rw [mBin_ap, mC_ap, bind_ok, mCall_ap, mCons_ap, mVar_ap]
  simp only [r, bind_ok, mNil_ap, vOne_ap]
  clear r
  simp only [bads, List.mem_cons, List.not_mem_nil, or_false] at hd
  rcases hd with rfl | rfl | rfl | rfl | rfl | rfl | rfl | rfl | rfl <;> kernel_rfl
/-- a call of one of the two -/
theorem callT {i : Nat} {m : FnM} {a : Nat} {x y : D} {ρ : Env1} {me : ME} (r6 : ρ[6]? = some (some (.th i))) (e : tabX i = some (2, m)) (ra : ρ[a]? = some (some x)) (rb' : me ρ h = .ok y h) : mCallT 6 tabX (mCons (mVar a) (mCons me mNil)) ρ h = m [x, y] h := by
  unfold mCallT
  rw [r6]
  simp only [e, mCons_ap, mVar_ap, ra, bind_ok, rb', mNil_ap, List.length, Nat.zero_add, Nat.reduceAdd, if_true]
theorem lam_ok {m : FnL} {me : ME} {ρ : Env1} {d : D} (e : m (fun h' => me ρ h') h = .ok d h) : mLam m me ρ h = .ok d h := by
  unfold mLam
  rw [e]
  rfl
theorem ne_cellS {q : Nat} {l : List Str} (hs : ∀ s ∈ l, PyData.strOk s = true) (e : h[q]? = some (l.map D.str)) : vNe (.cell q) (.lst (l.map D.str)) h = .ok (.bl false) h := by
  have e1 : D.py h 12 (.lst (l.map D.str)) = some (.list (l.map PyData.str)) := by
    show ((pyAll (D.py h 11) (l.map D.str)).map PyData.list) = _
    rw [pyAll_strs]; rfl
  have q1 : SeqAt.shaped (.list (l.map PyData.str)) = true := by
    show (PyData.canLayAll0 (l.map PyData.str) && decide (PyData.depthAll (l.map PyData.str) + 1 ≤ 64)) = true
    rw [lay_strs l hs, dep_strs]
    rfl
  have o : pyOf h (.lst (l.map D.str)) = some (.list (l.map PyData.str)) := by
    unfold pyOf
    rw [e1]
    show (if SeqAt.shaped (.list (l.map PyData.str)) = true then some (PyData.list (l.map PyData.str)) else none) = _
    rw [if_pos q1]
  unfold vNe
  rw [py_cell e, o]
  show R.ok (D.bl (!PyData.eqvAll (l.map PyData.str) (l.map PyData.str))) h = _
  rw [eqv_strs]
  rfl
abbrev rE (n : Nat) (p : Int) (q : Nat) (B W O : D) (i : Option D) (c : Option D) : Env1 := [some (.cell n), some (.int p), some (.cell q), some B, some W, some O, i, c]
/-- one round -/
theorem rb_ok {q i : Nat} {m : FnM} {B W O d : D} {x : Option D} {c : Int} (e : tabX i = some (2, m)) (hB : B ∈ bads) (hb : Bg h n c) (eq : h[q]? = some [tp s, tp t, tp u, tp v])
    (m1 : ∀ h, m [B, O] h = .exc ⟨4, some ("given", B)⟩ h) (m2 : ∀ h, m [.int p, O] h = .exc ⟨3, none⟩ h) (m3 : ∀ h, ∃ d, m [.int p, t4 s t u v] h = .ok d h) :
    ∃ h' y, rb (rE n p q B W O (some (.th i)) x) h = .nx (rE n p q B W O (some (.th i)) y) h' ∧ Bg h' n c ∧ Kp n h h' := by
  let ρ : Env1 := rE n p q B W O (some (.th i)) x
  have w1 : mLam m_law_met (mCallT 6 tabX (mCons (mVar 3) (mCons (mVar 5) mNil))) ρ h = .ok (.str (nm B)) h :=
    lam_ok (met_bad hB (by rw [callT (i := i) (m := m) (x := B) (y := O) rfl e rfl rfl]; exact m1 h))
  have r1 : rb_1 ρ h = .nx (rE n p q B W O (some (.th i)) (some (.cell h.length))) (h ++ [[.str (nm B)]]) := by
    unfold rb_1
    rw [mAsg_ap, mCell_ap, mCons_ap, w1]
    rfl
  generalize hh1 : h ++ [[D.str (nm B)]] = h1 at r1
  have e1 : h1[h.length]? = some [.str (nm B)] := by rw [← hh1]; exact at_end
  have l1 : h.length < h1.length := (List.getElem?_eq_some_iff.mp e1).1
  have w2 : mLam m_law_met (mCallT 6 tabX (mCons (mVar 1) (mCons (mVar 5) mNil))) (rE n p q B W O (some (.th i)) (some (.cell h.length))) h1 = .ok (.str "operation") h1 :=
    lam_ok (met_odd (by rw [callT (i := i) (m := m) (x := .int p) (y := O) rfl e rfl rfl]; exact m2 h1))
  have r2 : rb_2 (rE n p q B W O (some (.th i)) (some (.cell h.length))) h1 = .nx (rE n p q B W O (some (.th i)) (some (.cell h.length))) (h1.set h.length [.str (nm B), .str "operation"]) := by
    have ap := app_at (y := .str "operation") e1 (by simp)
    unfold rb_2
    rw [mDrop_ap, mMeth_ap, mVar_ap]
    simp only [List.getElem?_cons_zero, List.getElem?_cons_succ, bind_ok, l1, if_true]
    rw [mCons_ap, w2]
    simp only [bind_ok, mNil_ap, ap, toF_ok]
    rfl
  generalize hh2 : h1.set h.length [.str (nm B), .str "operation"] = h2 at r2
  have e2 : h2[h.length]? = some [.str (nm B), .str "operation"] := by rw [← hh2]; exact List.getElem?_set_self l1
  have l2 : h.length < h2.length := (List.getElem?_eq_some_iff.mp e2).1
  have hq : q < h.length := (List.getElem?_eq_some_iff.mp eq).1
  have eq2 : h2[q]? = some [tp s, tp t, tp u, tp v] := by
    rw [← hh2, List.getElem?_set_ne (by omega), ← hh1, List.getElem?_append_left hq]
    exact eq
  have tu : mCall (vOne vTuple) (mCons (mVar 2) mNil) (rE n p q B W O (some (.th i)) (some (.cell h.length))) h2 = .ok (t4 s t u v) h2 := by
    rw [mCall_ap, mCons_ap, mVar_ap]
    simp only [List.getElem?_cons_zero, List.getElem?_cons_succ, bind_ok, mNil_ap, vOne_ap]
    unfold vTuple
    simp only [seqOf, eq2]
  obtain ⟨d3, m3⟩ := m3 h2
  have w3 : mLam m_law_met (mCallT 6 tabX (mCons (mVar 1) (mCons (mCall (vOne vTuple) (mCons (mVar 2) mNil)) mNil))) (rE n p q B W O (some (.th i)) (some (.cell h.length))) h2 = .ok (.str "fine") h2 :=
    lam_ok (met_fine (d := d3) (by rw [callT (i := i) (m := m) (x := .int p) (y := t4 s t u v) rfl e rfl tu]; exact m3))
  have r3 : rb_3 (rE n p q B W O (some (.th i)) (some (.cell h.length))) h2 = .nx (rE n p q B W O (some (.th i)) (some (.cell h.length))) (h2.set h.length [.str (nm B), .str "operation", .str "fine"]) := by
    have ap := app_at (y := .str "fine") e2 (by simp)
    unfold rb_3
    rw [mDrop_ap, mMeth_ap, mVar_ap]
    simp only [List.getElem?_cons_zero, List.getElem?_cons_succ, bind_ok, l2, if_true]
    rw [mCons_ap, w3]
    simp only [bind_ok, mNil_ap, ap, toF_ok]
    rfl
  generalize hh3 : h2.set h.length [.str (nm B), .str "operation", .str "fine"] = h3 at r3
  have e3 : h3[h.length]? = some (([nm B, "operation", "fine"] : List Str).map D.str) := by rw [← hh3]; exact List.getElem?_set_self l2
  have ne := ne_cellS (fun z hz => by
    simp only [List.mem_cons, List.not_mem_nil, or_false] at hz
    rcases hz with rfl | rfl | rfl
    · exact nm_ok hB
    · decide +kernel
    · decide +kernel) e3
  have ne : vNe (.cell h.length) (.lst [.str (nm B), .str "operation", .str "fine"]) h3 = .ok (.bl false) h3 := ne
  have r4 : rb_4 (rE n p q B W O (some (.th i)) (some (.cell h.length))) h3 = .nx (rE n p q B W O (some (.th i)) (some (.cell h.length))) h3 := by
    have sd := said (h := h3) (ρ := rE n p q B W O (some (.th i)) (some (.cell h.length))) hB rfl
    unfold rb_4
    rw [mIfS_ap, mTest_ap, mBin_ap, mVar_ap]
    simp only [List.getElem?_cons_zero, List.getElem?_cons_succ, bind_ok]
    rw [mLst_ap, mCons_ap, sd, bind_ok, mCons_ap, mC_ap, bind_ok, mCons_ap, mC_ap, bind_ok, mNil_ap, bind_ok, bind_ok, bind_ok, bind_ok, if_pos (by simp), bind_ok, ne, bind_ok, asB_bl, toF_ok]
    rfl
  have hn : n < h.length := hb.lt
  refine ⟨h3, some (.cell h.length), ?_, ?_, ?_⟩
  · show rb ρ h = _
    unfold rb
    rw [mSeq_ap, r1, seq_nx, mSeq_ap, r2, seq_nx, mSeq_ap, r3, seq_nx, r4]
  · rw [← hh3, ← hh2, ← hh1]
    exact (hb.app.other (by omega)).other (by omega)
  · rw [← hh3, ← hh2, ← hh1]
    exact (Kp.app.over (Nat.le_refl _)).over (Nat.le_refl _)
end
end G
namespace G
open PySem PySem.Spec PyProof.Rows L2 MI
section
variable {p : Int} {s t u v : Int × Int} {h : MH} {n : Nat}
theorem add_tup {a b : List D} (e : a.length + b.length ≤ 16777216) : vAdd (.tup a) (.tup b) h = .ok (.tup (a ++ b)) h := by
  have c : vCatT (.tup a) (.tup b) h = .ok (.tup (a ++ b)) h := by
    unfold vCatT
    simp only [small, e, decide_true, if_true]
  have q : vAdd (.tup a) (.tup b) h = vOr vCatT (vOr vCatL vCatS) (.tup a) (.tup b) h := rfl
  rw [q]
  unfold vOr
  rw [c]
abbrev rF (n : Nat) (p : Int) (a b c d e f : Option D) : Env1 := [some (.cell n), some (.int p), a, b, c, d, e, f]
theorem cut3 {q : Nat} {L : List D} (eq : h[q]? = some L) : vCut (.cell q) none (some 3) h = .ok (.lst (L.take 3)) h := by
  have c := cut_to (l := L) (k := 3) (h := h) (by decide)
  have e : vCut (.cell q) none (some 3) h = vCut (.lst L) none (some 3) h := by
    unfold vCut
    simp only [eq]
  rw [e, c]
  rfl
theorem tupC {q : Nat} {L : List D} (eq : h[q]? = some L) : vTuple (.cell q) h = .ok (.tup L) h := by
  unfold vTuple
  simp only [seqOf, eq]
theorem lstC {q : Nat} {L : List D} (eq : h[q]? = some L) : vList (.cell q) h = .ok (.lst L) h := by
  unfold vList
  simp only [seqOf, eq]
theorem tcut {q : Nat} {a b : D} {ρ : Env1} (r2 : ρ[2]? = some (some (.cell q))) (eq : h[q]? = some [tp s, tp t, tp u, tp v]) : mCall (vOne vTuple) (mCons (mCut (mVar 2) mNoPart (mPart (mC (.int 3)))) mNil) ρ h = .ok (.tup [tp s, tp t, tp u]) h := by
  have c := cut3 eq
  rw [mCall_ap, mCons_ap, mCut_ap, mVar_ap]
  simp only [r2, bind_ok, mNoPart_ap, mPart_ap, mC_ap, c, mNil_ap, vOne_ap]
  rfl
theorem s_refused {c : Int} (hp : Pm p) (hb : Bg h n c) (hc : c ≤ 600000) : ∃ h', m_law_refused_right [.cell n, .int p] h = .ok (.bl true) h' ∧ Bg h' n (c + 100) ∧ Kp n h h' := by
  obtain ⟨q, s, t, u, v, h1, e1, eq1, hq, hl, b1, k1, F⟩ := s_spots hp hb (by omega)
  -- the odd prime
  have l1 : ∀ hh : MH, mLst (mCons (mC .non) (mCons (mC (.int 1)) (mCons (mC (.int 4)) (mCons (mC (.int 23)) (mCons (mUn vNeg (mC (.int 3))) (mCons (mC (.bl true)) (mCons (mC (.str "3")) (mCons (mTup (mCons (mC (.int 3)) mNil)) (mCons (mBin vPow (mC (.int 10)) (mC (.int 61))) mNil))))))))) (rF n p none none none none none none) hh = .ok (.lst bads) hh := fun hh => by kernel_rfl
  obtain ⟨B, m2, e2, b2, hB⟩ := one_step (h := h1) (n := n) (l1 h1) rfl (by simp [bads]) (by simp [bads]) b1 (by omega)
  have eq2 : (h1.set n m2)[q]? = some [tp s, tp t, tp u, tp v] := by rw [List.getElem?_set_ne (fun z => hq z.symm)]; exact eq1
  have r1 : rr_1 (rF n p none none none none none none) h = .nx (rF n p (some (.cell q)) (some B) none none none none) (h1.set n m2) := by
    have sp : mCallD 3 m_law_spots [] (mCons (mVar 0) (mCons (mVar 1) (mCons (mC (.int 4)) mNil))) (rF n p none none none none none none) h = .ok (.cell q) h1 := by
      rw [mCallD_ap, mCons_ap, mVar_ap]
      simp only [List.getElem?_cons_zero, List.getElem?_cons_succ, bind_ok, mCons_ap, mVar_ap, mC_ap, mNil_ap, List.append_nil, List.length, Nat.zero_add, Nat.reduceAdd, if_true, e1]
    unfold rr_1
    rw [mAsg_ap, mTup_ap, mCons_ap, sp, bind_ok, mCons_ap, e2]
    rfl
  have k2 := k1.trans (Kp.set (n := n) (l := m2))
  generalize h1.set n m2 = h2 at *
  -- a strange spot
  obtain ⟨S, m3, e3, b3, hS⟩ := s_strange (t := t) (u := u) (v := v) (s := s) hp eq2 b2 (by omega)
  have eq3 : (h2.set n m3)[q]? = some [tp s, tp t, tp u, tp v] := by rw [List.getElem?_set_ne (fun z => hq z.symm)]; exact eq2
  have r2 : rr_2 (rF n p (some (.cell q)) (some B) none none none none) h2 = .nx (rF n p (some (.cell q)) (some B) (some (.tup [tp s, tp t, tp u, S])) none none none) (h2.set n m3) := by
    have tc := tcut (a := .non) (b := .non) (ρ := rF n p (some (.cell q)) (some B) none none none none) rfl eq2
    have st : mCallD 3 m_law_strange_spot [] (mCons (mVar 0) (mCons (mVar 1) (mCons (mVar 2) mNil))) (rF n p (some (.cell q)) (some B) none none none none) h2 = .ok S (h2.set n m3) := by
      rw [mCallD_ap, mCons_ap, mVar_ap]
      simp only [List.getElem?_cons_zero, List.getElem?_cons_succ, bind_ok, mCons_ap, mVar_ap, mNil_ap, List.append_nil, List.length, Nat.zero_add, Nat.reduceAdd, if_true, e3]
    have ad := add_tup (a := [tp s, tp t, tp u]) (b := [S]) (h := h2.set n m3) (by simp)
    unfold rr_2
    rw [mAsg_ap, mBin_ap, tc, bind_ok, mTup_ap, mCons_ap, st, bind_ok, mNil_ap, bind_ok, bind_ok, if_pos (by simp), bind_ok, ad]
    rfl
  have k3 := k2.trans (Kp.set (n := n) (l := m3))
  generalize h2.set n m3 = h3 at *
  -- what is odd
  have al : mLst (mCons (mC .non) (mCons (mCall (vOne vList) (mCons (mVar 2) mNil)) (mCons (mCall (vOne vTuple) (mCons (mCut (mVar 2) mNoPart (mPart (mC (.int 3)))) mNil)) (mCons (mBin vAdd (mCall (vOne vTuple) (mCons (mVar 2) mNil)) (mTup (mCons (mTup (mCons (mC (.int 1)) (mCons (mC (.int 0)) mNil))) mNil))) (mCons (mTup mNil) (mCons (mC (.dic [] [])) (mCons (mC (.str "abcd")) (mCons (mVar 4) (mCons (mUn vRev (mVar 4)) mNil))))))))) (rF n p (some (.cell q)) (some B) (some (.tup [tp s, tp t, tp u, S])) none none none) h3 = .ok (.lst (odds (tp s) (tp t) (tp u) (tp v) S)) h3 := by
    have x1 : mCall (vOne vList) (mCons (mVar 2) mNil) (rF n p (some (.cell q)) (some B) (some (.tup [tp s, tp t, tp u, S])) none none none) h3 = .ok (.lst [tp s, tp t, tp u, tp v]) h3 := by
      rw [mCall_ap, mCons_ap, mVar_ap]
      simp only [List.getElem?_cons_zero, List.getElem?_cons_succ, bind_ok, mNil_ap, vOne_ap, lstC eq3]
    have x2 := tcut (a := .non) (b := .non) (ρ := rF n p (some (.cell q)) (some B) (some (.tup [tp s, tp t, tp u, S])) none none none) rfl eq3
    have x3 : mBin vAdd (mCall (vOne vTuple) (mCons (mVar 2) mNil)) (mTup (mCons (mTup (mCons (mC (.int 1)) (mCons (mC (.int 0)) mNil))) mNil)) (rF n p (some (.cell q)) (some B) (some (.tup [tp s, tp t, tp u, S])) none none none) h3 = .ok (.tup [tp s, tp t, tp u, tp v, .tup [.int 1, .int 0]]) h3 := by
      have ad := add_tup (a := [tp s, tp t, tp u, tp v]) (b := [.tup [.int 1, .int 0]]) (h := h3) (by simp)
      rw [mBin_ap, mCall_ap, mCons_ap, mVar_ap]
      simp only [List.getElem?_cons_zero, List.getElem?_cons_succ, bind_ok, mNil_ap, vOne_ap, tupC eq3]
      exact ad
    rw [mLst_ap, mCons_ap, mC_ap, bind_ok, mCons_ap, x1, bind_ok, mCons_ap, x2, bind_ok, mCons_ap, x3]
    rfl
  obtain ⟨O, m4, e4, b4, hO⟩ := one_step (h := h3) (n := n) al rfl (by simp [odds]) (by simp [odds]) b3 (by omega)
  have eq4 : (h3.set n m4)[q]? = some [tp s, tp t, tp u, tp v] := by rw [List.getElem?_set_ne (fun z => hq z.symm)]; exact eq3
  have r3 : rr_3 (rF n p (some (.cell q)) (some B) (some (.tup [tp s, tp t, tp u, S])) none none none) h3 = .nx (rE n p q B (.tup [tp s, tp t, tp u, S]) O none none) (h3.set n m4) := by
    unfold rr_3
    rw [mAsg_ap, e4]
    rfl
  have k4 := k3.trans (Kp.set (n := n) (l := m4))
  generalize h3.set n m4 = h4 at *
  have of := fun (h : MH) => odd_four (h := h) hp F hS hO
  have bp := fun (h : MH) => bad_prime (h := h) hB
  -- the first
  obtain ⟨h5, y5, e5, b5, k5⟩ := rb_ok (i := 0) (m := m_cross_ratio) (B := B) (W := .tup [tp s, tp t, tp u, S]) (O := O) (d := .non) (x := none) (p := p) rfl hB b4 eq4 (fun h => (cr_bad (bp h)).1) (fun h => (cr_odd hp.pr (of h)).1) (fun h => ⟨_, s_cross hp.pr F⟩)
  have ql4 : q < h4.length := (List.getElem?_eq_some_iff.mp eq4).1
  have eq5 : h5[q]? = some [tp s, tp t, tp u, tp v] := by rw [k5.2 q ql4 hq]; exact eq4
  obtain ⟨l0, x0, y0, R⟩ := rat_of hp.pr F
  obtain ⟨h6, y6, e6, b6, k6⟩ := rb_ok (i := 1) (m := m_is_harmonic) (B := B) (W := .tup [tp s, tp t, tp u, S]) (O := O) (d := .non) (x := y5) (p := p) rfl hB b5 eq5 (fun h => (cr_bad (bp h)).2) (fun h => (cr_odd hp.pr (of h)).2) (fun h => ⟨_, s_harm hp.pr F R.e⟩)
  have r4 : rr_4 (rE n p q B (.tup [tp s, tp t, tp u, S]) O none none) h4 = .nx (rE n p q B (.tup [tp s, tp t, tp u, S]) O (some (.th 1)) y6) h6 := by
    have sr : mSrc (mTup (mCons (mC (.th 0)) (mCons (mC (.th 1)) mNil))) srcS (rE n p q B (.tup [tp s, tp t, tp u, S]) O none none) h4 = .ok ⟨[.th 0, .th 1], none⟩ h4 := rfl
    have e5' : rb ((rE n p q B (.tup [tp s, tp t, tp u, S]) O none none).set 6 (some (.th 0))) h4 = _ := e5
    have e6' : rb ((rE n p q B (.tup [tp s, tp t, tp u, S]) O (some (.th 0)) y5).set 6 (some (.th 1))) h5 = _ := e6
    rw [rr_eq4, mFor_ap, sr, toF_ok]
    show loopF (gN 6) rb (fun _ => true) [.th 0, .th 1] (rE n p q B (.tup [tp s, tp t, tp u, S]) O none none) h4 = _
    unfold loopF
    rw [if_pos rfl]
    simp only [gN_ap, e5']
    unfold loopF
    rw [if_pos rfl]
    simp only [gN_ap, e6']
    unfold loopF
    rw [if_pos rfl]
  have r5 : ∀ (ρ : Env1) (hh : MH), rr_5 ρ hh = .rt (.bl true) hh := fun ρ hh => by kernel_rfl
  refine ⟨h6, ?_, b6.up (by omega), (k4.trans k5).trans k6⟩
  rw [rr_eq, mFn_ap (show [D.cell n, D.int p].length = 2 from rfl), show startM 8 [D.cell n, D.int p] = rF n p none none none none none none from rfl, mSeq_ap, r1, seq_nx, mSeq_ap, r2, seq_nx, mSeq_ap, r3, seq_nx, mSeq_ap, r4, seq_nx, r5]
  rfl
end
/-! the law -/
def lw_1 : MS := mFor (mSrcA (mCons (mCall (vTwo vMax2) (mCons (mC (.int 1)) (mCons (mCall (vTwo vMin2) (mCons (mC (.int 6)) (mCons (mCall (vOne vLen) (mCons (mVar 0) mNil)) mNil))) mNil))) mNil) srcR1) (gN 1) (mSeq (mAsg (mCallD 2 m_law_bag [] (mCons (mVar 0) (mCons (mVar 1) mNil))) (gN 2)) (mSeq (mAsg (mCallD 2 m_law_one_of [] (mCons (mVar 2) (mCons (mLst (mCons (mC (.int 0)) (mCons (mC (.int 0)) (mCons (mC (.int 3)) (mCons (mC (.int 5)) (mCons (mC (.int 7)) (mCons (mC (.int 11)) (mCons (mC (.int 13)) mNil)))))))) mNil))) (gN 3)) (mIfS (mOrT (mNotT (mTest (mCallD 2 m_law_told_right [] (mCons (mVar 2) (mCons (mVar 3) mNil))))) (mNotT (mTest (mCallD 2 m_law_refused_right [] (mCons (mVar 2) (mCons (mVar 3) mNil)))))) (mRet (mC (.bl false))) mNext)))
def lw_2 : MS := mAsg (mLst (mCons (mCallD 2 m_cross_ratio [] (mCons (mC (.int 0)) (mCons (mTup (mCons (mTup (mCons (mC (.int 1)) (mCons (mC (.int 0)) mNil))) (mCons (mTup (mCons (mC (.int 0)) (mCons (mC (.int 1)) mNil))) (mCons (mTup (mCons (mC (.int 1)) (mCons (mC (.int 1)) mNil))) (mCons (mTup (mCons (mC (.int 1)) (mCons (mUn vNeg (mC (.int 1))) mNil))) mNil))))) mNil))) (mCons (mCallD 2 m_cross_ratio [] (mCons (mC (.int 5)) (mCons (mTup (mCons (mTup (mCons (mC (.int 1)) (mCons (mC (.int 0)) mNil))) (mCons (mTup (mCons (mC (.int 0)) (mCons (mC (.int 1)) mNil))) (mCons (mTup (mCons (mC (.int 1)) (mCons (mC (.int 1)) mNil))) (mCons (mTup (mCons (mC (.int 1)) (mCons (mC (.int 2)) mNil))) mNil))))) mNil))) mNil))) (gN 4)
def lw_3 : MS := mIfS (mTest (mBin vNe (mVar 4) (mLst (mCons (mTup (mCons (mC (.int 1)) (mCons (mUn vNeg (mC (.int 1))) mNil))) (mCons (mTup (mCons (mC (.int 1)) (mCons (mC (.int 2)) mNil))) mNil))))) (mRet (mC (.bl false))) mNext
def lw_4 : MS := mRet (mAnd (mCallD 2 m_is_harmonic [] (mCons (mC (.int 3)) (mCons (mTup (mCons (mTup (mCons (mC (.int 1)) (mCons (mC (.int 0)) mNil))) (mCons (mTup (mCons (mC (.int 0)) (mCons (mC (.int 1)) mNil))) (mCons (mTup (mCons (mC (.int 1)) (mCons (mC (.int 1)) mNil))) (mCons (mTup (mCons (mC (.int 1)) (mCons (mC (.int 2)) mNil))) mNil))))) mNil))) (mUn vNot (mCallD 2 m_is_harmonic [] (mCons (mC (.int 0)) (mCons (mTup (mCons (mTup (mCons (mC (.int 1)) (mCons (mC (.int 0)) mNil))) (mCons (mTup (mCons (mC (.int 1)) (mCons (mC (.int 1)) mNil))) (mCons (mTup (mCons (mC (.int 0)) (mCons (mC (.int 1)) mNil))) (mCons (mTup (mCons (mC (.int 1)) (mCons (mUn vNeg (mC (.int 1))) mNil))) mNil))))) mNil)))))
theorem lw_eq : b_law = (mSeq lw_1 (mSeq lw_2 (mSeq lw_3 lw_4))) := rfl
def lwb_1 : MS := mAsg (mCallD 2 m_law_bag [] (mCons (mVar 0) (mCons (mVar 1) mNil))) (gN 2)
def lwb_2 : MS := mAsg (mCallD 2 m_law_one_of [] (mCons (mVar 2) (mCons (mLst (mCons (mC (.int 0)) (mCons (mC (.int 0)) (mCons (mC (.int 3)) (mCons (mC (.int 5)) (mCons (mC (.int 7)) (mCons (mC (.int 11)) (mCons (mC (.int 13)) mNil)))))))) mNil))) (gN 3)
def lwb_3 : MS := mIfS (mOrT (mNotT (mTest (mCallD 2 m_law_told_right [] (mCons (mVar 2) (mCons (mVar 3) mNil))))) (mNotT (mTest (mCallD 2 m_law_refused_right [] (mCons (mVar 2) (mCons (mVar 3) mNil)))))) (mRet (mC (.bl false))) mNext
def lwb : MS := (mSeq lwb_1 (mSeq lwb_2 lwb_3))
theorem lw_eq1 : lw_1 = mFor (mSrcA (mCons (mCall (vTwo vMax2) (mCons (mC (.int 1)) (mCons (mCall (vTwo vMin2) (mCons (mC (.int 6)) (mCons (mCall (vOne vLen) (mCons (mVar 0) mNil)) mNil))) mNil))) mNil) srcR1) (gN 1) lwb := rfl

theorem k_of6 (n : Nat) : ∃ k : Nat, k ≤ 6 ∧ (if (if ((n : Nat) : Int) < 6 then ((n : Nat) : Int) else 6) > 1 then (if ((n : Nat) : Int) < 6 then ((n : Nat) : Int) else 6) else 1) = ((k : Nat) : Int) := by
  by_cases h0 : n ≤ 1
  · refine ⟨1, by omega, ?_⟩
    rw [if_neg]
    · rfl
    · rw [if_pos (by omega)]; omega
  · by_cases h1 : n < 6
    · refine ⟨n, by omega, ?_⟩
      rw [if_pos (by omega), if_pos (by omega)]
    · refine ⟨6, by omega, ?_⟩
      have e : ¬ ((n : Int) < 6) := by omega
      simp only [e, if_false]
      decide
theorem rounds6 {ρ : Env1} {h : MH} {ns : List Int} (r0 : ρ[0]? = some (some (.scr ns))) : ∃ k : Nat, k ≤ 6 ∧ mSrcA (mCons (mCall (vTwo vMax2) (mCons (mC (.int 1)) (mCons (mCall (vTwo vMin2) (mCons (mC (.int 6)) (mCons (mCall (vOne vLen) (mCons (mVar 0) mNil)) mNil))) mNil))) mNil) srcR1 ρ h = .ok ⟨rngD 0 k, none⟩ h := by
  have vl : vLen (.scr ns) h = .ok (.int ((ns.length : Nat) : Int)) h := by
    unfold vLen
    simp only [seqOf, List.length_map]
  obtain ⟨k, hk, hm⟩ := k_of6 ns.length
  have sr := src_r1 (p := ((k : Nat) : Int)) (by omega) (by omega) h
  have a0 : mCall (vOne vLen) (mCons (mVar 0) mNil) ρ h = .ok (.int ((ns.length : Nat) : Int)) h := by
    rw [mCall_ap, mCons_ap, mVar_ap]
    simp only [r0, bind_ok, mNil_ap, vOne_ap, vl]
  have a1 : mCall (vTwo vMin2) (mCons (mC (.int 6)) (mCons (mCall (vOne vLen) (mCons (mVar 0) mNil)) mNil)) ρ h = .ok (.int (if ((ns.length : Nat) : Int) < 6 then ((ns.length : Nat) : Int) else 6)) h := by
    rw [mCall_ap, mCons_ap, mC_ap, bind_ok, mCons_ap, a0, bind_ok, mNil_ap, bind_ok, bind_ok, bind_ok, vTwo_ap, vMin2_i]
  revert a1 hm
  generalize (if ((ns.length : Nat) : Int) < 6 then ((ns.length : Nat) : Int) else 6) = M
  intro hm a1
  have a2 : mCons (mCall (vTwo vMax2) (mCons (mC (.int 1)) (mCons (mCall (vTwo vMin2) (mCons (mC (.int 6)) (mCons (mCall (vOne vLen) (mCons (mVar 0) mNil)) mNil))) mNil))) mNil ρ h = .ok [.int ((k : Nat) : Int)] h := by
    rw [mCons_ap, mCall_ap, mCons_ap, mC_ap, bind_ok, mCons_ap, a1, bind_ok, mNil_ap, bind_ok, bind_ok, bind_ok, vTwo_ap, vMax2_i, bind_ok, mNil_ap, bind_ok, hm]
  exact ⟨k, hk, by rw [mSrcA_ap, a2, bind_ok, sr, Int.toNat_natCast]⟩
theorem l_body {ns : List Int} {k : Nat} {b q t : Option D} {h : MH} (hk : k ≤ 100) : ∃ b' q' t' h', lwb [some (.scr ns), some (.int (k : Nat)), b, q, t] h = .nx [some (.scr ns), some (.int (k : Nat)), b', q', t'] h' := by
  obtain ⟨x, y, eb⟩ := s_bag (ns := ns) (k := k) (h := h) hk
  have b0 : Bg (h ++ [[.int x, .int y, .int 0]]) h.length 0 := ⟨x, y, 0, at_end, by omega, by omega⟩
  have t1 : lwb_1 [some (.scr ns), some (.int (k : Nat)), b, q, t] h = .nx [some (.scr ns), some (.int (k : Nat)), some (.cell h.length), q, t] (h ++ [[.int x, .int y, .int 0]]) := by
    rw [lwb_1]
    simp only [mAsg_ap, mCallD_ap, mCons_ap, mVar_ap, mNil_ap, List.getElem?_cons_zero, List.getElem?_cons_succ, bind_ok, List.append_nil, List.length, Nat.zero_add, Nat.reduceAdd, if_true, eb, toF_ok, gN_ap, ofG_some, List.set]
  generalize h ++ [[D.int x, D.int y, D.int 0]] = h1 at *
  generalize h.length = n at *
  obtain ⟨z, m, eo, bo, hz⟩ := s_one_of (l := [.int 0, .int 0, .int 3, .int 5, .int 7, .int 11, .int 13]) (by simp) (by decide) b0 (by omega)
  have : ∃ p, z = .int p ∧ Pm p := by
    simp only [List.mem_cons, List.not_mem_nil, or_false] at hz
    rcases hz with rfl | rfl | rfl | rfl | rfl | rfl | rfl <;> exact ⟨_, rfl, by simp [Pm]⟩
  obtain ⟨p, rfl, hp⟩ := this
  have t2 : lwb_2 [some (.scr ns), some (.int (k : Nat)), some (.cell n), q, t] h1 = .nx [some (.scr ns), some (.int (k : Nat)), some (.cell n), some (.int p), t] (h1.set n m) := by
    have l1 : mLst (mCons (mC (.int 0)) (mCons (mC (.int 0)) (mCons (mC (.int 3)) (mCons (mC (.int 5)) (mCons (mC (.int 7)) (mCons (mC (.int 11)) (mCons (mC (.int 13)) mNil))))))) [some (.scr ns), some (.int (k : Nat)), some (.cell n), q, t] h1 = .ok (.lst [.int 0, .int 0, .int 3, .int 5, .int 7, .int 11, .int 13]) h1 := by kernel_rfl
    rw [lwb_2, mAsg_ap, mCallD_ap, mCons_ap, mVar_ap]
    simp only [List.getElem?_cons_zero, List.getElem?_cons_succ, bind_ok]
    rw [mCons_ap, l1]
    simp only [bind_ok, mNil_ap, List.append_nil, List.length_cons, List.length_nil, Nat.zero_add, Nat.reduceAdd, if_true, eo, toF_ok, gN_ap, ofG_some, List.set]
  generalize h1.set n m = h2 at *
  obtain ⟨h3, e3, b3, _⟩ := s_told hp bo (by omega)
  obtain ⟨h4, e5, b4, _⟩ := s_refused hp b3 (by omega)
  have t3 : lwb_3 [some (.scr ns), some (.int (k : Nat)), some (.cell n), some (.int p), t] h2 = .nx [some (.scr ns), some (.int (k : Nat)), some (.cell n), some (.int p), t] h4 := by
    rw [lwb_3]
    simp only [mIfS_ap, mOrT_ap, mNotT_ap, mTest_ap, mCallD_ap, mCons_ap, mVar_ap, mNil_ap, List.getElem?_cons_zero, List.getElem?_cons_succ, bind_ok, List.append_nil, List.length, Nat.zero_add, Nat.reduceAdd, if_true, e3, e5, asB_bl, Bool.not_true, toF_ok, mNext_ap]
  exact ⟨_, _, _, _, by rw [lwb, mSeq_ap, t1, seq_nx, mSeq_ap, t2, seq_nx, t3]⟩
theorem law_end {a b c d e : Option D} (h : MH) : (mSeq lw_2 (mSeq lw_3 lw_4)) [a, b, c, d, e] h = .rt (.bl true) h := by kernel_rfl
theorem rng_k6 {k : Nat} {d : D} (hk : k ≤ 6) (h : d ∈ rngD 0 k) : ∃ i : Nat, d = .int (i : Nat) ∧ i ≤ 100 := by
  obtain ⟨i, rfl, a, b⟩ := rngD_mem h
  exact ⟨i.toNat, by rw [show ((i.toNat : Nat) : Int) = i by omega], by omega⟩
theorem law_true : ∀ ns : List Int, ns.length ≤ 63 → ∃ h, m_law [.scr ns] [] = .ok (.bl true) h := by
  intro ns _
  obtain ⟨k, hk, sr⟩ := rounds6 (ρ := [some (.scr ns), none, none, none, none]) (h := []) (ns := ns) rfl
  obtain ⟨ρ', h', e, a, b, c, d, rfl⟩ := loopF_all (u := gN 1) (b := lwb) (chk := (Src.mk (rngD 0 k) none).chk) (P := fun d => ∃ i : Nat, d = .int (i : Nat) ∧ i ≤ 100) (I := fun ρ h => ∃ a b c d, ρ = [some (.scr ns), a, b, c, d]) (fun _ => rfl) (fun d ρ h hd iv => by
      obtain ⟨i, rfl, hi⟩ := hd
      obtain ⟨a, b, c, d, rfl⟩ := iv
      obtain ⟨b', q', t', h', e⟩ := l_body (ns := ns) (k := i) (b := b) (q := c) (t := d) (h := h) hi
      exact ⟨_, _, _, _, rfl, e, _, _, _, _, rfl⟩) (rngD 0 k) [some (.scr ns), none, none, none, none] [] (fun d hd => rng_k6 hk hd) ⟨_, _, _, _, rfl⟩
  refine ⟨h', ?_⟩
  unfold m_law
  rw [lw_eq, mFn_ap (show [D.scr ns].length = 1 from rfl), show startM 5 [D.scr ns] = [some (.scr ns), none, none, none, none] from rfl, mSeq_ap, lw_eq1, mFor_ap, sr, toF_ok, e, seq_nx, law_end, fnOut_rt]
end G
namespace G
open PySem PySem.Spec PyProof.Rows L2 MI
def top (i : Nat) : Stmt := PySem.Challenge.pw_tangentrows_k34_cross_ratios_of_four_spo.main.body.getD i (.Pass ⟨0, 0, 0, 0⟩)
abbrev st_law_bag : Stmt := top 31
theorem sc_law_bag : FnScope ["_law_script", "_law_spot", "_law_cell", "_law_great", "_law_mixed_here"] ["_law_script", "_law_spot"] (defScope st_law_bag) := ⟨rfl, rfl, rfl, by decide +kernel, rfl, by decide +kernel, by decide +kernel⟩
abbrev st_law_grab : Stmt := top 32
theorem sc_law_grab : FnScope ["_law_bag_here", "_law_total", "_law_found", "_law_one", "_law_two"] ["_law_bag_here", "_law_total"] (defScope st_law_grab) := ⟨rfl, rfl, rfl, by decide +kernel, rfl, by decide +kernel, by decide +kernel⟩
abbrev st_law_one_of : Stmt := top 33
theorem sc_law_one_of : FnScope ["_law_bag_here", "_law_items"] ["_law_bag_here", "_law_items"] (defScope st_law_one_of) := ⟨rfl, rfl, rfl, by decide +kernel, rfl, by decide +kernel, by decide +kernel⟩
abbrev st_is_whole : Stmt := top 11
theorem sc_is_whole : FnScope ["value"] ["value"] (defScope st_is_whole) := ⟨rfl, rfl, rfl, by decide +kernel, rfl, by decide +kernel, by decide +kernel⟩
abbrev st_is_prime : Stmt := top 12
theorem sc_is_prime : FnScope ["value"] ["value"] (defScope st_is_prime) := ⟨rfl, rfl, rfl, by decide +kernel, rfl, by decide +kernel, by decide +kernel⟩
abbrev st_require_prime : Stmt := top 13
theorem sc_require_prime : FnScope ["value"] ["value"] (defScope st_require_prime) := ⟨rfl, rfl, rfl, by decide +kernel, rfl, by decide +kernel, by decide +kernel⟩
abbrev st_is_number_of : Stmt := top 14
theorem sc_is_number_of : FnScope ["prime", "value", "beyond"] ["prime", "value", "beyond"] (defScope st_is_number_of) := ⟨rfl, rfl, rfl, by decide +kernel, rfl, by decide +kernel, by decide +kernel⟩
abbrev st_is_couple : Stmt := top 21
theorem sc_is_couple : FnScope ["prime", "value", "one"] ["prime", "value"] (defScope st_is_couple) := ⟨rfl, rfl, rfl, by decide +kernel, rfl, by decide +kernel, by decide +kernel⟩
abbrev st_inverse_of : Stmt := top 16
theorem sc_inverse_of : FnScope ["prime", "number", "ahead", "here", "left", "right", "many"] ["prime", "number"] (defScope st_inverse_of) := ⟨rfl, rfl, rfl, by decide +kernel, rfl, by decide +kernel, by decide +kernel⟩
abbrev st_divisor_of : Stmt := top 17
theorem sc_divisor_of : FnScope ["numbers", "found", "number"] ["numbers"] (defScope st_divisor_of) := ⟨rfl, rfl, rfl, by decide +kernel, rfl, by decide +kernel, by decide +kernel⟩
abbrev st_normal_of : Stmt := top 18
theorem sc_normal_of : FnScope ["prime", "numbers", "first", "factor", "divisor", "number"] ["prime", "numbers"] (defScope st_normal_of) := ⟨rfl, rfl, rfl, by decide +kernel, rfl, by decide +kernel, by decide +kernel⟩
abbrev st_is_spot : Stmt := top 22
theorem sc_is_spot : FnScope ["prime", "value", "one"] ["prime", "value"] (defScope st_is_spot) := ⟨rfl, rfl, rfl, by decide +kernel, rfl, by decide +kernel, by decide +kernel⟩
abbrev st_require_four : Stmt := top 26
theorem sc_require_four : FnScope ["prime", "value", "spot"] ["prime", "value"] (defScope st_require_four) := ⟨rfl, rfl, rfl, by decide +kernel, rfl, by decide +kernel, by decide +kernel⟩
abbrev st_bracket : Stmt := top 25
theorem sc_bracket : FnScope ["one", "other"] ["one", "other"] (defScope st_bracket) := ⟨rfl, rfl, rfl, by decide +kernel, rfl, by decide +kernel, by decide +kernel⟩
abbrev st_lowered_by : Stmt := top 15
theorem sc_lowered_by : FnScope ["prime", "number"] ["prime", "number"] (defScope st_lowered_by) := ⟨rfl, rfl, rfl, by decide +kernel, rfl, by decide +kernel, by decide +kernel⟩
abbrev st_ratio_of : Stmt := top 27
theorem sc_ratio_of : FnScope ["prime", "spots", "one", "two", "three", "four", "top", "bottom"] ["prime", "spots"] (defScope st_ratio_of) := ⟨rfl, rfl, rfl, by decide +kernel, rfl, by decide +kernel, by decide +kernel⟩
abbrev st_cross_ratio : Stmt := top 28
theorem sc_cross_ratio : FnScope ["prime", "spots"] ["prime", "spots"] (defScope st_cross_ratio) := ⟨rfl, rfl, rfl, by decide +kernel, rfl, by decide +kernel, by decide +kernel⟩
abbrev st_is_harmonic : Stmt := top 29
theorem sc_is_harmonic : FnScope ["prime", "spots"] ["prime", "spots"] (defScope st_is_harmonic) := ⟨rfl, rfl, rfl, by decide +kernel, rfl, by decide +kernel, by decide +kernel⟩
abbrev st_law_mixed : Stmt := top 34
theorem sc_law_mixed : FnScope ["_law_bag_here", "_law_items", "_law_waits", "_law_turn"] ["_law_bag_here", "_law_items"] (defScope st_law_mixed) := ⟨rfl, rfl, rfl, by decide +kernel, rfl, by decide +kernel, by decide +kernel⟩
abbrev st_law_small_spots : Stmt := top 39
theorem sc_law_small_spots : FnScope ["_law_prime", "_law_found", "_law_other"] ["_law_prime"] (defScope st_law_small_spots) := ⟨rfl, rfl, rfl, by decide +kernel, rfl, by decide +kernel, by decide +kernel⟩
abbrev st_law_spots : Stmt := top 40
theorem sc_law_spots : FnScope ["_law_bag_here", "_law_prime", "_law_many", "_law_found", "_law_great"] ["_law_bag_here", "_law_prime", "_law_many"] (defScope st_law_spots) := ⟨rfl, rfl, rfl, by decide +kernel, rfl, by decide +kernel, by decide +kernel⟩
abbrev st_law_table_two : Stmt := top 41
theorem sc_law_table_two : FnScope ["_law_bag_here", "_law_prime", "_law_low_here", "_law_high", "_law_turn", "_law_numbers", "_law_number", "_law_entry"] ["_law_bag_here", "_law_prime"] (defScope st_law_table_two) := ⟨rfl, rfl, rfl, by decide +kernel, rfl, by decide +kernel, by decide +kernel⟩
abbrev st_law_common : Stmt := top 36
theorem sc_law_common : FnScope ["_law_numbers", "_law_found", "_law_number", "_law_other"] ["_law_numbers"] (defScope st_law_common) := ⟨rfl, rfl, rfl, by decide +kernel, rfl, by decide +kernel, by decide +kernel⟩
abbrev st_law_low : Stmt := top 35
theorem sc_law_low : FnScope ["_law_prime", "_law_number"] ["_law_prime", "_law_number"] (defScope st_law_low) := ⟨rfl, rfl, rfl, by decide +kernel, rfl, by decide +kernel, by decide +kernel⟩
abbrev st_law_back : Stmt := top 37
theorem sc_law_back : FnScope ["_law_prime", "_law_number", "_law_one"] ["_law_prime", "_law_number"] (defScope st_law_back) := ⟨rfl, rfl, rfl, by decide +kernel, rfl, by decide +kernel, by decide +kernel⟩
abbrev st_law_normal : Stmt := top 38
theorem sc_law_normal : FnScope ["_law_prime", "_law_row", "_law_told", "_law_first", "_law_factor", "_law_common_here", "_law_number"] ["_law_prime", "_law_row"] (defScope st_law_normal) := ⟨rfl, rfl, rfl, by decide +kernel, rfl, by decide +kernel, by decide +kernel⟩
abbrev st_law_spot_led : Stmt := top 42
theorem sc_law_spot_led : FnScope ["_law_prime", "_law_spot", "_law_table", "_law_x", "_law_y", "_law_first", "_law_second", "_law_line"] ["_law_prime", "_law_spot", "_law_table"] (defScope st_law_spot_led) := ⟨rfl, rfl, rfl, by decide +kernel, rfl, by decide +kernel, by decide +kernel⟩
abbrev st_law_four : Stmt := top 47
theorem sc_law_four : FnScope ["_law_bag_here", "_law_prime", "_law_table", "_law_last", "_law_found", "_law_spot"] ["_law_bag_here", "_law_prime"] (defScope st_law_four) := ⟨rfl, rfl, rfl, by decide +kernel, rfl, by decide +kernel, by decide +kernel⟩
abbrev st_law_bracket : Stmt := top 44
theorem sc_law_bracket : FnScope ["_law_one", "_law_other"] ["_law_one", "_law_other"] (defScope st_law_bracket) := ⟨rfl, rfl, rfl, by decide +kernel, rfl, by decide +kernel, by decide +kernel⟩
abbrev st_law_cross_ratio : Stmt := top 45
theorem sc_law_cross_ratio : FnScope ["_law_prime", "_law_spots_here", "_law_first", "_law_second", "_law_third", "_law_last", "_law_one"] ["_law_prime", "_law_spots_here"] (defScope st_law_cross_ratio) := ⟨rfl, rfl, rfl, by decide +kernel, rfl, by decide +kernel, by decide +kernel⟩
abbrev st_law_is_zero : Stmt := top 46
theorem sc_law_is_zero : FnScope ["_law_prime", "_law_number"] ["_law_prime", "_law_number"] (defScope st_law_is_zero) := ⟨rfl, rfl, rfl, by decide +kernel, rfl, by decide +kernel, by decide +kernel⟩
abbrev st_law_told_right : Stmt := top 48
theorem sc_law_told_right : FnScope ["_law_bag_here", "_law_prime", "_law_one", "_law_two", "_law_three", "_law_four_here", "_law_told", "_law_table", "_law_some", "_law_due", "_law_led", "_law_spot"] ["_law_bag_here", "_law_prime"] (defScope st_law_told_right) := ⟨rfl, rfl, rfl, by decide +kernel, rfl, by decide +kernel, by decide +kernel⟩
abbrev st_law_met : Stmt := top 43
theorem sc_law_met : FnScope ["_law_call", "e"] ["_law_call"] (defScope st_law_met) := ⟨rfl, rfl, rfl, by decide +kernel, rfl, by decide +kernel, by decide +kernel⟩
abbrev st_law_strange_spot : Stmt := top 49
theorem sc_law_strange_spot : FnScope ["_law_bag_here", "_law_prime", "_law_spots_here", "_law_odd"] ["_law_bag_here", "_law_prime", "_law_spots_here"] (defScope st_law_strange_spot) := ⟨rfl, rfl, rfl, by decide +kernel, rfl, by decide +kernel, by decide +kernel⟩
abbrev st_law_refused_right : Stmt := top 50
theorem sc_law_refused_right : FnScope ["_law_bag_here", "_law_prime", "_law_spots_here", "_law_bad", "_law_wrong", "_law_odd", "_law_call", "_law_told"] ["_law_bag_here", "_law_prime"] (defScope st_law_refused_right) := ⟨rfl, rfl, rfl, by decide +kernel, rfl, by decide +kernel, by decide +kernel⟩
abbrev st_law : Stmt := top 51
theorem sc_law : FnScope ["_law_script", "_law_at", "_law_bag_here", "_law_prime", "_law_told"] ["_law_script"] (defScope st_law) := ⟨rfl, rfl, rfl, by decide +kernel, rfl, by decide +kernel, by decide +kernel⟩
def exOf (mg : Str → Option Value) : Nat → Value := fun n => match n with
  | 1 => (mg "InvalidMarks").getD .none
  | 2 => (mg "InvalidPair").getD .none
  | 3 => (mg "InvalidOperation").getD .none
  | 4 => (mg "InvalidNumber").getD .none
  | 5 => (mg "TooMany").getD .none
  | _ => .none
/-- what the defs ask of the module: built-ins under their names, constants, classes -/
structure Fx (P : Program) (g : Gm) (mg : Str → Option Value) : Prop where
  b_abs : mg "abs" = none
  b_all : mg "all" = none
  b_bool : mg "bool" = none
  b_gcd : mg "gcd" = some (.builtin "math.gcd")
  b_int : mg "int" = none
  b_isinstance : mg "isinstance" = none
  b_len : mg "len" = none
  b_list : mg "list" = none
  b_max : mg "max" = none
  b_min : mg "min" = none
  b_range : mg "range" = none
  b_repr : mg "repr" = none
  b_sum : mg "sum" = none
  b_tuple : mg "tuple" = none
  c_FOUR_SPOTS : ∃ t, mg "FOUR_SPOTS" = some (.int 4 t)
  c_MAX_ENTRY : ∃ t, mg "MAX_ENTRY" = some (.int 10000000 t)
  c_PRIMES : GTup g.r.K mg "PRIMES" [2, 3, 5, 7, 11, 13, 17, 19]
  r_InvalidNumber : RsV P g.r.K g.ex mg "InvalidNumber" 4 "given"
  r_InvalidOperation : RsT g.r.K g.ex mg "InvalidOperation" 3
  n_InvalidMarks : mg "InvalidMarks" = some (g.ex 1)
  n_InvalidNumber : mg "InvalidNumber" = some (g.ex 4)
  n_InvalidOperation : mg "InvalidOperation" = some (g.ex 3)
  n_InvalidPair : mg "InvalidPair" = some (g.ex 2)
  n_TooMany : mg "TooMany" = some (g.ex 5)
  x_InvalidNumber : XfT g.r.K g.ex 4 "given"
  x_TooMany : XfT g.r.K g.ex 5 "most"
  t_cross_ratio : ThAt g.r.th mg "cross_ratio" 0
  t_is_harmonic : ThAt g.r.th mg "is_harmonic" 1
  sub : SubOk g.r.K g.ex subX
theorem sub_mk {K : PySem.W.Frag} {ex : Nat → Value} (e_3_4 : PySem.W.exmOne K (ex 3) (ex 4) = some false) (e_3_3 : PySem.W.exmOne K (ex 3) (ex 3) = some true) (e_4_4 : PySem.W.exmOne K (ex 4) (ex 4) = some true) : SubOk K ex subX := by
  intro e c b h
  unfold subX at h
  split at h <;> first | (cases h; assumption) | cases h
section
variable {P : Program} {w : World} {mg : Str → Option Value} {base : Heap} {g : Gm}
theorem ok_law_bag (T : Fx P g mg) (A_law_bag : At g.r.K mg "_law_bag" st_law_bag ["_law_script", "_law_spot"]) : Dn P w g.r.K mg base g 1 "_law_bag" [] 2 m_law_bag := by
  refine dn_mk A_law_bag sc_law_bag rfl fun f cdv A outer s H E hr tk po => ?_
  have nd := sc_law_bag.nd
  exact (ss_cons (s_asg (se_if (st_cmp op_lt lt_o (sv 1) (b_len rfl T.b_len (sa_cons (sv 0) sa_nil)) (nomark _)) (s_ix rfl (sv 0) (sv 1)) (s_add rfl (s_add rfl (b_sum rfl rfl T.b_sum (sa_cons (s_cut rfl (sv 0) so_none (so_some sc_int)) sa_nil)) (s_mul sc_int (sv 1))) sc_int)) (g_name 2 nd))
    (ss_cons (s_asg (s_mod (b_int T.b_int (sa_cons (b_abs T.b_abs (sa_cons (sv 2) sa_nil)) sa_nil)) (s_pow (s_pow sc_int sc_int) sc_int)) (g_name 3 nd))
    (ss_cons (s_asg (s_add rfl (s_add rfl (s_add rfl (s_mul (s_mod (b_int T.b_int (sa_cons (sv 3) sa_nil)) sc_int) sc_int) (s_mul sc_int (sv 1))) (s_mul sc_int (b_int T.b_int (sa_cons (s_lt (sv 2) sc_int) sa_nil)))) sc_int) (g_name 4 nd))
    (ss_one (s_ret (se_cell (sa_cons (b_max2 rfl T.b_max (sa_cons sc_int (sa_cons (s_sub (sv 3) (s_pow sc_int sc_int)) sa_nil))) (sa_cons (s_mod (b_int T.b_int (sa_cons (sv 4) sa_nil)) sc_int) (sa_cons sc_int sa_nil)))))))))
theorem ok_law_grab (T : Fx P g mg) (A_law_grab : At g.r.K mg "_law_grab" st_law_grab ["_law_bag_here", "_law_total"]) : Dn P w g.r.K mg base g 1 "_law_grab" [] 2 m_law_grab := by
  refine dn_mk A_law_grab sc_law_grab rfl fun f cdv A outer s H E hr tk po => ?_
  have nd := sc_law_grab.nd
  exact (ss_cons (s_if (st_cmp op_gt gt_o (s_ix rfl (sv 0) sc_int) sc_int (nomark _)) (ss_cons (s_asg (s_mod (b_int T.b_int (sa_cons (s_ix rfl (sv 0) sc_int) sa_nil)) (sv 1)) (g_name 2 nd))
    (ss_cons (s_asg (s_div (s_ix rfl (sv 0) sc_int) (sv 1)) (g_sub (W := W0) (sv 0) sc_int))
    (ss_one (s_ret (sv 2))))) ss_nil)
    (ss_cons (s_asg (s_add rfl (s_ix rfl (sv 0) sc_int) sc_int) (g_sub (W := W0) (sv 0) sc_int))
    (ss_cons (s_asg (s_mod (b_int T.b_int (sa_cons (s_add rfl (s_ix rfl (sv 0) sc_int) (s_mul sc_int (s_ix rfl (sv 0) sc_int))) sa_nil)) sc_int) (g_name 3 nd))
    (ss_cons (s_asg (s_add rfl (s_mul (s_mod (b_int T.b_int (sa_cons (s_mul (sv 3) (sv 3)) sa_nil)) sc_int) (sv 3)) (s_mul sc_int (s_ix rfl (sv 0) sc_int))) (g_name 4 nd))
    (ss_one (s_ret (s_mod (b_int T.b_int (sa_cons (s_div (s_mod (b_int T.b_int (sa_cons (sv 4) sa_nil)) sc_int) sc_int) sa_nil)) (sv 1))))))))
theorem ok_law_one_of (T : Fx P g mg) (A_law_one_of : At g.r.K mg "_law_one_of" st_law_one_of ["_law_bag_here", "_law_items"]) (D_law_grab : Dn P w g.r.K mg base g 1 "_law_grab" [] 2 m_law_grab) : Dn P w g.r.K mg base g 2 "_law_one_of" [] 2 m_law_one_of := by
  refine dn_mk A_law_one_of sc_law_one_of rfl fun f cdv A outer s H E hr tk po => ?_
  have nd := sc_law_one_of.nd
  exact (ss_one (s_ret (s_ix rfl (sv 1) (s_fn D_law_grab tk (hr.mono (by decide)) (sa_cons (sv 0) (sa_cons (b_len rfl T.b_len (sa_cons (sv 1) sa_nil)) sa_nil))))))
theorem ok_is_whole (T : Fx P g mg) (A_is_whole : At g.r.K mg "is_whole" st_is_whole ["value"]) : Dn P w g.r.K mg base g 1 "is_whole" [] 1 m_is_whole := by
  refine dn_mk A_is_whole sc_is_whole rfl fun f cdv A outer s H E hr tk po => ?_
  have nd := sc_is_whole.nd
  exact (ss_one (s_ret (se_and (b_isi rfl T.b_isinstance (sa_cons (sv 0) (sa_cons (sc_ty (by rfl) T.b_int bt_int) sa_nil))) (se_one (se_not (b_isi rfl T.b_isinstance (sa_cons (sv 0) (sa_cons (sc_ty (by rfl) T.b_bool bt_bool) sa_nil))))))))
theorem ok_is_prime (T : Fx P g mg) (A_is_prime : At g.r.K mg "is_prime" st_is_prime ["value"]) (D_is_whole : Dn P w g.r.K mg base g 1 "is_whole" [] 1 m_is_whole) : Dn P w g.r.K mg base g 2 "is_prime" [] 1 m_is_prime := by
  refine dn_mk A_is_prime sc_is_prime rfl fun f cdv A outer s H E hr tk po => ?_
  have nd := sc_is_prime.nd
  exact (ss_one (s_ret (se_and (s_fn D_is_whole tk (hr.mono (by decide)) (sa_cons (sv 0) sa_nil)) (se_one (se_or (s_eq rfl (hu64 hr) (sv 0) sc_int) (se_one (s_in rfl (hu65 hr) (sv 0) (sc_gtup rfl T.c_PRIMES))))))))
theorem ok_require_prime (T : Fx P g mg) (A_require_prime : At g.r.K mg "require_prime" st_require_prime ["value"]) (D_is_prime : Dn P w g.r.K mg base g 2 "is_prime" [] 1 m_is_prime) : Dn P w g.r.K mg base g 3 "require_prime" [] 1 m_require_prime := by
  refine dn_mk A_require_prime sc_require_prime rfl fun f cdv A outer s H E hr tk po => ?_
  have nd := sc_require_prime.nd
  exact (ss_one (s_if (st_not (st_val (s_fn D_is_prime tk (hr.mono (by decide)) (sa_cons (sv 0) sa_nil)))) (ss_one (s_raiseV T.r_InvalidNumber rfl tk (hr.mono (by decide)) (sv 0))) ss_nil))
theorem ok_is_number_of (T : Fx P g mg) (A_is_number_of : AtD g.r.K mg "is_number_of" st_is_number_of ["prime", "value", "beyond"] [V.int 1000000000000000000000000000000000000000000000000000000000000]) (D_is_whole : Dn P w g.r.K mg base g 1 "is_whole" [] 1 m_is_whole) : Dn P w g.r.K mg base g 2 "is_number_of" [.int 1000000000000000000000000000000000000000000000000000000000000] 3 m_is_number_of := by
  refine dnD_mk A_is_number_of sc_is_number_of rfl (fun φ H => by repeat (first | exact .nil | refine .cons ?_ ?_ | exact .int _ | exact .non | exact .bl _ | exact .str _)) fun f cdv A outer s H E hr tk po => ?_
  have nd := sc_is_number_of.nd
  exact (ss_cons (s_if (st_not (st_val (s_fn D_is_whole tk (hr.mono (by decide)) (sa_cons (sv 1) sa_nil)))) (ss_one (s_ret sc_bl)) ss_nil)
    (ss_cons (s_if (st_cmp (op_neD (hu64 hr)) (ne_o rfl) (sv 0) sc_int (nomark _)) (ss_one (s_ret (se_chain op_le le_o op_lt lt_o sc_int (sv 1) (sv 0)))) ss_nil)
    (ss_one (s_ret (se_or (s_isN (sv 2) sc_non) (se_one (se_chain op_lt lt_o op_lt lt_o (s_neg (sv 2)) (sv 1) (sv 2))))))))
theorem ok_is_couple (T : Fx P g mg) (A_is_couple : At g.r.K mg "is_couple" st_is_couple ["prime", "value"]) (D_is_number_of : Dn P w g.r.K mg base g 2 "is_number_of" [.int 1000000000000000000000000000000000000000000000000000000000000] 3 m_is_number_of) : Dn P w g.r.K mg base g 3 "is_couple" [] 2 m_is_couple := by
  refine dn_mk A_is_couple sc_is_couple rfl fun f cdv A outer s H E hr tk po => ?_
  have nd := sc_is_couple.nd
  exact (ss_one (s_ret (se_and (b_isi rfl T.b_isinstance (sa_cons (sv 1) (sa_cons (sc_ty (by rfl) T.b_tuple bt_tuple) sa_nil))) (se_and (s_eq rfl (hu64 hr) (b_len rfl T.b_len (sa_cons (sv 1) sa_nil)) sc_int) (se_one (b_all rfl rfl T.b_all (sa_cons (s_lc (own := [("one", 2)]) rfl nd (si_seq rfl (sv 1)) (blkOk_by rfl) (go_name (i := 2)) (fun _ _ _ _ _ => (pg_name (i := 2) nd rfl (by first | exact Or.inl rfl | exact Or.inr rfl))) (fun _ _ _ _ _ => sts_nil) (fun _ _ _ _ _ => (s_fn D_is_number_of takes0 (hr.mono (by decide)) (sa_cons (sv 0) (sa_cons (sv 2) sa_nil))))) sa_nil)))))))
theorem ok_inverse_of (T : Fx P g mg) (A_inverse_of : At g.r.K mg "inverse_of" st_inverse_of ["prime", "number"]) : Dn P w g.r.K mg base g 1 "inverse_of" [] 2 m_inverse_of := by
  refine dn_mk A_inverse_of sc_inverse_of rfl fun f cdv A outer s H E hr tk po => ?_
  have nd := sc_inverse_of.nd
  exact (ss_cons (s_asg (se_tup (sa_cons (sv 0) (sa_cons (s_mod (sv 1) (sv 0)) (sa_cons sc_int (sa_cons sc_int sa_nil))))) (g_tupA rfl rfl (gs_cons (g_name 2 nd) (gs_cons (g_name 3 nd) (gs_cons (g_name 4 nd) (gs_cons (g_name 5 nd) gs_nil))))))
    (ss_cons (s_while 4000 po (st_cmp op_gt gt_o (sv 3) sc_int (nomark _)) (ss_cons (s_asg (s_div (sv 2) (sv 3)) (g_name 6 nd))
    (ss_cons (s_par (i := 2) (j := 3) rfl nd (sv 3) (s_sub (sv 2) (s_mul (sv 6) (sv 3))) (by rfl))
    (ss_one (s_par (i := 4) (j := 5) rfl nd (sv 5) (s_sub (sv 4) (s_mul (sv 6) (sv 5))) (by rfl))))))
    (ss_one (s_ret (s_mod (sv 5) (sv 0))))))
theorem ok_divisor_of (T : Fx P g mg) (A_divisor_of : At g.r.K mg "divisor_of" st_divisor_of ["numbers"]) : Dn P w g.r.K mg base g 1 "divisor_of" [] 1 m_divisor_of := by
  refine dn_mk A_divisor_of sc_divisor_of rfl fun f cdv A outer s H E hr tk po => ?_
  have nd := sc_divisor_of.nd
  exact (ss_cons (s_asg sc_int (g_name 1 nd))
    (ss_cons (s_for rfl po (si_seq rfl (sv 0)) (g_name 2 nd) (ss_one (s_asg (b_gcd T.b_gcd (sa_cons (sv 1) (sa_cons (sv 2) sa_nil))) (g_name 1 nd))))
    (ss_one (s_ret (sv 1)))))
theorem ok_normal_of (T : Fx P g mg) (A_normal_of : At g.r.K mg "normal_of" st_normal_of ["prime", "numbers"]) (D_inverse_of : Dn P w g.r.K mg base g 1 "inverse_of" [] 2 m_inverse_of) (D_divisor_of : Dn P w g.r.K mg base g 1 "divisor_of" [] 1 m_divisor_of) : Dn P w g.r.K mg base g 2 "normal_of" [] 2 m_normal_of := by
  refine dn_mk A_normal_of sc_normal_of rfl fun f cdv A outer s H E hr tk po => ?_
  have nd := sc_normal_of.nd
  exact (ss_cons (s_asg (s_ix rfl (se_lst (sa_star rfl (s_lc (own := [("number", 5)]) rfl nd (si_seq rfl (sv 1)) (blkOk_by rfl) (go_name (i := 5)) (fun _ _ _ _ _ => (pg_name (i := 5) nd rfl (by first | exact Or.inl rfl | exact Or.inr rfl))) (fun _ _ _ _ _ => (sts_one (st_cmp (op_neD (hu64 hr)) (ne_o rfl) (sv 5) sc_int (nomark _)))) (fun _ _ _ _ _ => (sv 5))) (sa_cons sc_int sa_nil))) sc_int) (g_name 2 nd))
    (ss_cons (s_if (st_cmp (op_eqD (hu64 hr)) (eq_o rfl) (sv 2) sc_int (nomark _)) (ss_one (s_ret (b_tuple rfl T.b_tuple (sa_cons (sv 1) sa_nil)))) ss_nil)
    (ss_cons (s_if (st_cmp (op_neD (hu64 hr)) (ne_o rfl) (sv 0) sc_int (nomark _)) (ss_cons (s_asg (s_fn D_inverse_of tk (hr.mono (by decide)) (sa_cons (sv 0) (sa_cons (sv 2) sa_nil))) (g_name 3 nd))
    (ss_one (s_ret (b_tuple rfl T.b_tuple (sa_cons (s_lc (own := [("number", 5)]) rfl nd (si_seq rfl (sv 1)) (blkOk_by rfl) (go_name (i := 5)) (fun _ _ _ _ _ => (pg_name (i := 5) nd rfl (by first | exact Or.inl rfl | exact Or.inr rfl))) (fun _ _ _ _ _ => sts_nil) (fun _ _ _ _ _ => (s_mod (s_mul (sv 5) (sv 3)) (sv 0)))) sa_nil))))) ss_nil)
    (ss_cons (s_asg (se_if (st_cmp op_gt gt_o (sv 2) sc_int (nomark _)) (s_fn D_divisor_of tk (hr.mono (by decide)) (sa_cons (sv 1) sa_nil)) (s_neg (s_fn D_divisor_of tk (hr.mono (by decide)) (sa_cons (sv 1) sa_nil)))) (g_name 4 nd))
    (ss_one (s_ret (b_tuple rfl T.b_tuple (sa_cons (s_lc (own := [("number", 5)]) rfl nd (si_seq rfl (sv 1)) (blkOk_by rfl) (go_name (i := 5)) (fun _ _ _ _ _ => (pg_name (i := 5) nd rfl (by first | exact Or.inl rfl | exact Or.inr rfl))) (fun _ _ _ _ _ => sts_nil) (fun _ _ _ _ _ => (s_div (sv 5) (sv 4)))) sa_nil))))))))
theorem ok_is_spot (T : Fx P g mg) (A_is_spot : At g.r.K mg "is_spot" st_is_spot ["prime", "value"]) (D_is_couple : Dn P w g.r.K mg base g 3 "is_couple" [] 2 m_is_couple) (D_normal_of : Dn P w g.r.K mg base g 2 "normal_of" [] 2 m_normal_of) : Dn P w g.r.K mg base g 4 "is_spot" [] 2 m_is_spot := by
  refine dn_mk A_is_spot sc_is_spot rfl fun f cdv A outer s H E hr tk po => ?_
  have nd := sc_is_spot.nd
  exact (ss_cons (s_if (PW.pt (sw_or (st_not (st_val (s_fn D_is_couple tk (hr.mono (by decide)) (sa_cons (sv 0) (sa_cons (sv 1) sa_nil))))) (sw_oneO (st_cmp (op_eqD (hu64 hr)) (eq_o rfl) (sv 1) (se_tup (sa_cons sc_int (sa_cons sc_int sa_nil))) (nomark _))))) (ss_one (s_ret sc_bl)) ss_nil)
    (ss_one (s_ret (se_and (b_all rfl rfl T.b_all (sa_cons (s_lc (own := [("one", 2)]) rfl nd (si_seq rfl (sv 1)) (blkOk_by rfl) (go_name (i := 2)) (fun _ _ _ _ _ => (pg_name (i := 2) nd rfl (by first | exact Or.inl rfl | exact Or.inr rfl))) (fun _ _ _ _ _ => sts_nil) (fun _ _ _ _ _ => (se_chain op_le le_o op_le le_o (s_neg (sc_gint T.c_MAX_ENTRY)) (sv 2) (sc_gint T.c_MAX_ENTRY)))) sa_nil)) (se_one (s_eq rfl (hu64 hr) (s_fn D_normal_of tk (hr.mono (by decide)) (sa_cons (sv 0) (sa_cons (sv 1) sa_nil))) (sv 1)))))))
theorem ok_require_four (T : Fx P g mg) (A_require_four : At g.r.K mg "require_four" st_require_four ["prime", "value"]) (D_is_spot : Dn P w g.r.K mg base g 4 "is_spot" [] 2 m_is_spot) : Dn P w g.r.K mg base g 5 "require_four" [] 2 m_require_four := by
  refine dn_mk A_require_four sc_require_four rfl fun f cdv A outer s H E hr tk po => ?_
  have nd := sc_require_four.nd
  exact (ss_cons (s_if (PW.pt (sw_or (st_not (st_val (b_isi rfl T.b_isinstance (sa_cons (sv 1) (sa_cons (sc_ty (by rfl) T.b_tuple bt_tuple) sa_nil))))) (sw_or (st_cmp (op_neD (hu64 hr)) (ne_o rfl) (b_len rfl T.b_len (sa_cons (sv 1) sa_nil)) (sc_gint T.c_FOUR_SPOTS) (nomark _)) (sw_oneO (st_not (st_val (b_all rfl rfl T.b_all (sa_cons (s_lc (own := [("spot", 2)]) rfl nd (si_seq rfl (sv 1)) (blkOk_by rfl) (go_name (i := 2)) (fun _ _ _ _ _ => (pg_name (i := 2) nd rfl (by first | exact Or.inl rfl | exact Or.inr rfl))) (fun _ _ _ _ _ => sts_nil) (fun _ _ _ _ _ => (s_fn D_is_spot takes0 (hr.mono (by decide)) (sa_cons (sv 0) (sa_cons (sv 2) sa_nil))))) sa_nil)))))))) (ss_one (s_raise T.r_InvalidOperation rfl tk)) ss_nil)
    (ss_one (s_if (st_cmp (op_neD (hu64 hr)) (ne_o rfl) (b_lenD T.b_len (sa_cons (s_dc (own := [("spot", 2)]) false rfl nd (hu1 hr) (si_seq rfl (sv 1)) (blkOk_by rfl) (go_name (i := 2)) (fun _ _ _ _ _ => (pg_name (i := 2) nd rfl (by first | exact Or.inl rfl | exact Or.inr rfl))) (fun _ _ _ _ _ => sts_nil) (fun _ _ _ _ _ => (sv 2)) (fun _ _ _ _ _ => sc_bl)) sa_nil)) (sc_gint T.c_FOUR_SPOTS) (nomark _)) (ss_one (s_raise T.r_InvalidOperation rfl tk)) ss_nil)))
theorem ok_bracket (T : Fx P g mg) (A_bracket : At g.r.K mg "bracket" st_bracket ["one", "other"]) : Dn P w g.r.K mg base g 1 "bracket" [] 2 m_bracket := by
  refine dn_mk A_bracket sc_bracket rfl fun f cdv A outer s H E hr tk po => ?_
  have nd := sc_bracket.nd
  exact (ss_one (s_ret (s_sub (s_mul (s_ix rfl (sv 0) sc_int) (s_ix rfl (sv 1) sc_int)) (s_mul (s_ix rfl (sv 0) sc_int) (s_ix rfl (sv 1) sc_int)))))
theorem ok_lowered_by (T : Fx P g mg) (A_lowered_by : At g.r.K mg "lowered_by" st_lowered_by ["prime", "number"]) : Dn P w g.r.K mg base g 1 "lowered_by" [] 2 m_lowered_by := by
  refine dn_mk A_lowered_by sc_lowered_by rfl fun f cdv A outer s H E hr tk po => ?_
  have nd := sc_lowered_by.nd
  exact (ss_one (s_ret (se_if (st_cmp (op_eqD (hu64 hr)) (eq_o rfl) (sv 0) sc_int (nomark _)) (sv 1) (s_mod (sv 1) (sv 0)))))
theorem ok_ratio_of (T : Fx P g mg) (A_ratio_of : At g.r.K mg "ratio_of" st_ratio_of ["prime", "spots"]) (D_bracket : Dn P w g.r.K mg base g 1 "bracket" [] 2 m_bracket) (D_normal_of : Dn P w g.r.K mg base g 2 "normal_of" [] 2 m_normal_of) (D_lowered_by : Dn P w g.r.K mg base g 1 "lowered_by" [] 2 m_lowered_by) : Dn P w g.r.K mg base g 3 "ratio_of" [] 2 m_ratio_of := by
  refine dn_mk A_ratio_of sc_ratio_of rfl fun f cdv A outer s H E hr tk po => ?_
  have nd := sc_ratio_of.nd
  exact (ss_cons (s_asg (sv 1) (g_tupA rfl rfl (gs_cons (g_name 2 nd) (gs_cons (g_name 3 nd) (gs_cons (g_name 4 nd) (gs_cons (g_name 5 nd) gs_nil))))))
    (ss_cons (s_par (i := 6) (j := 7) rfl nd (s_mul (s_fn D_bracket tk (hr.mono (by decide)) (sa_cons (sv 2) (sa_cons (sv 4) sa_nil))) (s_fn D_bracket tk (hr.mono (by decide)) (sa_cons (sv 3) (sa_cons (sv 5) sa_nil)))) (s_mul (s_fn D_bracket tk (hr.mono (by decide)) (sa_cons (sv 2) (sa_cons (sv 5) sa_nil))) (s_fn D_bracket tk (hr.mono (by decide)) (sa_cons (sv 3) (sa_cons (sv 4) sa_nil)))) (by rfl))
    (ss_one (s_ret (s_fn D_normal_of tk (hr.mono (by decide)) (sa_cons (sv 0) (sa_cons (se_tup (sa_cons (s_fn D_lowered_by tk (hr.mono (by decide)) (sa_cons (sv 0) (sa_cons (sv 6) sa_nil))) (sa_cons (s_fn D_lowered_by tk (hr.mono (by decide)) (sa_cons (sv 0) (sa_cons (sv 7) sa_nil))) sa_nil))) sa_nil)))))))
theorem ok_cross_ratio (T : Fx P g mg) (A_cross_ratio : At g.r.K mg "cross_ratio" st_cross_ratio ["prime", "spots"]) (D_require_prime : Dn P w g.r.K mg base g 3 "require_prime" [] 1 m_require_prime) (D_require_four : Dn P w g.r.K mg base g 5 "require_four" [] 2 m_require_four) (D_ratio_of : Dn P w g.r.K mg base g 3 "ratio_of" [] 2 m_ratio_of) : Dn P w g.r.K mg base g 6 "cross_ratio" [] 2 m_cross_ratio := by
  refine dn_mk A_cross_ratio sc_cross_ratio rfl fun f cdv A outer s H E hr tk po => ?_
  have nd := sc_cross_ratio.nd
  exact (ss_cons (s_expr (s_fn D_require_prime tk (hr.mono (by decide)) (sa_cons (sv 0) sa_nil)))
    (ss_cons (s_expr (s_fn D_require_four tk (hr.mono (by decide)) (sa_cons (sv 0) (sa_cons (sv 1) sa_nil))))
    (ss_one (s_ret (s_fn D_ratio_of tk (hr.mono (by decide)) (sa_cons (sv 0) (sa_cons (sv 1) sa_nil)))))))
theorem ok_is_harmonic (T : Fx P g mg) (A_is_harmonic : At g.r.K mg "is_harmonic" st_is_harmonic ["prime", "spots"]) (D_require_prime : Dn P w g.r.K mg base g 3 "require_prime" [] 1 m_require_prime) (D_require_four : Dn P w g.r.K mg base g 5 "require_four" [] 2 m_require_four) (D_lowered_by : Dn P w g.r.K mg base g 1 "lowered_by" [] 2 m_lowered_by) (D_ratio_of : Dn P w g.r.K mg base g 3 "ratio_of" [] 2 m_ratio_of) : Dn P w g.r.K mg base g 6 "is_harmonic" [] 2 m_is_harmonic := by
  refine dn_mk A_is_harmonic sc_is_harmonic rfl fun f cdv A outer s H E hr tk po => ?_
  have nd := sc_is_harmonic.nd
  exact (ss_cons (s_expr (s_fn D_require_prime tk (hr.mono (by decide)) (sa_cons (sv 0) sa_nil)))
    (ss_cons (s_expr (s_fn D_require_four tk (hr.mono (by decide)) (sa_cons (sv 0) (sa_cons (sv 1) sa_nil))))
    (ss_one (s_ret (s_eq rfl (hu64 hr) (s_fn D_lowered_by tk (hr.mono (by decide)) (sa_cons (sv 0) (sa_cons (b_sumT rfl rfl T.b_sum (sa_cons (s_fn D_ratio_of tk (hr.mono (by decide)) (sa_cons (sv 0) (sa_cons (sv 1) sa_nil))) sa_nil)) sa_nil))) sc_int)))))
theorem ok_law_mixed (T : Fx P g mg) (A_law_mixed : At g.r.K mg "_law_mixed" st_law_mixed ["_law_bag_here", "_law_items"]) (D_law_grab : Dn P w g.r.K mg base g 1 "_law_grab" [] 2 m_law_grab) : Dn P w g.r.K mg base g 2 "_law_mixed" [] 2 m_law_mixed := by
  refine dn_mk A_law_mixed sc_law_mixed rfl fun f cdv A outer s H E hr tk po => ?_
  have nd := sc_law_mixed.nd
  exact (ss_cons (s_asg (b_listC rfl T.b_list (sa_cons (sv 1) sa_nil)) (g_name 2 nd))
    (ss_one (s_ret (s_lc (own := [("_law_turn", 3)]) rfl nd (si_range1 T.b_range (sa_cons (b_len rfl T.b_len (sa_cons (sv 1) sa_nil)) sa_nil)) (blkOk_by rfl) (go_name (i := 3)) (fun _ _ _ _ _ => (pg_name (i := 3) nd rfl (by first | exact Or.inl rfl | exact Or.inr rfl))) (fun _ _ _ _ _ => sts_nil) (fun _ _ _ _ _ => (s_popAt rfl (sv 2) (sa_cons (s_fn D_law_grab takes0 (hr.mono (by decide)) (sa_cons (sv 0) (sa_cons (b_len rfl T.b_len (sa_cons (sv 2) sa_nil)) sa_nil))) sa_nil)))))))
theorem ok_law_small_spots (T : Fx P g mg) (A_law_small_spots : At g.r.K mg "_law_small_spots" st_law_small_spots ["_law_prime"]) : Dn P w g.r.K mg base g 1 "_law_small_spots" [] 1 m_law_small_spots := by
  refine dn_mk A_law_small_spots sc_law_small_spots rfl fun f cdv A outer s H E hr tk po => ?_
  have nd := sc_law_small_spots.nd
  exact (ss_cons (s_if (st_cmp op_gt gt_o (sv 0) sc_int (nomark _)) (ss_one (s_ret (s_add rfl (se_lst (sa_cons (se_tup (sa_cons sc_int (sa_cons sc_int sa_nil))) sa_nil)) (s_lc (own := [("_law_other", 2)]) rfl nd (si_range1 T.b_range (sa_cons (sv 0) sa_nil)) (blkOk_by rfl) (go_name (i := 2)) (fun _ _ _ _ _ => (pg_name (i := 2) nd rfl (by first | exact Or.inl rfl | exact Or.inr rfl))) (fun _ _ _ _ _ => sts_nil) (fun _ _ _ _ _ => (se_tup (sa_cons sc_int (sa_cons (sv 2) sa_nil)))))))) ss_nil)
    (ss_cons (s_asg (s_add rfl (s_add rfl (se_lst (sa_cons (se_tup (sa_cons sc_int (sa_cons sc_int sa_nil))) sa_nil)) (s_lc (own := [("_law_other", 2)]) rfl nd (si_range2 T.b_range (sa_cons (s_neg sc_int) (sa_cons sc_int sa_nil))) (blkOk_by rfl) (go_name (i := 2)) (fun _ _ _ _ _ => (pg_name (i := 2) nd rfl (by first | exact Or.inl rfl | exact Or.inr rfl))) (fun _ _ _ _ _ => sts_nil) (fun _ _ _ _ _ => (se_tup (sa_cons sc_int (sa_cons (sv 2) sa_nil)))))) (s_lc (own := [("_law_other", 2)]) rfl nd (si_seq rfl (se_tup (sa_cons (s_neg sc_int) (sa_cons (s_neg sc_int) (sa_cons sc_int (sa_cons sc_int sa_nil)))))) (blkOk_by rfl) (go_name (i := 2)) (fun _ _ _ _ _ => (pg_name (i := 2) nd rfl (by first | exact Or.inl rfl | exact Or.inr rfl))) (fun _ _ _ _ _ => sts_nil) (fun _ _ _ _ _ => (se_tup (sa_cons sc_int (sa_cons (sv 2) sa_nil)))))) (g_name 1 nd))
    (ss_one (s_ret (s_add rfl (sv 1) (s_lc (own := [("_law_other", 2)]) rfl nd (si_seq rfl (se_tup (sa_cons (s_neg sc_int) (sa_cons (s_neg sc_int) (sa_cons sc_int (sa_cons sc_int sa_nil)))))) (blkOk_by rfl) (go_name (i := 2)) (fun _ _ _ _ _ => (pg_name (i := 2) nd rfl (by first | exact Or.inl rfl | exact Or.inr rfl))) (fun _ _ _ _ _ => sts_nil) (fun _ _ _ _ _ => (se_tup (sa_cons sc_int (sa_cons (sv 2) sa_nil))))))))))
theorem ok_law_spots (T : Fx P g mg) (A_law_spots : At g.r.K mg "_law_spots" st_law_spots ["_law_bag_here", "_law_prime", "_law_many"]) (D_law_mixed : Dn P w g.r.K mg base g 2 "_law_mixed" [] 2 m_law_mixed) (D_law_small_spots : Dn P w g.r.K mg base g 1 "_law_small_spots" [] 1 m_law_small_spots) (D_law_grab : Dn P w g.r.K mg base g 1 "_law_grab" [] 2 m_law_grab) (D_law_one_of : Dn P w g.r.K mg base g 2 "_law_one_of" [] 2 m_law_one_of) : Dn P w g.r.K mg base g 3 "_law_spots" [] 3 m_law_spots := by
  refine dn_mk A_law_spots sc_law_spots rfl fun f cdv A outer s H E hr tk po => ?_
  have nd := sc_law_spots.nd
  exact (ss_cons (s_asg (s_cutC rfl (s_fn D_law_mixed tk (hr.mono (by decide)) (sa_cons (sv 0) (sa_cons (s_fn D_law_small_spots tk (hr.mono (by decide)) (sa_cons (sv 1) sa_nil)) sa_nil))) so_none (so_some (sv 2))) (g_name 3 nd))
    (ss_cons (s_if (PW.pt (sw_and (st_cmp (op_eqD (hu64 hr)) (eq_o rfl) (sv 1) sc_int (nomark _)) (sw_one (st_cmp (op_eqD (hu64 hr)) (eq_o rfl) (s_fn D_law_grab tk (hr.mono (by decide)) (sa_cons (sv 0) (sa_cons sc_int sa_nil))) sc_int (nomark _))))) (ss_cons (s_asg (s_fn D_law_one_of tk (hr.mono (by decide)) (sa_cons (sv 0) (sa_cons (se_lst (sa_cons (se_tup (sa_cons sc_int (sa_cons sc_int sa_nil))) (sa_cons (se_tup (sa_cons sc_int (sa_cons (s_neg sc_int) sa_nil))) (sa_cons (se_tup (sa_cons sc_int (sa_cons sc_int sa_nil))) (sa_cons (se_tup (sa_cons sc_int (sa_cons (s_neg sc_int) sa_nil))) (sa_cons (se_tup (sa_cons sc_int (sa_cons (s_neg sc_int) sa_nil))) sa_nil)))))) sa_nil))) (g_name 4 nd))
    (ss_one (s_asg (sv 4) (g_sub (W := W0) (sv 3) (s_fn D_law_grab takes0 (hr.mono (by decide)) (sa_cons (sv 0) (sa_cons (b_len rfl T.b_len (sa_cons (sv 3) sa_nil)) sa_nil))))))) ss_nil)
    (ss_one (s_ret (sv 3)))))
theorem ok_law_table_two (T : Fx P g mg) (A_law_table_two : At g.r.K mg "_law_table_two" st_law_table_two ["_law_bag_here", "_law_prime"]) (D_law_grab : Dn P w g.r.K mg base g 1 "_law_grab" [] 2 m_law_grab) : Dn P w g.r.K mg base g 2 "_law_table_two" [] 2 m_law_table_two := by
  refine dn_mk A_law_table_two sc_law_table_two rfl fun f cdv A outer s H E hr tk po => ?_
  have nd := sc_law_table_two.nd
  exact (ss_cons (s_asg (se_if (st_cmp (op_eqD (hu64 hr)) (eq_o rfl) (sv 1) sc_int (nomark _)) (se_tup (sa_cons (s_neg sc_int) (sa_cons sc_int sa_nil))) (se_tup (sa_cons sc_int (sa_cons (s_sub (sv 1) sc_int) sa_nil)))) (g_tupA rfl rfl (gs_cons (g_name 2 nd) (gs_cons (g_name 3 nd) gs_nil))))
    (ss_cons (s_for rfl po (si_range1 T.b_range (sa_cons sc_int sa_nil)) (g_name 4 nd) (ss_cons (s_setLc (i := 5) (own := [("_law_entry", 7)]) rfl nd (sw_true rfl rfl rfl (by decide +kernel)) (si_range1 T.b_range (sa_cons sc_int sa_nil)) (blkOk_by rfl) (go_name (i := 7)) (fun _ _ _ _ _ => (pg_name (i := 7) nd rfl (by first | exact Or.inl rfl | exact Or.inr rfl))) (fun _ _ _ _ _ => sts_nil) (fun _ _ _ _ _ => (s_add rfl (sv 2) (s_fn D_law_grab takes0 (hr.mono (by decide)) (sa_cons (sv 0) (sa_cons (s_add rfl (s_sub (sv 3) (sv 2)) sc_int) sa_nil))))))
    (ss_cons (s_asg (b_int T.b_int (sa_cons (s_sub (s_mul (s_ix rfl (sv 5) sc_int) (s_ix rfl (sv 5) sc_int)) (s_mul (s_ix rfl (sv 5) sc_int) (s_ix rfl (sv 5) sc_int))) sa_nil)) (g_name 6 nd))
    (ss_one (s_if (st_cmp (op_neD (hu64 hr)) (ne_o rfl) (se_if (st_cmp (op_eqD (hu64 hr)) (eq_o rfl) (sv 1) sc_int (nomark _)) (sv 6) (s_mod (sv 6) (sv 1))) sc_int (nomark _)) (ss_one (s_ret (se_tup (sa_cons (se_tup (sa_cons (s_ix rfl (sv 5) sc_int) (sa_cons (s_ix rfl (sv 5) sc_int) sa_nil))) (sa_cons (se_tup (sa_cons (s_ix rfl (sv 5) sc_int) (sa_cons (s_ix rfl (sv 5) sc_int) sa_nil))) sa_nil))))) ss_nil)))))
    (ss_one (s_ret (se_tup (sa_cons (se_tup (sa_cons sc_int (sa_cons sc_int sa_nil))) (sa_cons (se_tup (sa_cons sc_int (sa_cons sc_int sa_nil))) sa_nil)))))))
theorem ok_law_common (T : Fx P g mg) (A_law_common : At g.r.K mg "_law_common" st_law_common ["_law_numbers"]) : Dn P w g.r.K mg base g 1 "_law_common" [] 1 m_law_common := by
  refine dn_mk A_law_common sc_law_common rfl fun f cdv A outer s H E hr tk po => ?_
  have nd := sc_law_common.nd
  exact (ss_cons (s_asg sc_int (g_name 1 nd))
    (ss_cons (s_for rfl po (si_seq rfl (sv 0)) (g_name 2 nd) (ss_cons (s_asg (b_abs T.b_abs (sa_cons (sv 2) sa_nil)) (g_name 3 nd))
    (ss_one (s_while 4000 po (st_cmp op_gt gt_o (sv 3) sc_int (nomark _)) (ss_one (s_par (i := 1) (j := 3) rfl nd (sv 3) (s_mod (sv 1) (sv 3)) (by rfl)))))))
    (ss_one (s_ret (sv 1)))))
theorem ok_law_low (T : Fx P g mg) (A_law_low : At g.r.K mg "_law_low" st_law_low ["_law_prime", "_law_number"]) : Dn P w g.r.K mg base g 1 "_law_low" [] 2 m_law_low := by
  refine dn_mk A_law_low sc_law_low rfl fun f cdv A outer s H E hr tk po => ?_
  have nd := sc_law_low.nd
  exact (ss_one (s_ret (se_if (st_cmp (op_eqD (hu64 hr)) (eq_o rfl) (sv 0) sc_int (nomark _)) (b_int T.b_int (sa_cons (sv 1) sa_nil)) (s_mod (b_int T.b_int (sa_cons (sv 1) sa_nil)) (sv 0)))))
theorem ok_law_back (T : Fx P g mg) (A_law_back : At g.r.K mg "_law_back" st_law_back ["_law_prime", "_law_number"]) : Dn P w g.r.K mg base g 1 "_law_back" [] 2 m_law_back := by
  refine dn_mk A_law_back sc_law_back rfl fun f cdv A outer s H E hr tk po => ?_
  have nd := sc_law_back.nd
  exact (ss_one (s_ret (s_ix rfl (s_lc (own := [("_law_one", 2)]) rfl nd (si_range2 T.b_range (sa_cons sc_int (sa_cons (sv 0) sa_nil))) (blkOk_by rfl) (go_name (i := 2)) (fun _ _ _ _ _ => (pg_name (i := 2) nd rfl (by first | exact Or.inl rfl | exact Or.inr rfl))) (fun _ _ _ _ _ => (sts_one (st_cmp (op_eqD (hu64 hr)) (eq_o rfl) (s_mod (b_int T.b_int (sa_cons (s_mul (sv 2) (sv 1)) sa_nil)) (sv 0)) sc_int (nomark _)))) (fun _ _ _ _ _ => (sv 2))) sc_int)))
theorem ok_law_normal (T : Fx P g mg) (A_law_normal : At g.r.K mg "_law_normal" st_law_normal ["_law_prime", "_law_row"]) (D_law_low : Dn P w g.r.K mg base g 1 "_law_low" [] 2 m_law_low) (D_law_back : Dn P w g.r.K mg base g 1 "_law_back" [] 2 m_law_back) (D_law_common : Dn P w g.r.K mg base g 1 "_law_common" [] 1 m_law_common) : Dn P w g.r.K mg base g 2 "_law_normal" [] 2 m_law_normal := by
  refine dn_mk A_law_normal sc_law_normal rfl fun f cdv A outer s H E hr tk po => ?_
  have nd := sc_law_normal.nd
  exact (ss_cons (s_setLc (i := 2) (own := [("_law_number", 6)]) rfl nd (sw_true rfl rfl rfl (by decide +kernel)) (si_seq rfl (sv 1)) (blkOk_by rfl) (go_name (i := 6)) (fun _ _ _ _ _ => (pg_name (i := 6) nd rfl (by first | exact Or.inl rfl | exact Or.inr rfl))) (fun _ _ _ _ _ => sts_nil) (fun _ _ _ _ _ => (s_fn D_law_low takes0 (hr.mono (by decide)) (sa_cons (sv 0) (sa_cons (sv 6) sa_nil)))))
    (ss_cons (s_setLc (i := 3) (own := [("_law_number", 6)]) rfl nd (sw_true rfl rfl rfl (by decide +kernel)) (si_seq rfl (sv 2)) (blkOk_by rfl) (go_name (i := 6)) (fun _ _ _ _ _ => (pg_name (i := 6) nd rfl (by first | exact Or.inl rfl | exact Or.inr rfl))) (fun _ _ _ _ _ => (sts_one (st_cmp (op_neD (hu64 hr)) (ne_o rfl) (sv 6) sc_int (nomark _)))) (fun _ _ _ _ _ => (sv 6)))
    (ss_cons (s_if (st_cmp (op_eqD (hu64 hr)) (eq_o rfl) (sv 3) (se_lst sa_nil) (nomark _)) (ss_one (s_ret (b_tuple rfl T.b_tuple (sa_cons (sv 2) sa_nil)))) ss_nil)
    (ss_cons (s_if (st_cmp (op_neD (hu64 hr)) (ne_o rfl) (sv 0) sc_int (nomark _)) (ss_cons (s_asg (s_fn D_law_back tk (hr.mono (by decide)) (sa_cons (sv 0) (sa_cons (s_ix rfl (sv 3) sc_int) sa_nil))) (g_name 4 nd))
    (ss_one (s_ret (b_tuple rfl T.b_tuple (sa_cons (s_lc (own := [("_law_number", 6)]) rfl nd (si_seq rfl (sv 2)) (blkOk_by rfl) (go_name (i := 6)) (fun _ _ _ _ _ => (pg_name (i := 6) nd rfl (by first | exact Or.inl rfl | exact Or.inr rfl))) (fun _ _ _ _ _ => sts_nil) (fun _ _ _ _ _ => (s_mod (b_int T.b_int (sa_cons (s_mul (sv 6) (sv 4)) sa_nil)) (sv 0)))) sa_nil))))) ss_nil)
    (ss_cons (s_asg (s_fn D_law_common tk (hr.mono (by decide)) (sa_cons (sv 2) sa_nil)) (g_name 5 nd))
    (ss_cons (s_asg (se_if (st_cmp op_gt gt_o (s_ix rfl (sv 3) sc_int) sc_int (nomark _)) (sv 5) (s_neg (sv 5))) (g_name 5 nd))
    (ss_one (s_ret (b_tuple rfl T.b_tuple (sa_cons (s_lc (own := [("_law_number", 6)]) rfl nd (si_seq rfl (sv 2)) (blkOk_by rfl) (go_name (i := 6)) (fun _ _ _ _ _ => (pg_name (i := 6) nd rfl (by first | exact Or.inl rfl | exact Or.inr rfl))) (fun _ _ _ _ _ => sts_nil) (fun _ _ _ _ _ => (s_div (sv 6) (sv 5)))) sa_nil))))))))))
theorem ok_law_spot_led (T : Fx P g mg) (A_law_spot_led : At g.r.K mg "_law_spot_led" st_law_spot_led ["_law_prime", "_law_spot", "_law_table"]) (D_law_normal : Dn P w g.r.K mg base g 2 "_law_normal" [] 2 m_law_normal) : Dn P w g.r.K mg base g 3 "_law_spot_led" [] 3 m_law_spot_led := by
  refine dn_mk A_law_spot_led sc_law_spot_led rfl fun f cdv A outer s H E hr tk po => ?_
  have nd := sc_law_spot_led.nd
  exact (ss_cons (s_asg (se_tup (sa_cons (s_ix rfl (sv 1) sc_int) (sa_cons (s_sub sc_int (s_ix rfl (sv 1) sc_int)) sa_nil))) (g_tupA rfl rfl (gs_cons (g_name 3 nd) (gs_cons (g_name 4 nd) gs_nil))))
    (ss_cons (s_asg (s_lc (own := [("_law_line", 7)]) rfl nd (si_seq rfl (sv 2)) (blkOk_by rfl) (go_name (i := 7)) (fun _ _ _ _ _ => (pg_name (i := 7) nd rfl (by first | exact Or.inl rfl | exact Or.inr rfl))) (fun _ _ _ _ _ => sts_nil) (fun _ _ _ _ _ => (s_add rfl (s_mul (s_ix rfl (sv 7) sc_int) (sv 3)) (s_mul (s_ix rfl (sv 7) sc_int) (sv 4))))) (g_tupA rfl rfl (gs_cons (g_name 5 nd) (gs_cons (g_name 6 nd) gs_nil))))
    (ss_one (s_ret (s_fn D_law_normal tk (hr.mono (by decide)) (sa_cons (sv 0) (sa_cons (se_tup (sa_cons (sv 6) (sa_cons (s_sub sc_int (sv 5)) sa_nil))) sa_nil)))))))
theorem ok_law_four (T : Fx P g mg) (A_law_four : At g.r.K mg "_law_four" st_law_four ["_law_bag_here", "_law_prime"]) (D_law_grab : Dn P w g.r.K mg base g 1 "_law_grab" [] 2 m_law_grab) (D_law_spots : Dn P w g.r.K mg base g 3 "_law_spots" [] 3 m_law_spots) (D_law_table_two : Dn P w g.r.K mg base g 2 "_law_table_two" [] 2 m_law_table_two) (D_law_spot_led : Dn P w g.r.K mg base g 3 "_law_spot_led" [] 3 m_law_spot_led) (D_law_mixed : Dn P w g.r.K mg base g 2 "_law_mixed" [] 2 m_law_mixed) : Dn P w g.r.K mg base g 4 "_law_four" [] 2 m_law_four := by
  refine dn_mk A_law_four sc_law_four rfl fun f cdv A outer s H E hr tk po => ?_
  have nd := sc_law_four.nd
  exact (ss_cons (s_if (st_cmp op_gt gt_o (s_fn D_law_grab tk (hr.mono (by decide)) (sa_cons (sv 0) (sa_cons sc_int sa_nil))) sc_int (nomark _)) (ss_one (s_ret (s_fn D_law_spots tk (hr.mono (by decide)) (sa_cons (sv 0) (sa_cons (sv 1) (sa_cons sc_int sa_nil)))))) ss_nil)
    (ss_cons (s_asg (se_tup (sa_cons (s_fn D_law_table_two tk (hr.mono (by decide)) (sa_cons (sv 0) (sa_cons (sv 1) sa_nil))) (sa_cons (se_if (st_cmp (op_eqD (hu64 hr)) (eq_o rfl) (sv 1) sc_int (nomark _)) (s_neg sc_int) (s_sub (sv 1) sc_int)) sa_nil))) (g_tupA rfl rfl (gs_cons (g_name 2 nd) (gs_cons (g_name 3 nd) gs_nil))))
    (ss_cons (s_setLc (i := 4) (own := [("_law_spot", 5)]) rfl nd (sw_true rfl rfl rfl (by decide +kernel)) (si_seq rfl (se_lst (sa_cons (se_tup (sa_cons sc_int (sa_cons sc_int sa_nil))) (sa_cons (se_tup (sa_cons sc_int (sa_cons sc_int sa_nil))) (sa_cons (se_tup (sa_cons sc_int (sa_cons sc_int sa_nil))) (sa_cons (se_tup (sa_cons sc_int (sa_cons (sv 3) sa_nil))) sa_nil)))))) (blkOk_by rfl) (go_name (i := 5)) (fun _ _ _ _ _ => (pg_name (i := 5) nd rfl (by first | exact Or.inl rfl | exact Or.inr rfl))) (fun _ _ _ _ _ => sts_nil) (fun _ _ _ _ _ => (s_fn D_law_spot_led takes0 (hr.mono (by decide)) (sa_cons (sv 1) (sa_cons (sv 5) (sa_cons (sv 2) sa_nil))))))
    (ss_one (s_ret (se_if (st_cmp (op_eqD (hu64 hr)) (eq_o rfl) (s_fn D_law_grab tk (hr.mono (by decide)) (sa_cons (sv 0) (sa_cons sc_int sa_nil))) sc_int (nomark _)) (s_fn D_law_mixed tk (hr.mono (by decide)) (sa_cons (sv 0) (sa_cons (sv 4) sa_nil))) (sv 4)))))))
theorem ok_law_bracket (T : Fx P g mg) (A_law_bracket : At g.r.K mg "_law_bracket" st_law_bracket ["_law_one", "_law_other"]) : Dn P w g.r.K mg base g 1 "_law_bracket" [] 2 m_law_bracket := by
  refine dn_mk A_law_bracket sc_law_bracket rfl fun f cdv A outer s H E hr tk po => ?_
  have nd := sc_law_bracket.nd
  exact (ss_one (s_ret (s_sub (s_mul (s_ix rfl (sv 0) sc_int) (s_ix rfl (sv 1) sc_int)) (s_mul (s_ix rfl (sv 0) sc_int) (s_ix rfl (sv 1) sc_int)))))
theorem ok_law_cross_ratio (T : Fx P g mg) (A_law_cross_ratio : At g.r.K mg "_law_cross_ratio" st_law_cross_ratio ["_law_prime", "_law_spots_here"]) (D_law_bracket : Dn P w g.r.K mg base g 1 "_law_bracket" [] 2 m_law_bracket) (D_law_normal : Dn P w g.r.K mg base g 2 "_law_normal" [] 2 m_law_normal) : Dn P w g.r.K mg base g 3 "_law_cross_ratio" [] 2 m_law_cross_ratio := by
  refine dn_mk A_law_cross_ratio sc_law_cross_ratio rfl fun f cdv A outer s H E hr tk po => ?_
  have nd := sc_law_cross_ratio.nd
  exact (ss_cons (s_asg (sv 1) (g_tupA rfl rfl (gs_cons (g_name 2 nd) (gs_cons (g_name 3 nd) (gs_cons (g_name 4 nd) (gs_cons (g_name 5 nd) gs_nil))))))
    (ss_cons (s_asg (s_mul (s_fn D_law_bracket tk (hr.mono (by decide)) (sa_cons (sv 2) (sa_cons (sv 4) sa_nil))) (s_fn D_law_bracket tk (hr.mono (by decide)) (sa_cons (sv 3) (sa_cons (sv 5) sa_nil)))) (g_name 6 nd))
    (ss_one (s_ret (s_fn D_law_normal tk (hr.mono (by decide)) (sa_cons (sv 0) (sa_cons (se_tup (sa_cons (sv 6) (sa_cons (s_mul (s_fn D_law_bracket tk (hr.mono (by decide)) (sa_cons (sv 2) (sa_cons (sv 5) sa_nil))) (s_fn D_law_bracket tk (hr.mono (by decide)) (sa_cons (sv 3) (sa_cons (sv 4) sa_nil)))) sa_nil))) sa_nil)))))))
theorem ok_law_is_zero (T : Fx P g mg) (A_law_is_zero : At g.r.K mg "_law_is_zero" st_law_is_zero ["_law_prime", "_law_number"]) : Dn P w g.r.K mg base g 1 "_law_is_zero" [] 2 m_law_is_zero := by
  refine dn_mk A_law_is_zero sc_law_is_zero rfl fun f cdv A outer s H E hr tk po => ?_
  have nd := sc_law_is_zero.nd
  exact (ss_one (s_ret (se_if (st_cmp (op_eqD (hu64 hr)) (eq_o rfl) (sv 0) sc_int (nomark _)) (s_eq rfl (hu64 hr) (sv 1) sc_int) (s_eq rfl (hu64 hr) (s_mod (b_int T.b_int (sa_cons (sv 1) sa_nil)) (sv 0)) sc_int))))
theorem ok_law_told_right (T : Fx P g mg) {c_law_told_right : Addr} (A_law_told_right : AtC g.r.K mg "_law_told_right" st_law_told_right ["_law_bag_here", "_law_prime"] c_law_told_right) (D_law_four : Dn P w g.r.K mg base g 4 "_law_four" [] 2 m_law_four) (D_law_table_two : Dn P w g.r.K mg base g 2 "_law_table_two" [] 2 m_law_table_two) (D_cross_ratio : Dn P w g.r.K mg base g 6 "cross_ratio" [] 2 m_cross_ratio) (D_law_cross_ratio : Dn P w g.r.K mg base g 3 "_law_cross_ratio" [] 2 m_law_cross_ratio) (D_is_harmonic : Dn P w g.r.K mg base g 6 "is_harmonic" [] 2 m_is_harmonic) (D_law_is_zero : Dn P w g.r.K mg base g 1 "_law_is_zero" [] 2 m_law_is_zero) (D_law_normal : Dn P w g.r.K mg base g 2 "_law_normal" [] 2 m_law_normal) (D_law_spot_led : Dn P w g.r.K mg base g 3 "_law_spot_led" [] 3 m_law_spot_led) : DnG P w g.r.K mg base g 7 "_law_told_right" [] 2 m_law_told_right := by
  refine dnG_mk A_law_told_right sc_law_told_right rfl fun f A outer s H E hr hgd tk po => ?_
  have nd := sc_law_told_right.nd
  exact (ss_cons (s_asg (s_fn D_law_four tk (hr.mono (by decide)) (sa_cons (sv 0) (sa_cons (sv 1) sa_nil))) (g_tupA rfl rfl (gs_cons (g_name 2 nd) (gs_cons (g_name 3 nd) (gs_cons (g_name 4 nd) (gs_cons (g_name 5 nd) gs_nil))))))
    (ss_cons (s_asg (se_tup (sa_cons (s_fn D_cross_ratio tk (hr.mono (by decide)) (sa_cons (sv 1) (sa_cons (se_tup (sa_cons (sv 2) (sa_cons (sv 3) (sa_cons (sv 4) (sa_cons (sv 5) sa_nil))))) sa_nil))) (sa_cons (s_fn D_law_table_two tk (hr.mono (by decide)) (sa_cons (sv 0) (sa_cons (sv 1) sa_nil))) sa_nil))) (g_tupA rfl rfl (gs_cons (g_name 6 nd) (gs_cons (g_name 7 nd) gs_nil))))
    (ss_cons (s_if (st_cmp (op_neD (hu64 hr)) (ne_o rfl) (b_reprD rfl hgd (hu65 hr) T.b_repr (sa_cons (sv 6) sa_nil)) (b_reprD rfl hgd (hu65 hr) T.b_repr (sa_cons (s_fn D_law_cross_ratio tk (hr.mono (by decide)) (sa_cons (sv 1) (sa_cons (se_tup (sa_cons (sv 2) (sa_cons (sv 3) (sa_cons (sv 4) (sa_cons (sv 5) sa_nil))))) sa_nil))) sa_nil)) (nomark _)) (ss_one (s_ret sc_bl)) ss_nil)
    (ss_cons (s_if (st_cmp (op_neD (hu64 hr)) (ne_o rfl) (b_reprD rfl hgd (hu65 hr) T.b_repr (sa_cons (s_fn D_is_harmonic tk (hr.mono (by decide)) (sa_cons (sv 1) (sa_cons (se_tup (sa_cons (sv 2) (sa_cons (sv 3) (sa_cons (sv 4) (sa_cons (sv 5) sa_nil))))) sa_nil))) sa_nil)) (b_reprD rfl hgd (hu65 hr) T.b_repr (sa_cons (s_fn D_law_is_zero tk (hr.mono (by decide)) (sa_cons (sv 1) (sa_cons (s_add rfl (s_ix rfl (sv 6) sc_int) (s_ix rfl (sv 6) sc_int)) sa_nil))) sa_nil)) (nomark _)) (ss_one (s_ret sc_bl)) ss_nil)
    (ss_cons (s_asg (se_cell (sa_cons (s_fn D_cross_ratio tk (hr.mono (by decide)) (sa_cons (sv 1) (sa_cons (se_tup (sa_cons (sv 2) (sa_cons (sv 3) (sa_cons (sv 5) (sa_cons (sv 4) sa_nil))))) sa_nil))) (sa_cons (s_fn D_cross_ratio tk (hr.mono (by decide)) (sa_cons (sv 1) (sa_cons (se_tup (sa_cons (sv 4) (sa_cons (sv 5) (sa_cons (sv 2) (sa_cons (sv 3) sa_nil))))) sa_nil))) sa_nil))) (g_name 8 nd))
    (ss_cons (s_expr (s_append rfl (sv 8) (sa_cons (s_fn D_cross_ratio tk (hr.mono (by decide)) (sa_cons (sv 1) (sa_cons (se_tup (sa_cons (sv 2) (sa_cons (sv 4) (sa_cons (sv 3) (sa_cons (sv 5) sa_nil))))) sa_nil))) sa_nil)))
    (ss_cons (s_asg (se_lst (sa_cons (s_fn D_law_normal tk (hr.mono (by decide)) (sa_cons (sv 1) (sa_cons (se_tup (sa_cons (s_ix rfl (sv 6) sc_int) (sa_cons (s_ix rfl (sv 6) sc_int) sa_nil))) sa_nil))) (sa_cons (sv 6) (sa_cons (s_fn D_law_normal tk (hr.mono (by decide)) (sa_cons (sv 1) (sa_cons (se_tup (sa_cons (s_sub (s_ix rfl (sv 6) sc_int) (s_ix rfl (sv 6) sc_int)) (sa_cons (s_sub sc_int (s_ix rfl (sv 6) sc_int)) sa_nil))) sa_nil))) sa_nil)))) (g_name 9 nd))
    (ss_cons (s_if (st_cmp (op_neD (hu64 hr)) (ne_o rfl) (sv 8) (sv 9) (nomark _)) (ss_one (s_ret sc_bl)) ss_nil)
    (ss_cons (s_asg (b_tuple rfl T.b_tuple (sa_cons (s_lc (own := [("_law_spot", 11)]) rfl nd (si_seq rfl (se_tup (sa_cons (sv 2) (sa_cons (sv 3) (sa_cons (sv 4) (sa_cons (sv 5) sa_nil)))))) (blkOk_by rfl) (go_name (i := 11)) (fun _ _ _ _ _ => (pg_name (i := 11) nd rfl (by first | exact Or.inl rfl | exact Or.inr rfl))) (fun _ _ _ _ _ => sts_nil) (fun _ _ _ _ _ => (s_fn D_law_spot_led takes0 (hr.mono (by decide)) (sa_cons (sv 1) (sa_cons (sv 11) (sa_cons (sv 7) sa_nil)))))) sa_nil)) (g_name 10 nd))
    (ss_one (s_ret (se_or (s_gt (b_max1 rfl rfl T.b_max (sa_cons (s_lc (own := [("_law_spot", 11)]) rfl nd (si_seq rfl (sv 10)) (blkOk_by rfl) (go_name (i := 11)) (fun _ _ _ _ _ => (pg_name (i := 11) nd rfl (by first | exact Or.inl rfl | exact Or.inr rfl))) (fun _ _ _ _ _ => sts_nil) (fun _ _ _ _ _ => (b_max2 rfl T.b_max (sa_cons (b_abs T.b_abs (sa_cons (s_ix rfl (sv 11) sc_int) sa_nil)) (sa_cons (b_abs T.b_abs (sa_cons (s_ix rfl (sv 11) sc_int) sa_nil)) sa_nil))))) sa_nil)) (s_pow sc_int sc_int)) (se_one (s_eq rfl (hu64 hr) (s_fn D_cross_ratio tk (hr.mono (by decide)) (sa_cons (sv 1) (sa_cons (sv 10) sa_nil))) (sv 6)))))))))))))))
theorem ok_law_met {N0 : List Str} {q0 : Str} {sc0 : Scope} {f0 : Addr} {cd0 : Value} {A0 : Around} {o0 : List Env} {s0 : Shared} {H0 : Hp} {E0 : XK} {f : Addr} {cdv : Value} {q : Str} (T : Fx P g mg) (hgd : (cxOf (L2.CX P w) P w g.r.K mg base N0 q0 sc0 f0 cd0 A0 o0 s0 H0 E0).A.guards = some []) (hu : (cxOf (L2.CX P w) P w g.r.K mg base N0 q0 sc0 f0 cd0 A0 o0 s0 H0 E0).A.units + 68 < cLine) :
    LamX.GivesTo (cxOf (L2.CX P w) P w g.r.K mg base N0 q0 sc0 f0 cd0 A0 o0 s0 H0 E0) ["_law_call", "e"] "_law_met" (defScope st_law_met) f cdv (defBody st_law_met) "_law_call" q (TTw g m_law_met) := by
  have nd := sc_law_met.nd
  exact word_gives (sub := subX) rfl T.sub nd (by decide) (fun s H => (.named ⟨rfl, rfl, .inl T.n_InvalidNumber⟩ rfl rfl (su_rep T.x_InvalidNumber rfl hgd hu T.b_repr) (.bare ⟨rfl, rfl, .inl T.n_InvalidOperation⟩ su_str (.bare ⟨rfl, rfl, .inl T.n_InvalidMarks⟩ su_str (.bare ⟨rfl, rfl, .inl T.n_InvalidPair⟩ su_str (.named ⟨rfl, rfl, .inl T.n_TooMany⟩ rfl rfl (su_rep T.x_TooMany rfl hgd hu T.b_repr) .nil)))))) (fun s H => (ss_one (s_ret sc_str)))
theorem ok_law_strange_spot (T : Fx P g mg) (A_law_strange_spot : At g.r.K mg "_law_strange_spot" st_law_strange_spot ["_law_bag_here", "_law_prime", "_law_spots_here"]) (D_law_one_of : Dn P w g.r.K mg base g 2 "_law_one_of" [] 2 m_law_one_of) : Dn P w g.r.K mg base g 3 "_law_strange_spot" [] 3 m_law_strange_spot := by
  refine dn_mk A_law_strange_spot sc_law_strange_spot rfl fun f cdv A outer s H E hr tk po => ?_
  have nd := sc_law_strange_spot.nd
  exact (ss_cons (s_asg (se_lst (sa_cons sc_non (sa_cons sc_int (sa_cons sc_str (sa_cons (se_lst (sa_cons sc_int (sa_cons sc_int sa_nil))) (sa_cons (se_tup (sa_cons sc_int sa_nil)) (sa_cons (se_tup (sa_cons sc_int (sa_cons sc_int (sa_cons sc_int sa_nil)))) (sa_cons (se_tup (sa_cons sc_int (sa_cons sc_int sa_nil))) (sa_cons (se_if (st_cmp (op_eqD (hu64 hr)) (eq_o rfl) (sv 1) sc_int (nomark _)) (se_tup (sa_cons sc_int (sa_cons sc_int sa_nil))) (se_tup (sa_cons sc_int (sa_cons sc_int sa_nil)))) (sa_cons (se_tup (sa_cons (s_neg sc_int) (sa_cons sc_int sa_nil))) (sa_cons (se_tup (sa_cons sc_bl (sa_cons sc_int sa_nil))) (sa_cons (se_tup (sa_cons sc_int (sa_cons sc_non sa_nil))) sa_nil)))))))))))) (g_name 3 nd))
    (ss_one (s_ret (s_fn D_law_one_of tk (hr.mono (by decide)) (sa_cons (sv 0) (sa_cons (s_add rfl (sv 3) (se_lst (sa_cons (se_if (st_cmp (op_eqD (hu64 hr)) (eq_o rfl) (sv 1) sc_int (nomark _)) (se_tup (sa_cons sc_int (sa_cons (s_add rfl (s_pow sc_int sc_int) sc_int) sa_nil))) (se_tup (sa_cons sc_int (sa_cons (sv 1) sa_nil)))) (sa_cons (se_tup (sa_cons sc_int (sa_cons (s_pow sc_int sc_int) sa_nil))) (sa_cons s_dict0 (sa_cons (s_ix rfl (sv 2) sc_int) sa_nil)))))) sa_nil))))))
theorem ok_law_refused_right (T : Fx P g mg) {c_law_refused_right : Addr} (A_law_refused_right : AtC g.r.K mg "_law_refused_right" st_law_refused_right ["_law_bag_here", "_law_prime"] c_law_refused_right) {P_law_refused_right : Addr} (TB_law_refused_right : LamX.TabB base mg c_law_refused_right P_law_refused_right) (LT_law_refused_right : LmT g P_law_refused_right "_law_refused_right.<locals>.<lambda>") (D_law_one_of : Dn P w g.r.K mg base g 2 "_law_one_of" [] 2 m_law_one_of) (D_law_spots : Dn P w g.r.K mg base g 3 "_law_spots" [] 3 m_law_spots) (D_law_strange_spot : Dn P w g.r.K mg base g 3 "_law_strange_spot" [] 3 m_law_strange_spot) (A_law_met : At g.r.K mg "_law_met" st_law_met ["_law_call"]) (D_cross_ratio : Dn P w g.r.K mg base g 6 "cross_ratio" [] 2 m_cross_ratio) (D_is_harmonic : Dn P w g.r.K mg base g 6 "is_harmonic" [] 2 m_is_harmonic) : DnG P w g.r.K mg base g 9 "_law_refused_right" [] 2 m_law_refused_right := by
  have TB := TB_law_refused_right
  have LT := LT_law_refused_right
  refine dnG_mk A_law_refused_right sc_law_refused_right rfl fun f A outer s H E hr hgd tk po => ?_
  have nd := sc_law_refused_right.nd
  exact (ss_cons (s_asg (se_tup (sa_cons (s_fn D_law_spots tk (hr.mono (by decide)) (sa_cons (sv 0) (sa_cons (sv 1) (sa_cons sc_int sa_nil)))) (sa_cons (s_fn D_law_one_of tk (hr.mono (by decide)) (sa_cons (sv 0) (sa_cons (se_lst (sa_cons sc_non (sa_cons sc_int (sa_cons sc_int (sa_cons sc_int (sa_cons (s_neg sc_int) (sa_cons sc_bl (sa_cons sc_str (sa_cons (se_tup (sa_cons sc_int sa_nil)) (sa_cons (s_pow sc_int sc_int) sa_nil)))))))))) sa_nil))) sa_nil))) (g_tupA rfl rfl (gs_cons (g_name 2 nd) (gs_cons (g_name 3 nd) gs_nil))))
    (ss_cons (s_asg (s_add rfl (b_tuple rfl T.b_tuple (sa_cons (s_cut rfl (sv 2) so_none (so_some sc_int)) sa_nil)) (se_tup (sa_cons (s_fn D_law_strange_spot tk (hr.mono (by decide)) (sa_cons (sv 0) (sa_cons (sv 1) (sa_cons (sv 2) sa_nil)))) sa_nil))) (g_name 4 nd))
    (ss_cons (s_asg (s_fn D_law_one_of tk (hr.mono (by decide)) (sa_cons (sv 0) (sa_cons (se_lst (sa_cons sc_non (sa_cons (b_list rfl T.b_list (sa_cons (sv 2) sa_nil)) (sa_cons (b_tuple rfl T.b_tuple (sa_cons (s_cut rfl (sv 2) so_none (so_some sc_int)) sa_nil)) (sa_cons (s_add rfl (b_tuple rfl T.b_tuple (sa_cons (sv 2) sa_nil)) (se_tup (sa_cons (se_tup (sa_cons sc_int (sa_cons sc_int sa_nil))) sa_nil))) (sa_cons (se_tup sa_nil) (sa_cons s_dict0 (sa_cons sc_str (sa_cons (sv 4) (sa_cons (s_rev rfl (sv 4)) sa_nil)))))))))) sa_nil))) (g_name 5 nd))
    (ss_cons (s_for rfl po (si_seq rfl (se_tup (sa_cons (sc_th T.t_cross_ratio) (sa_cons (sc_th T.t_is_harmonic) sa_nil)))) (g_name 6 nd) (ss_cons (s_asg (se_cell (sa_cons (s_lam (k := 6) A_law_met sc_law_met rfl (.inl rfl) (fun _ _ => ok_law_met T hgd (hu65b hr)) TB rfl LT (hr.mono (by decide)) (LamX.lamS_by (by show LamX.lamSB (defScope st_law_refused_right) _ = true; decide +kernel)) (fun A outer s H E f c' hr => (s_loc (tab := tabX) 6 6 (tab_cons T.t_cross_ratio D_cross_ratio (by decide) (tab_cons T.t_is_harmonic D_is_harmonic (by decide) tab_nil)) (takes_of rfl rfl rfl rfl) (hr.mono (by decide)) (sa_cons (sv 3) (sa_cons (sv 5) sa_nil))))) sa_nil)) (g_name 7 nd))
    (ss_cons (s_expr (s_append rfl (sv 7) (sa_cons (s_lam (k := 6) A_law_met sc_law_met rfl (.inl rfl) (fun _ _ => ok_law_met T hgd (hu65b hr)) TB rfl LT (hr.mono (by decide)) (LamX.lamS_by (by show LamX.lamSB (defScope st_law_refused_right) _ = true; decide +kernel)) (fun A outer s H E f c' hr => (s_loc (tab := tabX) 6 6 (tab_cons T.t_cross_ratio D_cross_ratio (by decide) (tab_cons T.t_is_harmonic D_is_harmonic (by decide) tab_nil)) (takes_of rfl rfl rfl rfl) (hr.mono (by decide)) (sa_cons (sv 1) (sa_cons (sv 5) sa_nil))))) sa_nil)))
    (ss_cons (s_expr (s_append rfl (sv 7) (sa_cons (s_lam (k := 6) A_law_met sc_law_met rfl (.inl rfl) (fun _ _ => ok_law_met T hgd (hu65b hr)) TB rfl LT (hr.mono (by decide)) (LamX.lamS_by (by show LamX.lamSB (defScope st_law_refused_right) _ = true; decide +kernel)) (fun A outer s H E f c' hr => (s_loc (tab := tabX) 6 6 (tab_cons T.t_cross_ratio D_cross_ratio (by decide) (tab_cons T.t_is_harmonic D_is_harmonic (by decide) tab_nil)) (takes_of rfl rfl rfl rfl) (hr.mono (by decide)) (sa_cons (sv 1) (sa_cons (b_tuple rfl T.b_tuple (sa_cons (sv 2) sa_nil)) sa_nil))))) sa_nil)))
    (ss_one (s_if (st_cmp (op_neD (hu64 hr)) (ne_o rfl) (sv 7) (se_lst (sa_cons (s_add rfl sc_str (b_reprD rfl hgd (hu65 hr) T.b_repr (sa_cons (sv 3) sa_nil))) (sa_cons sc_str (sa_cons sc_str sa_nil)))) (nomark _)) (ss_one (s_ret sc_bl)) ss_nil))))))
    (ss_one (s_ret (s_eq rfl (hu64 hr) (s_lam (k := 6) A_law_met sc_law_met rfl (.inl rfl) (fun _ _ => ok_law_met T hgd (hu65b hr)) TB rfl LT (hr.mono (by decide)) (LamX.lamS_by (by show LamX.lamSB (defScope st_law_refused_right) _ = true; decide +kernel)) (fun A outer s H E f c' hr => (s_fn D_cross_ratio (takes_of rfl rfl rfl rfl) (hr.mono (by decide)) (sa_cons sc_int (sa_cons (se_tup (sa_cons (se_tup (sa_cons sc_int (sa_cons sc_int sa_nil))) (sa_cons (se_tup (sa_cons sc_int (sa_cons sc_int sa_nil))) (sa_cons (se_tup (sa_cons sc_int (sa_cons sc_int sa_nil))) (sa_cons (se_tup (sa_cons sc_int (sa_cons sc_int sa_nil))) sa_nil))))) sa_nil))))) sc_str)))))))
theorem ok_law (T : Fx P g mg) {c_law : Addr}  (D_law_bag : Dn P w g.r.K mg base g 1 "_law_bag" [] 2 m_law_bag) (D_law_one_of : Dn P w g.r.K mg base g 2 "_law_one_of" [] 2 m_law_one_of) (D_law_refused_right : DnG P w g.r.K mg base g 9 "_law_refused_right" [] 2 m_law_refused_right) (D_law_told_right : DnG P w g.r.K mg base g 7 "_law_told_right" [] 2 m_law_told_right) (D_cross_ratio : Dn P w g.r.K mg base g 6 "cross_ratio" [] 2 m_cross_ratio) (D_is_harmonic : Dn P w g.r.K mg base g 6 "is_harmonic" [] 2 m_is_harmonic) : ∀ (f : Addr) (A : Around) (outer : List Env) (s : Shared) (H : Hp) (E : XK), Room 9 (A.deeper (envOfC "law" (defScope st_law) s.heap.objs.size f (.ref c_law))) → A.guards = some [] →
      Takes (cxOf (L2.CX P w) P w g.r.K mg base ["_law_script", "_law_at", "_law_bag_here", "_law_prime", "_law_told"] "law" (defScope st_law) f (.ref c_law) A outer s H E) (fun c dx _ H' => E c dx H') → PassesOwn (model P w) (cxOf (L2.CX P w) P w g.r.K mg base ["_law_script", "_law_at", "_law_bag_here", "_law_prime", "_law_told"] "law" (defScope st_law) f (.ref c_law) A outer s H E).A (cxOf (L2.CX P w) P w g.r.K mg base ["_law_script", "_law_at", "_law_bag_here", "_law_prime", "_law_told"] "law" (defScope st_law) f (.ref c_law) A outer s H E).env (cxOf (L2.CX P w) P w g.r.K mg base ["_law_script", "_law_at", "_law_bag_here", "_law_prime", "_law_told"] "law" (defScope st_law) f (.ref c_law) A outer s H E).xe →
      PSs (cxOf (L2.CX P w) P w g.r.K mg base ["_law_script", "_law_at", "_law_bag_here", "_law_prime", "_law_told"] "law" (defScope st_law) f (.ref c_law) A outer s H E) (defBody st_law) (tS g (fun c dx _ H' => E c dx H') b_law) := by
  intro f A outer s H E hr hgd tk po
  have nd := sc_law.nd
  exact (ss_cons (s_for rfl po (si_range1 T.b_range (sa_cons (b_max2 rfl T.b_max (sa_cons sc_int (sa_cons (b_min2 rfl T.b_min (sa_cons sc_int (sa_cons (b_len rfl T.b_len (sa_cons (sv 0) sa_nil)) sa_nil))) sa_nil))) sa_nil)) (g_name 1 nd) (ss_cons (s_asg (s_fn D_law_bag tk (hr.mono (by decide)) (sa_cons (sv 0) (sa_cons (sv 1) sa_nil))) (g_name 2 nd))
    (ss_cons (s_asg (s_fn D_law_one_of tk (hr.mono (by decide)) (sa_cons (sv 2) (sa_cons (se_lst (sa_cons sc_int (sa_cons sc_int (sa_cons sc_int (sa_cons sc_int (sa_cons sc_int (sa_cons sc_int (sa_cons sc_int sa_nil)))))))) sa_nil))) (g_name 3 nd))
    (ss_one (s_if (PW.pt (sw_or (st_not (st_val (s_fnG D_law_told_right tk (hr.mono (by decide)) hgd (sa_cons (sv 2) (sa_cons (sv 3) sa_nil))))) (sw_oneO (st_not (st_val (s_fnG D_law_refused_right tk (hr.mono (by decide)) hgd (sa_cons (sv 2) (sa_cons (sv 3) sa_nil)))))))) (ss_one (s_ret sc_bl)) ss_nil)))))
    (ss_cons (s_asg (se_lst (sa_cons (s_fn D_cross_ratio tk (hr.mono (by decide)) (sa_cons sc_int (sa_cons (se_tup (sa_cons (se_tup (sa_cons sc_int (sa_cons sc_int sa_nil))) (sa_cons (se_tup (sa_cons sc_int (sa_cons sc_int sa_nil))) (sa_cons (se_tup (sa_cons sc_int (sa_cons sc_int sa_nil))) (sa_cons (se_tup (sa_cons sc_int (sa_cons (s_neg sc_int) sa_nil))) sa_nil))))) sa_nil))) (sa_cons (s_fn D_cross_ratio tk (hr.mono (by decide)) (sa_cons sc_int (sa_cons (se_tup (sa_cons (se_tup (sa_cons sc_int (sa_cons sc_int sa_nil))) (sa_cons (se_tup (sa_cons sc_int (sa_cons sc_int sa_nil))) (sa_cons (se_tup (sa_cons sc_int (sa_cons sc_int sa_nil))) (sa_cons (se_tup (sa_cons sc_int (sa_cons sc_int sa_nil))) sa_nil))))) sa_nil))) sa_nil))) (g_name 4 nd))
    (ss_cons (s_if (st_cmp (op_neD (hu64 hr)) (ne_o rfl) (sv 4) (se_lst (sa_cons (se_tup (sa_cons sc_int (sa_cons (s_neg sc_int) sa_nil))) (sa_cons (se_tup (sa_cons sc_int (sa_cons sc_int sa_nil))) sa_nil))) (nomark _)) (ss_one (s_ret sc_bl)) ss_nil)
    (ss_one (s_ret (se_and (s_fn D_is_harmonic tk (hr.mono (by decide)) (sa_cons sc_int (sa_cons (se_tup (sa_cons (se_tup (sa_cons sc_int (sa_cons sc_int sa_nil))) (sa_cons (se_tup (sa_cons sc_int (sa_cons sc_int sa_nil))) (sa_cons (se_tup (sa_cons sc_int (sa_cons sc_int sa_nil))) (sa_cons (se_tup (sa_cons sc_int (sa_cons sc_int sa_nil))) sa_nil))))) sa_nil))) (se_one (se_not (s_fn D_is_harmonic tk (hr.mono (by decide)) (sa_cons sc_int (sa_cons (se_tup (sa_cons (se_tup (sa_cons sc_int (sa_cons sc_int sa_nil))) (sa_cons (se_tup (sa_cons sc_int (sa_cons sc_int sa_nil))) (sa_cons (se_tup (sa_cons sc_int (sa_cons sc_int sa_nil))) (sa_cons (se_tup (sa_cons sc_int (sa_cons (s_neg sc_int) sa_nil))) sa_nil))))) sa_nil)))))))))))
theorem fin (T : Fx P g mg) (A_law_bag : At g.r.K mg "_law_bag" st_law_bag ["_law_script", "_law_spot"]) (A_law_grab : At g.r.K mg "_law_grab" st_law_grab ["_law_bag_here", "_law_total"]) (A_law_one_of : At g.r.K mg "_law_one_of" st_law_one_of ["_law_bag_here", "_law_items"]) (A_is_whole : At g.r.K mg "is_whole" st_is_whole ["value"]) (A_is_prime : At g.r.K mg "is_prime" st_is_prime ["value"]) (A_require_prime : At g.r.K mg "require_prime" st_require_prime ["value"]) (A_is_number_of : AtD g.r.K mg "is_number_of" st_is_number_of ["prime", "value", "beyond"] [V.int 1000000000000000000000000000000000000000000000000000000000000]) (A_is_couple : At g.r.K mg "is_couple" st_is_couple ["prime", "value"]) (A_inverse_of : At g.r.K mg "inverse_of" st_inverse_of ["prime", "number"]) (A_divisor_of : At g.r.K mg "divisor_of" st_divisor_of ["numbers"]) (A_normal_of : At g.r.K mg "normal_of" st_normal_of ["prime", "numbers"]) (A_is_spot : At g.r.K mg "is_spot" st_is_spot ["prime", "value"]) (A_require_four : At g.r.K mg "require_four" st_require_four ["prime", "value"]) (A_bracket : At g.r.K mg "bracket" st_bracket ["one", "other"]) (A_lowered_by : At g.r.K mg "lowered_by" st_lowered_by ["prime", "number"]) (A_ratio_of : At g.r.K mg "ratio_of" st_ratio_of ["prime", "spots"]) (A_cross_ratio : At g.r.K mg "cross_ratio" st_cross_ratio ["prime", "spots"]) (A_is_harmonic : At g.r.K mg "is_harmonic" st_is_harmonic ["prime", "spots"]) (A_law_mixed : At g.r.K mg "_law_mixed" st_law_mixed ["_law_bag_here", "_law_items"]) (A_law_small_spots : At g.r.K mg "_law_small_spots" st_law_small_spots ["_law_prime"]) (A_law_spots : At g.r.K mg "_law_spots" st_law_spots ["_law_bag_here", "_law_prime", "_law_many"]) (A_law_table_two : At g.r.K mg "_law_table_two" st_law_table_two ["_law_bag_here", "_law_prime"]) (A_law_common : At g.r.K mg "_law_common" st_law_common ["_law_numbers"]) (A_law_low : At g.r.K mg "_law_low" st_law_low ["_law_prime", "_law_number"]) (A_law_back : At g.r.K mg "_law_back" st_law_back ["_law_prime", "_law_number"]) (A_law_normal : At g.r.K mg "_law_normal" st_law_normal ["_law_prime", "_law_row"]) (A_law_spot_led : At g.r.K mg "_law_spot_led" st_law_spot_led ["_law_prime", "_law_spot", "_law_table"]) (A_law_four : At g.r.K mg "_law_four" st_law_four ["_law_bag_here", "_law_prime"]) (A_law_bracket : At g.r.K mg "_law_bracket" st_law_bracket ["_law_one", "_law_other"]) (A_law_cross_ratio : At g.r.K mg "_law_cross_ratio" st_law_cross_ratio ["_law_prime", "_law_spots_here"]) (A_law_is_zero : At g.r.K mg "_law_is_zero" st_law_is_zero ["_law_prime", "_law_number"]) {c_law_told_right : Addr} (A_law_told_right : AtC g.r.K mg "_law_told_right" st_law_told_right ["_law_bag_here", "_law_prime"] c_law_told_right) (A_law_met : At g.r.K mg "_law_met" st_law_met ["_law_call"]) (A_law_strange_spot : At g.r.K mg "_law_strange_spot" st_law_strange_spot ["_law_bag_here", "_law_prime", "_law_spots_here"]) {c_law_refused_right : Addr} (A_law_refused_right : AtC g.r.K mg "_law_refused_right" st_law_refused_right ["_law_bag_here", "_law_prime"] c_law_refused_right) {P_law_refused_right : Addr} (TB_law_refused_right : LamX.TabB base mg c_law_refused_right P_law_refused_right) (LT_law_refused_right : LmT g P_law_refused_right "_law_refused_right.<locals>.<lambda>") {c_law : Addr} (A_law : AtC g.r.K mg "law" st_law ["_law_script"] c_law) : ∀ (f : Addr) (A : Around) (outer : List Env) (s : Shared) (H : Hp) (E : XK), Room 9 (A.deeper (envOfC "law" (defScope st_law) s.heap.objs.size f (.ref c_law))) → A.guards = some [] →
      Takes (cxOf (L2.CX P w) P w g.r.K mg base ["_law_script", "_law_at", "_law_bag_here", "_law_prime", "_law_told"] "law" (defScope st_law) f (.ref c_law) A outer s H E) (fun c dx _ H' => E c dx H') → PassesOwn (model P w) (cxOf (L2.CX P w) P w g.r.K mg base ["_law_script", "_law_at", "_law_bag_here", "_law_prime", "_law_told"] "law" (defScope st_law) f (.ref c_law) A outer s H E).A (cxOf (L2.CX P w) P w g.r.K mg base ["_law_script", "_law_at", "_law_bag_here", "_law_prime", "_law_told"] "law" (defScope st_law) f (.ref c_law) A outer s H E).env (cxOf (L2.CX P w) P w g.r.K mg base ["_law_script", "_law_at", "_law_bag_here", "_law_prime", "_law_told"] "law" (defScope st_law) f (.ref c_law) A outer s H E).xe → PSs (cxOf (L2.CX P w) P w g.r.K mg base ["_law_script", "_law_at", "_law_bag_here", "_law_prime", "_law_told"] "law" (defScope st_law) f (.ref c_law) A outer s H E) (defBody st_law) (tS g (fun c dx _ H' => E c dx H') b_law) := by
  have D_law_bag := ok_law_bag (P := P) (w := w) (base := base) T A_law_bag
  have D_law_grab := ok_law_grab (P := P) (w := w) (base := base) T A_law_grab
  have D_law_one_of := ok_law_one_of (P := P) (w := w) (base := base) T A_law_one_of D_law_grab
  have D_is_whole := ok_is_whole (P := P) (w := w) (base := base) T A_is_whole
  have D_is_prime := ok_is_prime (P := P) (w := w) (base := base) T A_is_prime D_is_whole
  have D_require_prime := ok_require_prime (P := P) (w := w) (base := base) T A_require_prime D_is_prime
  have D_is_number_of := ok_is_number_of (P := P) (w := w) (base := base) T A_is_number_of D_is_whole
  have D_is_couple := ok_is_couple (P := P) (w := w) (base := base) T A_is_couple D_is_number_of
  have D_inverse_of := ok_inverse_of (P := P) (w := w) (base := base) T A_inverse_of
  have D_divisor_of := ok_divisor_of (P := P) (w := w) (base := base) T A_divisor_of
  have D_normal_of := ok_normal_of (P := P) (w := w) (base := base) T A_normal_of D_inverse_of D_divisor_of
  have D_is_spot := ok_is_spot (P := P) (w := w) (base := base) T A_is_spot D_is_couple D_normal_of
  have D_require_four := ok_require_four (P := P) (w := w) (base := base) T A_require_four D_is_spot
  have D_bracket := ok_bracket (P := P) (w := w) (base := base) T A_bracket
  have D_lowered_by := ok_lowered_by (P := P) (w := w) (base := base) T A_lowered_by
  have D_ratio_of := ok_ratio_of (P := P) (w := w) (base := base) T A_ratio_of D_bracket D_normal_of D_lowered_by
  have D_cross_ratio := ok_cross_ratio (P := P) (w := w) (base := base) T A_cross_ratio D_require_prime D_require_four D_ratio_of
  have D_is_harmonic := ok_is_harmonic (P := P) (w := w) (base := base) T A_is_harmonic D_require_prime D_require_four D_lowered_by D_ratio_of
  have D_law_mixed := ok_law_mixed (P := P) (w := w) (base := base) T A_law_mixed D_law_grab
  have D_law_small_spots := ok_law_small_spots (P := P) (w := w) (base := base) T A_law_small_spots
  have D_law_spots := ok_law_spots (P := P) (w := w) (base := base) T A_law_spots D_law_mixed D_law_small_spots D_law_grab D_law_one_of
  have D_law_table_two := ok_law_table_two (P := P) (w := w) (base := base) T A_law_table_two D_law_grab
  have D_law_common := ok_law_common (P := P) (w := w) (base := base) T A_law_common
  have D_law_low := ok_law_low (P := P) (w := w) (base := base) T A_law_low
  have D_law_back := ok_law_back (P := P) (w := w) (base := base) T A_law_back
  have D_law_normal := ok_law_normal (P := P) (w := w) (base := base) T A_law_normal D_law_low D_law_back D_law_common
  have D_law_spot_led := ok_law_spot_led (P := P) (w := w) (base := base) T A_law_spot_led D_law_normal
  have D_law_four := ok_law_four (P := P) (w := w) (base := base) T A_law_four D_law_grab D_law_spots D_law_table_two D_law_spot_led D_law_mixed
  have D_law_bracket := ok_law_bracket (P := P) (w := w) (base := base) T A_law_bracket
  have D_law_cross_ratio := ok_law_cross_ratio (P := P) (w := w) (base := base) T A_law_cross_ratio D_law_bracket D_law_normal
  have D_law_is_zero := ok_law_is_zero (P := P) (w := w) (base := base) T A_law_is_zero
  have D_law_told_right := ok_law_told_right (P := P) (w := w) (base := base) T A_law_told_right D_law_four D_law_table_two D_cross_ratio D_law_cross_ratio D_is_harmonic D_law_is_zero D_law_normal D_law_spot_led
  have D_law_strange_spot := ok_law_strange_spot (P := P) (w := w) (base := base) T A_law_strange_spot D_law_one_of
  have D_law_refused_right := ok_law_refused_right (P := P) (w := w) (base := base) T A_law_refused_right TB_law_refused_right LT_law_refused_right D_law_one_of D_law_spots D_law_strange_spot A_law_met D_cross_ratio D_is_harmonic
  exact ok_law (P := P) (w := w) (base := base) T D_law_bag D_law_one_of D_law_refused_right D_law_told_right D_cross_ratio D_is_harmonic
end
end G
open PySem PySem.W PyProof.Rows
set_option maxRecDepth 100000 in
set_option maxHeartbeats 0 in
theorem PySem.Challenge.cw_tangentrows_k34_cross_ratios_of_four_spo_holds : PySem.Challenge.rw_tangentrows_k34_cross_ratios_of_four_spo.Holds := by
  w_on; o_law; k_head; (case hw => w_witness2)
  k_fill
  refine MI.law_endG (x := "_law_script") (l := PySem.Challenge.rw_tangentrows_k34_cross_ratios_of_four_spo) (k := 10) (m := G.m_law) rfl rfl ⟨rfl, by decide, by decide⟩ (fun w h Y => by first | exact PySem.W.kIn_of Y | exact PySem.W.km_in_of Y) ?F G.law_true
  case F =>
    intro w mg fa h KX GN hmg TBS
    have b_abs : mg "abs" = none := by refine' PySem.W.mg_none_of KX GN ?x; (case x => k_is)
    have b_all : mg "all" = none := by refine' PySem.W.mg_none_of KX GN ?x; (case x => k_is)
    have b_bool : mg "bool" = none := by refine' PySem.W.mg_none_of KX GN ?x; (case x => k_is)
    have b_gcd : mg "gcd" = some (.builtin "math.gcd") := by refine' PySem.W.mg_of KX GN ?x; (case x => k_is)
    have b_int : mg "int" = none := by refine' PySem.W.mg_none_of KX GN ?x; (case x => k_is)
    have b_isinstance : mg "isinstance" = none := by refine' PySem.W.mg_none_of KX GN ?x; (case x => k_is)
    have b_len : mg "len" = none := by refine' PySem.W.mg_none_of KX GN ?x; (case x => k_is)
    have b_list : mg "list" = none := by refine' PySem.W.mg_none_of KX GN ?x; (case x => k_is)
    have b_max : mg "max" = none := by refine' PySem.W.mg_none_of KX GN ?x; (case x => k_is)
    have b_min : mg "min" = none := by refine' PySem.W.mg_none_of KX GN ?x; (case x => k_is)
    have b_range : mg "range" = none := by refine' PySem.W.mg_none_of KX GN ?x; (case x => k_is)
    have b_repr : mg "repr" = none := by refine' PySem.W.mg_none_of KX GN ?x; (case x => k_is)
    have b_sum : mg "sum" = none := by refine' PySem.W.mg_none_of KX GN ?x; (case x => k_is)
    have b_tuple : mg "tuple" = none := by refine' PySem.W.mg_none_of KX GN ?x; (case x => k_is)
    refine' MI.wth (MI.gint_mk (x := "FOUR_SPOTS") (j := 4) KX GN ?e ?j) (fun c_FOUR_SPOTS => ?_); (case e => k_is); (case j => rfl)
    refine' MI.wth (MI.gint_mk (x := "MAX_ENTRY") (j := 10000000) KX GN ?e ?j) (fun c_MAX_ENTRY => ?_); (case e => k_is); (case j => rfl)
    refine' MI.wth (MI.gtup_mk (x := "PRIMES") (l := [2, 3, 5, 7, 11, 13, 17, 19]) KX GN ?qq1 ?qq2 ?qq3 ?qq4 ?qq5 ?qq6) (fun c_PRIMES => ?_); (case qq1 => k_is); (case qq2 => k_is); (case qq3 => rfl); (case qq4 => rfl); (case qq5 => decide +kernel); (case qq6 => repeat (first | exact .nil | refine .cons ⟨_, rfl⟩ ?_))
    have b_super : mg "super" = none := by refine' PySem.W.mg_none_of KX GN ?x; (case x => k_is)
    refine' MI.wth (MI.rsV_mk (P := PySem.Challenge.rw_tangentrows_k34_cross_ratios_of_four_spo.prog) (x := "InvalidNumber") (n := 4) (f := "given") (ex := G.exOf mg) KX GN (fun C h => by show (mg "InvalidNumber").getD .none = _; rw [h]; rfl) b_super F.excBase_IndexError PySem.W.kxs_IndexError PySem.F.store_IndexError ?a1 ?a2 ?a3 ?a4 ?a5 ?a6 ?a7 ?a8 ?a9 ?a10 ?a11 ?a12 ?a13 ?a14 ?b1 ?b2 ?b3 ?b4 ?b5 ?b6 ?b7 ?b8 ?b9 ?b10 ?b11 ?b12 ?b13 ?b14 ?b15 ?b16 ?b17 ?b18 ?b19 ?b20 ?b21) (fun r_InvalidNumber => ?_); (case a1 => k_is); (case a2 => kx_is); (case a3 => kx_is); (case a4 => k_is); (case a5 => k_is); (case a6 => k_is); (case a7 => k_is); (case a8 => k_is); (case a9 => k_is); (case a10 => k_is); (case a11 => k_is); (case a12 => ks_is); (case a13 => k_is); (case a14 => rfl); (case b1 => k_is); (case b2 => k_is); (case b3 => k_is); (case b4 => k_is); (case b5 => k_is); (case b6 => rfl); (case b7 => rfl); (case b8 => k_is); (case b9 => rfl); (case b10 => rfl); (case b11 => exact fun _ _ _ _ _ _ _ _ _ => rfl); (case b12 => rfl); (case b13 => rfl); (case b14 => rfl); (case b15 => rfl); (case b16 => rfl); (case b17 => rfl); (case b18 => rfl); (case b19 => decide +kernel); (case b20 => exact ⟨rfl, rfl⟩); (case b21 => exact fun _ => ⟨_, rfl⟩)
    refine' MI.wth (MI.rsT_mk (x := "InvalidOperation") (n := 3) (ex := G.exOf mg) KX GN (fun C h => by show (mg "InvalidOperation").getD .none = _; rw [h]; rfl) F.excBase_ValueError ?ra ?rq ?rk ?rs ?rt) (fun r_InvalidOperation => ?_); (case ra => k_is); (case rq => k_exc); (case rk => k_is); (case rs => k_is); (case rt => k_is)
    refine' MI.wth (MI.nm_mk (x := "InvalidMarks") (n := 1) (ex := G.exOf mg) KX GN (fun C h => by show (mg "InvalidMarks").getD .none = _; rw [h]; rfl) ?ra) (fun n_InvalidMarks => ?_); (case ra => k_is)
    refine' MI.wth (MI.nm_mk (x := "InvalidNumber") (n := 4) (ex := G.exOf mg) KX GN (fun C h => by show (mg "InvalidNumber").getD .none = _; rw [h]; rfl) ?ra) (fun n_InvalidNumber => ?_); (case ra => k_is)
    refine' MI.wth (MI.nm_mk (x := "InvalidOperation") (n := 3) (ex := G.exOf mg) KX GN (fun C h => by show (mg "InvalidOperation").getD .none = _; rw [h]; rfl) ?ra) (fun n_InvalidOperation => ?_); (case ra => k_is)
    refine' MI.wth (MI.nm_mk (x := "InvalidPair") (n := 2) (ex := G.exOf mg) KX GN (fun C h => by show (mg "InvalidPair").getD .none = _; rw [h]; rfl) ?ra) (fun n_InvalidPair => ?_); (case ra => k_is)
    refine' MI.wth (MI.nm_mk (x := "TooMany") (n := 5) (ex := G.exOf mg) KX GN (fun C h => by show (mg "TooMany").getD .none = _; rw [h]; rfl) ?ra) (fun n_TooMany => ?_); (case ra => k_is)
    refine' MI.wth (MI.xfT_mk (x := "InvalidNumber") (n := 4) (f := "given") (ex := G.exOf mg) KX GN (fun C h => by show (mg "InvalidNumber").getD .none = _; rw [h]; rfl) ?ra ?rb ?rc ?rd ?re ?rf) (fun x_InvalidNumber => ?_); (case ra => k_is); (case rb => k_is); (case rc => k_is); (case rd => k_is); (case re => k_is); (case rf => k_is)
    refine' MI.wth (MI.xfT_mk (x := "TooMany") (n := 5) (f := "most") (ex := G.exOf mg) KX GN (fun C h => by show (mg "TooMany").getD .none = _; rw [h]; rfl) ?ra ?rb ?rc ?rd ?re ?rf) (fun x_TooMany => ?_); (case ra => k_is); (case rb => k_is); (case rc => k_is); (case rd => k_is); (case re => k_is); (case rf => k_is)
    refine' MI.wth (MI.th_mk (x := "cross_ratio") (n := 0) (th := G.thOf mg) KX GN (fun f h => by show MI.refOf (mg "cross_ratio") = _; rw [h]; rfl) ?ra) (fun t_cross_ratio => ?_); (case ra => k_is)
    refine' MI.wth (MI.th_mk (x := "is_harmonic") (n := 1) (th := G.thOf mg) KX GN (fun f h => by show MI.refOf (mg "is_harmonic") = _; rw [h]; rfl) ?ra) (fun t_is_harmonic => ?_); (case ra => k_is)
    refine' MI.wth (MI.exm_mk (x := "InvalidOperation") (y := "InvalidNumber") (i := 3) (j := 4) (b := false) (ex := G.exOf mg) KX GN (fun C h => by show (mg "InvalidOperation").getD .none = _; rw [h]; rfl) (fun C h => by show (mg "InvalidNumber").getD .none = _; rw [h]; rfl) ?ra ?rb ?re) (fun e_3_4 => ?_); (case ra => k_is); (case rb => k_is); (case re => kts_exm)
    refine' MI.wth (MI.exm_mk (x := "InvalidOperation") (y := "InvalidOperation") (i := 3) (j := 3) (b := true) (ex := G.exOf mg) KX GN (fun C h => by show (mg "InvalidOperation").getD .none = _; rw [h]; rfl) (fun C h => by show (mg "InvalidOperation").getD .none = _; rw [h]; rfl) ?ra ?rb ?re) (fun e_3_3 => ?_); (case ra => k_is); (case rb => k_is); (case re => kts_exm)
    refine' MI.wth (MI.exm_mk (x := "InvalidNumber") (y := "InvalidNumber") (i := 4) (j := 4) (b := true) (ex := G.exOf mg) KX GN (fun C h => by show (mg "InvalidNumber").getD .none = _; rw [h]; rfl) (fun C h => by show (mg "InvalidNumber").getD .none = _; rw [h]; rfl) ?ra ?rb ?re) (fun e_4_4 => ?_); (case ra => k_is); (case rb => k_is); (case re => kts_exm)
    have sub := G.sub_mk e_3_4 e_3_3 e_4_4
    refine' MI.wth (MI.at_mk (x := "_law_bag") (st := G.st_law_bag) (ps := ["_law_script", "_law_spot"]) KX GN ?a ?l ?c ?k (fun _ _ _ _ _ _ us hl => match us, hl with | [_, _], _ => rfl)) (fun A_law_bag => ?_); (case a => k_is); (case l => k_is); (case c => k_is); (case k => k_is)
    refine' MI.wth (MI.at_mk (x := "_law_grab") (st := G.st_law_grab) (ps := ["_law_bag_here", "_law_total"]) KX GN ?a ?l ?c ?k (fun _ _ _ _ _ _ us hl => match us, hl with | [_, _], _ => rfl)) (fun A_law_grab => ?_); (case a => k_is); (case l => k_is); (case c => k_is); (case k => k_is)
    refine' MI.wth (MI.at_mk (x := "_law_one_of") (st := G.st_law_one_of) (ps := ["_law_bag_here", "_law_items"]) KX GN ?a ?l ?c ?k (fun _ _ _ _ _ _ us hl => match us, hl with | [_, _], _ => rfl)) (fun A_law_one_of => ?_); (case a => k_is); (case l => k_is); (case c => k_is); (case k => k_is)
    refine' MI.wth (MI.at_mk (x := "is_whole") (st := G.st_is_whole) (ps := ["value"]) KX GN ?a ?l ?c ?k (fun _ _ _ _ _ _ us hl => match us, hl with | [_], _ => rfl)) (fun A_is_whole => ?_); (case a => k_is); (case l => k_is); (case c => k_is); (case k => k_is)
    refine' MI.wth (MI.at_mk (x := "is_prime") (st := G.st_is_prime) (ps := ["value"]) KX GN ?a ?l ?c ?k (fun _ _ _ _ _ _ us hl => match us, hl with | [_], _ => rfl)) (fun A_is_prime => ?_); (case a => k_is); (case l => k_is); (case c => k_is); (case k => k_is)
    refine' MI.wth (MI.at_mk (x := "require_prime") (st := G.st_require_prime) (ps := ["value"]) KX GN ?a ?l ?c ?k (fun _ _ _ _ _ _ us hl => match us, hl with | [_], _ => rfl)) (fun A_require_prime => ?_); (case a => k_is); (case l => k_is); (case c => k_is); (case k => k_is)
    refine' MI.wth (MI.atD_mk (x := "is_number_of") (st := G.st_is_number_of) (ps := ["prime", "value", "beyond"]) (dvs := [L2.V.int 1000000000000000000000000000000000000000000000000000000000000]) KX GN ?a ?l ?c ?k ?lt ?dt ?rv (by simp) 2 rfl (fun _ _ _ _ _ _ _ us its hl hi => match us, its, hl, hi with | [_, _], [_], _, _ => ⟨_, rfl, rfl⟩)) (fun A_is_number_of => ?_); (case a => k_is); (case l => k_is); (case c => k_is); (case k => k_is); (case lt => k_is); (case dt => rfl); (case rv => repeat (first | exact .nil | refine .cons ⟨_, rfl⟩ ?_ | refine .cons rfl ?_))
    refine' MI.wth (MI.at_mk (x := "is_couple") (st := G.st_is_couple) (ps := ["prime", "value"]) KX GN ?a ?l ?c ?k (fun _ _ _ _ _ _ us hl => match us, hl with | [_, _], _ => rfl)) (fun A_is_couple => ?_); (case a => k_is); (case l => k_is); (case c => k_is); (case k => k_is)
    refine' MI.wth (MI.at_mk (x := "inverse_of") (st := G.st_inverse_of) (ps := ["prime", "number"]) KX GN ?a ?l ?c ?k (fun _ _ _ _ _ _ us hl => match us, hl with | [_, _], _ => rfl)) (fun A_inverse_of => ?_); (case a => k_is); (case l => k_is); (case c => k_is); (case k => k_is)
    refine' MI.wth (MI.at_mk (x := "divisor_of") (st := G.st_divisor_of) (ps := ["numbers"]) KX GN ?a ?l ?c ?k (fun _ _ _ _ _ _ us hl => match us, hl with | [_], _ => rfl)) (fun A_divisor_of => ?_); (case a => k_is); (case l => k_is); (case c => k_is); (case k => k_is)
    refine' MI.wth (MI.at_mk (x := "normal_of") (st := G.st_normal_of) (ps := ["prime", "numbers"]) KX GN ?a ?l ?c ?k (fun _ _ _ _ _ _ us hl => match us, hl with | [_, _], _ => rfl)) (fun A_normal_of => ?_); (case a => k_is); (case l => k_is); (case c => k_is); (case k => k_is)
    refine' MI.wth (MI.at_mk (x := "is_spot") (st := G.st_is_spot) (ps := ["prime", "value"]) KX GN ?a ?l ?c ?k (fun _ _ _ _ _ _ us hl => match us, hl with | [_, _], _ => rfl)) (fun A_is_spot => ?_); (case a => k_is); (case l => k_is); (case c => k_is); (case k => k_is)
    refine' MI.wth (MI.at_mk (x := "require_four") (st := G.st_require_four) (ps := ["prime", "value"]) KX GN ?a ?l ?c ?k (fun _ _ _ _ _ _ us hl => match us, hl with | [_, _], _ => rfl)) (fun A_require_four => ?_); (case a => k_is); (case l => k_is); (case c => k_is); (case k => k_is)
    refine' MI.wth (MI.at_mk (x := "bracket") (st := G.st_bracket) (ps := ["one", "other"]) KX GN ?a ?l ?c ?k (fun _ _ _ _ _ _ us hl => match us, hl with | [_, _], _ => rfl)) (fun A_bracket => ?_); (case a => k_is); (case l => k_is); (case c => k_is); (case k => k_is)
    refine' MI.wth (MI.at_mk (x := "lowered_by") (st := G.st_lowered_by) (ps := ["prime", "number"]) KX GN ?a ?l ?c ?k (fun _ _ _ _ _ _ us hl => match us, hl with | [_, _], _ => rfl)) (fun A_lowered_by => ?_); (case a => k_is); (case l => k_is); (case c => k_is); (case k => k_is)
    refine' MI.wth (MI.at_mk (x := "ratio_of") (st := G.st_ratio_of) (ps := ["prime", "spots"]) KX GN ?a ?l ?c ?k (fun _ _ _ _ _ _ us hl => match us, hl with | [_, _], _ => rfl)) (fun A_ratio_of => ?_); (case a => k_is); (case l => k_is); (case c => k_is); (case k => k_is)
    refine' MI.wth (MI.at_mk (x := "cross_ratio") (st := G.st_cross_ratio) (ps := ["prime", "spots"]) KX GN ?a ?l ?c ?k (fun _ _ _ _ _ _ us hl => match us, hl with | [_, _], _ => rfl)) (fun A_cross_ratio => ?_); (case a => k_is); (case l => k_is); (case c => k_is); (case k => k_is)
    refine' MI.wth (MI.at_mk (x := "is_harmonic") (st := G.st_is_harmonic) (ps := ["prime", "spots"]) KX GN ?a ?l ?c ?k (fun _ _ _ _ _ _ us hl => match us, hl with | [_, _], _ => rfl)) (fun A_is_harmonic => ?_); (case a => k_is); (case l => k_is); (case c => k_is); (case k => k_is)
    refine' MI.wth (MI.at_mk (x := "_law_mixed") (st := G.st_law_mixed) (ps := ["_law_bag_here", "_law_items"]) KX GN ?a ?l ?c ?k (fun _ _ _ _ _ _ us hl => match us, hl with | [_, _], _ => rfl)) (fun A_law_mixed => ?_); (case a => k_is); (case l => k_is); (case c => k_is); (case k => k_is)
    refine' MI.wth (MI.at_mk (x := "_law_small_spots") (st := G.st_law_small_spots) (ps := ["_law_prime"]) KX GN ?a ?l ?c ?k (fun _ _ _ _ _ _ us hl => match us, hl with | [_], _ => rfl)) (fun A_law_small_spots => ?_); (case a => k_is); (case l => k_is); (case c => k_is); (case k => k_is)
    refine' MI.wth (MI.at_mk (x := "_law_spots") (st := G.st_law_spots) (ps := ["_law_bag_here", "_law_prime", "_law_many"]) KX GN ?a ?l ?c ?k (fun _ _ _ _ _ _ us hl => match us, hl with | [_, _, _], _ => rfl)) (fun A_law_spots => ?_); (case a => k_is); (case l => k_is); (case c => k_is); (case k => k_is)
    refine' MI.wth (MI.at_mk (x := "_law_table_two") (st := G.st_law_table_two) (ps := ["_law_bag_here", "_law_prime"]) KX GN ?a ?l ?c ?k (fun _ _ _ _ _ _ us hl => match us, hl with | [_, _], _ => rfl)) (fun A_law_table_two => ?_); (case a => k_is); (case l => k_is); (case c => k_is); (case k => k_is)
    refine' MI.wth (MI.at_mk (x := "_law_common") (st := G.st_law_common) (ps := ["_law_numbers"]) KX GN ?a ?l ?c ?k (fun _ _ _ _ _ _ us hl => match us, hl with | [_], _ => rfl)) (fun A_law_common => ?_); (case a => k_is); (case l => k_is); (case c => k_is); (case k => k_is)
    refine' MI.wth (MI.at_mk (x := "_law_low") (st := G.st_law_low) (ps := ["_law_prime", "_law_number"]) KX GN ?a ?l ?c ?k (fun _ _ _ _ _ _ us hl => match us, hl with | [_, _], _ => rfl)) (fun A_law_low => ?_); (case a => k_is); (case l => k_is); (case c => k_is); (case k => k_is)
    refine' MI.wth (MI.at_mk (x := "_law_back") (st := G.st_law_back) (ps := ["_law_prime", "_law_number"]) KX GN ?a ?l ?c ?k (fun _ _ _ _ _ _ us hl => match us, hl with | [_, _], _ => rfl)) (fun A_law_back => ?_); (case a => k_is); (case l => k_is); (case c => k_is); (case k => k_is)
    refine' MI.wth (MI.at_mk (x := "_law_normal") (st := G.st_law_normal) (ps := ["_law_prime", "_law_row"]) KX GN ?a ?l ?c ?k (fun _ _ _ _ _ _ us hl => match us, hl with | [_, _], _ => rfl)) (fun A_law_normal => ?_); (case a => k_is); (case l => k_is); (case c => k_is); (case k => k_is)
    refine' MI.wth (MI.at_mk (x := "_law_spot_led") (st := G.st_law_spot_led) (ps := ["_law_prime", "_law_spot", "_law_table"]) KX GN ?a ?l ?c ?k (fun _ _ _ _ _ _ us hl => match us, hl with | [_, _, _], _ => rfl)) (fun A_law_spot_led => ?_); (case a => k_is); (case l => k_is); (case c => k_is); (case k => k_is)
    refine' MI.wth (MI.at_mk (x := "_law_four") (st := G.st_law_four) (ps := ["_law_bag_here", "_law_prime"]) KX GN ?a ?l ?c ?k (fun _ _ _ _ _ _ us hl => match us, hl with | [_, _], _ => rfl)) (fun A_law_four => ?_); (case a => k_is); (case l => k_is); (case c => k_is); (case k => k_is)
    refine' MI.wth (MI.at_mk (x := "_law_bracket") (st := G.st_law_bracket) (ps := ["_law_one", "_law_other"]) KX GN ?a ?l ?c ?k (fun _ _ _ _ _ _ us hl => match us, hl with | [_, _], _ => rfl)) (fun A_law_bracket => ?_); (case a => k_is); (case l => k_is); (case c => k_is); (case k => k_is)
    refine' MI.wth (MI.at_mk (x := "_law_cross_ratio") (st := G.st_law_cross_ratio) (ps := ["_law_prime", "_law_spots_here"]) KX GN ?a ?l ?c ?k (fun _ _ _ _ _ _ us hl => match us, hl with | [_, _], _ => rfl)) (fun A_law_cross_ratio => ?_); (case a => k_is); (case l => k_is); (case c => k_is); (case k => k_is)
    refine' MI.wth (MI.at_mk (x := "_law_is_zero") (st := G.st_law_is_zero) (ps := ["_law_prime", "_law_number"]) KX GN ?a ?l ?c ?k (fun _ _ _ _ _ _ us hl => match us, hl with | [_, _], _ => rfl)) (fun A_law_is_zero => ?_); (case a => k_is); (case l => k_is); (case c => k_is); (case k => k_is)
    refine' MI.wth (MI.atC_mk (x := "_law_told_right") (st := G.st_law_told_right) (ps := ["_law_bag_here", "_law_prime"]) KX GN ?a ?l ?c ?k (fun _ _ _ _ _ _ us hl => match us, hl with | [_, _], _ => rfl)) (fun A_law_told_right => ?_); (case a => k_is); (case l => k_is); (case c => k_is); (case k => k_is)
    refine' MI.wth (MI.at_mk (x := "_law_met") (st := G.st_law_met) (ps := ["_law_call"]) KX GN ?a ?l ?c ?k (fun _ _ _ _ _ _ us hl => match us, hl with | [_], _ => rfl)) (fun A_law_met => ?_); (case a => k_is); (case l => k_is); (case c => k_is); (case k => k_is)
    refine' MI.wth (MI.at_mk (x := "_law_strange_spot") (st := G.st_law_strange_spot) (ps := ["_law_bag_here", "_law_prime", "_law_spots_here"]) KX GN ?a ?l ?c ?k (fun _ _ _ _ _ _ us hl => match us, hl with | [_, _, _], _ => rfl)) (fun A_law_strange_spot => ?_); (case a => k_is); (case l => k_is); (case c => k_is); (case k => k_is)
    refine' MI.wth (MI.atL_mk (x := "_law_refused_right") (st := G.st_law_refused_right) (ps := ["_law_bag_here", "_law_prime"]) KX GN TBS ?a ?l ?c ?k ?lc ?h11 ?nP ?hrec (fun _ _ _ _ _ _ us hl => match us, hl with | [_, _], _ => rfl)) (fun A_law_refused_right => ?_); (case a => k_is); (case l => k_is); (case c => k_is); (case k => k_is); (case lc => k_is); (case h11 => rfl); (case nP => kernel_rfl); (case hrec => decide +kernel)
    refine' MI.wth (MI.atC_mk (x := "law") (st := G.st_law) (ps := ["_law_script"]) KX GN ?a ?l ?c ?k (fun _ _ _ _ _ _ us hl => match us, hl with | [_], _ => rfl)) (fun A_law => ?_); (case a => k_is); (case l => k_is); (case c => k_is); (case k => k_is)
    refine' ⟨⟨⟨_, G.thOf mg⟩, G.exOf mg, [(MI.tabA A_law_refused_right, "_law_refused_right.<locals>.<lambda>")], fun _ _ => True, fun _ _ _ _ _ _ => trivial⟩, [(MI.codA A_law_refused_right, MI.tabA A_law_refused_right)], rfl, rfl, ?tc, ?hT, ?nT, ?hC, ?hF⟩
    case hT => exact (MI.all_c A_law_refused_right.tab MI.all_n)
    case nT => exact (MI.all_c A_law_refused_right.nk MI.all_n)
    case hC => exact (MI.all_c A_law_refused_right.hd MI.all_n)
    case tc => exact (MI.all_c ⟨MI.codA A_law_refused_right, List.mem_cons_self⟩ MI.all_n)
    case hF =>
      refine MI.law_fnG (g := ⟨⟨_, G.thOf mg⟩, G.exOf mg, [(MI.tabA A_law_refused_right, "_law_refused_right.<locals>.<lambda>")], fun _ _ => True, fun _ _ _ _ _ _ => trivial⟩) A_law hmg (fun _ _ _ _ _ _ _ => rfl) G.sc_law fun base hK hN hT => ?_
      exact G.fin (P := PySem.Challenge.rw_tangentrows_k34_cross_ratios_of_four_spo.prog) (w := w) (base := base) ⟨b_abs, b_all, b_bool, b_gcd, b_int, b_isinstance, b_len, b_list, b_max, b_min, b_range, b_repr, b_sum, b_tuple, c_FOUR_SPOTS, c_MAX_ENTRY, c_PRIMES, r_InvalidNumber, r_InvalidOperation, n_InvalidMarks, n_InvalidNumber, n_InvalidOperation, n_InvalidPair, n_TooMany, x_InvalidNumber, x_TooMany, t_cross_ratio, t_is_harmonic, sub⟩ A_law_bag A_law_grab A_law_one_of A_is_whole A_is_prime A_require_prime A_is_number_of A_is_couple A_inverse_of A_divisor_of A_normal_of A_is_spot A_require_four A_bracket A_lowered_by A_ratio_of A_cross_ratio A_is_harmonic A_law_mixed A_law_small_spots A_law_spots A_law_table_two A_law_common A_law_low A_law_back A_law_normal A_law_spot_led A_law_four A_law_bracket A_law_cross_ratio A_law_is_zero A_law_told_right A_law_met A_law_strange_spot A_law_refused_right.at_ (hT (MI.codA A_law_refused_right, MI.tabA A_law_refused_right) List.mem_cons_self) ⟨List.mem_cons_self, (MI.all_c (fun _ => rfl) MI.all_n)⟩ A_law
    all_goals exact Value.none
