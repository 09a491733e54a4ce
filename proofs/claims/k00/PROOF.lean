import PyProof.Rows.All
import Wide.All
import OpenK.AllK
import Wide.FinOn
import HandS.ForMost
import HandS.Exc
import HandS.WordsExc
import HandS.TryOnly
import HandS.ExcOwn
import HandS.CallSlots
import HandS.Wide
import HandS.Gcd
import HandS.TupSets
import HandS.Conv
import HandS.Star
import HandS.TupAny
import HandS.IsInst
import HandS.Zip
import HandS.Flow
import HandS.Deep
import HandS.Lambda
import HandS.Slots
import HandS.Style
import HandS.SortInts
import HandS.Defaults
import HandS.Dict
import HandS.Sort
import KE.KSortTupUse
import PyProof.ExcClass
import PyProof.ExcBaseAll.LookupError
import PyProof.ExcFactsAll.LookupError
import KE.KExcInit
import KE.KExcSuper
import HandS.ExcInit
import HandS.ExcField
import HandS.EndTab
import KE.RegKTryMore
import KE.RegKSuper
import KE.KExcLine
import HandS.TupMul
import HandS.GenYield
import HandS.GenList
import HandS.HotCalls
import HandS.RaiseMore
import KE.KExcIs
import PyProof.StrBlock2
import PySem.Challenge.RW_tangentrows_k00_whole_errors
set_option Elab.async false
set_option linter.all false
set_option maxRecDepth 100000
set_option maxHeartbeats 4000000
/-! MI: pure functions over plain data D that a text's defs are shown to compute; each rule ties a construct of the text to a combinator. -/
namespace MI
open PySem PySem.Spec
open PyProof.Rows L2

/-- plain data; cell n: the n-th thing that is changed in place (dcell: a dict); obj: an instance with slots; th: a thing of the module -/
inductive D where
  | non | bl (b : Bool) | int (i : Int) | str (s : Str) | ty (n : String) | th (n : Nat)
  | tup (l : List D) | lst (l : List D) | cell (n : Nat) | dcell (n : Nat) | scr (l : List Int) | dic (ks l : List D)
  | dct (ks l : List D) | frd (ks l : List D) | obj (c : Nat) (l : List D) | adr (a : Addr) | unset | ctp (l : List Int)

mutual
def D.eqb : D → D → Bool
  | .non, .non => true
  | .bl a, .bl b => a == b
  | .int a, .int b => a == b
  | .str a, .str b => a == b
  | .ty a, .ty b => a == b
  | .th a, .th b => a == b
  | .adr a, .adr b => a == b
  | .tup a, .tup b => Ds.eqb a b
  | .lst a, .lst b => Ds.eqb a b
  | .cell a, .cell b => a == b
  | .dcell a, .dcell b => a == b
  | .scr a, .scr b => decide (a = b)
  | .ctp a, .ctp b => decide (a = b)
  | .dic k a, .dic l b => Ds.eqb k l && Ds.eqb a b
  | .dct k a, .dct l b => Ds.eqb k l && Ds.eqb a b
  | .frd k a, .frd l b => Ds.eqb k l && Ds.eqb a b
  | .obj c a, .obj d b => c == d && Ds.eqb a b
  | .unset, .unset => true
  | _, _ => false
def Ds.eqb : List D → List D → Bool
  | [], [] => true
  | a :: r, b :: s => D.eqb a b && Ds.eqb r s
  | _, _ => false
end
mutual
theorem D.eqb_eq : ∀ {a b : D}, D.eqb a b = true → a = b
  | .non, b, h => by cases b <;> simp_all [D.eqb]
  | .bl _, b, h => by cases b <;> simp_all [D.eqb]
  | .int _, b, h => by cases b <;> simp_all [D.eqb]
  | .str _, b, h => by cases b <;> simp_all [D.eqb]
  | .ty _, b, h => by cases b <;> simp_all [D.eqb]
  | .th _, b, h => by cases b <;> simp_all [D.eqb]
  | .adr _, b, h => by cases b <;> simp_all [D.eqb]
  | .cell _, b, h => by cases b <;> simp_all [D.eqb]
  | .dcell _, b, h => by cases b <;> simp_all [D.eqb]
  | .scr _, b, h => by cases b <;> simp_all [D.eqb]
  | .ctp _, b, h => by cases b <;> simp_all [D.eqb]
  | .unset, b, h => by cases b <;> simp_all [D.eqb]
  | .dic ks l, b, h => by
    cases b with
    | dic ls m =>
      rw [D.eqb, Bool.and_eq_true] at h
      rw [Ds.eqb_eq h.2, Ds.eqb_eq h.1]
    | _ => simp [D.eqb] at h
  | .dct ks l, b, h => by
    cases b with
    | dct ls m =>
      rw [D.eqb, Bool.and_eq_true] at h
      rw [Ds.eqb_eq h.2, Ds.eqb_eq h.1]
    | _ => simp [D.eqb] at h
  | .frd ks l, b, h => by
    cases b with
    | frd ls m =>
      rw [D.eqb, Bool.and_eq_true] at h
      rw [Ds.eqb_eq h.2, Ds.eqb_eq h.1]
    | _ => simp [D.eqb] at h
  | .obj c l, b, h => by
    cases b with
    | obj d m =>
      rw [D.eqb, Bool.and_eq_true] at h
      rw [Ds.eqb_eq h.2, beq_iff_eq.mp h.1]
    | _ => simp [D.eqb] at h
  | .tup l, b, h => by
    cases b with
    | tup m => rw [D.eqb] at h; rw [Ds.eqb_eq h]
    | _ => simp [D.eqb] at h
  | .lst l, b, h => by
    cases b with
    | lst m => rw [D.eqb] at h; rw [Ds.eqb_eq h]
    | _ => simp [D.eqb] at h
theorem Ds.eqb_eq : ∀ {a b : List D}, Ds.eqb a b = true → a = b
  | [], b, h => by cases b <;> simp_all [Ds.eqb]
  | x :: r, b, h => by
    cases b with
    | nil => simp [Ds.eqb] at h
    | cons y s =>
      rw [Ds.eqb, Bool.and_eq_true] at h
      rw [D.eqb_eq h.1, Ds.eqb_eq h.2]
end

/-- what is changed in place: the items of a list; [dct ..] for a dict, [frd ..] while it is walked -/
abbrev MH := List (List D)
/-- where the cells stand; the things that are being made; which cells are dicts -/
structure Ph where
  c : List Addr
  g : List Addr
  m : List Addr
def Ph.has (φ : Ph) (a : Addr) : Prop := a ∈ φ.c ∨ a ∈ φ.g
def Ph.lc (φ : Ph) (n : Nat) (a : Addr) : Prop := φ.c[n]? = some a ∧ a ∉ φ.m
def Ph.dc (φ : Ph) (n : Nat) (a : Addr) : Prop := φ.c[n]? = some a ∧ a ∈ φ.m
/-- the text's written part; its things (classes, defs) by number -/
structure Rm where
  K : PySem.W.Frag
  th : Nat → Addr

/-- a list, a tuple that stands still: no cell, or a thing of the module -/
def FL (φ : Ph) (H : Hp) (a : Addr) (xs : List V) : Prop := H a = some (.lst xs) ∧ ¬ φ.has a
def FS (K : PySem.W.Frag) (φ : Ph) (H : Hp) (a : Addr) (xs : List V) : Prop := (Rd H a (.lst xs) ∧ ¬ φ.has a) ∨ SqL K (fun _ => none) a xs
def FT (K : PySem.W.Frag) (φ : Ph) (H : Hp) (a : Addr) (xs : List V) : Prop := H a = some (.tup xs) ∧ ¬ φ.has a
theorem FL.sq {K : PySem.W.Frag} {φ : Ph} {H : Hp} {a : Addr} {xs : List V} (h : FL φ H a xs) : SqL K H a xs := SqL.of h.1
theorem FS.sq {K : PySem.W.Frag} {φ : Ph} {H : Hp} {a : Addr} {xs : List V} (h : FS K φ H a xs) : SqL K H a xs := by
  rcases h with h | (h | ⟨o, h⟩) | h
  · exact .inl h.1
  · cases h
  · cases h
  · exact .inr h
theorem FT.sq {K : PySem.W.Frag} {φ : Ph} {H : Hp} {a : Addr} {xs : List V} (h : FT K φ H a xs) : SqT K H a xs := .inl (.inl h.1)
theorem ctp_sq {K : PySem.W.Frag} {H : Hp} {a : Addr} {xs : List V} (h : SqT K (fun _ => none) a xs) : SqT K H a xs := by
  rcases h with (h | ⟨o, h⟩) | h
  · cases h
  · cases h
  · exact .inr h
/-- an instance of C at a, its own dict at dx: new, or with slots -/
def Ins (H : Hp) (a C dx : Addr) (vs : List (Option V)) : Prop := dx ≠ a ∧ ((H a = some (.ins C dx []) ∧ H dx = some (.own a) ∧ vs = []) ∨ (H a = some (SlX.SlO a C dx vs) ∧ H dx = some (.xd [])))
theorem Ins.slt {H : Hp} {a C dx : Addr} {vs : List (Option V)} (h : Ins H a C dx vs) : SlX.Slt H a C dx vs := by
  rcases h with ⟨_, h | h⟩
  · exact .inl ⟨h.1, h.2.2⟩
  · exact .inr h
theorem Ins.a {H : Hp} {a C dx : Addr} {vs : List (Option V)} (h : Ins H a C dx vs) : H a ≠ none := by
  rcases h with ⟨_, h | h⟩ <;> rw [h.1] <;> exact fun z => by cases z
theorem Ins.d {H : Hp} {a C dx : Addr} {vs : List (Option V)} (h : Ins H a C dx vs) : H dx ≠ none := by
  rcases h with ⟨_, h | h⟩
  · rw [h.2.1]; exact fun z => by cases z
  · rw [h.2]; exact fun z => by cases z
theorem Ins.eqAt {H H' : Hp} {a C dx : Addr} {vs : List (Option V)} (h : Ins H a C dx vs) (e1 : H' a = H a) (e2 : H' dx = H dx) : Ins H' a C dx vs := by
  obtain ⟨n, h⟩ := h
  refine ⟨n, ?_⟩
  rw [e1, e2]
  exact h
def keyD : Key → D
  | .inl i => .int i
  | .inr s => .str s
section
variable (g : Rm) (φ : Ph) (H : Hp)
mutual
inductive Rep : V → D → Prop
  | non : Rep .non .non
  | bl (b : Bool) : Rep (.bl b) (.bl b)
  | int (i : Int) : Rep (.int i) (.int i)
  | str (s : Str) : Rep (.str s) (.str s)
  | ty (n : String) : Rep (.ty n) (.ty n)
  | th (n : Nat) : Rep (.ref (g.th n)) (.th n)
  | adr (a : Addr) : Rep (.ref a) (.adr a)
  | tup {a : Addr} {xs : List V} {ds : List D} (h : FT g.K φ H a xs) (r : Reps xs ds) : Rep (.ref a) (.tup ds)
  | lst {a : Addr} {xs : List V} {ds : List D} (h : FL φ H a xs) (r : Reps xs ds) : Rep (.ref a) (.lst ds)
  | scr {a : Addr} {l : List Int} (h : FS g.K φ H a (l.map V.int)) : Rep (.ref a) (.scr l)
  | dic {a : Addr} {kvs : List (Key × V)} {ks : List D} {ds : List D} (h : Rd H a (.dK kvs)) (n : ¬ φ.has a) (e : kvs.map (fun p => keyD p.1) = ks) (r : Reps (kvs.map (·.2)) ds) : Rep (.ref a) (.dic ks ds)
  | dicT {a : Addr} {kvs : List (List Key × V)} {ks : List D} {ds : List D} (h : Rd H a (.dT kvs)) (n : ¬ φ.has a) (e : kvs.map (fun p => D.tup (p.1.map keyD)) = ks) (r : Reps (kvs.map (·.2)) ds) : Rep (.ref a) (.dic ks ds)
  | ctp {a : Addr} {l : List Int} (h : SqT g.K (fun _ => none) a (l.map V.int)) : Rep (.ref a) (.ctp l)
  | cell {a : Addr} {n : Nat} (h : φ.lc n a) : Rep (.ref a) (.cell n)
  | dcell {a : Addr} {n : Nat} (h : φ.dc n a) : Rep (.ref a) (.dcell n)
  | obj {a dx : Addr} {c : Nat} {vs : List (Option V)} {fs : List D} (h : Ins H a (g.th c) dx vs) (n1 : ¬ φ.has a) (n2 : ¬ φ.has dx) (r : RepsO vs fs) : Rep (.ref a) (.obj c fs)
inductive Reps : List V → List D → Prop
  | nil : Reps [] []
  | cons {x : V} {d : D} {xs : List V} {ds : List D} (h : Rep x d) (r : Reps xs ds) : Reps (x :: xs) (d :: ds)
inductive RepsO : List (Option V) → List D → Prop
  | nil {vs : List (Option V)} : RepsO vs []
  | miss {fs : List D} (r : RepsO [] fs) : RepsO [] (.unset :: fs)
  | unset {o : Option V} {vs : List (Option V)} {fs : List D} (r : RepsO vs fs) : RepsO (o :: vs) (.unset :: fs)
  | cons {v : V} {d : D} {vs : List (Option V)} {fs : List D} (h : Rep v d) (r : RepsO vs fs) : RepsO (some v :: vs) (d :: fs)
end
/-- what a dict holds -/
def DHas (u : HO) (ks ds : List D) : Prop := (∃ kvs : List (Key × V), u = .dK kvs ∧ kvs.map (fun p => keyD p.1) = ks ∧ Reps g φ H (kvs.map (·.2)) ds) ∨ (∃ kvs : List (List Key × V), u = .dT kvs ∧ kvs.map (fun p => D.tup (p.1.map keyD)) = ks ∧ Reps g φ H (kvs.map (·.2)) ds)
end
/-- what stands still -/
def Stl0 : HO → Prop
  | .lst _ => True
  | .tup _ => True
  | .frz _ (.lst _) => True
  | .frz _ (.tup _) => True
  | .xd _ => True
  | .ins _ _ [] => True
  | .own _ => True
  | _ => False
def Stl (o : HO) : Prop := Stl0 o ∨ (∃ c q, o = LamX.CodeO c q) ∨ ∃ a C dx vs, o = SlX.SlO a C dx vs
def Dc : HO → Prop
  | .dK _ => True
  | .dT _ => True
  | _ => False
/-- what is represented stays so -/
structure Tr (φ : Ph) (H : Hp) (φ' : Ph) (H' : Hp) : Prop where
  keep : ∀ a o, H a = some o → ¬ φ.has a → Stl o → H' a = some o ∧ ¬ φ'.has a
  keepD : ∀ a u, Rd H a u → ¬ φ.has a → Dc u → Rd H' a u ∧ ¬ φ'.has a
  lc : ∀ n a, φ.lc n a → φ'.lc n a
  dc : ∀ n a, φ.dc n a → φ'.dc n a
/-- no table, no code object -/
def Pl (o : HO) : Prop := (∀ ps, o ≠ .tbl ps) ∧ ∀ c q, o ≠ LamX.CodeO c q
/-- .., its exception classes by number, the tables of its code objects, what is known besides -/
structure Gm where
  r : Rm
  ex : Nat → Value
  T : List (Addr × Str)
  iv : Ph → Hp → Prop
  ivm : ∀ φ H φ' H', Tr φ H φ' H' → iv φ H → iv φ' H'
abbrev Gm.K (g : Gm) : PySem.W.Frag := g.r.K
/-- the cells stand -/
structure Hok (g : Gm) (φ : Ph) (H : Hp) (h : MH) : Prop where
  nd : φ.c.Nodup
  len : φ.c.length = h.length
  gs : ∀ a ∈ φ.g, a ∉ φ.c ∧ ∃ o, H a = some o ∧ Pl o
  at_ : ∀ (n : Nat) (a : Addr) (ds : List D), φ.lc n a → h[n]? = some ds → ∃ xs, H a = some (.lst xs) ∧ Reps g.r φ H xs ds
  atD : ∀ (n : Nat) (a : Addr) (ds : List D), φ.dc n a → h[n]? = some ds → ∃ ks vs u, DHas g.r φ H u ks vs ∧ ((ds = [.dct ks vs] ∧ H a = some u) ∨ (ds = [.frd ks vs] ∧ ∃ o, H a = some (.frz o u)))
  tb : LamX.Tabs g.T H
  iv : g.iv φ H
/-- .., the cells may turn -/
structure Ext (φ : Ph) (H : Hp) (φ' : Ph) (H' : Hp) : Prop where
  tr : Tr φ H φ' H'
  pre : ∃ m, φ'.c = φ.c ++ m
  gh : ∀ a ∈ φ.g, a ∈ φ'.g
  gk : ∀ a ∈ φ.g, H' a = H a
section
variable {g : Rm} {φ φ' φ2 : Ph} {H H' H2 : Hp} {x v : V} {d : D} {xs : List V} {ds : List D} 
theorem Tr.refl : Tr φ H φ H := ⟨fun _ _ e n _ => ⟨e, n⟩, fun _ _ e n _ => ⟨e, n⟩, fun _ _ e => e, fun _ _ e => e⟩
theorem Tr.trans (a : Tr φ H φ' H') (b : Tr φ' H' φ2 H2) : Tr φ H φ2 H2 where
  keep := fun x o e n s => b.keep x o (a.keep x o e n s).1 (a.keep x o e n s).2 s
  keepD := fun x o e n s => b.keepD x o (a.keepD x o e n s).1 (a.keepD x o e n s).2 s
  lc := fun n x e => b.lc n x (a.lc n x e)
  dc := fun n x e => b.dc n x (a.dc n x e)
theorem Ext.refl : Ext φ H φ H := ⟨Tr.refl, ⟨[], by simp⟩, fun _ h => h, fun _ _ => rfl⟩
theorem Ext.trans (a : Ext φ H φ' H') (b : Ext φ' H' φ2 H2) : Ext φ H φ2 H2 := by
  obtain ⟨m, e⟩ := a.pre
  obtain ⟨m2, e2⟩ := b.pre
  exact ⟨a.tr.trans b.tr, ⟨m ++ m2, by rw [e2, e, List.append_assoc]⟩, fun x hx => b.gh x (a.gh x hx), fun x hx => (b.gk x (a.gh x hx)).trans (a.gk x hx)⟩
/-- all but what is changed in place stays where it is -/
theorem Tr.of {φ : Ph} {H H' : Hp} (e : ∀ a o, H a = some o → ¬ φ.has a → H' a = some o) : Tr φ H φ H' where
  keep := fun a o q n _ => ⟨e a o q n, n⟩
  keepD := fun a u q n _ => ⟨q.imp (fun q => e a _ q n) (fun ⟨o, q⟩ => ⟨o, e a _ q n⟩), n⟩
  lc := fun _ _ q => q
  dc := fun _ _ q => q
theorem Tr.upd {φ : Ph} {H : Hp} {p : Addr} {o : HO} (hp : H p = none ∨ φ.has p) : Tr φ H φ (upd H p o) := Tr.of fun a u q n => by
  rw [upd_ne]
  · exact q
  · intro z
    subst z
    rcases hp with hp | hp
    · rw [hp] at q; cases q
    · exact n hp
theorem Tr.rd {a : Addr} {u : HO} (e : Tr φ H φ' H') (r : Rd H a u) (n : ¬ φ.has a) (s : Stl u) (s' : ∀ o, Stl (.frz o u)) : Rd H' a u ∧ ¬ φ'.has a := by
  rcases r with r | ⟨o, r⟩
  · exact ⟨.inl (e.keep _ _ r n s).1, (e.keep _ _ r n s).2⟩
  · exact ⟨.inr ⟨o, (e.keep _ _ r n (s' o)).1⟩, (e.keep _ _ r n (s' o)).2⟩
theorem Tr.fl {a : Addr} (e : Tr φ H φ' H') (r : FL φ H a xs) : FL φ' H' a xs := e.keep _ _ r.1 r.2 (.inl trivial)
theorem Tr.fs {K : PySem.W.Frag} {a : Addr} (e : Tr φ H φ' H') (r : FS K φ H a xs) : FS K φ' H' a xs := by
  rcases r with r | r
  · exact .inl (e.rd r.1 r.2 (.inl trivial) fun _ => .inl trivial)
  · exact .inr r
theorem Tr.ft {K : PySem.W.Frag} {a : Addr} (e : Tr φ H φ' H') (r : FT K φ H a xs) : FT K φ' H' a xs := e.keep _ _ r.1 r.2 (.inl trivial)
theorem Ext.fl {a : Addr} (e : Ext φ H φ' H') (r : FL φ H a xs) : FL φ' H' a xs := e.tr.fl r
theorem Ext.fs {K : PySem.W.Frag} {a : Addr} (e : Ext φ H φ' H') (r : FS K φ H a xs) : FS K φ' H' a xs := e.tr.fs r
theorem Ext.ft {K : PySem.W.Frag} {a : Addr} (e : Ext φ H φ' H') (r : FT K φ H a xs) : FT K φ' H' a xs := e.tr.ft r
theorem Ext.ix {a : Addr} {n : Nat} (e : Ext φ H φ' H') (r : φ.lc n a) : φ'.lc n a := e.tr.lc n a r
theorem Tr.ins {a C dx : Addr} {vs : List (Option V)} (e : Tr φ H φ' H') (i : Ins H a C dx vs) (n : ¬ φ.has a) (m : ¬ φ.has dx) : Ins H' a C dx vs ∧ ¬ φ'.has a ∧ ¬ φ'.has dx := by
  obtain ⟨ne, i⟩ := i
  rcases i with ⟨i1, i2, i3⟩ | ⟨i1, i2⟩
  · have a1 := e.keep _ _ i1 n (.inl trivial)
    have a2 := e.keep _ _ i2 m (.inl trivial)
    exact ⟨⟨ne, .inl ⟨a1.1, a2.1, i3⟩⟩, a1.2, a2.2⟩
  · have a1 := e.keep _ _ i1 n (.inr (.inr ⟨_, _, _, _, rfl⟩))
    have a2 := e.keep _ _ i2 m (.inl trivial)
    exact ⟨⟨ne, .inr ⟨a1.1, a2.1⟩⟩, a1.2, a2.2⟩
mutual
theorem Rep.tr (e : Tr φ H φ' H') : ∀ {v : V} {d : D}, Rep g φ H v d → Rep g φ' H' v d
  | _, _, .non => .non
  | _, _, .bl b => .bl b
  | _, _, .int b => .int b
  | _, _, .str b => .str b
  | _, _, .ty b => .ty b
  | _, _, .th b => .th b
  | _, _, .adr b => .adr b
  | _, _, .tup h r => .tup (e.ft h) (Reps.tr e r)
  | _, _, .lst h r => .lst (e.fl h) (Reps.tr e r)
  | _, _, .scr h => .scr (e.fs h)
  | _, _, .dic h n q r => .dic (e.keepD _ _ h n trivial).1 (e.keepD _ _ h n trivial).2 q (Reps.tr e r)
  | _, _, .dicT h n q r => .dicT (e.keepD _ _ h n trivial).1 (e.keepD _ _ h n trivial).2 q (Reps.tr e r)
  | _, _, .ctp h => .ctp h
  | _, _, .cell h => .cell (e.lc _ _ h)
  | _, _, .dcell h => .dcell (e.dc _ _ h)
  | _, _, .obj h n1 n2 r => by
    obtain ⟨i, m1, m2⟩ := e.ins h n1 n2
    exact .obj i m1 m2 (RepsO.tr e r)
theorem Reps.tr (e : Tr φ H φ' H') : ∀ {xs : List V} {ds : List D}, Reps g φ H xs ds → Reps g φ' H' xs ds
  | _, _, .nil => .nil
  | _, _, .cons h r => .cons (Rep.tr e h) (Reps.tr e r)
theorem RepsO.tr (e : Tr φ H φ' H') : ∀ {xs : List (Option V)} {ds : List D}, RepsO g φ H xs ds → RepsO g φ' H' xs ds
  | _, _, .nil => .nil
  | _, _, .miss r => .miss (RepsO.tr e r)
  | _, _, .unset r => .unset (RepsO.tr e r)
  | _, _, .cons h r => .cons (Rep.tr e h) (RepsO.tr e r)
end
theorem Rep.ext (e : Ext φ H φ' H') {v : V} {d : D} (r : Rep g φ H v d) : Rep g φ' H' v d := r.tr e.tr
theorem Reps.ext (e : Ext φ H φ' H') {xs : List V} {ds : List D} (r : Reps g φ H xs ds) : Reps g φ' H' xs ds := r.tr e.tr
theorem DHas.tr (e : Tr φ H φ' H') {u : HO} {ks : List D} (r : DHas g φ H u ks ds) : DHas g φ' H' u ks ds := by
  rcases r with ⟨kvs, e1, e2, r⟩ | ⟨kvs, e1, e2, r⟩
  · exact .inl ⟨kvs, e1, e2, r.tr e⟩
  · exact .inr ⟨kvs, e1, e2, r.tr e⟩
theorem Reps.length : ∀ {xs : List V} {ds : List D}, Reps g φ H xs ds → xs.length = ds.length
  | _, _, .nil => rfl
  | _, _, .cons _ r => by rw [List.length_cons, List.length_cons, Reps.length r]
theorem Reps.get : ∀ {xs : List V} {ds : List D} {i : Nat} {d : D}, Reps g φ H xs ds → ds[i]? = some d → ∃ x, xs[i]? = some x ∧ Rep g φ H x d
  | _, _, _, _, .nil, e => by simp at e
  | _, _, 0, _, .cons h _, e => by simp at e; subst e; exact ⟨_, by simp, h⟩
  | _, _, i + 1, _, .cons _ r, e => by
    obtain ⟨x, e1, e2⟩ := Reps.get (i := i) r (by simpa using e)
    exact ⟨x, by simpa using e1, e2⟩
theorem Reps.getL : ∀ {xs : List V} {ds : List D} {i : Nat} {x : V}, Reps g φ H xs ds → xs[i]? = some x → ∃ d, ds[i]? = some d ∧ Rep g φ H x d
  | _, _, _, _, .nil, e => by simp at e
  | _, _, 0, _, .cons h _, e => by simp at e; subst e; exact ⟨_, by simp, h⟩
  | _, _, i + 1, _, .cons _ r, e => by
    obtain ⟨x, e1, e2⟩ := Reps.getL (i := i) r (by simpa using e)
    exact ⟨x, by simpa using e1, e2⟩
theorem Reps.append : ∀ {xs ys : List V} {ds es : List D}, Reps g φ H xs ds → Reps g φ H ys es → Reps g φ H (xs ++ ys) (ds ++ es)
  | _, _, _, _, .nil, s => s
  | _, _, _, _, .cons h r, s => .cons h (Reps.append r s)
theorem Reps.take : ∀ {xs : List V} {ds : List D} (n : Nat), Reps g φ H xs ds → Reps g φ H (xs.take n) (ds.take n)
  | _, _, 0, _ => .nil
  | _, _, _ + 1, .nil => .nil
  | _, _, n + 1, .cons h r => .cons h (Reps.take n r)
theorem Reps.drop : ∀ {xs : List V} {ds : List D} (n : Nat), Reps g φ H xs ds → Reps g φ H (xs.drop n) (ds.drop n)
  | _, _, 0, r => r
  | _, _, _ + 1, .nil => .nil
  | _, _, n + 1, .cons _ r => Reps.drop n r
theorem Reps.set {y : V} {e : D} (h : Rep g φ H y e) : ∀ {xs : List V} {ds : List D} (n : Nat), Reps g φ H xs ds → Reps g φ H (xs.set n y) (ds.set n e)
  | _, _, _, .nil => .nil
  | _, _, 0, .cons _ r => .cons h r
  | _, _, n + 1, .cons q r => .cons q (Reps.set h n r)
theorem Reps.eraseIdx : ∀ {xs : List V} {ds : List D} (n : Nat), Reps g φ H xs ds → Reps g φ H (xs.eraseIdx n) (ds.eraseIdx n)
  | _, _, _, .nil => .nil
  | _, _, 0, .cons _ r => r
  | _, _, n + 1, .cons q r => .cons q (Reps.eraseIdx n r)
theorem Reps.one (h : Rep g φ H x d) : Reps g φ H [x] [d] := .cons h .nil
/-- the frame's slots -/
def Slots (g : Rm) (φ : Ph) (H : Hp) (σ : L2.St) (ρ : List (Option D)) : Prop :=
  σ.length = ρ.length ∧ ∀ (i : Nat) (d : D), ρ[i]? = some (some d) → ∃ v, σ[i]? = some (some v) ∧ Rep g φ H v d
theorem Slots.ext {σ : L2.St} {ρ : List (Option D)} (e : Ext φ H φ' H') (s : Slots g φ H σ ρ) : Slots g φ' H' σ ρ :=
  ⟨s.1, fun i d q => let ⟨v, a, b⟩ := s.2 i d q; ⟨v, a, b.ext e⟩⟩
theorem Slots.set {σ : L2.St} {ρ : List (Option D)} (s : Slots g φ H σ ρ) (r : Rep g φ H v d) (i : Nat) : Slots g φ H (σ.set i (some v)) (ρ.set i (some d)) := by
  refine ⟨by simp [s.1], fun j e q => ?_⟩
  by_cases hj : i = j
  · subst hj
    have hl : i < ρ.length := by
      have := (List.getElem?_eq_some_iff.mp q).1
      simpa using this
    rw [List.getElem?_set_self hl] at q
    cases q
    exact ⟨v, List.getElem?_set_self (by rw [s.1]; exact hl), r⟩
  · rw [List.getElem?_set_ne hj] at q
    obtain ⟨u, a, b⟩ := s.2 j e q
    exact ⟨u, by rw [List.getElem?_set_ne hj]; exact a, b⟩
theorem Slots.unset {σ : L2.St} {ρ : List (Option D)} (s : Slots g φ H σ ρ) (i : Nat) : Slots g φ H (σ.set i none) (ρ.set i none) := by
  refine ⟨by simp [s.1], fun j e q => ?_⟩
  by_cases hj : i = j
  · subst hj
    have hl : i < ρ.length := by
      have := (List.getElem?_eq_some_iff.mp q).1
      simpa using this
    rw [List.getElem?_set_self hl] at q
    cases q
  · rw [List.getElem?_set_ne hj] at q
    obtain ⟨u, a, b⟩ := s.2 j e q
    exact ⟨u, by rw [List.getElem?_set_ne hj]; exact a, b⟩
theorem Slots.start {N : List Str} (r : Reps g φ H xs ds) : Slots g φ H (L2.start N xs) (ds.map some ++ List.replicate (N.length - ds.length) none) := by
  have hl := r.length
  refine ⟨by simp [L2.start, hl], fun i d q => ?_⟩
  by_cases hi : i < ds.length
  · rw [List.getElem?_append_left (by simpa using hi), List.getElem?_map] at q
    cases e : ds[i]? with
    | none => rw [e] at q; cases q
    | some d' =>
      rw [e] at q
      cases q
      obtain ⟨x, e1, e2⟩ := r.get e
      refine ⟨x, ?_, e2⟩
      unfold L2.start
      rw [List.getElem?_append_left (by rw [List.length_map, hl]; exact hi), List.getElem?_map, e1]
      rfl
  · rw [List.getElem?_append_right (by simpa using hi)] at q
    have := List.getElem?_eq_some_iff.mp q
    obtain ⟨_, e⟩ := this
    simp at e
end
end MI
namespace MI
open PySem PySem.Spec
open PyProof.Rows L2

structure Exc where
  cls : Nat
  kept : Option (Str × D)
/-- what a computation gives -/
inductive R (α : Type) where
  | ok (a : α) (h : MH)
  | exc (e : Exc) (h : MH)
  | bad
def R.bind {α β : Type} (r : R α) (k : α → MH → R β) : R β := match r with
  | .ok a h => k a h
  | .exc e h => .exc e h
  | .bad => .bad
abbrev Env1 := List (Option D)
abbrev ME := Env1 → MH → R D
abbrev MT := Env1 → MH → R Bool
abbrev MA := Env1 → MH → R (List D)

def ExRep (g : Gm) (φ : Ph) (H : Hp) (c : Value) (dx : Option Addr) (e : Exc) : Prop :=
  c = g.ex e.cls ∧ match e.kept with
    | none => dx = none
    | some (f, d) => ∃ a v, dx = some a ∧ H a = some (.xd [(f, v)]) ∧ ¬ φ.has a ∧ Rep g.r φ H v d
section
variable (g : Gm) (W : WX) (σ : L2.St) (φ : Ph) (H : Hp)
def Out {α β : Type} (rel : Ph → Hp → β → α → Prop) (Q : β → Hp → Prop) : R α → Prop
  | .ok a h => ∀ φ' v H', Ext φ H φ' H' → rel φ' H' v a → Hok g φ' H' h → Q v H'
  | .exc e h => ∀ φ' c dx H', Ext φ H φ' H' → ExRep g φ' H' c dx e → Hok g φ' H' h → W c dx σ H'
  | .bad => False
end
section
variable {g : Gm} {W : WX} {σ : L2.St} {φ φ' : Ph} {H H' : Hp} {α β γ δ : Type} {rel : Ph → Hp → β → α → Prop} {rel' : Ph → Hp → δ → γ → Prop} {Q : β → Hp → Prop} {Q' : δ → Hp → Prop}
theorem Out.base {r : R α} (e : Ext φ H φ' H') (o : Out g W σ φ H rel Q r) : Out g W σ φ' H' rel Q r := by
  cases r with
  | ok a h => exact fun φ2 v H2 e2 => o φ2 v H2 (e.trans e2)
  | exc x h => exact fun φ2 c dx H2 e2 => o φ2 c dx H2 (e.trans e2)
  | bad => exact o
theorem Out.next {r : R γ} {k : γ → MH → R α} (o : Out g W σ φ H rel Q (r.bind k))
    (n : ∀ a h φ1 v H1, Ext φ H φ1 H1 → rel' φ1 H1 v a → Hok g φ1 H1 h → Out g W σ φ1 H1 rel Q (k a h) → Q' v H1) : Out g W σ φ H rel' Q' r := by
  cases r with
  | ok a h => exact fun φ1 v H1 e r1 m1 => n a h φ1 v H1 e r1 m1 (Out.base e o)
  | exc x h => exact o
  | bad => exact o
end
def rB : Ph → Hp → Bool → Bool → Prop := fun _ _ b a => b = a
/-- the readings -/
def tE (g : Gm) (W : WX) (m : ME) : TE := fun σ H Q => ∃ φ ρ h, Slots g.r φ H σ ρ ∧ Hok g φ H h ∧ Out g W σ φ H (Rep g.r) Q (m ρ h)
def tT (g : Gm) (W : WX) (m : MT) : TT := fun σ H Q => ∃ φ ρ h, Slots g.r φ H σ ρ ∧ Hok g φ H h ∧ Out g W σ φ H rB Q (m ρ h)
def tA (g : Gm) (W : WX) (m : MA) : TA := fun σ H Q => ∃ φ ρ h, Slots g.r φ H σ ρ ∧ Hok g φ H h ∧ Out g W σ φ H (Reps g.r) Q (m ρ h)
section
variable {X : Cx} {e : Expr}
theorem pe_imp {t t' : TE} (h : PE X e t) (i : ∀ σ H Q, t' σ H Q → t σ H Q) : PE X e t' := ⟨fun pins s σ H Q I q => h.run pins s σ H Q I (i _ _ _ q)⟩
theorem pt_imp {t t' : TT} (h : PT X e t) (i : ∀ σ H Q, t' σ H Q → t σ H Q) : PT X e t' := ⟨fun pins s σ H Q I q => h.run pins s σ H Q I (i _ _ _ q)⟩
theorem pw_imp {t t' : TT} (h : PW X e t) (i : ∀ σ H Q, t' σ H Q → t σ H Q) : PW X e t' := ⟨fun w pins s σ H Q I q => h.run w pins s σ H Q I (i _ _ _ q)⟩
theorem pa_imp {es : List Expr} {t t' : TA} (h : PA X es t) (i : ∀ σ H Q, t' σ H Q → t σ H Q) : PA X es t' := ⟨fun p pins s σ H Q I q => h.run p pins s σ H Q I (i _ _ _ q)⟩
end

/-! ### combinators -/
def mVar (i : Nat) : ME := fun ρ h => match ρ[i]? with
  | some (some d) => .ok d h
  | _ => .bad
def mC (d : D) : ME := fun _ h => .ok d h
def mBin (f : D → D → MH → R D) (a b : ME) : ME := fun ρ h => (a ρ h).bind fun x h1 => (b ρ h1).bind fun y h2 => f x y h2
def mUn (f : D → MH → R D) (a : ME) : ME := fun ρ h => (a ρ h).bind f
def mNil : MA := fun _ h => .ok [] h
def mCons (a : ME) (r : MA) : MA := fun ρ h => (a ρ h).bind fun x h1 => (r ρ h1).bind fun xs h2 => .ok (x :: xs) h2
def mCall (f : List D → MH → R D) (a : MA) : ME := fun ρ h => (a ρ h).bind f
def asB : D → MH → R Bool
  | .bl b, h => .ok b h
  | _, _ => .bad
/-- a test that is a value True or False -/
def mTest (a : ME) : MT := fun ρ h => (a ρ h).bind asB
def mNotT (t : MT) : MT := fun ρ h => (t ρ h).bind fun b h1 => .ok (!b) h1
def mAndT (t u : MT) : MT := fun ρ h => (t ρ h).bind fun b h1 => match b with
  | true => u ρ h1
  | false => .ok false h1
def mOrT (t u : MT) : MT := fun ρ h => (t ρ h).bind fun b h1 => match b with
  | true => .ok true h1
  | false => u ρ h1
def mIf (t : MT) (a b : ME) : ME := fun ρ h => (t ρ h).bind fun k h1 => match k with
  | true => a ρ h1
  | false => b ρ h1
/-- a and b, a or b, not a, the values True or False -/
def mAnd (a b : ME) : ME := fun ρ h => (a ρ h).bind fun x h1 => match x with
  | .bl true => b ρ h1
  | .bl false => .ok (.bl false) h1
  | _ => .bad
def mOr (a b : ME) : ME := fun ρ h => (a ρ h).bind fun x h1 => match x with
  | .bl true => .ok (.bl true) h1
  | .bl false => b ρ h1
  | _ => .bad
def vNot : D → MH → R D
  | .bl b, h => .ok (.bl (!b)) h
  | _, _ => .bad

/-- by values -/
def Op2 (g : Gm) (r : R2) (f : D → D → MH → R D) : Prop := ∀ {W : WX} {σ : L2.St} {φ : Ph} {H : Hp} {h : MH} {x y : V} {d e : D} {Q : VK}, Rep g.r φ H x d → Rep g.r φ H y e → Hok g φ H h → Out g W σ φ H (Rep g.r) Q (f d e h) → r x y H Q
def Op1 (g : Gm) (r : V → Hp → VK → Prop) (f : D → MH → R D) : Prop := ∀ {W : WX} {σ : L2.St} {φ : Ph} {H : Hp} {h : MH} {x : V} {d : D} {Q : VK}, Rep g.r φ H x d → Hok g φ H h → Out g W σ φ H (Rep g.r) Q (f d h) → r x H Q
def OpN (g : Gm) (r : List V → Hp → VK → Prop) (f : List D → MH → R D) : Prop := ∀ {W : WX} {σ : L2.St} {φ : Ph} {H : Hp} {h : MH} {xs : List V} {ds : List D} {Q : VK}, Reps g.r φ H xs ds → Hok g φ H h → Out g W σ φ H (Rep g.r) Q (f ds h) → r xs H Q
section
variable {g : Gm} {W : WX} {X : Cx} {ma mb mc : ME} {mt mu : MT} {mas : MA} {ta tb : TE}
theorem imp_bin {r : R2} {f : D → D → MH → R D} (ho : Op2 g r f) (σ : L2.St) (H : Hp) (Q : VK) (t : tE g W (mBin f ma mb) σ H Q) : tOp r (tE g W ma) (tE g W mb) σ H Q := by
  obtain ⟨φ, ρ, h, s, m, o⟩ := t
  refine ⟨φ, ρ, h, s, m, Out.next o fun x h1 φ1 v H1 e1 r1 m1 o1 => ?_⟩
  refine ⟨φ1, ρ, h1, s.ext e1, m1, Out.next o1 fun y h2 φ2 u H2 e2 r2 m2 o2 => ?_⟩
  exact ho (r1.ext e2) r2 m2 o2
theorem imp_un {r : V → Hp → VK → Prop} {f : D → MH → R D} (ho : Op1 g r f) (σ : L2.St) (H : Hp) (Q : VK) (t : tE g W (mUn f ma) σ H Q) : tUn r (tE g W ma) σ H Q := by
  obtain ⟨φ, ρ, h, s, m, o⟩ := t
  exact ⟨φ, ρ, h, s, m, Out.next o fun x h1 φ1 v H1 e1 r1 m1 o1 => ho r1 m1 o1⟩
theorem imp_cb {r : List V → Hp → VK → Prop} {f : List D → MH → R D} (ho : OpN g r f) (σ : L2.St) (H : Hp) (Q : VK) (t : tE g W (mCall f mas) σ H Q) : tCB r (tA g W mas) σ H Q := by
  obtain ⟨φ, ρ, h, s, m, o⟩ := t
  exact ⟨φ, ρ, h, s, m, Out.next o fun x h1 φ1 v H1 e1 r1 m1 o1 => ho r1 m1 o1⟩

/-! ### names, constants, operators -/
theorem imp_var {i : Nat} (σ : L2.St) (H : Hp) (Q : VK) (t : tE g W (mVar i) σ H Q) : tVar i σ H Q := by
  obtain ⟨φ, ρ, h, s, m, o⟩ := t
  unfold mVar at o
  split at o
  · rename_i d hd
    obtain ⟨v, e1, e2⟩ := s.2 i d hd
    exact ⟨v, e1, o φ v H Ext.refl e2 m⟩
  · exact o.elim
theorem imp_c {v : V} {d : D} (r : ∀ φ H, Rep g.r φ H v d) (σ : L2.St) (H : Hp) (Q : VK) (t : tE g W (mC d) σ H Q) : tC v σ H Q := by
  obtain ⟨φ, ρ, h, s, m, o⟩ := t
  exact o φ v H Ext.refl (r _ _) m
theorem sv (i : Nat) {x : Str} {pos : Pos} (hN : X.N[i]? = some x := by rfl) (hv : Vis X.env.scope x := by first | exact Or.inl rfl | exact Or.inr (Or.inl rfl) | exact Or.inr (Or.inr rfl)) (hd : (x == ("__debug__" : Str)) = false := by decide)
    (hcd : (x == ("__classdict__" : Str)) = false := by decide) : PE X (.Name x pos) (tE g W (mVar i)) := pe_imp (pe_var hN hv hd hcd) imp_var
theorem sc_int {i : Int} {j : Nat} {pos : Pos} : PE X (.Constant (.int i) j pos) (tE g W (mC (.int i))) := pe_imp pe_int (imp_c fun _ _ => .int _)
theorem sc_bl {b : Bool} {j : Nat} {pos : Pos} : PE X (.Constant (.bool b) j pos) (tE g W (mC (.bl b))) := pe_imp pe_bl (imp_c fun _ _ => .bl _)
theorem sc_non {j : Nat} {pos : Pos} : PE X (.Constant .none j pos) (tE g W (mC .non)) := pe_imp pe_non (imp_c fun _ _ => .non)
theorem sc_str {z : Str} {j : Nat} {pos : Pos} : PE X (.Constant (.str z) j pos) (tE g W (mC (.str z))) := pe_imp pe_str (imp_c fun _ _ => .str _)
/-- a module's constant -/
theorem sc_glob {x : Str} {v : V} {u : Value} {d : D} {pos : Pos} (hg : Gl X x) (hm : X.mg x = some u) (r : RelV v u) (rd : ∀ φ H, Rep g.r φ H v d) (hd : (x == ("__debug__" : Str)) = false := by decide) : PE X (.Name x pos) (tE g W (mC d)) :=
  pe_imp (pe_glob hg hm r hd) (imp_c rd)
theorem sc_ty {x : Str} {n : String} {pos : Pos} (hg : Gl X x) (hm : X.mg x = none) (hv : bootBuiltins x = some (.type n)) (hn : x ≠ "__name__" := by decide) (hd : (x == ("__debug__" : Str)) = false := by decide) : PE X (.Name x pos) (tE g W (mC (.ty n))) :=
  pe_imp (pe_bltn hg hm hv (v := .ty n) rfl hn hd) (imp_c fun _ _ => .ty _)
variable {a b c : Expr} {pos : Pos} {rest : List Expr}
theorem se_bin {op : Operator} {r : R2} {f : D → D → MH → R D} (ho : OpR X (binaryOp op) r) (hv : Op2 g r f) (ha : PE X a (tE g W ma)) (hb : PE X b (tE g W mb)) : PE X (.BinOp a op b pos) (tE g W (mBin f ma mb)) := pe_imp (pe_op ho ha hb) (imp_bin hv)
theorem se_un {op : UnaryOp} {r : V → Hp → VK → Prop} {f : D → MH → R D} (ho : UnR X (unaryOp op) r) (hv : Op1 g r f) (ha : PE X a (tE g W ma)) : PE X (.UnaryOp op a pos) (tE g W (mUn f ma)) := pe_imp (pe_un ho ha) (imp_un hv)
theorem se_cmp {op : CmpOp} {r : R2} {f : D → D → MH → R D} (ho : OpR X (compareOp op) r) (hv : Op2 g r f) (ha : PE X a (tE g W ma)) (hb : PE X b (tE g W mb)) (hm : behindInMarks op b = false) : PE X (.Compare a [op] [b] pos) (tE g W (mBin f ma mb)) :=
  pe_imp (pe_cmpR ho ha hb hm) (imp_bin hv)
/-- a test: a value True or False -/
theorem imp_test (σ : L2.St) (H : Hp) (Q : Bool → Hp → Prop) (t : tT g W (mTest ma) σ H Q) : tB (tE g W ma) σ H Q := by
  obtain ⟨φ, ρ, h, s, m, o⟩ := t
  refine ⟨φ, ρ, h, s, m, Out.next o fun x h1 φ1 v H1 e1 r1 m1 o1 => ?_⟩
  cases r1 with
  | bl k => exact ⟨k, rfl, o1 φ1 k H1 Ext.refl rfl m1⟩
  | _ => exact o1.elim
theorem st_val (ha : PE X a (tE g W ma)) (he : ∀ whole, isTrue a X.env whole = (do let v ← whole; standAt a.pos; holding [v] (truthy v)) := by intro _; rfl) : PT X a (tT g W (mTest ma)) := pt_imp (pt_val ha he) imp_test
theorem st_cmp {op : CmpOp} {r : R2} {f : D → D → MH → R D} (ho : OpR X (compareOp op) r) (hv : Op2 g r f) (ha : PE X a (tE g W ma)) (hb : PE X b (tE g W mb)) (hm : behindInMarks op b = false) : PT X (.Compare a [op] [b] pos) (tT g W (mTest (mBin f ma mb))) :=
  pt_imp (pt_cmpR ho ha hb hm) fun σ H Q t => imp_bin hv σ H _ (show tE g W (mBin f ma mb) σ H _ from imp_test σ H Q t)
theorem imp_if (σ : L2.St) (H : Hp) (Q : VK) (t : tE g W (mIf mt ma mb) σ H Q) : tIf (tT g W mt) (tE g W ma) (tE g W mb) σ H Q := by
  obtain ⟨φ, ρ, h, s, m, o⟩ := t
  refine ⟨φ, ρ, h, s, m, Out.next (rel' := rB) o fun x h1 φ1 v H1 e1 r1 m1 o1 => ?_⟩
  cases (show v = x from r1)
  cases x with
  | true => exact ⟨φ1, ρ, h1, s.ext e1, m1, o1⟩
  | false => exact ⟨φ1, ρ, h1, s.ext e1, m1, o1⟩
theorem se_if (hc : PT X c (tT g W mt)) (ha : PE X a (tE g W ma)) (hb : PE X b (tE g W mb)) : PE X (.IfExp c a b pos) (tE g W (mIf mt ma mb)) := pe_imp (pe_ifExp hc ha hb) imp_if
theorem st_not (hc : PT X a (tT g W mt)) : PT X (.UnaryOp .Not a pos) (tT g W (mNotT mt)) := pt_imp (pt_not hc) fun σ H Q t => by
  obtain ⟨φ, ρ, h, s, m, o⟩ := t
  refine ⟨φ, ρ, h, s, m, Out.next (rel' := rB) o fun x h1 φ1 v H1 e1 r1 m1 o1 => ?_⟩
  cases (show v = x from r1)
  exact o1 φ1 _ H1 Ext.refl rfl m1
theorem sw_one (hc : PT X a (tT g W mt)) : PW X (.BoolOp .And [a] pos) (tT g W mt) := pw_and1 hc
theorem sw_oneO (hc : PT X a (tT g W mt)) : PW X (.BoolOp .Or [a] pos) (tT g W mt) := pw_or1 hc
theorem sw_and (ha : PT X a (tT g W mt)) (hb : PW X (.BoolOp .And (b :: rest) pos) (tT g W mu)) : PW X (.BoolOp .And (a :: b :: rest) pos) (tT g W (mAndT mt mu)) := pw_imp (pw_and ha hb) fun σ H Q t => by
  obtain ⟨φ, ρ, h, s, m, o⟩ := t
  refine ⟨φ, ρ, h, s, m, Out.next (rel' := rB) o fun x h1 φ1 v H1 e1 r1 m1 o1 => ?_⟩
  cases (show v = x from r1)
  cases x with
  | true => exact ⟨φ1, ρ, h1, s.ext e1, m1, o1⟩
  | false => exact o1 φ1 _ H1 Ext.refl rfl m1
theorem sw_or (ha : PT X a (tT g W mt)) (hb : PW X (.BoolOp .Or (b :: rest) pos) (tT g W mu)) : PW X (.BoolOp .Or (a :: b :: rest) pos) (tT g W (mOrT mt mu)) := pw_imp (pw_or ha hb) fun σ H Q t => by
  obtain ⟨φ, ρ, h, s, m, o⟩ := t
  refine ⟨φ, ρ, h, s, m, Out.next (rel' := rB) o fun x h1 φ1 v H1 e1 r1 m1 o1 => ?_⟩
  cases (show v = x from r1)
  cases x with
  | false => exact ⟨φ1, ρ, h1, s.ext e1, m1, o1⟩
  | true => exact o1 φ1 _ H1 Ext.refl rfl m1
/-- and, or, not as values True or False -/
theorem se_one {op : BoolOp} (ha : PE X a (tE g W ma)) : PE X (.BoolOp op [a] pos) (tE g W ma) := pe_one ha
theorem se_and (ha : PE X a (tE g W ma)) (hb : PE X (.BoolOp .And (b :: rest) pos) (tE g W mb)) : PE X (.BoolOp .And (a :: b :: rest) pos) (tE g W (mAnd ma mb)) := pe_imp (pe_and ha hb) fun σ H Q t => by
  obtain ⟨φ, ρ, h, s, m, o⟩ := t
  refine ⟨φ, ρ, h, s, m, Out.next o fun x h1 φ1 v H1 e1 r1 m1 o1 => ?_⟩
  cases r1 with
  | bl k =>
    refine ⟨k, rfl, ?_⟩
    cases k with
    | true => exact ⟨φ1, ρ, h1, s.ext e1, m1, o1⟩
    | false => exact o1 φ1 _ H1 Ext.refl (.bl _) m1
  | _ => exact o1.elim
theorem se_or (ha : PE X a (tE g W ma)) (hb : PE X (.BoolOp .Or (b :: rest) pos) (tE g W mb)) : PE X (.BoolOp .Or (a :: b :: rest) pos) (tE g W (mOr ma mb)) := pe_imp (pe_or ha hb) fun σ H Q t => by
  obtain ⟨φ, ρ, h, s, m, o⟩ := t
  refine ⟨φ, ρ, h, s, m, Out.next o fun x h1 φ1 v H1 e1 r1 m1 o1 => ?_⟩
  cases r1 with
  | bl k =>
    refine ⟨k, rfl, ?_⟩
    cases k with
    | false => exact ⟨φ1, ρ, h1, s.ext e1, m1, o1⟩
    | true => exact o1 φ1 _ H1 Ext.refl (.bl _) m1
  | _ => exact o1.elim
theorem se_not (ha : PE X a (tE g W ma)) : PE X (.UnaryOp .Not a pos) (tE g W (mUn vNot ma)) := pe_imp (pe_not ha) fun σ H Q t => by
  obtain ⟨φ, ρ, h, s, m, o⟩ := t
  refine ⟨φ, ρ, h, s, m, Out.next o fun x h1 φ1 v H1 e1 r1 m1 o1 => ?_⟩
  cases r1 with
  | bl k => exact ⟨k, rfl, o1 φ1 _ H1 Ext.refl (.bl _) m1⟩
  | _ => exact o1.elim

/-! ### arguments, displays -/
theorem sa_nil : PA X [] (tA g W mNil) := pa_imp pa_nil fun σ H Q t => by
  obtain ⟨φ, ρ, h, s, m, o⟩ := t
  exact o φ [] H Ext.refl .nil m
theorem sa_cons {es : List Expr} (ha : PE X a (tE g W ma)) (hr : PA X es (tA g W mas)) (hs : starEach (a :: es) X.env = (false, eval a X.env) :: starEach es X.env := by rfl) : PA X (a :: es) (tA g W (mCons ma mas)) := pa_imp (pa_cons ha hr hs) fun σ H Q t => by
  obtain ⟨φ, ρ, h, s, m, o⟩ := t
  refine ⟨φ, ρ, h, s, m, Out.next o fun x h1 φ1 v H1 e1 r1 m1 o1 => ?_⟩
  refine ⟨φ1, ρ, h1, s.ext e1, m1, Out.next o1 fun y h2 φ2 u H2 e2 r2 m2 o2 => ?_⟩
  exact o2 φ2 _ H2 Ext.refl (.cons (r1.ext e2) r2) m2
/-- *e in a display or a call: a list or tuple of items -/
def seqOf (h : MH) : D → Option (List D)
  | .tup l => some l
  | .lst l => some l
  | .cell n => h[n]?
  | .scr l => some (l.map .int)
  | .ctp l => some (l.map .int)
  | _ => none
theorem reps_ints {g : Gm} {φ : Ph} {H : Hp} : ∀ l : List Int, Reps g.r φ H (l.map V.int) (l.map D.int)
  | [] => .nil
  | i :: r => .cons (.int i) (reps_ints r)
def mStar (a : ME) (r : MA) : MA := fun ρ h => (a ρ h).bind fun x h1 => match seqOf h1 x with
  | some l => (r ρ h1).bind fun xs h2 => .ok (l ++ xs) h2
  | none => .bad
theorem seqOf_sq {φ : Ph} {h : MH} {v : V} {d : D} {l : List D} {H : Hp} (r : Rep g.r φ H v d) (m : Hok g φ H h) (e : seqOf h d = some l) :
    ∃ a xs, v = .ref a ∧ (SqT g.r.K H a xs ∨ SqL g.r.K H a xs) ∧ Reps g.r φ H xs l := by
  cases r with
  | tup q r => cases e; exact ⟨_, _, rfl, .inl q.sq, r⟩
  | lst q r => cases e; exact ⟨_, _, rfl, .inr q.sq, r⟩
  | scr q => cases e; exact ⟨_, _, rfl, .inr q.sq, reps_ints _⟩
  | ctp q => cases e; exact ⟨_, _, rfl, .inl (ctp_sq q), reps_ints _⟩
  | cell q =>
    obtain ⟨xs, e1, r⟩ := m.at_ _ _ _ q e
    exact ⟨_, xs, rfl, .inr (SqL.of e1), r⟩
  | _ => cases e
theorem sa_star {es : List Expr} {p : Pos} (hk : g.r.K = X.K) (ha : PE X a (tE g W ma)) (hr : PA X es (tA g W mas)) (hs : starEach (.Starred a p :: es) X.env = (true, eval a X.env) :: starEach es X.env := by rfl) : PA X (.Starred a p :: es) (tA g W (mStar ma mas)) := pa_imp (StX.pa_star ha hr hs) fun σ H Q t => by
  obtain ⟨φ, ρ, h, s, m, o⟩ := t
  refine ⟨φ, ρ, h, s, m, Out.next o fun x h1 φ1 v H1 e1 r1 m1 o1 => ?_⟩
  cases hl : seqOf h1 x with
  | none => rw [hl] at o1; exact o1.elim
  | some l =>
    rw [hl] at o1
    obtain ⟨a, xs, ea, q, r⟩ := seqOf_sq r1 m1 hl
    refine ⟨a, xs, ea, by rw [← hk]; exact q, φ1, ρ, h1, s.ext e1, m1, Out.next o1 fun y h2 φ2 u H2 e2 r2 m2 o2 => ?_⟩
    exact o2 φ2 _ H2 Ext.refl ((r.ext e2).append r2) m2
/-- a new list that stands, a new tuple, a new cell -/
def mTup (a : MA) : ME := fun ρ h => (a ρ h).bind fun xs h1 => if xs.length ≤ 16777216 then .ok (.tup xs) h1 else .bad
def mLst (a : MA) : ME := fun ρ h => (a ρ h).bind fun xs h1 => if xs.length ≤ 16777216 then .ok (.lst xs) h1 else .bad
def mCell (a : MA) : ME := fun ρ h => (a ρ h).bind fun xs h1 => if xs.length ≤ 16777216 then .ok (.cell h1.length) (h1 ++ [xs]) else .bad
theorem line_of_le {n : Nat} (h : n ≤ 16777216) : n ≤ sizeLine := by rw [sizeLine_eq]; exact h
theorem Pl.lst {xs : List V} : Pl (.lst xs) := ⟨fun _ z => (by cases z), fun _ _ z => (by unfold LamX.CodeO at z; cases z)⟩
theorem Pl.dK {xs : List (Key × V)} : Pl (.dK xs) := ⟨fun _ z => (by cases z), fun _ _ z => (by unfold LamX.CodeO at z; cases z)⟩
theorem Pl.dT {xs : List (List Key × V)} : Pl (.dT xs) := ⟨fun _ z => (by cases z), fun _ _ z => (by unfold LamX.CodeO at z; cases z)⟩
theorem Pl.frz {o : Obj} {u : HO} : Pl (.frz o u) := ⟨fun _ z => (by cases z), fun _ _ z => (by unfold LamX.CodeO at z; cases z)⟩
theorem Pl.ins {C dx : Addr} {fs : List (Str × V)} : Pl (.ins C dx fs) := ⟨fun _ z => (by cases z), fun _ _ z => (by unfold LamX.CodeO at z; cases z)⟩
theorem Pl.own {a : Addr} : Pl (.own a) := ⟨fun _ z => (by cases z), fun _ _ z => (by unfold LamX.CodeO at z; cases z)⟩
theorem Pl.xd {fs : List (Str × V)} : Pl (.xd fs) := ⟨fun _ z => (by cases z), fun _ _ z => (by unfold LamX.CodeO at z; cases z)⟩
theorem DHas.pl {g : Rm} {φ : Ph} {H : Hp} {u : HO} {ks ds : List D} (r : DHas g φ H u ks ds) : Pl u := by
  rcases r with ⟨kvs, e, _⟩ | ⟨kvs, e, _⟩ <;> subst e
  · exact .dK
  · exact .dT
/-- the tables stay where something plain is written -/
theorem Tabs.upd {T : List (Addr × Str)} {H : Hp} {p : Addr} {o : HO} (t : LamX.Tabs T H) (hp : ∀ u, H p = some u → Pl u) : LamX.Tabs T (upd H p o) := fun q hq => by
  obtain ⟨ps, h1, h2, h3⟩ := t q hq
  refine ⟨ps, ?_, h2, fun pos cv hc => ?_⟩
  · rw [upd_ne fun z => (hp (.tbl ps) (by rw [← z]; exact h1)).1 ps rfl]; exact h1
  · obtain ⟨c, e1, e2⟩ := h3 pos cv hc
    exact ⟨c, e1, by rw [upd_ne fun z => (hp _ (by rw [← z]; exact e2)).2 c q.2 rfl]; exact e2⟩
theorem Hok.notin {φ : Ph} {h : MH} {H : Hp} {p : Addr} (m : Hok g φ H h) (hp : H p = none) : ¬ φ.has p := fun z => by
  rcases z with z | z
  · obtain ⟨i, e⟩ := List.getElem?_of_mem z
    have hl : i < h.length := by rw [← m.len]; exact (List.getElem?_eq_some_iff.mp e).1
    by_cases hm : p ∈ φ.m
    · obtain ⟨_, _, u, _, q⟩ := m.atD i p h[i] ⟨e, hm⟩ (by simp [hl])
      rcases q with ⟨_, q⟩ | ⟨_, o, q⟩ <;> (rw [hp] at q; cases q)
    · obtain ⟨xs, q, _⟩ := m.at_ i p h[i] ⟨e, hm⟩ (by simp [hl])
      rw [hp] at q
      cases q
  · obtain ⟨_, o, q, _⟩ := m.gs p z
    rw [hp] at q; cases q
/-- what is tracked as a cell, or is being made, is plain -/
theorem Hok.pl {φ : Ph} {h : MH} {H : Hp} {p : Addr} (m : Hok g φ H h) (hp : φ.has p) : ∀ u, H p = some u → Pl u := fun u hu => by
  rcases hp with z | z
  · obtain ⟨i, e⟩ := List.getElem?_of_mem z
    have hl : i < h.length := by rw [← m.len]; exact (List.getElem?_eq_some_iff.mp e).1
    by_cases hm : p ∈ φ.m
    · obtain ⟨_, _, v, r, q⟩ := m.atD i p h[i] ⟨e, hm⟩ (by simp [hl])
      rcases q with ⟨_, q⟩ | ⟨_, o, q⟩ <;> (rw [hu] at q; cases q)
      · exact r.pl
      · exact .frz
    · obtain ⟨xs, q, _⟩ := m.at_ i p h[i] ⟨e, hm⟩ (by simp [hl])
      rw [hu] at q
      cases q
      exact .lst
  · obtain ⟨_, o, q, pl⟩ := m.gs p z
    rw [hu] at q; cases q
    exact pl
theorem Ext.new {φ : Ph} {H : Hp} {p : Addr} {o : HO} (hp : H p = none) (n : ¬ φ.has p) : Ext φ H φ (upd H p o) := ⟨Tr.upd (.inl hp), ⟨[], by simp⟩, fun _ h => h, fun a ha => upd_ne fun z => n (.inr (by rw [← z]; exact ha))⟩
/-- the cells through a change elsewhere -/
theorem Hok.to {φ : Ph} {h : MH} {H H' : Hp} (m : Hok g φ H h) (t : Tr φ H φ H') (e : ∀ a, φ.has a → H' a = H a) (tb : LamX.Tabs g.T H') : Hok g φ H' h :=
  ⟨m.nd, m.len, fun a ha => ⟨(m.gs a ha).1, by rw [e a (.inr ha)]; exact (m.gs a ha).2⟩, fun n a ds e1 e2 => by
    obtain ⟨xs, q, r⟩ := m.at_ n a ds e1 e2
    exact ⟨xs, by rw [e a (.inl (List.mem_of_getElem? e1.1))]; exact q, r.tr t⟩, fun n a ds e1 e2 => by
    obtain ⟨ks, vs, u, r, q⟩ := m.atD n a ds e1 e2
    exact ⟨ks, vs, u, r.tr t, by rw [e a (.inl (List.mem_of_getElem? e1.1))]; exact q⟩, tb, g.ivm _ _ _ _ t m.iv⟩
/-- something new beside the cells -/
theorem Hok.new {φ : Ph} {h : MH} {H : Hp} {p : Addr} {o : HO} (m : Hok g φ H h) (hp : H p = none) : Hok g φ (upd H p o) h :=
  m.to (Tr.upd (.inl hp)) (fun a ha => upd_ne fun z => m.notin hp (by rw [← z]; exact ha)) (Tabs.upd m.tb fun u q => by rw [hp] at q; cases q)
theorem idx_last {α : Type} {l : List α} {p a : α} {n : Nat} (e : (l ++ [p])[n]? = some a) (h : ¬ n < l.length) : n = l.length ∧ a = p := by
  have hn' : n = l.length := by
    have := (List.getElem?_eq_some_iff.mp e).1
    simp at this
    omega
  subst hn'
  simp at e
  exact ⟨rfl, e.symm⟩
/-- one more cell: a list (mm = φ.m), or a dict -/
theorem Hok.more {φ : Ph} {h : MH} {H : Hp} {p : Addr} {o : HO} {ds : List D} {mm : List Addr} (m : Hok g φ H h) (hp : H p = none) (hmm : mm = φ.m ∧ p ∉ φ.m ∨ mm = p :: φ.m)
    (hr : p ∉ mm → ∃ xs, o = .lst xs ∧ Reps g.r φ H xs ds) (hd : p ∈ mm → ∃ ks vs, DHas g.r φ H o ks vs ∧ ds = [.dct ks vs]) : Ext φ H ⟨φ.c ++ [p], φ.g, mm⟩ (upd H p o) ∧ Hok g ⟨φ.c ++ [p], φ.g, mm⟩ (upd H p o) (h ++ [ds]) := by
  have np := m.notin hp
  have hin : ∀ a, a ≠ p → (a ∈ mm ↔ a ∈ φ.m) := fun a ha => by
    rcases hmm with ⟨e, _⟩ | e
    · rw [e]
    · rw [e, List.mem_cons]; exact ⟨fun z => z.resolve_left ha, .inr⟩
  have cne : ∀ {n : Nat} {a : Addr}, φ.c[n]? = some a → a ≠ p := fun {n a} e z => np (.inl (by rw [← z]; exact List.mem_of_getElem? e))
  have has : ∀ a, a ≠ p → ¬ φ.has a → ¬ (⟨φ.c ++ [p], φ.g, mm⟩ : Ph).has a := fun a n na z => by
    rcases z with z | z
    · rcases List.mem_append.mp z with z | z
      · exact na (.inl z)
      · exact n (by simpa using z)
    · exact na (.inr z)
  have up : ∀ {n : Nat} {a : Addr}, φ.c[n]? = some a → (φ.c ++ [p])[n]? = some a := fun {n a} e => by
    rw [List.getElem?_append_left (List.getElem?_eq_some_iff.mp e).1]; exact e
  have t0 : Tr φ H φ (upd H p o) := Tr.upd (.inl hp)
  have t : Tr φ H ⟨φ.c ++ [p], φ.g, mm⟩ (upd H p o) := by
    refine ⟨fun a u q n s => ⟨(t0.keep a u q n s).1, has a (ne_of_none q hp) n⟩, fun a u q n s => ⟨(t0.keepD a u q n s).1, has a ?_ n⟩, fun n a e => ⟨up e.1, fun z => e.2 ((hin a (cne e.1)).mp z)⟩, fun n a e => ⟨up e.1, (hin a (cne e.1)).mpr e.2⟩⟩
    · rcases q with q | ⟨_, q⟩ <;> exact ne_of_none q hp
  have e : Ext φ H ⟨φ.c ++ [p], φ.g, mm⟩ (upd H p o) := ⟨t, ⟨[p], rfl⟩, fun _ h => h, fun a ha => upd_ne fun z => np (.inr (by rw [← z]; exact ha))⟩
  refine ⟨e, ⟨?_, by simp [m.len], fun a ha => ?_, fun n a es e1 e2 => ?_, fun n a es e1 e2 => ?_, Tabs.upd m.tb (fun u q => by rw [hp] at q; cases q), g.ivm _ _ _ _ t m.iv⟩⟩
  · show (φ.c ++ [p]).Nodup
    rw [List.nodup_append]
    refine ⟨m.nd, by simp, fun a ha b hb z => ?_⟩
    have : b = p := by simpa using hb
    subst this
    subst z
    exact np (.inl ha)
  · have nap : a ≠ p := fun z => np (.inr (by rw [← z]; exact ha))
    refine ⟨fun z => ?_, by rw [upd_ne nap]; exact (m.gs a ha).2⟩
    rcases List.mem_append.mp z with z | z
    · exact (m.gs a ha).1 z
    · exact nap (by simpa using z)
  · obtain ⟨e1, k1⟩ := e1
    have e1 : (φ.c ++ [p])[n]? = some a := e1
    by_cases hn : n < φ.c.length
    · rw [List.getElem?_append_left hn] at e1
      rw [List.getElem?_append_left (by rw [← m.len]; exact hn)] at e2
      obtain ⟨ys, q, r2⟩ := m.at_ n a es ⟨e1, fun z => k1 ((hin a (cne e1)).mpr z)⟩ e2
      exact ⟨ys, by rw [upd_ne (ne_of_none q hp)]; exact q, r2.tr t⟩
    · obtain ⟨hn', ea⟩ := idx_last e1 hn
      subst hn'
      subst ea
      rw [m.len] at e2
      simp at e2
      subst e2
      obtain ⟨xs, eo, r⟩ := hr k1
      subst eo
      exact ⟨xs, upd_same, r.tr t⟩
  · obtain ⟨e1, k1⟩ := e1
    have e1 : (φ.c ++ [p])[n]? = some a := e1
    by_cases hn : n < φ.c.length
    · rw [List.getElem?_append_left hn] at e1
      rw [List.getElem?_append_left (by rw [← m.len]; exact hn)] at e2
      obtain ⟨ks, vs, u, r2, q⟩ := m.atD n a es ⟨e1, (hin a (cne e1)).mp k1⟩ e2
      exact ⟨ks, vs, u, r2.tr t, by rw [upd_ne (cne e1)]; exact q⟩
    · obtain ⟨hn', ea⟩ := idx_last e1 hn
      subst hn'
      subst ea
      rw [m.len] at e2
      simp at e2
      subst e2
      obtain ⟨ks, vs, r, eo⟩ := hd k1
      exact ⟨ks, vs, o, r.tr t, .inl ⟨eo, upd_same⟩⟩
theorem Hok.mfree {φ : Ph} {h : MH} {H : Hp} {p : Addr} (m : Hok g φ H h) : Hok g ⟨φ.c, φ.g, φ.m.filter fun a => decide (a ∈ φ.c)⟩ H h ↔ True := ⟨fun _ => trivial, fun _ => by
  have hin : ∀ a, a ∈ φ.c → (a ∈ (φ.m.filter fun a => decide (a ∈ φ.c)) ↔ a ∈ φ.m) := fun a ha => by simp [ha]
  have t : Tr φ H ⟨φ.c, φ.g, φ.m.filter fun a => decide (a ∈ φ.c)⟩ H := ⟨fun a o q n _ => ⟨q, n⟩, fun a o q n _ => ⟨q, n⟩, fun n a e => ⟨e.1, fun z => e.2 ((hin a (List.mem_of_getElem? e.1)).mp z)⟩, fun n a e => ⟨e.1, (hin a (List.mem_of_getElem? e.1)).mpr e.2⟩⟩
  refine ⟨m.nd, m.len, m.gs, fun n a ds e1 e2 => ?_, fun n a ds e1 e2 => ?_, m.tb, g.ivm _ _ _ _ t m.iv⟩
  · obtain ⟨xs, q, r⟩ := m.at_ n a ds ⟨e1.1, fun z => e1.2 ((hin a (List.mem_of_getElem? e1.1)).mpr z)⟩ e2
    exact ⟨xs, q, r.tr t⟩
  · obtain ⟨ks, vs, u, r, q⟩ := m.atD n a ds ⟨e1.1, (hin a (List.mem_of_getElem? e1.1)).mp e1.2⟩ e2
    exact ⟨ks, vs, u, r.tr t, q⟩⟩
/-- a new cell -/
theorem Hok.cell {φ : Ph} {h : MH} {H : Hp} {p : Addr} {xs : List V} {ds : List D} (m : Hok g φ H h) (hp : H p = none) (r : Reps g.r φ H xs ds) :
    ∃ φ', Ext φ H φ' (upd H p (.lst xs)) ∧ Hok g φ' (upd H p (.lst xs)) (h ++ [ds]) ∧ φ'.lc h.length p := by
  have np := m.notin hp
  have m2 := (Hok.mfree (p := p) m).mpr trivial
  have hnm : p ∉ (φ.m.filter fun a => decide (a ∈ φ.c)) := fun z => np (.inl (of_decide_eq_true (List.mem_filter.mp z).2))
  have t : Ext φ H ⟨φ.c, φ.g, φ.m.filter fun a => decide (a ∈ φ.c)⟩ H := by
    have hin : ∀ a, a ∈ φ.c → (a ∈ (φ.m.filter fun a => decide (a ∈ φ.c)) ↔ a ∈ φ.m) := fun a ha => by simp [ha]
    exact ⟨⟨fun a o q n _ => ⟨q, n⟩, fun a o q n _ => ⟨q, n⟩, fun n a e => ⟨e.1, fun z => e.2 ((hin a (List.mem_of_getElem? e.1)).mp z)⟩, fun n a e => ⟨e.1, (hin a (List.mem_of_getElem? e.1)).mpr e.2⟩⟩, ⟨[], by simp⟩, fun _ h => h, fun _ _ => rfl⟩
  obtain ⟨e1, m3⟩ := Hok.more (o := .lst xs) (ds := ds) (mm := φ.m.filter fun a => decide (a ∈ φ.c)) m2 hp (.inl ⟨rfl, hnm⟩) (fun _ => ⟨xs, rfl, r.ext t⟩) (fun z => absurd z hnm)
  refine ⟨_, t.trans e1, m3, ?_, hnm⟩
  show (φ.c ++ [p])[h.length]? = some p
  rw [← m.len, List.getElem?_append_right (Nat.le_refl _)]
  simp
/-- a new cell that is a dict -/
theorem Hok.dcell {φ : Ph} {h : MH} {H : Hp} {p : Addr} {o : HO} {ks vs : List D} (m : Hok g φ H h) (hp : H p = none) (r : DHas g.r φ H o ks vs) :
    ∃ φ', Ext φ H φ' (upd H p o) ∧ Hok g φ' (upd H p o) (h ++ [[.dct ks vs]]) ∧ φ'.dc h.length p := by
  obtain ⟨e1, m3⟩ := Hok.more (o := o) (ds := [.dct ks vs]) (mm := p :: φ.m) m hp (.inr rfl) (fun z => absurd List.mem_cons_self z) (fun _ => ⟨ks, vs, r, rfl⟩)
  refine ⟨_, e1, m3, ?_, List.mem_cons_self⟩
  show (φ.c ++ [p])[h.length]? = some p
  rw [← m.len, List.getElem?_append_right (Nat.le_refl _)]
  simp
theorem se_tup {k : Nat} {es : List Expr} (h : PA X es (tA g W mas)) : PE X (.Tuple es k pos) (tE g W (mTup mas)) := pe_imp (pe_tup h) fun σ H Q t => by
  obtain ⟨φ, ρ, h, s, m, o⟩ := t
  refine ⟨φ, ρ, h, s, m, Out.next o fun x h1 φ1 v H1 e1 r1 m1 o1 => ?_⟩
  split at o1
  · rename_i hl
    exact ⟨by rw [r1.length]; exact line_of_le hl, fun p hp => o1 φ1 _ _ (Ext.new hp (m1.notin hp)) (.tup ⟨upd_same, m1.notin hp⟩ (r1.ext (Ext.new hp (m1.notin hp)))) (m1.new hp)⟩
  · exact o1.elim
theorem se_lst {es : List Expr} (h : PA X es (tA g W mas)) : PE X (.List es pos) (tE g W (mLst mas)) := pe_imp (pe_lst h) fun σ H Q t => by
  obtain ⟨φ, ρ, h, s, m, o⟩ := t
  refine ⟨φ, ρ, h, s, m, Out.next o fun x h1 φ1 v H1 e1 r1 m1 o1 => ?_⟩
  split at o1
  · rename_i hl
    exact ⟨by rw [r1.length]; exact line_of_le hl, fun p hp => o1 φ1 _ _ (Ext.new hp (m1.notin hp)) (.lst ⟨upd_same, m1.notin hp⟩ (r1.ext (Ext.new hp (m1.notin hp)))) (m1.new hp)⟩
  · exact o1.elim
theorem se_cell {es : List Expr} (h : PA X es (tA g W mas)) : PE X (.List es pos) (tE g W (mCell mas)) := pe_imp (pe_lst h) fun σ H Q t => by
  obtain ⟨φ, ρ, h, s, m, o⟩ := t
  refine ⟨φ, ρ, h, s, m, Out.next o fun x h1 φ1 v H1 e1 r1 m1 o1 => ?_⟩
  split at o1
  · rename_i hl
    refine ⟨by rw [r1.length]; exact line_of_le hl, fun p hp => ?_⟩
    obtain ⟨φ2, e2, m2, c2⟩ := m1.cell hp r1
    exact o1 _ _ _ e2 (.cell c2) m2
  · exact o1.elim
end
end MI
namespace MI
open PySem PySem.Spec
open PyProof.Rows L2

/-! ### by values: operators -/
def vOr (f f' : D → D → MH → R D) (d e : D) (h : MH) : R D := match f d e h with
  | .bad => f' d e h
  | r => r
def vI (F : Int → Int → D) (d e : D) (h : MH) : R D := match d, e with
  | .int i, .int j => .ok (F i j) h
  | _, _ => .bad
def vIc (c : Int → Int → Bool) (F : Int → Int → D) (d e : D) (h : MH) : R D := match d, e with
  | .int i, .int j => if c i j = true then .ok (F i j) h else .bad
  | _, _ => .bad
def lstOf (h : MH) : D → Option (List D)
  | .lst l => some l
  | .cell n => h[n]?
  | _ => none
def small (n : Nat) : Bool := decide (n ≤ 16777216)
def vCatT (d e : D) (h : MH) : R D := match d, e with
  | .tup a, .tup b => if small (a.length + b.length) = true then .ok (.tup (a ++ b)) h else .bad
  | _, _ => .bad
def vCatL (d e : D) (h : MH) : R D := match lstOf h d, lstOf h e with
  | some a, some b => if small (a.length + b.length) = true then .ok (.lst (a ++ b)) h else .bad
  | _, _ => .bad
def vCatS (d e : D) (h : MH) : R D := match d, e with
  | .str a, .str b => if small (a.length + b.length) = true then .ok (.str (a ++ b)) h else .bad
  | _, _ => .bad
def vRepL (d e : D) (h : MH) : R D := match lstOf h d, e with
  | some a, .int k => if (decide (-(2 ^ 63) ≤ k) && decide (k < 2 ^ 63) && small (a.length * k.toNat)) = true then .ok (.lst (List.replicate k.toNat a).flatten) h else .bad
  | _, _ => .bad
def cMul (i j : Int) : Bool := decide (i.natAbs.log2 + j.natAbs.log2 < 1000000)
def cDiv (_ j : Int) : Bool := decide (j ≠ 0) && decide (j.natAbs.log2 < 9000)
def cMod (_ j : Int) : Bool := decide (j ≠ 0)
def cPow (i j : Int) : Bool := decide (0 ≤ j) && decide ((Builtin.Int.intBits i : Int) * j ≤ 134217728)
/-- // and %: of a positive divisor by ediv, emod -/
def fDiv (i j : Int) : Int := if 0 < j then i / j else i.fdiv j
def fMod (i j : Int) : Int := if 0 < j then i % j else i.fmod j
def vAdd : D → D → MH → R D := vOr (vI fun i j => .int (i + j)) (vOr vCatT (vOr vCatL vCatS))
def vSub : D → D → MH → R D := vI fun i j => .int (i - j)
def vMul : D → D → MH → R D := vOr (vIc cMul fun i j => .int (i * j)) vRepL
def vDiv : D → D → MH → R D := vIc cDiv fun i j => .int (fDiv i j)
def vMod : D → D → MH → R D := vIc cMod fun i j => .int (fMod i j)
def vPow : D → D → MH → R D := vIc cPow fun i j => .int (i ^ j.toNat)
def vLt : D → D → MH → R D := vI fun i j => .bl (decide (i < j))
def vLe : D → D → MH → R D := vI fun i j => .bl (decide (i ≤ j))
def vGt : D → D → MH → R D := vI fun i j => .bl (decide (j < i))
def vGe : D → D → MH → R D := vI fun i j => .bl (decide (j ≤ i))
def vIsN (d e : D) (h : MH) : R D := match e with
  | .non => .ok (.bl (match d with | .non => true | _ => false)) h
  | _ => .bad
def vNotN (d e : D) (h : MH) : R D := match e with
  | .non => .ok (.bl (match d with | .non => false | _ => true)) h
  | _ => .bad
def vNeg (d : D) (h : MH) : R D := match d with
  | .int i => .ok (.int (-i)) h
  | _ => .bad

section
variable {g : Gm} {X : Cx}
theorem Op2.or {r r' : R2} {f f' : D → D → MH → R D} (a : Op2 g r f) (b : Op2 g r' f') : Op2 g (fun x y H Q => r x y H Q ∨ r' x y H Q) (vOr f f') := by
  intro W σ φ H h x y d e Q rx ry m o
  unfold vOr at o
  cases q : f d e h with
  | bad => rw [q] at o; exact .inr (b rx ry m o)
  | ok z h' => rw [q] at o; exact .inl (a rx ry m (by rw [q]; exact o))
  | exc z h' => rw [q] at o; exact .inl (a rx ry m (by rw [q]; exact o))
theorem o2I {G : Int → Int → V} {F : Int → Int → D} (hr : ∀ i j φ H, Rep g.r φ H (G i j) (F i j)) : Op2 g (rI0 G) (vI F) := by
  intro W σ φ H h x y d e Q rx ry m o
  cases rx with
  | int i =>
    cases ry with
    | int j => exact ⟨i, j, rfl, rfl, o φ _ H Ext.refl (hr i j φ H) m⟩
    | _ => exact o.elim
  | _ => exact o.elim
theorem o2Ic {C : Int → Int → Prop} {c : Int → Int → Bool} {G : Int → Int → V} {F : Int → Int → D} (hc : ∀ i j, c i j = true → C i j) (hr : ∀ i j φ H, c i j = true → Rep g.r φ H (G i j) (F i j)) : Op2 g (rI C G) (vIc c F) := by
  intro W σ φ H h x y d e Q rx ry m o
  cases rx with
  | int i =>
    cases ry with
    | int j =>
      have o' : Out g W σ φ H (Rep g.r) Q (if c i j = true then .ok (F i j) h else .bad) := o
      by_cases hq : c i j = true
      · rw [if_pos hq] at o'
        exact ⟨i, j, rfl, rfl, hc i j hq, o' φ _ H Ext.refl (hr i j φ H hq) m⟩
      · rw [if_neg hq] at o'
        exact o'.elim
    | _ => exact o.elim
  | _ => exact o.elim
theorem small_line {n : Nat} (h : small n = true) : n ≤ sizeLine := line_of_le (of_decide_eq_true h)
theorem lstOf_at {φ : Ph} {h : MH} {v : V} {d : D} {l : List D} {H : Hp} (r : Rep g.r φ H v d) (m : Hok g φ H h) (e : lstOf h d = some l) : ∃ a xs, v = .ref a ∧ H a = some (.lst xs) ∧ Reps g.r φ H xs l := by
  cases r with
  | lst q r => cases e; exact ⟨_, _, rfl, q.1, r⟩
  | cell q =>
    obtain ⟨xs, e1, r⟩ := m.at_ _ _ _ q e
    exact ⟨_, xs, rfl, e1, r⟩
  | _ => cases e
/-- a new tuple, a new list, told -/
theorem new_tup {W : WX} {σ : L2.St} {φ : Ph} {H : Hp} {h : MH} {Q : VK} {p : Addr} {xs : List V} {ds : List D} (m : Hok g φ H h) (hp : H p = none) (r : Reps g.r φ H xs ds) (o : Out g W σ φ H (Rep g.r) Q (.ok (.tup ds) h)) : Q (.ref p) (upd H p (.tup xs)) :=
  o φ _ _ (Ext.new hp (m.notin hp)) (.tup ⟨upd_same, m.notin hp⟩ (r.ext (Ext.new hp (m.notin hp)))) (m.new hp)
theorem new_lst {W : WX} {σ : L2.St} {φ : Ph} {H : Hp} {h : MH} {Q : VK} {p : Addr} {xs : List V} {ds : List D} (m : Hok g φ H h) (hp : H p = none) (r : Reps g.r φ H xs ds) (o : Out g W σ φ H (Rep g.r) Q (.ok (.lst ds) h)) : Q (.ref p) (upd H p (.lst xs)) :=
  o φ _ _ (Ext.new hp (m.notin hp)) (.lst ⟨upd_same, m.notin hp⟩ (r.ext (Ext.new hp (m.notin hp)))) (m.new hp)
theorem new_cell {W : WX} {σ : L2.St} {φ : Ph} {H : Hp} {h : MH} {Q : VK} {p : Addr} {xs : List V} {ds : List D} (m : Hok g φ H h) (hp : H p = none) (r : Reps g.r φ H xs ds) (o : Out g W σ φ H (Rep g.r) Q (.ok (.cell h.length) (h ++ [ds]))) : Q (.ref p) (upd H p (.lst xs)) := by
  obtain ⟨φ2, e2, m2, c2⟩ := m.cell hp r
  exact o _ _ _ e2 (.cell c2) m2
theorem o_catT (hk : g.r.K = X.K) : Op2 g (rCatA X.K) vCatT := by
  intro W σ φ H h x y d e Q rx ry m o
  cases rx with
  | tup q1 r1 =>
    cases ry with
    | tup q2 r2 =>
      rename_i a xs ds b ys es
      have o' : Out g W σ φ H (Rep g.r) Q (if small (ds.length + es.length) = true then .ok (.tup (ds ++ es)) h else .bad) := o
      by_cases hs : small (ds.length + es.length) = true
      · rw [if_pos hs] at o'
        refine ⟨a, b, xs, ys, rfl, rfl, hk ▸ q1.sq, hk ▸ q2.sq, by rw [r1.length, r2.length]; exact small_line hs, fun z => ?_, fun _ z => ?_, fun _ _ p hp => new_tup m hp (r1.append r2) o'⟩
        · subst z
          cases r1
          exact o' φ _ H Ext.refl (.tup q2 r2) m
        · subst z
          cases r2
          refine o' φ _ H Ext.refl (.tup q1 ?_) m
          rw [List.append_nil]
          exact r1
      · rw [if_neg hs] at o'
        exact o'.elim
    | _ => exact o.elim
  | _ => exact o.elim
theorem o_catL : Op2 g rCat vCatL := by
  intro W σ φ H h x y d e Q rx ry m o
  unfold vCatL at o
  cases h1 : lstOf h d with
  | none => rw [h1] at o; exact o.elim
  | some a =>
    cases h2 : lstOf h e with
    | none => rw [h1, h2] at o; exact o.elim
    | some b =>
      rw [h1, h2] at o
      obtain ⟨p, xs, e1, e2, r1⟩ := lstOf_at rx m h1
      obtain ⟨q, ys, e3, e4, r2⟩ := lstOf_at ry m h2
      dsimp only at o
      split at o
      · rename_i hs
        exact ⟨p, q, xs, ys, e1, e3, e2, e4, by rw [r1.length, r2.length]; exact small_line hs, fun l hl => new_lst m hl (r1.append r2) o⟩
      · exact o.elim
theorem o_catS : Op2 g (fun x y H Q => ∃ i j, x = .str i ∧ y = .str j ∧ i.length + j.length ≤ sizeLine ∧ Q (.str (i ++ j)) H) vCatS := by
  intro W σ φ H h x y d e Q rx ry m o
  cases rx with
  | str a =>
    cases ry with
    | str b =>
      have o' : Out g W σ φ H (Rep g.r) Q (if small (a.length + b.length) = true then .ok (.str (a ++ b)) h else .bad) := o
      by_cases hs : small (a.length + b.length) = true
      · rw [if_pos hs] at o'
        exact ⟨a, b, rfl, rfl, small_line hs, o' φ _ H Ext.refl (.str _) m⟩
      · rw [if_neg hs] at o'
        exact o'.elim
    | _ => exact o.elim
  | _ => exact o.elim
theorem Reps.repl {g : Gm} {φ : Ph} {H : Hp} {xs : List V} {ds : List D} (r : Reps g.r φ H xs ds) : ∀ n : Nat, Reps g.r φ H (List.replicate n xs).flatten (List.replicate n ds).flatten
  | 0 => .nil
  | n + 1 => by
    rw [List.replicate_succ, List.replicate_succ, List.flatten_cons, List.flatten_cons]
    exact r.append (Reps.repl r n)
theorem o_repL : Op2 g rRep vRepL := by
  intro W σ φ H h x y d e Q rx ry m o
  unfold vRepL at o
  cases h1 : lstOf h d with
  | none => rw [h1] at o; exact o.elim
  | some a =>
    rw [h1] at o
    obtain ⟨p, xs, e1, e2, r1⟩ := lstOf_at rx m h1
    cases ry with
    | int k =>
      dsimp only at o
      split at o
      · rename_i hs
        rw [Bool.and_eq_true, Bool.and_eq_true] at hs
        exact ⟨p, k, xs, e1, rfl, e2, of_decide_eq_true hs.1.1, of_decide_eq_true hs.1.2, by rw [r1.length]; exact small_line hs.2, fun l hl => new_lst m hl (r1.repl _) o⟩
      · exact o.elim
    | _ => exact o.elim
/-! the operators of the text -/
theorem opMulA : OpR X (binaryOp .Mult) (rI (fun i j => cMul i j = true) fun i j => .int (i * j)) := opI fun i j _ _ _ _ _ hc q => mul_int q (show CMulW i j from (of_decide_eq_true (show decide (i.natAbs.log2 + j.natAbs.log2 < 1000000) = true from hc) : i.natAbs.log2 + j.natAbs.log2 < 1000000)).ok
theorem opDivA : OpR X (binaryOp .FloorDiv) (rI (fun i j => cDiv i j = true) fun i j => .int (fDiv i j)) := opI fun i j _ _ _ _ _ hc q => by
  have hc' : (decide (j ≠ 0) && decide (j.natAbs.log2 < 9000)) = true := hc
  rw [Bool.and_eq_true] at hc'
  refine floordiv_int (of_decide_eq_true hc'.1) ?_ (.inl (PyProof.noPylong_of_log2 (of_decide_eq_true hc'.2)))
  have e : i.fdiv j = fDiv i j := by
    unfold fDiv
    split
    · exact Int.fdiv_eq_ediv_of_nonneg i (by omega)
    · rfl
  rw [e]
  exact q
theorem opModA : OpR X (binaryOp .Mod) (rI (fun i j => cMod i j = true) fun i j => .int (fMod i j)) := opI fun i j _ _ _ _ _ hc q => by
  refine mod_int' (of_decide_eq_true hc) ?_
  have e : i.fmod j = fMod i j := by
    unfold fMod
    split
    · exact Int.fmod_eq_emod_of_nonneg i (by omega)
    · rfl
  rw [e]
  exact q
theorem opPowA : OpR X (binaryOp .Pow) (rI (fun i j => cPow i j = true) fun i j => .int (i ^ j.toNat)) := opI fun i j _ _ _ _ _ hc q => by
  have hc' : (decide (0 ≤ j) && decide ((Builtin.Int.intBits i : Int) * j ≤ 134217728)) = true := hc
  rw [Bool.and_eq_true] at hc'
  exact pow_int (of_decide_eq_true hc'.1) (of_decide_eq_true hc'.2) q
theorem isN_o : Op2 g (fun x y H Q => y = .non ∧ Q (.bl (decide (x = .non))) H) vIsN := by
  intro W σ φ H h x y d e Q rx ry m o
  cases ry with
  | non =>
    refine ⟨rfl, o φ _ H Ext.refl ?_ m⟩
    cases rx <;> simp <;> exact .bl _
  | _ => exact o.elim
theorem notN_o : Op2 g (fun x y H Q => y = .non ∧ Q (.bl (!decide (x = .non))) H) vNotN := by
  intro W σ φ H h x y d e Q rx ry m o
  cases ry with
  | non =>
    refine ⟨rfl, o φ _ H Ext.refl ?_ m⟩
    cases rx <;> simp <;> exact .bl _
  | _ => exact o.elim
theorem neg_o : Op1 g (rU fun i => .int (-i)) vNeg := by
  intro W σ φ H h x d Q rx m o
  cases rx with
  | int i => exact ⟨i, rfl, o φ _ H Ext.refl (.int _) m⟩
  | _ => exact o.elim
variable {W : WX} {ma mb : ME} {a b : Expr} {pos : Pos}
theorem s_add (hk : g.r.K = X.K) (ha : PE X a (tE g W ma)) (hb : PE X b (tE g W mb)) : PE X (.BinOp a .Add b pos) (tE g W (mBin vAdd ma mb)) :=
  se_bin (op_add.or (op_catA.or (op_cat.or op_add_str))) (Op2.or (o2I fun _ _ _ _ => .int _) (Op2.or (o_catT hk) (Op2.or o_catL o_catS))) ha hb
theorem s_sub (ha : PE X a (tE g W ma)) (hb : PE X b (tE g W mb)) : PE X (.BinOp a .Sub b pos) (tE g W (mBin vSub ma mb)) := se_bin op_sub (o2I fun _ _ _ _ => .int _) ha hb
theorem s_mul (ha : PE X a (tE g W ma)) (hb : PE X b (tE g W mb)) : PE X (.BinOp a .Mult b pos) (tE g W (mBin vMul ma mb)) := se_bin (opMulA.or op_rep) (Op2.or (o2Ic (fun _ _ h => h) fun _ _ _ _ _ => .int _) o_repL) ha hb
theorem s_div (ha : PE X a (tE g W ma)) (hb : PE X b (tE g W mb)) : PE X (.BinOp a .FloorDiv b pos) (tE g W (mBin vDiv ma mb)) := se_bin opDivA (o2Ic (fun _ _ h => h) fun _ _ _ _ _ => .int _) ha hb
theorem s_mod (ha : PE X a (tE g W ma)) (hb : PE X b (tE g W mb)) : PE X (.BinOp a .Mod b pos) (tE g W (mBin vMod ma mb)) := se_bin opModA (o2Ic (fun _ _ h => h) fun _ _ _ _ _ => .int _) ha hb
theorem s_pow (ha : PE X a (tE g W ma)) (hb : PE X b (tE g W mb)) : PE X (.BinOp a .Pow b pos) (tE g W (mBin vPow ma mb)) := se_bin opPowA (o2Ic (fun _ _ h => h) fun _ _ _ _ _ => .int _) ha hb
theorem s_neg (ha : PE X a (tE g W ma)) : PE X (.UnaryOp .USub a pos) (tE g W (mUn vNeg ma)) := se_un un_neg neg_o ha
theorem s_lt (ha : PE X a (tE g W ma)) (hb : PE X b (tE g W mb)) : PE X (.Compare a [.Lt] [b] pos) (tE g W (mBin vLt ma mb)) := se_cmp op_lt (o2I fun _ _ _ _ => .bl _) ha hb (nomark _)
theorem s_le (ha : PE X a (tE g W ma)) (hb : PE X b (tE g W mb)) : PE X (.Compare a [.LtE] [b] pos) (tE g W (mBin vLe ma mb)) := se_cmp op_le (o2I fun _ _ _ _ => .bl _) ha hb (nomark _)
theorem s_gt (ha : PE X a (tE g W ma)) (hb : PE X b (tE g W mb)) : PE X (.Compare a [.Gt] [b] pos) (tE g W (mBin vGt ma mb)) := se_cmp op_gt (o2I fun _ _ _ _ => .bl _) ha hb (nomark _)
theorem s_ge (ha : PE X a (tE g W ma)) (hb : PE X b (tE g W mb)) : PE X (.Compare a [.GtE] [b] pos) (tE g W (mBin vGe ma mb)) := se_cmp op_ge (o2I fun _ _ _ _ => .bl _) ha hb (nomark _)
theorem s_isN (ha : PE X a (tE g W ma)) (hb : PE X b (tE g W mb)) : PE X (.Compare a [.Is] [b] pos) (tE g W (mBin vIsN ma mb)) := se_cmp op_isN isN_o ha hb (nomark _)
theorem s_notN (ha : PE X a (tE g W ma)) (hb : PE X b (tE g W mb)) : PE X (.Compare a [.IsNot] [b] pos) (tE g W (mBin vNotN ma mb)) := se_cmp op_notN notN_o ha hb (nomark _)
end
end MI
namespace MI
open PySem PySem.Spec
open PyProof.Rows L2

/-! ### ==, in -/
def pyStep (h : MH) (f : List D → Option (List PyData)) : D → Option PyData
  | .non => some .none
  | .bl b => some (.bool b)
  | .int i => some (.int i)
  | .str s => some (.str s)
  | .tup l => (f l).map .tuple
  | .lst l => (f l).map .list
  | .cell n => (h[n]?).bind fun l => (f l).map .list
  | .scr l => some (.list (l.map .int))
  | .ctp l => some (.tuple (l.map .int))
  | _ => none
def pyAll (p : D → Option PyData) : List D → Option (List PyData)
  | [] => some []
  | d :: r => (p d).bind fun x => (pyAll p r).bind fun xs => some (x :: xs)
def D.py (h : MH) : Nat → D → Option PyData
  | 0 => pyStep h fun _ => none
  | k + 1 => pyStep h (pyAll (D.py h k))
/-- as a whole: within the line of depth -/
def pyOf (h : MH) (d : D) : Option PyData := (D.py h 12 d).bind fun x => if SeqAt.shaped x = true then some x else none
def vEq (d e : D) (h : MH) : R D := match pyOf h d, pyOf h e with
  | some x, some y => .ok (.bl (PyData.eqv x y)) h
  | _, _ => .bad
def vNe (d e : D) (h : MH) : R D := match pyOf h d, pyOf h e with
  | some x, some y => .ok (.bl (!PyData.eqv x y)) h
  | _, _ => .bad
def isSeq : PyData → Option (List PyData)
  | .list l => some l
  | .tuple l => some l
  | _ => none
def vIn (d e : D) (h : MH) : R D := match pyOf h d, pyOf h e with
  | some x, some y => match isSeq y with
    | some l => .ok (.bl (l.any fun z => PyData.eqv z x)) h
    | none => .bad
  | _, _ => .bad
def vNotIn (d e : D) (h : MH) : R D := match pyOf h d, pyOf h e with
  | some x, some y => match isSeq y with
    | some l => .ok (.bl (!l.any fun z => PyData.eqv z x)) h
    | none => .bad
  | _, _ => .bad
section
variable {g : Gm} {φ : Ph} {H : Hp} {h : MH}
theorem pyAll_dp {K : PySem.W.Frag} {p : D → Option PyData} (hp : ∀ {v d x}, Rep g.r φ H v d → p d = some x → Dp K H v x) : ∀ {vs : List V} {ds : List D} {xs : List PyData}, Reps g.r φ H vs ds → pyAll p ds = some xs → DpAll K H vs xs
  | _, _, _, .nil, e => by cases e; exact .nil
  | _, _, _, .cons (d := d) (ds := ds) r rr, e => by
    unfold pyAll at e
    cases h1 : p d with
    | none => rw [h1] at e; cases e
    | some x =>
      cases h2 : pyAll p ds with
      | none => rw [h1, h2] at e; cases e
      | some ys =>
        rw [h1, h2] at e
        cases e
        exact .cons (hp r h1) (pyAll_dp hp rr h2)
theorem ints_dp {K : PySem.W.Frag} : ∀ l : List Int, DpAll K H (l.map V.int) (l.map PyData.int)
  | [] => .nil
  | i :: r => .cons (.int i) (ints_dp r)
theorem pyStep_dp {f : List D → Option (List PyData)} (m : Hok g φ H h) (hf : ∀ {vs ds xs}, Reps g.r φ H vs ds → f ds = some xs → DpAll g.r.K H vs xs) {v : V} {d : D} {x : PyData} (r : Rep g.r φ H v d) (e : pyStep h f d = some x) : Dp g.r.K H v x := by
  cases r with
  | non => cases e; exact .non
  | bl b => cases e; exact .bl b
  | int b => cases e; exact .int b
  | str b => cases e; exact .str b
  | tup q r =>
    rename_i ds
    cases h1 : f ds with
    | none => simp [pyStep, h1] at e
    | some ys =>
      simp only [pyStep, h1, Option.map_some, Option.some.injEq] at e
      subst e
      exact .tup q.sq (hf r h1)
  | lst q r =>
    rename_i ds
    cases h1 : f ds with
    | none => simp [pyStep, h1] at e
    | some ys =>
      simp only [pyStep, h1, Option.map_some, Option.some.injEq] at e
      subst e
      exact .lst q.sq (hf r h1)
  | cell q =>
    rename_i n
    cases h0 : h[n]? with
    | none => simp [pyStep, h0] at e
    | some l =>
      obtain ⟨ys, e1, r⟩ := m.at_ _ _ _ q h0
      cases h1 : f l with
      | none => simp [pyStep, h0, h1] at e
      | some zs =>
        simp only [pyStep, h0, Option.bind_some, h1, Option.map_some, Option.some.injEq] at e
        subst e
        exact .lst (SqL.of e1) (hf r h1)
  | scr q => cases e; exact .lst q.sq (ints_dp _)
  | ctp q => cases e; exact .tup (ctp_sq q) (ints_dp _)
  | _ => cases e
theorem py_dp (m : Hok g φ H h) : ∀ (k : Nat) {v : V} {d : D} {x : PyData}, Rep g.r φ H v d → D.py h k d = some x → Dp g.r.K H v x
  | 0, _, _, _, r, e => pyStep_dp m (fun _ z => by cases z) r e
  | k + 1, _, _, _, r, e => pyStep_dp m (fun rr z => pyAll_dp (fun r' e' => py_dp m k r' e') rr z) r e
theorem pyOf_dp (m : Hok g φ H h) {v : V} {d : D} {x : PyData} (r : Rep g.r φ H v d) (e : pyOf h d = some x) : Dp g.r.K H v x ∧ SeqAt.shaped x = true := by
  unfold pyOf at e
  cases h1 : D.py h 12 d with
  | none => rw [h1] at e; cases e
  | some y =>
    rw [h1] at e
    dsimp only [Option.bind_some] at e
    split at e
    · rename_i hs
      cases e
      exact ⟨py_dp m 12 r h1, hs⟩
    · cases e
end
section
variable {g : Gm} {X : Cx}
theorem eq_o (hk : g.r.K = X.K) : Op2 g (rEqD X.K) vEq := by
  intro W σ φ H h x y d e Q rx ry m o
  unfold vEq at o
  split at o
  · rename_i p q h1 h2
    obtain ⟨a1, a2⟩ := pyOf_dp m rx h1
    obtain ⟨b1, b2⟩ := pyOf_dp m ry h2
    exact ⟨p, q, hk ▸ a1, hk ▸ b1, a2, b2, o φ _ H Ext.refl (.bl _) m⟩
  · exact o.elim
theorem ne_o (hk : g.r.K = X.K) : Op2 g (rNeD X.K) vNe := by
  intro W σ φ H h x y d e Q rx ry m o
  unfold vNe at o
  split at o
  · rename_i p q h1 h2
    obtain ⟨a1, a2⟩ := pyOf_dp m rx h1
    obtain ⟨b1, b2⟩ := pyOf_dp m ry h2
    exact ⟨p, q, hk ▸ a1, hk ▸ b1, a2, b2, o φ _ H Ext.refl (.bl _) m⟩
  · exact o.elim
/-- in a list or a tuple of data -/
def rInA (K : PySem.W.Frag) (neg : Bool) : R2 := fun x y H Q => ∃ d e l, Dp K H x d ∧ Dp K H y e ∧ SeqAt.shaped d = true ∧ SeqAt.shaped e = true ∧ isSeq e = some l ∧ Q (.bl (if neg then !(l.any fun z => PyData.eqv z d) else l.any fun z => PyData.eqv z d)) H
theorem opIn (hu : X.A.units + 65 < cLine) : OpR X (compareOp .In) (rInA X.K false) := by
  intro pins s σ H x y v u Q I rx ry h
  obtain ⟨d, e, l, hd, he, sd, se, hl, q⟩ := h
  obtain ⟨as, r1⟩ := Dp.reads I d x v hd rx
  obtain ⟨bs, r2⟩ := Dp.reads I e y u he ry
  cases e with
  | list ds =>
    cases hl
    exact SeqAt.in_list_reads r2 r1 (SeqAt.canLay_of_shaped se) (SeqAt.canLay_of_shaped sd) (room_in_shaped sd hu) ⟨.bl _, H, I, rfl, q⟩
  | tuple ds =>
    cases hl
    exact SeqAt.in_tuple_reads r2 r1 (SeqAt.canLay_of_shaped se) (SeqAt.canLay_of_shaped sd) (room_in_shaped sd hu) ⟨.bl _, H, I, rfl, q⟩
  | _ => cases hl
theorem opNotIn (hu : X.A.units + 65 < cLine) : OpR X (compareOp .NotIn) (rInA X.K true) := by
  intro pins s σ H x y v u Q I rx ry h
  obtain ⟨d, e, l, hd, he, sd, se, hl, q⟩ := h
  obtain ⟨as, r1⟩ := Dp.reads I d x v hd rx
  obtain ⟨bs, r2⟩ := Dp.reads I e y u he ry
  cases e with
  | list ds =>
    cases hl
    exact SeqAt.notIn_list_reads r2 r1 (SeqAt.canLay_of_shaped se) (SeqAt.canLay_of_shaped sd) (room_in_shaped sd hu) ⟨.bl _, H, I, rfl, q⟩
  | tuple ds =>
    cases hl
    exact SeqAt.notIn_tuple_reads r2 r1 (SeqAt.canLay_of_shaped se) (SeqAt.canLay_of_shaped sd) (room_in_shaped sd hu) ⟨.bl _, H, I, rfl, q⟩
  | _ => cases hl
theorem in_o (hk : g.r.K = X.K) : Op2 g (rInA X.K false) vIn := by
  intro W σ φ H h x y d e Q rx ry m o
  unfold vIn at o
  split at o
  · rename_i p q h1 h2
    obtain ⟨a1, a2⟩ := pyOf_dp m rx h1
    obtain ⟨b1, b2⟩ := pyOf_dp m ry h2
    split at o
    · rename_i l hl
      exact ⟨p, q, l, hk ▸ a1, hk ▸ b1, a2, b2, hl, o φ _ H Ext.refl (.bl _) m⟩
    · exact o.elim
  · exact o.elim
theorem notIn_o (hk : g.r.K = X.K) : Op2 g (rInA X.K true) vNotIn := by
  intro W σ φ H h x y d e Q rx ry m o
  unfold vNotIn at o
  split at o
  · rename_i p q h1 h2
    obtain ⟨a1, a2⟩ := pyOf_dp m rx h1
    obtain ⟨b1, b2⟩ := pyOf_dp m ry h2
    split at o
    · rename_i l hl
      exact ⟨p, q, l, hk ▸ a1, hk ▸ b1, a2, b2, hl, o φ _ H Ext.refl (.bl _) m⟩
    · exact o.elim
  · exact o.elim
variable {W : WX} {ma mb mc : ME} {a b c : Expr} {pos : Pos}
theorem s_eq (hk : g.r.K = X.K) (hu : X.A.units + 64 < cLine) (ha : PE X a (tE g W ma)) (hb : PE X b (tE g W mb)) : PE X (.Compare a [.Eq] [b] pos) (tE g W (mBin vEq ma mb)) := se_cmp (op_eqD hu) (eq_o hk) ha hb (nomark _)
theorem s_ne (hk : g.r.K = X.K) (hu : X.A.units + 64 < cLine) (ha : PE X a (tE g W ma)) (hb : PE X b (tE g W mb)) : PE X (.Compare a [.NotEq] [b] pos) (tE g W (mBin vNe ma mb)) := se_cmp (op_neD hu) (ne_o hk) ha hb (nomark _)
theorem s_in (hk : g.r.K = X.K) (hu : X.A.units + 65 < cLine) (ha : PE X a (tE g W ma)) (hb : PE X b (tE g W mb)) (hm : behindInMarks .In b = false := by rfl) : PE X (.Compare a [.In] [b] pos) (tE g W (mBin vIn ma mb)) := se_cmp (opIn hu) (in_o hk) ha hb hm
theorem s_notIn (hk : g.r.K = X.K) (hu : X.A.units + 65 < cLine) (ha : PE X a (tE g W ma)) (hb : PE X b (tE g W mb)) (hm : behindInMarks .NotIn b = false := by rfl) : PE X (.Compare a [.NotIn] [b] pos) (tE g W (mBin vNotIn ma mb)) := se_cmp (opNotIn hu) (notIn_o hk) ha hb hm
/-- a test of a comparison (any of the above) -/
theorem st_c {op : CmpOp} {m : ME} {t : TE} (h : PE X (.Compare a [op] [b] pos) (tE g W m)) (he : ∀ whole, isTrue (.Compare a [op] [b] pos) X.env whole = (do let v ← whole; standAt pos; holding [v] (truthy v)) := by intro _; rfl) : PT X (.Compare a [op] [b] pos) (tT g W (mTest m)) := st_val h he
/-! ### a < b < c -/
def mChain (f f' : D → D → MH → R D) (a b c : ME) : ME := fun ρ h => (a ρ h).bind fun x h1 => (b ρ h1).bind fun y h2 => (f x y h2).bind fun z h3 => match z with
  | .bl true => (c ρ h3).bind fun w h4 => f' y w h4
  | .bl false => .ok (.bl false) h3
  | _ => .bad
theorem imp_chain {r r' : R2} {f f' : D → D → MH → R D} (hf : Op2 g r f) (hf' : Op2 g r' f') (σ : L2.St) (H : Hp) (Q : VK) (t : tE g W (mChain f f' ma mb mc) σ H Q) : tChain r r' (tE g W ma) (tE g W mb) (tE g W mc) σ H Q := by
  obtain ⟨φ, ρ, h, s, m, o⟩ := t
  refine ⟨φ, ρ, h, s, m, Out.next o fun x h1 φ1 v H1 e1 r1 m1 o1 => ?_⟩
  refine ⟨φ1, ρ, h1, s.ext e1, m1, Out.next o1 fun y h2 φ2 u H2 e2 r2 m2 o2 => ?_⟩
  refine hf (σ := σ) (W := W) (r1.ext e2) r2 m2 (Out.next (rel' := Rep g.r) o2 fun z h3 φ3 w H3 e3 r3 m3 o3 => ?_)
  cases r3 with
  | bl k =>
    refine ⟨k, rfl, ?_⟩
    cases k with
    | true => exact ⟨φ3, ρ, h3, ((s.ext e1).ext e2).ext e3, m3, Out.next o3 fun w h4 φ4 w' H4 e4 r4 m4 o4 => hf' ((r2.ext e3).ext e4) r4 m4 o4⟩
    | false => exact o3 φ3 _ H3 Ext.refl (.bl _) m3
  | _ => exact o3.elim
theorem se_chain {op op' : CmpOp} {r r' : R2} {f f' : D → D → MH → R D} (ho : OpR X (compareOp op) r) (hf : Op2 g r f) (ho' : OpR X (compareOp op') r') (hf' : Op2 g r' f') (ha : PE X a (tE g W ma)) (hb : PE X b (tE g W mb)) (hc : PE X c (tE g W mc))
    (hm : lastMarks [op, op'] [b, c] = false := by with_unfolding_all rfl) : PE X (.Compare a [op, op'] [b, c] pos) (tE g W (mChain f f' ma mb mc)) := pe_imp (pe_chain ho ho' ha hb hc hm) (imp_chain hf hf')
theorem lt_o : Op2 g (rI0 fun i j => .bl (decide (i < j))) vLt := o2I fun _ _ _ _ => .bl _
theorem le_o : Op2 g (rI0 fun i j => .bl (decide (i ≤ j))) vLe := o2I fun _ _ _ _ => .bl _
end

/-! ### items, slices -/
def strAt (z : Str) (i : Int) : Option D := if z.length ≤ 16777216 then (atI z.cps.toList i).map fun c => .str ⟨#[c]⟩ else none
def vIx (d e : D) (h : MH) : R D := match e with
  | .int i => match d with
    | .str z => match strAt z i with
      | some x => .ok x h
      | none => .bad
    | _ => match seqOf h d with
      | some l => match atI l i with
        | some x => .ok x h
        | none => .bad
      | none => .bad
  | _ => .bad
/-- a part of a list or tuple -/
def cutD (l : List D) (lo hi : Option Int) : List D := (l.drop (HT.sIx l.length 0 lo)).take (HT.sIx l.length l.length hi - HT.sIx l.length 0 lo)
def vCut (d : D) (lo hi : Option Int) (h : MH) : R D := match d with
  | .tup l => .ok (.tup (cutD l lo hi)) h
  | .lst l => .ok (.lst (cutD l lo hi)) h
  | .cell n => match h[n]? with
    | some l => .ok (.lst (cutD l lo hi)) h
    | none => .bad
  | .scr l => .ok (.lst (cutD (l.map .int) lo hi)) h
  | _ => .bad
abbrev MO := Env1 → MH → R (Option Int)
def mNoPart : MO := fun _ h => .ok none h
def mPart (a : ME) : MO := fun ρ h => (a ρ h).bind fun x h1 => match x with
  | .int i => .ok (some i) h1
  | _ => .bad
def mCut (a : ME) (lo hi : MO) : ME := fun ρ h => (a ρ h).bind fun x h1 => (lo ρ h1).bind fun l h2 => (hi ρ h2).bind fun u h3 => vCut x l u h3
def rO : Ph → Hp → Option Int → Option Int → Prop := fun _ _ b a => b = a
def tOM (g : Gm) (W : WX) (m : MO) : TO := fun σ H Q => ∃ φ ρ h, Slots g.r φ H σ ρ ∧ Hok g φ H h ∧ Out g W σ φ H rO Q (m ρ h)
section
variable {g : Gm} {X : Cx} {W : WX} {ma mb mc : ME} {a b c : Expr} {pos : Pos}
theorem Reps.at {g : Gm} {φ : Ph} {H : Hp} {xs : List V} {ds : List D} {i : Int} {d : D} (r : Reps g.r φ H xs ds) (e : atI ds i = some d) : ∃ v, atI xs i = some v ∧ Rep g.r φ H v d := by
  unfold atI at e ⊢
  rw [r.length]
  cases h : ixN ds.length i with
  | none => rw [h] at e; cases e
  | some j =>
    rw [h] at e
    obtain ⟨x, e1, e2⟩ := r.get (i := j) (by simpa using e)
    exact ⟨x, by simpa using e1, e2⟩
theorem ix_o (hk : g.r.K = X.K) : Op2 g (rIx X.K) vIx := by
  intro W σ φ H h x y d e Q rx ry m o
  cases ry with
  | int i =>
    by_cases hs : ∃ z, d = .str z
    · obtain ⟨z, rfl⟩ := hs
      cases rx
      have o' : Out g W σ φ H (Rep g.r) Q (match strAt z i with | some x => .ok x h | none => .bad) := o
      unfold strAt at o'
      by_cases hz : z.length ≤ 16777216
      · rw [if_pos hz] at o'
        cases ha : atI z.cps.toList i with
        | none => rw [ha] at o'; exact o'.elim
        | some c =>
          rw [ha] at o'
          exact .inr (.inr ⟨z, i, c, rfl, rfl, line_of_le hz, ha, o' φ _ H Ext.refl (.str _) m⟩)
      · rw [if_neg hz] at o'
        exact o'.elim
    · have e2 : vIx d (.int i) h = (match seqOf h d with
          | some l => match atI l i with
            | some x => .ok x h
            | none => .bad
          | none => .bad) := by
        cases d <;> first | rfl | exact absurd ⟨_, rfl⟩ hs
      rw [e2] at o
      cases hl : seqOf h d with
      | none => rw [hl] at o; exact o.elim
      | some l =>
        rw [hl] at o
        dsimp only at o
        cases ha : atI l i with
        | none => rw [ha] at o; exact o.elim
        | some x' =>
          rw [ha] at o
          obtain ⟨p, xs, ep, q, r⟩ := seqOf_sq rx m hl
          obtain ⟨v, e1, e3⟩ := r.at ha
          rcases q with q | q
          · exact .inr (.inl ⟨p, xs, i, v, ep, rfl, hk ▸ q, e1, o φ _ H Ext.refl e3 m⟩)
          · exact .inl ⟨p, xs, i, v, ep, rfl, hk ▸ q, e1, o φ _ H Ext.refl e3 m⟩
  | _ => exact o.elim
theorem s_ix (hk : g.r.K = X.K) (ha : PE X a (tE g W ma)) (hb : PE X b (tE g W mb)) (hs : PlainIx b := by exact fun _ _ => rfl) : PE X (.Subscript a b pos) (tE g W (mBin vIx ma mb)) := pe_imp (pe_ix ix_seq ha hb hs) (imp_bin (ix_o hk))
theorem so_none : PO X none (tOM g W mNoPart) := ⟨fun pins s σ H Q I t => po_none.run pins s σ H Q I (by
  obtain ⟨φ, ρ, h, s, m, o⟩ := t
  exact o φ none H Ext.refl rfl m)⟩
theorem so_some (ha : PE X a (tE g W ma)) : PO X (some a) (tOM g W (mPart ma)) := ⟨fun pins s σ H Q I t => (po_some ha).run pins s σ H Q I (by
  obtain ⟨φ, ρ, h, s, m, o⟩ := t
  refine ⟨φ, ρ, h, s, m, Out.next o fun x h1 φ1 v H1 e1 r1 m1 o1 => ?_⟩
  cases r1 with
  | int i => exact ⟨i, rfl, o1 φ1 _ H1 Ext.refl rfl m1⟩
  | _ => exact o1.elim)⟩
theorem Reps.cut {g : Gm} {φ : Ph} {H : Hp} {xs : List V} {ds : List D} (r : Reps g.r φ H xs ds) (lo hi : Option Int) : Reps g.r φ H (cutV xs lo hi) (cutD ds lo hi) := by
  unfold cutV cutD
  rw [r.length]
  exact (r.drop _).take _
theorem cutV_whole {xs : List V} {lo hi : Option Int} (h : HT.sIx xs.length 0 lo = 0 ∧ HT.sIx xs.length xs.length hi = xs.length) : cutV xs lo hi = xs := by
  unfold cutV
  rw [h.1, h.2]
  simp
theorem cut_o {lo hi : Option Int} {σ : L2.St} {φ : Ph} {H : Hp} {h : MH} {x : V} {d : D} {Q : VK} (hk : g.r.K = X.K) (rx : Rep g.r φ H x d) (m : Hok g φ H h) (o : Out g W σ φ H (Rep g.r) Q (vCut d lo hi h)) : rSlL X.K x lo hi H Q ∨ rSlA X.K x lo hi H Q := by
  cases rx with
  | tup q r =>
    rename_i a xs ds
    refine .inr ⟨a, xs, rfl, hk ▸ q.sq, fun hw => ?_, fun _ p hp => new_tup m hp (r.cut lo hi) o⟩
    have e := cutV_whole hw
    have rc := r.cut lo hi
    rw [e] at rc
    exact o φ _ H Ext.refl (.tup q rc) m
  | lst q r => exact .inl ⟨_, _, rfl, hk ▸ q.sq, fun p hp => new_lst m hp (r.cut lo hi) o⟩
  | scr q => exact .inl ⟨_, _, rfl, hk ▸ q.sq, fun p hp => new_lst m hp ((reps_ints _).cut lo hi) o⟩
  | cell q =>
    rename_i n
    cases h0 : h[n]? with
    | none => simp only [vCut, h0] at o; exact o.elim
    | some l =>
      simp only [vCut, h0] at o
      obtain ⟨xs, e1, r⟩ := m.at_ _ _ _ q h0
      exact .inl ⟨_, xs, rfl, SqL.of e1, fun p hp => new_lst m hp (r.cut lo hi) o⟩
  | _ => exact o.elim
theorem s_cut {lo hi : Option Expr} {ml mh : MO} {p2 : Pos} (hk : g.r.K = X.K) (ha : PE X a (tE g W ma)) (hl : PO X lo (tOM g W ml)) (hh : PO X hi (tOM g W mh)) : PE X (.Subscript a (.Slice lo hi none p2) pos) (tE g W (mCut ma ml mh)) :=
  pe_imp (pe_slice (sl_list.or sl_tupA) ha hl hh) fun σ H Q t => by
    obtain ⟨φ, ρ, h, s, m, o⟩ := t
    refine ⟨φ, ρ, h, s, m, Out.next o fun x h1 φ1 v H1 e1 r1 m1 o1 => ?_⟩
    refine ⟨φ1, ρ, h1, s.ext e1, m1, Out.next (rel' := rO) o1 fun l h2 φ2 l' H2 e2 r2 m2 o2 => ?_⟩
    refine ⟨φ2, ρ, h2, (s.ext e1).ext e2, m2, Out.next (rel' := rO) o2 fun u h3 φ3 u' H3 e3 r3 m3 o3 => ?_⟩
    cases (show l' = l from r2)
    cases (show u' = u from r3)
    exact cut_o hk ((r1.ext e2).ext e3) m3 o3
/-- xs[::-1] of a list -/
def vRevL (d : D) (h : MH) : R D := match seqOf h d, d with
  | _, .tup _ => .bad
  | some l, _ => .ok (.lst l.reverse) h
  | none, _ => .bad
end
end MI
namespace MI
open PySem PySem.Spec
open PyProof.Rows L2

/-! ### built-ins by name -/
def vOne (f : D → MH → R D) : List D → MH → R D
  | [d], h => f d h
  | _, _ => .bad
def vTwo (f : D → D → MH → R D) : List D → MH → R D
  | [d, e], h => f d e h
  | _, _ => .bad
def vLen (d : D) (h : MH) : R D := match d with
  | .str z => if small z.length = true then .ok (.int (z.length : Int)) h else .bad
  | d => match seqOf h d with
    | some l => .ok (.int (l.length : Int)) h
    | none => .bad
def tyName : D → Option String
  | .non => some "NoneType"
  | .bl _ => some "bool"
  | .int _ => some "int"
  | .str _ => some "str"
  | .tup _ => some "tuple"
  | .ctp _ => some "tuple"
  | .lst _ => some "list"
  | .cell _ => some "list"
  | .scr _ => some "list"
  | .dic _ _ => some "dict"
  | .dcell _ => some "dict"
  | _ => none
/-- isinstance of a value of the built-in type t -/
def isiB (t n : String) : Option Bool :=
  if n = "int" then some (decide (t = "int") || decide (t = "bool"))
  else if n = "bool" then some (decide (t = "bool"))
  else if n = "tuple" then some (decide (t = "tuple"))
  else if n = "list" then some (decide (t = "list"))
  else if n = "str" then some (decide (t = "str"))
  else if n = "dict" then some (decide (t = "dict"))
  else none
def vIsi (d e : D) (h : MH) : R D := match e with
  | .ty n => match tyName d with
    | some t => match isiB t n with
      | some b => .ok (.bl b) h
      | none => .bad
    | none => .bad
  | _ => .bad
def vTuple (d : D) (h : MH) : R D := match d with
  | .ctp l => .ok (.ctp l) h
  | _ => match seqOf h d with
    | some l => .ok (.tup l) h
    | none => .bad
def vList (d : D) (h : MH) : R D := match seqOf h d with
  | some l => .ok (.lst l) h
  | none => .bad
def vListC (d : D) (h : MH) : R D := match seqOf h d with
  | some l => .ok (.cell h.length) (h ++ [l])
  | none => .bad
def asInts : List D → Option (List Int)
  | [] => some []
  | .int i :: r => (asInts r).map (i :: ·)
  | _ => none
def asBools : List D → Option (List Bool)
  | [] => some []
  | .bl b :: r => (asBools r).map (b :: ·)
  | _ => none
def listOf (h : MH) : D → Option (List D)
  | .lst l => some l
  | .cell n => h[n]?
  | .scr l => some (l.map .int)
  | _ => none
def vSum (d : D) (h : MH) : R D := match (listOf h d).bind asInts with
  | some l => .ok (.int l.sum) h
  | none => .bad
def vAll (d : D) (h : MH) : R D := match (listOf h d).bind asBools with
  | some l => .ok (.bl (l.all id)) h
  | none => .bad
def vAny (d : D) (h : MH) : R D := match (listOf h d).bind asBools with
  | some l => .ok (.bl (l.any id)) h
  | none => .bad
def maxI : List Int → Int
  | [] => 0
  | [i] => i
  | i :: r => if maxI r > i then maxI r else i
def minI : List Int → Int
  | [] => 0
  | [i] => i
  | i :: r => if minI r < i then minI r else i
def vMaxL (d : D) (h : MH) : R D := match (listOf h d).bind asInts with
  | some (i :: l) => .ok (.int (maxI (i :: l))) h
  | _ => .bad
def vMinL (d : D) (h : MH) : R D := match (listOf h d).bind asInts with
  | some (i :: l) => .ok (.int (minI (i :: l))) h
  | _ => .bad
def insI (i : Int) : List Int → List Int
  | [] => [i]
  | j :: r => if i ≤ j then i :: j :: r else j :: insI i r
def isort : List Int → List Int
  | [] => []
  | i :: r => insI i (isort r)
def vSortI (d : D) (h : MH) : R D := match (listOf h d).bind asInts with
  | some l => .ok (.lst ((isort l).map .int)) h
  | none => .bad
def vAbs (d : D) (h : MH) : R D := match d with
  | .int i => .ok (.int (if i < 0 then -i else i)) h
  | _ => .bad
def vInt (d : D) (h : MH) : R D := match d with
  | .int i => .ok (.int i) h
  | .bl k => .ok (.int (if k then 1 else 0)) h
  | _ => .bad
def vMax2 (d e : D) (h : MH) : R D := match d, e with
  | .int i, .int j => .ok (.int (if j > i then j else i)) h
  | _, _ => .bad
def vMin2 (d e : D) (h : MH) : R D := match d, e with
  | .int i, .int j => .ok (.int (if j < i then j else i)) h
  | _, _ => .bad
def vGcd (d e : D) (h : MH) : R D := match d, e with
  | .int i, .int j => .ok (.int ((Nat.gcd i.natAbs j.natAbs : Nat) : Int)) h
  | _, _ => .bad
def vRepr (d : D) (h : MH) : R D := match d with
  | .bl b => .ok (.str (if b then "True" else "False")) h
  | .non => .ok (.str "None") h
  | .int i => if i.natAbs.log2 < 1920 then .ok (.str (toString i)) h else .bad
  | _ => .bad

theorem insI_perm (i : Int) : ∀ l : List Int, (insI i l).Perm (i :: l)
  | [] => .refl _
  | j :: r => by
    unfold insI
    split
    · exact .refl _
    · exact ((insI_perm i r).cons j).trans (.swap i j r)
theorem isort_perm : ∀ l : List Int, (isort l).Perm l
  | [] => .refl _
  | i :: r => (insI_perm i _).trans ((isort_perm r).cons i)
theorem insI_sorted (i : Int) : ∀ l : List Int, l.Pairwise (· ≤ ·) → (insI i l).Pairwise (· ≤ ·)
  | [], _ => by simp [insI]
  | j :: r, h => by
    unfold insI
    rw [List.pairwise_cons] at h
    split
    · rename_i hij
      refine List.pairwise_cons.mpr ⟨fun k hk => ?_, List.pairwise_cons.mpr h⟩
      rcases List.mem_cons.mp hk with e | hk
      · rw [e]; exact hij
      · exact Int.le_trans hij (h.1 k hk)
    · rename_i hij
      refine List.pairwise_cons.mpr ⟨fun k hk => ?_, insI_sorted i r h.2⟩
      rcases List.mem_cons.mp ((insI_perm i r).mem_iff.mp hk) with e | hk
      · rw [e]; omega
      · exact h.1 k hk
theorem isort_sorted : ∀ l : List Int, (isort l).Pairwise (· ≤ ·)
  | [] => .nil
  | i :: r => insI_sorted i _ (isort_sorted r)
theorem maxI_mem : ∀ (i : Int) (l : List Int), maxI (i :: l) ∈ i :: l
  | i, [] => by simp [maxI]
  | i, j :: r => by
    have ih := maxI_mem j r
    show (if maxI (j :: r) > i then maxI (j :: r) else i) ∈ i :: j :: r
    split
    · exact List.mem_cons_of_mem _ ih
    · exact List.mem_cons_self
theorem maxI_le : ∀ (i : Int) (l : List Int), ∀ k ∈ i :: l, k ≤ maxI (i :: l)
  | i, [], k, hk => by simp at hk; simp [maxI, hk]
  | i, j :: r, k, hk => by
    have ih := maxI_le j r
    show k ≤ (if maxI (j :: r) > i then maxI (j :: r) else i)
    rcases List.mem_cons.mp hk with e | hk
    · subst e; split <;> omega
    · have := ih k hk
      split <;> omega
theorem minI_mem : ∀ (i : Int) (l : List Int), minI (i :: l) ∈ i :: l
  | i, [] => by simp [minI]
  | i, j :: r => by
    have ih := minI_mem j r
    show (if minI (j :: r) < i then minI (j :: r) else i) ∈ i :: j :: r
    split
    · exact List.mem_cons_of_mem _ ih
    · exact List.mem_cons_self
theorem minI_le : ∀ (i : Int) (l : List Int), ∀ k ∈ i :: l, minI (i :: l) ≤ k
  | i, [], k, hk => by simp at hk; simp [minI, hk]
  | i, j :: r, k, hk => by
    have ih := minI_le j r
    show (if minI (j :: r) < i then minI (j :: r) else i) ≤ k
    rcases List.mem_cons.mp hk with e | hk
    · subst e; split <;> omega
    · have := ih k hk
      split <;> omega

section
variable {g : Gm} {X : Cx}
theorem oOne {r : List V → Hp → VK → Prop} {f : D → MH → R D} (ho : Op1 g (fun x H Q => r [x] H Q) f) : OpN g r (vOne f) := by
  intro W σ φ H h xs ds Q rr m o
  cases rr with
  | nil => exact o.elim
  | cons r1 rr =>
    cases rr with
    | nil => exact ho r1 m o
    | cons _ _ => exact o.elim
theorem oTwo {r : List V → Hp → VK → Prop} {f : D → D → MH → R D} (ho : Op2 g (fun x y H Q => r [x, y] H Q) f) : OpN g r (vTwo f) := by
  intro W σ φ H h xs ds Q rr m o
  cases rr with
  | nil => exact o.elim
  | cons r1 rr =>
    cases rr with
    | nil => exact o.elim
    | cons r2 rr =>
      cases rr with
      | nil => exact ho r1 r2 m o
      | cons _ _ => exact o.elim
theorem len_o (hk : g.r.K = X.K) : Op1 g (fun x H Q => ∃ x' n, [x] = [x'] ∧ LenV X.K x' H n ∧ Q (.int n) H) vLen := by
  intro W σ φ H h x d Q rx m o
  by_cases hs : ∃ z, d = .str z
  · obtain ⟨z, rfl⟩ := hs
    cases rx
    have o' : Out g W σ φ H (Rep g.r) Q (if small z.length = true then .ok (.int (z.length : Int)) h else .bad) := o
    by_cases hz : small z.length = true
    · rw [if_pos hz] at o'
      exact ⟨_, z.length, rfl, ⟨small_line hz, rfl⟩, o' φ _ H Ext.refl (.int _) m⟩
    · rw [if_neg hz] at o'
      exact o'.elim
  · have e2 : vLen d h = (match seqOf h d with
        | some l => .ok (.int (l.length : Int)) h
        | none => .bad) := by
      cases d <;> first | rfl | exact absurd ⟨_, rfl⟩ hs
    rw [e2] at o
    cases hl : seqOf h d with
    | none => rw [hl] at o; exact o.elim
    | some l =>
      rw [hl] at o
      obtain ⟨p, xs, rfl, q, r⟩ := seqOf_sq rx m hl
      refine ⟨_, l.length, rfl, ?_, o φ _ H Ext.refl (.int _) m⟩
      rcases q with q | q
      · exact .inr ⟨xs, hk ▸ q, r.length.symm⟩
      · exact .inl ⟨xs, hk ▸ q, r.length.symm⟩
def tyNames : List String := ["NoneType", "bool", "int", "str", "tuple", "list", "dict"]
theorem isi_all : (tyNames.all fun t => (["int", "bool", "tuple", "list", "str", "dict"] : List String).all fun n => kitB t n == isiB t n) = true := by decide +kernel
theorem isi_kit {t n : String} {b : Bool} (ht : t ∈ tyNames) (h : isiB t n = some b) : kitB t n = some b := by
  have q := List.all_eq_true.mp (List.all_eq_true.mp isi_all t ht)
  have hn : n ∈ (["int", "bool", "tuple", "list", "str", "dict"] : List String) := by
    unfold isiB at h
    repeat (split at h; · simp_all)
    cases h
  have := q n hn
  rw [beq_iff_eq] at this
  rw [this, h]
/-- what the isinstance rules ask, of a value of the type t -/
def TyZ (X : Cx) (H : Hp) (v : V) (t : Value) : Prop := ∀ {pins : List (Addr × Obj)} {σ : L2.St} {s : Shared} {u : Value}, Inv X pins σ H s → RelV v u → ∃ P : Heap → Prop, PySem.W.KitX X.K u t P ∧ P s.heap ∧ u ≠ .builtin "__main__.__loader__#opaque"
def rIsiZ (X : Cx) : List V → Hp → VK → Prop := fun xs H Q => ∃ (x c : V) (t u : Value) (b : Bool), xs = [x, c] ∧ ClsV c u ∧ TyZ X H x t ∧ PySem.W.kitOne X.K t u = some b ∧ Q (.bl b) H
theorem call_isiZ : CallR X (.builtin "isinstance") (rIsiZ X) := by
  intro pins s σ H xs us Q I r h
  obtain ⟨x, c, t, u, b, rfl, k, ty, e, q⟩ := h
  obtain ⟨u1, u2, rfl, r1, r2⟩ := vals2 r
  have e2 := k.eq r2
  subst e2
  obtain ⟨P, Z, p, hx⟩ := ty I r1
  exact PySem.W.kia_one Z I.kIn p e hx fun tk => ⟨.bl b, H, I.tok tk, rfl, q⟩
theorem TyZ.of {H : Hp} {v : V} {t : Value} (h : TyX X.K H v t) : TyZ X H v t := fun I r => kit_of I r h
theorem TyZ.dic {H : Hp} {a : Addr} {u : HO} (h : Rd H a u) (d : Dc u) : TyZ X H (.ref a) (.type "dict") := by
  cases u with
  | dK kvs =>
    rcases h with h | ⟨o, h⟩
    · exact TyZ.of (.base (.dK h))
    · exact TyZ.of (.fDict h)
  | dT kvs =>
    rcases h with h | ⟨ob, h⟩
    · exact TyZ.of (.base (.dT h))
    · intro pins σ s u I r
      cases (show u = Value.ref a from r)
      obtain ⟨_, _, _, xs, _, o, es, ep, h1, h2, _⟩ := (show ObjOk X.prog X.w H s.heap a (.frz ob (.dT kvs)) from I.hok a _ h)
      exact ⟨_, PySem.W.kitx_dict, ⟨o, h1, h2.1⟩, fun z => nomatch z⟩
  | _ => exact d.elim
theorem tyName_z {φ : Ph} {h : MH} {v : V} {d : D} {t : String} {H : Hp} (hk : g.r.K = X.K) (r : Rep g.r φ H v d) (m : Hok g φ H h) (e : tyName d = some t) : t ∈ tyNames ∧ TyZ X H v (.type t) := by
  have ln : ∀ {n : Nat} {a : Addr}, φ.c[n]? = some a → n < h.length := fun q => by rw [← m.len]; exact (List.getElem?_eq_some_iff.mp q).1
  cases r with
  | non => cases e; exact ⟨by decide, TyZ.of (.base .non)⟩
  | bl b => cases e; exact ⟨by decide, TyZ.of (.base (.bl b))⟩
  | int b => cases e; exact ⟨by decide, TyZ.of (.base (.int b))⟩
  | str b => cases e; exact ⟨by decide, TyZ.of (.base (.str b))⟩
  | tup q r =>
    cases e
    refine ⟨by decide, ?_⟩
    exact TyZ.of (.base (.tup q.1))
  | ctp q =>
    cases e
    refine ⟨by decide, ?_⟩
    rw [hk] at q
    rcases q with (q | ⟨o, q⟩) | ⟨o, its, n, q1, q2, _⟩
    · cases q
    · cases q
    · exact TyZ.of (.kTuple q1 q2)
  | lst q r => cases e; exact ⟨by decide, TyZ.of (.base (.lst q.1))⟩
  | scr q =>
    cases e
    refine ⟨by decide, ?_⟩
    rw [hk] at q
    rcases q with ⟨q | ⟨o, q⟩, _⟩ | (q | ⟨o, q⟩) | ⟨o, its, n, q1, q2, _⟩
    · exact TyZ.of (.base (.lst q))
    · exact TyZ.of (.base (.frz q))
    · cases q
    · cases q
    · exact TyZ.of (.kList q1 q2)
  | dic q n e1 r => cases e; exact ⟨by decide, TyZ.dic q trivial⟩
  | dicT q n e1 r => cases e; exact ⟨by decide, TyZ.dic q trivial⟩
  | cell q =>
    rename_i a n
    cases e
    obtain ⟨xs, e1, _⟩ := m.at_ n a (h[n]'(ln q.1)) q (by simp [ln q.1])
    exact ⟨by decide, TyZ.of (.base (.lst e1))⟩
  | dcell q =>
    rename_i a n
    cases e
    obtain ⟨ks, vs, u, hd, q2⟩ := m.atD n a (h[n]'(ln q.1)) q (by simp [ln q.1])
    refine ⟨by decide, ?_⟩
    have dc : Dc u := by rcases hd with ⟨_, rfl, _⟩ | ⟨_, rfl, _⟩ <;> trivial
    rcases q2 with ⟨_, q2⟩ | ⟨_, o, q2⟩
    · exact fun _ _ _ _ I r => TyZ.dic (X := X) (.inl q2) dc I r
    · exact fun _ _ _ _ I r => TyZ.dic (X := X) (.inr ⟨o, q2⟩) dc I r
  | _ => cases e
theorem isi_o (hk : g.r.K = X.K) : Op2 g (fun x y H Q => rIsiZ X [x, y] H Q) vIsi := by
  intro W σ φ H h x y d e Q rx ry m o
  cases ry with
  | ty n =>
    cases ht : tyName d with
    | none => simp only [vIsi, ht] at o; exact o.elim
    | some t =>
      cases hb : isiB t n with
      | none => simp only [vIsi, ht, hb] at o; exact o.elim
      | some b =>
        simp only [vIsi, ht, hb] at o
        obtain ⟨t1, t2⟩ := tyName_z hk rx m ht
        exact ⟨x, .ty n, .type t, .type n, b, rfl, .ty n, t2, kit_ty (isi_kit t1 hb), o φ _ H Ext.refl (.bl _) m⟩
  | _ => exact o.elim
theorem tuple_o (hk : g.r.K = X.K) : Op1 g (fun x H Q => ∃ p ys, [x] = [.ref p] ∧ ((SqL X.K H p ys ∧ ∀ l, H l = none → Q (.ref l) (upd H l (.tup ys))) ∨ (SqT X.K H p ys ∧ Q (.ref p) H))) vTuple := by
  intro W σ φ H h x d Q rx m o
  unfold vTuple at o
  split at o
  · cases rx with
    | ctp q => exact ⟨_, _, rfl, .inr ⟨hk ▸ ctp_sq q, o φ _ H Ext.refl (.ctp q) m⟩⟩
  · rename_i hn
    cases hl : seqOf h d with
    | none => rw [hl] at o; exact o.elim
    | some l =>
      rw [hl] at o
      cases rx with
      | tup q r => cases hl; exact ⟨_, _, rfl, .inr ⟨hk ▸ q.sq, o φ _ H Ext.refl (.tup q r) m⟩⟩
      | lst q r => cases hl; exact ⟨_, _, rfl, .inl ⟨hk ▸ q.sq, fun p hp => new_tup m hp r o⟩⟩
      | scr q => cases hl; exact ⟨_, _, rfl, .inl ⟨hk ▸ q.sq, fun p hp => new_tup m hp (reps_ints _) o⟩⟩
      | ctp q => exact absurd rfl (hn _)
      | cell q =>
        obtain ⟨xs, e1, r⟩ := m.at_ _ _ _ q hl
        exact ⟨_, xs, rfl, .inl ⟨SqL.of e1, fun p hp => new_tup m hp r o⟩⟩
      | _ => cases hl
def rListOf (K : PySem.W.Frag) : List V → Hp → VK → Prop := fun xs H Q => ∃ p ys, xs = [.ref p] ∧ (SqL K H p ys ∨ SqT K H p ys) ∧ ∀ l, H l = none → Q (.ref l) (upd H l (.lst ys))
theorem list_o (hk : g.r.K = X.K) : Op1 g (fun x H Q => rListOf X.K [x] H Q) vList := by
  intro W σ φ H h x d Q rx m o
  unfold vList at o
  cases hl : seqOf h d with
  | none => rw [hl] at o; exact o.elim
  | some l =>
    rw [hl] at o
    obtain ⟨p, xs, rfl, q, r⟩ := seqOf_sq rx m hl
    exact ⟨p, xs, rfl, by rw [← hk]; exact q.symm, fun l hl => new_lst m hl r o⟩
theorem listC_o (hk : g.r.K = X.K) : Op1 g (fun x H Q => rListOf X.K [x] H Q) vListC := by
  intro W σ φ H h x d Q rx m o
  unfold vListC at o
  cases hl : seqOf h d with
  | none => rw [hl] at o; exact o.elim
  | some l =>
    rw [hl] at o
    obtain ⟨p, xs, rfl, q, r⟩ := seqOf_sq rx m hl
    exact ⟨p, xs, rfl, by rw [← hk]; exact q.symm, fun l hl => new_cell m hl r o⟩
theorem asInts_map : ∀ {ds : List D} {l : List Int}, asInts ds = some l → ds = l.map D.int
  | [], l, e => by cases e; rfl
  | d :: r, l, e => by
    cases d with
    | int i =>
      rw [asInts] at e
      cases h1 : asInts r with
      | none => rw [h1] at e; cases e
      | some m => rw [h1] at e; cases e; rw [asInts_map h1]; rfl
    | _ => simp [asInts] at e
theorem asBools_map : ∀ {ds : List D} {l : List Bool}, asBools ds = some l → ds = l.map D.bl
  | [], l, e => by cases e; rfl
  | d :: r, l, e => by
    cases d with
    | bl i =>
      rw [asBools] at e
      cases h1 : asBools r with
      | none => rw [h1] at e; cases e
      | some m => rw [h1] at e; cases e; rw [asBools_map h1]; rfl
    | _ => simp [asBools] at e
theorem reps_int_v {g : Gm} {φ : Ph} {H : Hp} : ∀ {xs : List V} {l : List Int}, Reps g.r φ H xs (l.map D.int) → xs = l.map V.int
  | [], [], _ => rfl
  | _, i :: r, .cons h t => by cases h; rw [reps_int_v t]; rfl
theorem reps_bl_v {g : Gm} {φ : Ph} {H : Hp} : ∀ {xs : List V} {l : List Bool}, Reps g.r φ H xs (l.map D.bl) → xs = l.map V.bl
  | [], [], _ => rfl
  | _, i :: r, .cons h t => by cases h; rw [reps_bl_v t]; rfl
theorem listOf_at {φ : Ph} {h : MH} {v : V} {d : D} {l : List D} {H : Hp} (r : Rep g.r φ H v d) (m : Hok g φ H h) (e : listOf h d = some l) : ∃ a xs, v = .ref a ∧ SqL g.r.K H a xs ∧ Reps g.r φ H xs l := by
  cases r with
  | lst q r => cases e; exact ⟨_, _, rfl, q.sq, r⟩
  | scr q => cases e; exact ⟨_, _, rfl, q.sq, reps_ints _⟩
  | cell q =>
    obtain ⟨xs, e1, r⟩ := m.at_ _ _ _ q e
    exact ⟨_, xs, rfl, SqL.of e1, r⟩
  | _ => cases e
theorem ints_at {φ : Ph} {h : MH} {v : V} {d : D} {l : List Int} {H : Hp} (r : Rep g.r φ H v d) (m : Hok g φ H h) (e : (listOf h d).bind asInts = some l) : ∃ a, v = .ref a ∧ SqL g.r.K H a (l.map V.int) := by
  cases h1 : listOf h d with
  | none => rw [h1] at e; cases e
  | some ds =>
    rw [h1] at e
    obtain ⟨a, xs, rfl, q, rr⟩ := listOf_at r m h1
    rw [asInts_map (show asInts ds = some l from e)] at rr
    exact ⟨a, rfl, by rw [← reps_int_v rr]; exact q⟩
theorem bools_at {φ : Ph} {h : MH} {v : V} {d : D} {l : List Bool} {H : Hp} (r : Rep g.r φ H v d) (m : Hok g φ H h) (e : (listOf h d).bind asBools = some l) : ∃ a, v = .ref a ∧ SqL g.r.K H a (l.map V.bl) := by
  cases h1 : listOf h d with
  | none => rw [h1] at e; cases e
  | some ds =>
    rw [h1] at e
    obtain ⟨a, xs, rfl, q, rr⟩ := listOf_at r m h1
    rw [asBools_map (show asBools ds = some l from e)] at rr
    exact ⟨a, rfl, by rw [← reps_bl_v rr]; exact q⟩
theorem sum_o (hk : g.r.K = X.K) : Op1 g (fun x H Q => rSum X.K [x] H Q) vSum := by
  intro W σ φ H h x d Q rx m o
  unfold vSum at o
  split at o
  · rename_i l hl
    obtain ⟨a, rfl, q⟩ := ints_at rx m hl
    exact ⟨a, l, rfl, hk ▸ q, o φ _ H Ext.refl (.int _) m⟩
  · exact o.elim
theorem all_o (hk : g.r.K = X.K) : Op1 g (fun x H Q => rAll X.K [x] H Q) vAll := by
  intro W σ φ H h x d Q rx m o
  unfold vAll at o
  split at o
  · rename_i l hl
    obtain ⟨a, rfl, q⟩ := bools_at rx m hl
    exact ⟨a, l, rfl, hk ▸ q, o φ _ H Ext.refl (.bl _) m⟩
  · exact o.elim
theorem any_o (hk : g.r.K = X.K) : Op1 g (fun x H Q => rAny X.K [x] H Q) vAny := by
  intro W σ φ H h x d Q rx m o
  unfold vAny at o
  split at o
  · rename_i l hl
    obtain ⟨a, rfl, q⟩ := bools_at rx m hl
    exact ⟨a, l, rfl, hk ▸ q, o φ _ H Ext.refl (.bl _) m⟩
  · exact o.elim
theorem maxL_o (hk : g.r.K = X.K) : Op1 g (fun x H Q => rMax X.K [x] H Q) vMaxL := by
  intro W σ φ H h x d Q rx m o
  unfold vMaxL at o
  split at o
  · rename_i i l hl
    obtain ⟨a, rfl, q⟩ := ints_at rx m hl
    refine ⟨a, i :: l, rfl, hk ▸ q, by simp, fun z hz hm => ?_⟩
    have e : z = maxI (i :: l) := Int.le_antisymm (maxI_le i l z hz) (hm _ (maxI_mem i l))
    rw [e]
    exact o φ _ H Ext.refl (.int _) m
  · exact o.elim
theorem minL_o (hk : g.r.K = X.K) : Op1 g (fun x H Q => rMin X.K [x] H Q) vMinL := by
  intro W σ φ H h x d Q rx m o
  unfold vMinL at o
  split at o
  · rename_i i l hl
    obtain ⟨a, rfl, q⟩ := ints_at rx m hl
    refine ⟨a, i :: l, rfl, hk ▸ q, by simp, fun z hz hm => ?_⟩
    have e : z = minI (i :: l) := Int.le_antisymm (hm _ (minI_mem i l)) (minI_le i l z hz)
    rw [e]
    exact o φ _ H Ext.refl (.int _) m
  · exact o.elim
theorem sortI_o (hk : g.r.K = X.K) : Op1 g (fun x H Q => rSortedI X.K [x] H Q) vSortI := by
  intro W σ φ H h x d Q rx m o
  unfold vSortI at o
  split at o
  · rename_i l hl
    obtain ⟨a, rfl, q⟩ := ints_at rx m hl
    refine ⟨a, l, rfl, hk ▸ q, fun ns p hp hs hn => ?_⟩
    have e : ns = isort l := PySem.W.ksm_same (hp.trans (isort_perm l).symm) hs (isort_sorted l)
    rw [e]
    exact new_lst m hn (reps_ints _) o
  · exact o.elim
theorem abs_o : Op1 g (fun x H Q => ∃ i, [x] = [.int i] ∧ Q (.int (if i < 0 then -i else i)) H) vAbs := by
  intro W σ φ H h x d Q rx m o
  cases rx with
  | int i => exact ⟨i, rfl, o φ _ H Ext.refl (.int _) m⟩
  | _ => exact o.elim
theorem int_o : Op1 g (fun x H Q => (∃ i, [x] = [.int i] ∧ Q (.int i) H) ∨ ∃ k, [x] = [.bl k] ∧ Q (.int (if k then 1 else 0)) H) vInt := by
  intro W σ φ H h x d Q rx m o
  cases rx with
  | int i => exact .inl ⟨i, rfl, o φ _ H Ext.refl (.int _) m⟩
  | bl i => exact .inr ⟨i, rfl, o φ _ H Ext.refl (.int _) m⟩
  | _ => exact o.elim
theorem max2_o : Op2 g (fun x y H Q => ∃ i j, [x, y] = [.int i, .int j] ∧ Q (.int (if j > i then j else i)) H) vMax2 := by
  intro W σ φ H h x y d e Q rx ry m o
  cases rx with
  | int i =>
    cases ry with
    | int j => exact ⟨i, j, rfl, o φ _ H Ext.refl (.int _) m⟩
    | _ => exact o.elim
  | _ => exact o.elim
theorem min2_o : Op2 g (fun x y H Q => ∃ i j, [x, y] = [.int i, .int j] ∧ Q (.int (if j < i then j else i)) H) vMin2 := by
  intro W σ φ H h x y d e Q rx ry m o
  cases rx with
  | int i =>
    cases ry with
    | int j => exact ⟨i, j, rfl, o φ _ H Ext.refl (.int _) m⟩
    | _ => exact o.elim
  | _ => exact o.elim
theorem gcd_o : Op2 g (fun x y H Q => rGcd [x, y] H Q) vGcd := by
  intro W σ φ H h x y d e Q rx ry m o
  cases rx with
  | int i =>
    cases ry with
    | int j => exact ⟨i, j, rfl, o φ _ H Ext.refl (.int _) m⟩
    | _ => exact o.elim
  | _ => exact o.elim
def rRepr : List V → Hp → VK → Prop := fun xs H Q => (∃ i, xs = [.int i] ∧ i.natAbs.log2 < 1920 ∧ Q (.str (toString i)) H) ∨ (∃ b, xs = [.bl b] ∧ Q (.str (if b then "True" else "False")) H) ∨ (xs = [.non] ∧ Q (.str "None") H)
theorem call_repr : CallR X (.builtin "repr") rRepr := by
  intro pins s σ H xs us Q I r h
  rcases h with ⟨i, rfl, hz, q⟩ | ⟨b, rfl, q⟩ | ⟨rfl, q⟩
  · obtain ⟨u, rfl, t, rfl⟩ := vals1 r
    exact PySem.P.repr_of_int hz ⟨.str _, H, I.tok _, ⟨_, rfl⟩, q⟩
  · obtain ⟨u, rfl, rx⟩ := vals1 r
    cases rx
    exact PySem.P.repr_of_bool ⟨.str _, H, I.tok _, ⟨_, rfl⟩, q⟩
  · obtain ⟨u, rfl, rx⟩ := vals1 r
    cases rx
    exact PySem.P.repr_of_none ⟨.str _, H, I.tok _, ⟨_, rfl⟩, q⟩
theorem repr_o : Op1 g (fun x H Q => rRepr [x] H Q) vRepr := by
  intro W σ φ H h x d Q rx m o
  cases rx with
  | bl i => exact .inr (.inl ⟨i, rfl, o φ _ H Ext.refl (.str _) m⟩)
  | non => exact .inr (.inr ⟨rfl, o φ _ H Ext.refl (.str _) m⟩)
  | int i =>
    simp only [vRepr] at o
    split at o
    · rename_i hl
      exact .inl ⟨i, rfl, hl, o φ _ H Ext.refl (.str _) m⟩
    · exact o.elim
  | _ => exact o.elim

/-! the calls -/
variable {W : WX} {mas : MA} {e : Expr} {es : List Expr} {p pos : Pos} {x : Str}
theorem s_blt {id : String} {r : List V → Hp → VK → Prop} {f : List D → MH → R D} (hc : CallR X (.builtin id) r) (ho : OpN g r f) (hv : bootBuiltins x = some (.builtin id)) (hm : X.mg x = none) (ha : PA X (e :: es) (tA g W mas)) (hg : Gl X x := by rfl)
    (hn : x ≠ "__name__" := by decide) (hdb : (x == ("__debug__" : Str)) = false := by decide) (he : starEach (e :: es) X.env = (false, eval e X.env) :: starEach es X.env := by rfl) (hpl : (backTo pos (starEach es X.env)).any (·.1) = false := by rfl) :
    PE X (.Call (.Name x p) (e :: es) [] pos) (tE g W (mCall f mas)) := pe_imp (pe_callB hc hg hm hv ha hn hdb he hpl) (imp_cb ho)
theorem s_bty {T : String} {r : List V → Hp → VK → Prop} {f : List D → MH → R D} (hc : CallR X (.type T) r) (ho : OpN g r f) (hv : bootBuiltins x = some (.type T)) (hm : X.mg x = none) (ha : PA X (e :: es) (tA g W mas)) (hg : Gl X x := by rfl)
    (hn : x ≠ "__name__" := by decide) (hdb : (x == ("__debug__" : Str)) = false := by decide) (he : starEach (e :: es) X.env = (false, eval e X.env) :: starEach es X.env := by rfl) (hpl : (backTo pos (starEach es X.env)).any (·.1) = false := by rfl) :
    PE X (.Call (.Name x p) (e :: es) [] pos) (tE g W (mCall f mas)) := pe_imp (pe_callTy hc hg hm hv ha hn hdb he hpl) (imp_cb ho)
/-- a built-in that a module's name holds (gcd) -/
theorem s_bfun {id : String} {r : List V → Hp → VK → Prop} {f : List D → MH → R D} (hc : CallR X (.builtin id) r) (ho : OpN g r f) (hm : X.mg x = some (.builtin id)) (ha : PA X (e :: es) (tA g W mas)) (hg : Gl X x := by rfl)
    (hdb : (x == ("__debug__" : Str)) = false := by decide) (he : starEach (e :: es) X.env = (false, eval e X.env) :: starEach es X.env := by rfl) (hpl : (backTo pos (starEach es X.env)).any (·.1) = false := by rfl) :
    PE X (.Call (.Name x p) (e :: es) [] pos) (tE g W (mCall f mas)) := pe_imp (pe_callBfun hc hg hm ha hdb he hpl) (imp_cb ho)
end
end MI
namespace MI
open PySem PySem.Spec
open PyProof.Rows L2

/-! ### statements -/
inductive F where
  | nx (ρ : Env1) (h : MH)
  | rt (d : D) (h : MH)
  | bk (ρ : Env1) (h : MH)
  | ct (ρ : Env1) (h : MH)
  | exc (ρ : Env1) (e : Exc) (h : MH)
  | bad
abbrev MS := Env1 → MH → F
def OutS (g : Gm) (W : WX) (φ : Ph) (H : Hp) (E : Ends) : F → Prop
  | .nx ρ h => ∀ φ' σ' H', Ext φ H φ' H' → Slots g.r φ' H' σ' ρ → Hok g φ' H' h → E.nx σ' H'
  | .rt d h => ∀ φ' v H', Ext φ H φ' H' → Rep g.r φ' H' v d → Hok g φ' H' h → E.rt v H'
  | .bk ρ h => ∀ φ' σ' H', Ext φ H φ' H' → Slots g.r φ' H' σ' ρ → Hok g φ' H' h → E.bk σ' H'
  | .ct ρ h => ∀ φ' σ' H', Ext φ H φ' H' → Slots g.r φ' H' σ' ρ → Hok g φ' H' h → E.ct σ' H'
  | .exc ρ e h => ∀ φ' σ' c dx H', Ext φ H φ' H' → Slots g.r φ' H' σ' ρ → ExRep g φ' H' c dx e → Hok g φ' H' h → W c dx σ' H'
  | .bad => False
def tS (g : Gm) (W : WX) (m : MS) : TS := fun E σ H => ∃ φ ρ h, Slots g.r φ H σ ρ ∧ Hok g φ H h ∧ OutS g W φ H E (m ρ h)
theorem OutS.base {g : Gm} {W : WX} {φ φ' : Ph} {H H' : Hp} {E : Ends} {r : F} (e : Ext φ H φ' H') (o : OutS g W φ H E r) : OutS g W φ' H' E r := by
  cases r with
  | nx ρ h => exact fun φ2 σ H2 e2 => o φ2 σ H2 (e.trans e2)
  | rt d h => exact fun φ2 σ H2 e2 => o φ2 σ H2 (e.trans e2)
  | bk ρ h => exact fun φ2 σ H2 e2 => o φ2 σ H2 (e.trans e2)
  | ct ρ h => exact fun φ2 σ H2 e2 => o φ2 σ H2 (e.trans e2)
  | exc ρ x h => exact fun φ2 σ c dx H2 e2 => o φ2 σ c dx H2 (e.trans e2)
  | bad => exact o
/-- an expression, then k -/
def R.toF {α : Type} (r : R α) (ρ : Env1) (k : α → MH → F) : F := match r with
  | .ok a h => k a h
  | .exc e h => .exc ρ e h
  | .bad => .bad
def F.seq (f : F) (k : MS) : F := match f with
  | .nx ρ h => k ρ h
  | r => r
section
variable {g : Gm} {W : WX} {X : Cx} {st : Stmt} {rest : List Stmt} {pos : Pos} {a b : Expr} {ma mb : ME} {mt : MT} {ms mu : MS}
theorem OutS.expr {α β : Type} {rel : Ph → Hp → β → α → Prop} {Q : β → Hp → Prop} {σ : L2.St} {ρ : Env1} {φ : Ph} {H : Hp} {E : Ends} {r : R α} {k : α → MH → F} (s : Slots g.r φ H σ ρ) (o : OutS g W φ H E (r.toF ρ k))
    (n : ∀ a h φ1 v H1, Ext φ H φ1 H1 → rel φ1 H1 v a → Hok g φ1 H1 h → OutS g W φ1 H1 E (k a h) → Q v H1) : Out g W σ φ H rel Q r := by
  cases r with
  | ok a h => exact fun φ1 v H1 e r1 m1 => n a h φ1 v H1 e r1 m1 (OutS.base e o)
  | exc x h => exact fun φ1 c dx H1 e r1 m1 => o φ1 σ c dx H1 e (s.ext e) r1 m1
  | bad => exact o
theorem pss_imp {sts : List Stmt} {t t' : TS} (h : PSs X sts t) (i : ∀ E σ H, t' E σ H → t E σ H) : PSs X sts t' := ⟨fun pins s σ H E I q => h.run pins s σ H E I (i _ _ _ q)⟩
theorem ps_imp {t t' : TS} (h : PS X st t) (i : ∀ E σ H, t' E σ H → t E σ H) : PS X st t' := ⟨fun pins s σ H E I q => h.run pins s σ H E I (i _ _ _ q)⟩
def mNext : MS := fun ρ h => .nx ρ h
def mSeq (m u : MS) : MS := fun ρ h => (m ρ h).seq u
def mBreak : MS := fun ρ h => .bk ρ h
def mCont : MS := fun ρ h => .ct ρ h
def mRet (m : ME) : MS := fun ρ h => (m ρ h).toF ρ fun d h1 => .rt d h1
def mRetN : MS := fun _ h => .rt .non h
def mDrop (m : ME) : MS := fun ρ h => (m ρ h).toF ρ fun _ h1 => .nx ρ h1
def mIfS (t : MT) (m u : MS) : MS := fun ρ h => (t ρ h).toF ρ fun k h1 => match k with
  | true => m ρ h1
  | false => u ρ h1
def mBad : MS := fun _ _ => .bad
theorem ss_nil : PSs X [] (tS g W mNext) := pss_imp pss_nil fun E σ H t => by
  obtain ⟨φ, ρ, h, s, m, o⟩ := t
  exact o φ σ H Ext.refl s m
theorem ss_cons (h1 : PS X st (tS g W ms)) (h2 : PSs X rest (tS g W mu)) : PSs X (st :: rest) (tS g W (mSeq ms mu)) := pss_imp (pss_cons h1 h2) fun E σ H t => by
  obtain ⟨φ, ρ, h, s, m, o⟩ := t
  refine ⟨φ, ρ, h, s, m, ?_⟩
  unfold mSeq at o
  cases hr : ms ρ h with
  | nx ρ1 h1 => rw [hr] at o; exact fun φ1 σ1 H1 e s1 m1 => ⟨φ1, ρ1, h1, s1, m1, OutS.base e o⟩
  | rt d h1 => rw [hr] at o; exact o
  | bk d h1 => rw [hr] at o; exact o
  | ct d h1 => rw [hr] at o; exact o
  | exc d x h1 => rw [hr] at o; exact o
  | bad => rw [hr] at o; exact o
theorem ss_one (h1 : PS X st (tS g W ms)) : PSs X [st] (tS g W ms) := pss_one h1
theorem s_pass : PS X (.Pass pos) (tS g W mNext) := ps_imp ps_pass fun E σ H t => by
  obtain ⟨φ, ρ, h, s, m, o⟩ := t
  exact o φ σ H Ext.refl s m
theorem s_break : PS X (.Break pos) (tS g W mBreak) := ps_imp ps_break fun E σ H t => by
  obtain ⟨φ, ρ, h, s, m, o⟩ := t
  exact o φ σ H Ext.refl s m
theorem s_cont : PS X (.Continue pos) (tS g W mCont) := ps_imp ps_continue fun E σ H t => by
  obtain ⟨φ, ρ, h, s, m, o⟩ := t
  exact o φ σ H Ext.refl s m
/-- what is never come to -/
theorem s_never : PS X st (tS g W mBad) := ps_imp ps_never fun E σ H t => by
  obtain ⟨φ, ρ, h, s, m, o⟩ := t
  exact o
theorem s_ret (ha : PE X a (tE g W ma)) : PS X (.Return (some a) pos) (tS g W (mRet ma)) := ps_imp (ps_ret ha) fun E σ H t => by
  obtain ⟨φ, ρ, h, s, m, o⟩ := t
  exact ⟨φ, ρ, h, s, m, OutS.expr s o fun d h1 φ1 v H1 e1 r1 m1 o1 => o1 φ1 v H1 Ext.refl r1 m1⟩
theorem s_retN : PS X (.Return none pos) (tS g W mRetN) := ps_imp ps_retN fun E σ H t => by
  obtain ⟨φ, ρ, h, s, m, o⟩ := t
  exact o φ _ H Ext.refl .non m
theorem s_expr (ha : PE X a (tE g W ma)) (hs : swapsWith a none pos.line X.env = pure false := by rfl) : PS X (.Expr a pos) (tS g W (mDrop ma)) := ps_imp (ps_expr ha hs) fun E σ H t => by
  obtain ⟨φ, ρ, h, s, m, o⟩ := t
  exact ⟨φ, ρ, h, s, m, OutS.expr s o fun d h1 φ1 v H1 e1 r1 m1 o1 => o1 φ1 σ H1 Ext.refl (s.ext e1) m1⟩
theorem s_if {c : Expr} {ta tb : List Stmt} (hc : PT X c (tT g W mt)) (ha : PSs X ta (tS g W ms)) (hb : PSs X tb (tS g W mu)) : PS X (.If c ta tb pos) (tS g W (mIfS mt ms mu)) := ps_imp (ps_if hc ha hb) fun E σ H t => by
  obtain ⟨φ, ρ, h, s, m, o⟩ := t
  refine ⟨φ, ρ, h, s, m, OutS.expr (rel := rB) s o fun d h1 φ1 v H1 e1 r1 m1 o1 => ?_⟩
  cases (show v = d from r1)
  cases d with
  | true => exact ⟨φ1, ρ, h1, s.ext e1, m1, o1⟩
  | false => exact ⟨φ1, ρ, h1, s.ext e1, m1, o1⟩

/-! ### targets -/
abbrev MG := D → Env1 → MH → Option (Env1 × MH)
abbrev MGs := List D → Env1 → MH → Option (Env1 × MH)
def OutG (g : Gm) (φ : Ph) (H : Hp) (Q : L2.St → Hp → Prop) : Option (Env1 × MH) → Prop
  | some (ρ, h) => ∀ φ' σ' H', Ext φ H φ' H' → Slots g.r φ' H' σ' ρ → Hok g φ' H' h → Q σ' H'
  | none => False
def tG (g : Gm) (m : MG) : TG := fun v σ H Q => ∃ φ ρ h d, Slots g.r φ H σ ρ ∧ Hok g φ H h ∧ Rep g.r φ H v d ∧ OutG g φ H Q (m d ρ h)
def tGs (g : Gm) (m : MGs) : TGs := fun vs σ H Q => ∃ φ ρ h ds, Slots g.r φ H σ ρ ∧ Hok g φ H h ∧ Reps g.r φ H vs ds ∧ OutG g φ H Q (m ds ρ h)
def gN (i : Nat) : MG := fun d ρ h => some (ρ.set i (some d), h)
def gsNil : MGs := fun ds ρ h => match ds with
  | [] => some (ρ, h)
  | _ => none
def gsCons (m : MG) (u : MGs) : MGs := fun ds ρ h => match ds with
  | [] => none
  | d :: r => (m d ρ h).bind fun x => u r x.1 x.2
def gT (n : Nat) (u : MGs) : MG := fun d ρ h => match d with
  | .tup l => if l.length = n then u l ρ h else none
  | _ => none
theorem pg_imp {tg : Expr} {t t' : TG} (h : PG X tg t) (i : ∀ v σ H Q, t' v σ H Q → t v σ H Q) : PG X tg t' := ⟨fun pins s σ H v u Q I r q => h.run pins s σ H v u Q I r (i _ _ _ _ q)⟩
theorem pgs_imp {tg : List Expr} {t t' : TGs} (h : PGs X tg t) (i : ∀ v σ H Q, t' v σ H Q → t v σ H Q) : PGs X tg t' := ⟨fun pins s σ H v u Q I r q => h.run pins s σ H v u Q I r (i _ _ _ _ q)⟩
theorem g_name (i : Nat) {x : Str} (hN : X.N.Nodup) (hi : X.N[i]? = some x := by rfl) (hx : Loc X.env.scope x := by first | exact .inl rfl | exact .inr rfl) (hf : X.fn x = true ∨ X.env.scope.names.lookup x = some .local := by first | exact .inl rfl | exact .inr rfl) : PG X (.Name x pos) (tG g (gN i)) := pg_imp (pg_name hN hi hx hf) fun v σ H Q t => by
  obtain ⟨φ, ρ, h, d, s, m, r, o⟩ := t
  exact o φ _ H Ext.refl (s.set r i) m
theorem gs_nil : PGs X [] (tGs g gsNil) := pgs_imp pgs_nil fun v σ H Q t => by
  obtain ⟨φ, ρ, h, ds, s, m, r, o⟩ := t
  cases r with
  | nil => exact ⟨rfl, o φ _ H Ext.refl s m⟩
  | cons _ _ => exact o.elim
theorem gs_cons {e : Expr} {es : List Expr} {m : MG} {u : MGs} (h1 : PG X e (tG g m)) (h2 : PGs X es (tGs g u)) (hs : (assignEach (e :: es) X.env).map (·.2) = assign e X.env :: (assignEach es X.env).map (·.2) := by rfl) : PGs X (e :: es) (tGs g (gsCons m u)) := pgs_imp (pgs_cons h1 h2 hs) fun v σ H Q t => by
  obtain ⟨φ, ρ, h, ds, s, mm, r, o⟩ := t
  cases r with
  | nil => exact o.elim
  | cons r1 rr =>
    rename_i x d xs ds
    refine ⟨x, xs, rfl, φ, ρ, h, d, s, mm, r1, ?_⟩
    have o' : OutG g φ H Q ((m d ρ h).bind fun x => u ds x.1 x.2) := o
    cases hm : m d ρ h with
    | none => rw [hm] at o'; exact o'.elim
    | some q =>
      obtain ⟨ρ1, h1⟩ := q
      rw [hm] at o'
      refine fun φ1 σ1 H1 e1 s1 m1 => ⟨φ1, ρ1, h1, ds, s1, m1, rr.ext e1, ?_⟩
      have o2 : OutG g φ H Q (u ds ρ1 h1) := o'
      cases hu : u ds ρ1 h1 with
      | none => rw [hu] at o2; exact o2.elim
      | some q2 => rw [hu] at o2; exact fun φ2 σ2 H2 e2 => o2 φ2 σ2 H2 (e1.trans e2)
theorem g_tup {es : List Expr} {k : Nat} {u : MGs} {n : Nat} (hk : g.r.K = X.K) (hc : X.calm = true) (h : PGs X es (tGs g u)) (hn : (assignEach es X.env).length = n := by rfl) (hst : (assignEach es X.env).findIdx? (·.1) = none := by rfl) : PG X (.Tuple es k pos) (tG g (gT n u)) :=
  pg_imp (pg_tup hc h hn hst) fun v σ H Q t => by
    obtain ⟨φ, ρ, h, d, s, m, r, o⟩ := t
    cases r with
    | tup q r =>
      rename_i a xs ds
      have o' : OutG g φ H Q (if ds.length = n then u ds ρ h else none) := o
      by_cases hl : ds.length = n
      · rw [if_pos hl] at o'
        exact ⟨a, xs, rfl, hk ▸ q.sq, by rw [r.length]; exact hl, φ, ρ, h, ds, s, m, r, o'⟩
      · rw [if_neg hl] at o'
        exact o'.elim
    | _ => exact o.elim
/-- a cell's item is stored -/
theorem Hok.putG {φ : Ph} {h : MH} {H : Hp} {n : Nat} {p : Addr} {o : HO} {ds : List D} (m : Hok g φ H h) (hn : φ.c[n]? = some p)
    (hr : p ∉ φ.m → ∃ xs, o = .lst xs ∧ Reps g.r φ H xs ds) (hd : p ∈ φ.m → ∃ ks vs u, DHas g.r φ H u ks vs ∧ ((ds = [.dct ks vs] ∧ o = u) ∨ (ds = [.frd ks vs] ∧ ∃ ob, o = .frz ob u))) : Ext φ H φ (upd H p o) ∧ Hok g φ (upd H p o) (h.set n ds) := by
  have hp : p ∈ φ.c := List.mem_of_getElem? hn
  have t : Tr φ H φ (upd H p o) := Tr.upd (.inr (.inl hp))
  have e : Ext φ H φ (upd H p o) := ⟨t, ⟨[], by simp⟩, fun _ h => h, fun a ha => upd_ne fun z => (m.gs a ha).1 (by rw [z]; exact hp)⟩
  have hl : n < h.length := by rw [← m.len]; exact (List.getElem?_eq_some_iff.mp hn).1
  have ne : ∀ {k : Nat} {a : Addr}, n ≠ k → φ.c[k]? = some a → a ≠ p := fun {k a} hk e1 z => hk ((List.getElem?_inj (List.getElem?_eq_some_iff.mp hn).1 m.nd).mp (by rw [hn, e1, z]))
  refine ⟨e, ⟨m.nd, by simp [m.len], fun a ha => ⟨(m.gs a ha).1, by rw [e.gk a ha]; exact (m.gs a ha).2⟩, fun k a es e1 e2 => ?_, fun k a es e1 e2 => ?_, Tabs.upd m.tb (m.pl (.inl hp)), g.ivm _ _ _ _ t m.iv⟩⟩
  · by_cases hk : n = k
    · subst hk
      have e3 := e1.1
      rw [hn] at e3
      cases e3
      rw [List.getElem?_set_self hl] at e2
      cases e2
      obtain ⟨xs, eo, r⟩ := hr e1.2
      subst eo
      exact ⟨xs, upd_same, r.ext e⟩
    · rw [List.getElem?_set_ne hk] at e2
      obtain ⟨ys, q, r2⟩ := m.at_ k a es e1 e2
      exact ⟨ys, by rw [upd_ne (ne hk e1.1)]; exact q, r2.ext e⟩
  · by_cases hk : n = k
    · subst hk
      have e3 := e1.1
      rw [hn] at e3
      cases e3
      rw [List.getElem?_set_self hl] at e2
      cases e2
      obtain ⟨ks, vs, u, r, q⟩ := hd e1.2
      refine ⟨ks, vs, u, r.tr t, ?_⟩
      rcases q with ⟨q1, q2⟩ | ⟨q1, ob, q2⟩
      · exact .inl ⟨q1, by rw [upd_same, q2]⟩
      · exact .inr ⟨q1, ob, by rw [upd_same, q2]⟩
    · rw [List.getElem?_set_ne hk] at e2
      obtain ⟨ks, vs, u, r, q⟩ := m.atD k a es e1 e2
      exact ⟨ks, vs, u, r.tr t, by rw [upd_ne (ne hk e1.1)]; exact q⟩
theorem Hok.put {φ : Ph} {h : MH} {H : Hp} {n : Nat} {p : Addr} {xs : List V} {ds : List D} (m : Hok g φ H h) (hn : φ.lc n p) (r : Reps g.r φ H xs ds) : Ext φ H φ (upd H p (.lst xs)) ∧ Hok g φ (upd H p (.lst xs)) (h.set n ds) :=
  m.putG hn.1 (fun _ => ⟨xs, rfl, r⟩) (fun z => absurd z hn.2)
/-- a dict that is a cell is another one now -/
theorem Hok.putD {φ : Ph} {h : MH} {H : Hp} {n : Nat} {p : Addr} {u : HO} {ks vs : List D} (m : Hok g φ H h) (hn : φ.dc n p) (r : DHas g.r φ H u ks vs) : Ext φ H φ (upd H p u) ∧ Hok g φ (upd H p u) (h.set n [.dct ks vs]) :=
  m.putG hn.1 (fun z => absurd hn.2 z) (fun _ => ⟨ks, vs, u, r, .inl ⟨rfl, rfl⟩⟩)
/-- .. is walked -/
theorem Hok.putF {φ : Ph} {h : MH} {H : Hp} {n : Nat} {p : Addr} {u : HO} {ob : Obj} {ks vs : List D} (m : Hok g φ H h) (hn : φ.dc n p) (r : DHas g.r φ H u ks vs) : Ext φ H φ (upd H p (.frz ob u)) ∧ Hok g φ (upd H p (.frz ob u)) (h.set n [.frd ks vs]) :=
  m.putG hn.1 (fun z => absurd hn.2 z) (fun _ => ⟨ks, vs, u, r, .inr ⟨rfl, ob, rfl⟩⟩)
def gSubC (o i : ME) : MG := fun d ρ h => match o ρ h with
  | .ok (.cell n) h1 => match i ρ h1 with
    | .ok (.int k) h2 => match h2[n]? with
      | some l => match ixN l.length k with
        | some j => some (ρ, h2.set n (l.set j d))
        | none => none
      | none => none
    | _ => none
  | _ => none
theorem g_sub {o i : Expr} {mo mi : ME} (ho : PE X o (tE g W mo)) (hi : PE X i (tE g W mi)) (ha : ∀ v, assign (.Subscript o i pos) X.env v = (do
      let ov ← holding [v] (eval o X.env)
      let iv ← holding [v, ov] (eval i X.env)
      standAt pos
      holding [v, ov, iv] (setItem ov iv v)
      release [v, ov, iv] []) := by intro _; rfl) : PG X (.Subscript o i pos) (tG g (gSubC mo mi)) := pg_imp (pg_sub ho hi set_list ha) fun v σ H Q t => by
  obtain ⟨φ, ρ, h, d, s, m, r, oo⟩ := t
  unfold gSubC at oo
  refine ⟨φ, ρ, h, s, m, ?_⟩
  cases h1 : mo ρ h with
  | bad => rw [h1] at oo; exact oo.elim
  | exc _ _ => rw [h1] at oo; exact oo.elim
  | ok d1 hh1 =>
    rw [h1] at oo
    intro φ1 v1 H1 e1 r1 m1
    cases r1 with
    | cell q1 =>
      rename_i p n
      dsimp only at oo
      refine ⟨φ1, ρ, hh1, s.ext e1, m1, ?_⟩
      cases h2 : mi ρ hh1 with
      | bad => rw [h2] at oo; exact oo.elim
      | exc _ _ => rw [h2] at oo; exact oo.elim
      | ok d2 hh2 =>
        rw [h2] at oo
        intro φ2 v2 H2 e2 r2 m2
        cases r2 with
        | int k =>
          dsimp only at oo
          cases h3 : hh2[n]? with
          | none => rw [h3] at oo; exact oo.elim
          | some l =>
            rw [h3] at oo
            dsimp only at oo
            cases h4 : ixN l.length k with
            | none => rw [h4] at oo; exact oo.elim
            | some j =>
              rw [h4] at oo
              obtain ⟨xs, q2, rr⟩ := m2.at_ n p l (e2.ix q1) h3
              obtain ⟨e3, m3⟩ := m2.put (e2.ix q1) (rr.set ((r.ext e1).ext e2) j)
              exact ⟨p, xs, k, j, rfl, rfl, q2, by rw [rr.length]; exact h4, oo φ2 σ _ ((e1.trans e2).trans e3) (((s.ext e1).ext e2).ext e3) m3⟩
        | _ => exact oo.elim
    | _ => exact oo.elim
/-- target = value -/
def F.ofG : Option (Env1 × MH) → F
  | some (ρ, h) => .nx ρ h
  | none => .bad
def mAsg (m : ME) (u : MG) : MS := fun ρ h => (m ρ h).toF ρ fun d h1 => F.ofG (u d ρ h1)
theorem imp_asg {u : MG} (E : Ends) (σ : L2.St) (H : Hp) (t : tS g W (mAsg ma u) E σ H) : tAsg (tE g W ma) (tG g u) E σ H := by
  obtain ⟨φ, ρ, h, s, m, o⟩ := t
  refine ⟨φ, ρ, h, s, m, OutS.expr s o fun d h1 φ1 v H1 e1 r1 m1 o1 => ⟨φ1, ρ, h1, d, s.ext e1, m1, r1, ?_⟩⟩
  cases hu : u d ρ h1 with
  | none => rw [hu] at o1; exact o1.elim
  | some q => rw [hu] at o1; exact o1
theorem s_asg {tg : Expr} {u : MG} (ha : PE X a (tE g W ma)) (hg : PG X tg (tG g u)) (hs : swapsWithSole [tg] a pos.line X.env = pure false := by rfl) (hw : swappedStores [tg] a X.env = pure none := by rfl)
    (h1 : (assignEach [tg] X.env).map (·.2) = [assign tg X.env] := by rfl) : PS X (.Assign [tg] a pos) (tS g W (mAsg ma u)) := ps_imp (ps_asg ha hg hs hw h1) imp_asg
/-- a, b = e, e' -/
def mPar (i j : Nat) (ma mb : ME) : MS := fun ρ h => (ma ρ h).toF ρ fun x h1 => (mb ρ h1).toF ρ fun y h2 => .nx ((ρ.set i (some x)).set j (some y)) h2
theorem s_par {i j : Nat} {x y : Str} {px py pt : Pos} {kt k2 : Nat} {pt2 : Pos} (hc : X.calm = true) (hN : X.N.Nodup) (ha : PE X a (tE g W ma)) (hb : PE X b (tE g W mb)) (hw : swappedStores [.Tuple [.Name x px, .Name y py] kt pt] (.Tuple [a, b] k2 pt2) X.env = pure (some [x, y]))
    (hi : X.N[i]? = some x := by rfl) (hj : X.N[j]? = some y := by rfl) (hij : i ≠ j := by decide) (hx : X.env.scope.names.lookup x = some .local := by rfl) (hy : X.env.scope.names.lookup y = some .local := by rfl)
    (hs : swapsWithSole [.Tuple [.Name x px, .Name y py] kt pt] (.Tuple [a, b] k2 pt2) pos.line X.env = pure false := by rfl)
    (s1 : starEach [a, b] X.env = (false, eval a X.env) :: starEach [b] X.env := by rfl) (s2 : starEach [b] X.env = (false, eval b X.env) :: starEach [] X.env := by rfl) :
    PS X (.Assign [.Tuple [.Name x px, .Name y py] kt pt] (.Tuple [a, b] k2 pt2) pos) (tS g W (mPar i j ma mb)) := ps_imp (ps_par hc hN hi hj hij hx hy (pa_cons ha (pa_cons hb pa_nil s2) s1) hw hs) fun E σ H t => by
  obtain ⟨φ, ρ, h, s, m, o⟩ := t
  refine ⟨φ, ρ, h, s, m, OutS.expr s o fun d h1 φ1 v H1 e1 r1 m1 o1 => ?_⟩
  refine ⟨φ1, ρ, h1, s.ext e1, m1, OutS.expr (s.ext e1) o1 fun d2 h2 φ2 v2 H2 e2 r2 m2 o2 => ?_⟩
  exact ⟨v, v2, rfl, o2 φ2 _ H2 Ext.refl ((((s.ext e1).ext e2).set (r1.ext e2) i).set r2 j) m2⟩

/-! ### while -/
def loopW (t : MT) (b : MS) : Nat → MS
  | 0 => fun _ _ => .bad
  | n + 1 => fun ρ h => (t ρ h).toF ρ fun k h1 => match k with
    | false => .nx ρ h1
    | true => match b ρ h1 with
      | .nx ρ2 h2 => loopW t b n ρ2 h2
      | .ct ρ2 h2 => loopW t b n ρ2 h2
      | .bk ρ2 h2 => .nx ρ2 h2
      | r => r
def mWhile (n : Nat) (t : MT) (b : MS) : MS := loopW t b n
theorem s_while (n : Nat) {c : Expr} {body : List Stmt} (hp : PassesOwn (model X.prog X.w) X.A X.env X.xe) (hc : PT X c (tT g W mt)) (hb : PSs X body (tS g W ms)) : PS X (.While c body [] pos) (tS g W (mWhile n mt ms)) := ps_imp (ps_while hp hc hb) fun E σ H t => by
  obtain ⟨φ, ρ, h, s, m, o⟩ := t
  refine ⟨fun k σ' H' => ∃ φ' ρ' h', Slots g.r φ' H' σ' ρ' ∧ Hok g φ' H' h' ∧ OutS g W φ' H' E (loopW mt ms k ρ' h'), ⟨n, φ, ρ, h, s, m, o⟩, ?_⟩
  rintro k σ1 H1 ⟨φ1, ρ1, h1, s1, m1, o1⟩
  cases k with
  | zero => exact o1.elim
  | succ k =>
    refine ⟨φ1, ρ1, h1, s1, m1, OutS.expr (rel := rB) s1 o1 fun d h2 φ2 v H2 e2 r2 m2 o2 => ?_⟩
    cases (show v = d from r2)
    cases d with
    | false => exact o2 φ2 σ1 H2 Ext.refl (s1.ext e2) m2
    | true =>
      refine ⟨fun σ' H' => ∃ φ' ρ' h', Slots g.r φ' H' σ' ρ' ∧ Hok g φ' H' h' ∧ OutS g W φ' H' E (loopW mt ms k ρ' h'), fun σ' H' q => ⟨k, Nat.lt_succ_self k, q⟩, φ2, ρ1, h2, s1.ext e2, m2, ?_⟩
      dsimp only at o2
      cases hr : ms ρ1 h2 with
      | nx ρ3 h3 => rw [hr] at o2; exact fun φ3 σ3 H3 e3 s3 m3 => ⟨φ3, ρ3, h3, s3, m3, OutS.base e3 o2⟩
      | ct ρ3 h3 => rw [hr] at o2; exact fun φ3 σ3 H3 e3 s3 m3 => ⟨φ3, ρ3, h3, s3, m3, OutS.base e3 o2⟩
      | bk ρ3 h3 => rw [hr] at o2; exact o2
      | rt d h3 => rw [hr] at o2; exact o2
      | exc ρ3 x h3 => rw [hr] at o2; exact o2
      | bad => rw [hr] at o2; exact o2

/-! ### what is walked -/
/-- the items; the cell that must stand meanwhile -/
structure Src where
  items : List D
  cell : Option (Nat × List D)
def Src.chk (s : Src) (h : MH) : Bool := match s.cell with
  | none => true
  | some (n, l) => match h[n]? with
    | some l' => Ds.eqb l' l
    | none => false
abbrev MI' := Env1 → MH → R Src
def Walks (g : Gm) (φ : Ph) (H : Hp) (s : Src) (J : It) : Prop := ∀ φ' H' h', Tr φ H φ' H' → Hok g φ' H' h' → s.chk h' = true → ∀ i : Nat,
  (∀ d, s.items[i]? = some d → J.go i H' ∧ ∀ x H2, J.yld i H' x H2 → ∃ φ2, Ext φ' H' φ2 H2 ∧ Rep g.r φ2 H2 x d ∧ Hok g φ2 H2 h') ∧ (s.items.length ≤ i → J.stop i H')
def OutI (g : Gm) (W : WX) (σ : L2.St) (φ : Ph) (H : Hp) (Q : It → Hp → Prop) : R Src → Prop
  | .ok s h => ∀ φ' J H', Ext φ H φ' H' → Hok g φ' H' h → Walks g φ' H' s J → Q J H'
  | .exc e h => ∀ φ' c dx H', Ext φ H φ' H' → ExRep g φ' H' c dx e → Hok g φ' H' h → W c dx σ H'
  | .bad => False
def tI (g : Gm) (W : WX) (m : MI') : TI := fun σ H Q => ∃ φ ρ h, Slots g.r φ H σ ρ ∧ Hok g φ H h ∧ OutI g W σ φ H Q (m ρ h)
theorem pi_imp {tg it : Expr} {t t' : TI} (h : PI X tg it t) (i : ∀ σ H Q, t' σ H Q → t σ H Q) : PI X tg it t' := ⟨fun pins s σ H Q I q => h.run pins s σ H Q I (i _ _ _ q)⟩
/-- over a list that stands, a cell, the script -/
def srcL (d : D) (h : MH) : R Src := match d with
  | .lst l => .ok ⟨l, none⟩ h
  | .scr l => .ok ⟨l.map .int, none⟩ h
  | .cell n => match h[n]? with
    | some l => .ok ⟨l, some (n, l)⟩ h
    | none => .bad
  | _ => .bad
def srcT (d : D) (h : MH) : R Src := match d with
  | .tup l => .ok ⟨l, none⟩ h
  | _ => .bad
def rngD (lo : Int) (n : Nat) : List D := (List.range n).map fun i => .int (lo + (i : Nat))
def inR (i : Int) : Bool := decide (-(2 ^ 62) ≤ i) && decide (i < 2 ^ 62)
def srcR1 : List D → MH → R Src
  | [.int j], h => if inR j = true then .ok ⟨rngD 0 j.toNat, none⟩ h else .bad
  | _, _ => .bad
def srcR2 : List D → MH → R Src
  | [.int i, .int j], h => if (inR i && inR j) = true then .ok ⟨rngD i (j - i).toNat, none⟩ h else .bad
  | _, _ => .bad
def mSrc (m : ME) (f : D → MH → R Src) : MI' := fun ρ h => (m ρ h).bind f
def mSrcA (m : MA) (f : List D → MH → R Src) : MI' := fun ρ h => (m ρ h).bind f
theorem walk_lst {φ : Ph} {H : Hp} {a : Addr} {ds : List D} (f : ∀ φ' H', Tr φ H φ' H' → ∃ xs, SqL g.r.K H' a xs ∧ Reps g.r φ' H' xs ds) (u : ∀ H' xs ys, SqL g.r.K H' a xs → SqL g.r.K H' a ys → xs = ys → True) : Walks g φ H ⟨ds, none⟩ (Itl g.r.K a) := by
  intro φ' H' h' e m _ i
  obtain ⟨xs, q, r⟩ := f φ' H' e
  refine ⟨fun d hd => ?_, fun hi => ⟨xs, q, by rw [r.length]; exact hi⟩⟩
  obtain ⟨x, e1, e2⟩ := r.get hd
  refine ⟨⟨xs, x, q, e1⟩, fun x' H2 ⟨e3, e4⟩ => ?_⟩
  have := e4 xs q
  rw [e1] at this
  cases this
  subst e3
  exact ⟨φ', Ext.refl, e2, m⟩
theorem out_src {σ : L2.St} {φ : Ph} {H : Hp} {Q : It → Hp → Prop} {Q' : V → Hp → Prop} {r : R D} {f : D → MH → R Src} (o : OutI g W σ φ H Q (r.bind f)) (n : ∀ d h φ1 v H1, Ext φ H φ1 H1 → Rep g.r φ1 H1 v d → Hok g φ1 H1 h → OutI g W σ φ1 H1 Q (f d h) → Q' v H1) : Out g W σ φ H (Rep g.r) Q' r := by
  cases r with
  | ok d h =>
    refine fun φ1 v H1 e r1 m1 => n d h φ1 v H1 e r1 m1 ?_
    have o' : OutI g W σ φ H Q (f d h) := o
    cases hf : f d h with
    | ok s h2 => rw [hf] at o'; exact fun φ2 J H2 e2 => o' φ2 J H2 (e.trans e2)
    | exc x h2 => rw [hf] at o'; exact fun φ2 c dx H2 e2 => o' φ2 c dx H2 (e.trans e2)
    | bad => rw [hf] at o'; exact o'
  | exc x h => exact o
  | bad => exact o
theorem out_srcA {σ : L2.St} {φ : Ph} {H : Hp} {Q : It → Hp → Prop} {Q' : List V → Hp → Prop} {r : R (List D)} {f : List D → MH → R Src} (o : OutI g W σ φ H Q (r.bind f)) (n : ∀ d h φ1 v H1, Ext φ H φ1 H1 → Reps g.r φ1 H1 v d → Hok g φ1 H1 h → OutI g W σ φ1 H1 Q (f d h) → Q' v H1) : Out g W σ φ H (Reps g.r) Q' r := by
  cases r with
  | ok d h =>
    refine fun φ1 v H1 e r1 m1 => n d h φ1 v H1 e r1 m1 ?_
    have o' : OutI g W σ φ H Q (f d h) := o
    cases hf : f d h with
    | ok s h2 => rw [hf] at o'; exact fun φ2 J H2 e2 => o' φ2 J H2 (e.trans e2)
    | exc x h2 => rw [hf] at o'; exact fun φ2 c dx H2 e2 => o' φ2 c dx H2 (e.trans e2)
    | bad => rw [hf] at o'; exact o'
  | exc x h => exact o
  | bad => exact o
theorem si_list {tg l : Expr} (hk : g.r.K = X.K) (hl : PE X l (tE g W ma)) : PI X tg l (tI g W (mSrc ma srcL)) := pi_imp (pi_list hl) fun σ H Q t => by
  obtain ⟨φ, ρ, h, s, m, o⟩ := t
  refine ⟨φ, ρ, h, s, m, out_src o fun d h1 φ1 v H1 e1 r1 m1 o1 => ?_⟩
  cases r1 with
  | lst q r =>
    rename_i a xs ds
    refine ⟨a, rfl, ⟨xs, hk ▸ q.sq⟩, ?_⟩
    rw [← hk]
    exact o1 φ1 _ H1 Ext.refl m1 (walk_lst (fun φ' H' e => ⟨xs, (e.fl q).sq, r.tr e⟩) fun _ _ _ _ _ _ => trivial)
  | scr q =>
    rename_i a l
    refine ⟨a, rfl, ⟨_, hk ▸ q.sq⟩, ?_⟩
    rw [← hk]
    exact o1 φ1 _ H1 Ext.refl m1 (walk_lst (fun φ' H' e => ⟨_, (e.fs q).sq, reps_ints l⟩) fun _ _ _ _ _ _ => trivial)
  | cell q =>
    rename_i a n
    cases hn : h1[n]? with
    | none => simp only [srcL, hn] at o1; exact o1.elim
    | some l =>
      simp only [srcL, hn] at o1
      obtain ⟨xs, q2, r⟩ := m1.at_ n a l q hn
      refine ⟨a, rfl, ⟨xs, SqL.of q2⟩, ?_⟩
      rw [← hk]
      refine o1 φ1 _ H1 Ext.refl m1 fun φ' H' h' e m' hc i => ?_
      have hl : h'[n]? = some l := by
        simp only [Src.chk] at hc
        cases hh : h'[n]? with
        | none => rw [hh] at hc; cases hc
        | some l' => rw [hh] at hc; rw [Ds.eqb_eq hc]
      obtain ⟨ys, q3, r3⟩ := m'.at_ n a l (e.lc _ _ q) hl
      refine ⟨fun d hd => ?_, fun hi => ⟨ys, SqL.of q3, by rw [r3.length]; exact hi⟩⟩
      obtain ⟨x, e3, e4⟩ := r3.get hd
      refine ⟨⟨ys, x, SqL.of q3, e3⟩, fun x' H2 ⟨e5, e6⟩ => ?_⟩
      have := e6 ys (SqL.of q3)
      rw [e3] at this
      cases this
      subst e5
      exact ⟨φ', Ext.refl, e4, m'⟩
  | _ => exact o1.elim
theorem si_tup {tg l : Expr} (hk : g.r.K = X.K) (hl : PE X l (tE g W ma)) : PI X tg l (tI g W (mSrc ma srcT)) := pi_imp (pi_tup hl) fun σ H Q t => by
  obtain ⟨φ, ρ, h, s, m, o⟩ := t
  refine ⟨φ, ρ, h, s, m, out_src o fun d h1 φ1 v H1 e1 r1 m1 o1 => ?_⟩
  cases r1 with
  | tup q r =>
    rename_i a xs ds
    refine ⟨a, rfl, ⟨xs, hk ▸ q.sq⟩, ?_⟩
    rw [← hk]
    refine o1 φ1 _ H1 Ext.refl m1 fun φ' H' h' e m' _ i => ?_
    have q' := (e.ft q).sq
    have r' := r.tr e
    refine ⟨fun d hd => ?_, fun hi => ⟨xs, q', by rw [r'.length]; exact hi⟩⟩
    obtain ⟨x, e3, e4⟩ := r'.get hd
    refine ⟨⟨xs, x, q', e3⟩, fun x' H2 ⟨e5, e6⟩ => ?_⟩
    have := e6 xs q'
    rw [e3] at this
    cases this
    subst e5
    exact ⟨φ', Ext.refl, e4, m'⟩
  | _ => exact o1.elim
theorem walk_rng {φ : Ph} {H : Hp} (lo : Int) (n : Nat) : Walks g φ H ⟨rngD lo n, none⟩ (Itr lo n) := by
  intro φ' H' h' e m _ i
  refine ⟨fun d hd => ?_, fun hi => (show n ≤ i by simpa [rngD] using hi)⟩
  have hi : i < n := by
    have := (List.getElem?_eq_some_iff.mp hd).1
    simpa [rngD] using this
  simp [rngD, hi] at hd
  refine ⟨hi, fun x H2 ⟨e5, e6⟩ => ?_⟩
  subst e5
  subst e6
  subst hd
  exact ⟨φ', Ext.refl, .int _, m⟩
theorem si_range1 {tg : Expr} {es : Expr} {mas : MA} {p : Pos} (hm : X.mg "range" = none) (ha : PA X [es] (tA g W mas)) (hg : Gl X "range" := by rfl) (hs : starEach [es] X.env = [(false, eval es X.env)] := by rfl) : PI X tg (.Call (.Name "range" p) [es] [] pos) (tI g W (mSrcA mas srcR1)) := pi_imp (pi_range1 hg hm ha hs) fun σ H Q t => by
  obtain ⟨φ, ρ, h, s, m, o⟩ := t
  refine ⟨φ, ρ, h, s, m, out_srcA o fun d h1 φ1 v H1 e1 r1 m1 o1 => ?_⟩
  unfold srcR1 at o1
  split at o1
  · cases r1 with
    | cons r rr =>
      cases rr
      cases r
      split at o1
      · rename_i hj
        unfold inR at hj
        rw [Bool.and_eq_true] at hj
        exact ⟨_, rfl, of_decide_eq_true hj.1, of_decide_eq_true hj.2, o1 φ1 _ H1 Ext.refl m1 (walk_rng 0 _)⟩
      · exact o1.elim
  · exact o1.elim
theorem si_range2 {tg : Expr} {ea eb : Expr} {mas : MA} {p : Pos} (hm : X.mg "range" = none) (ha : PA X [ea, eb] (tA g W mas)) (hg : Gl X "range" := by rfl) (hs : starEach [ea, eb] X.env = [(false, eval ea X.env), (false, eval eb X.env)] := by rfl) (hs2 : starEach [eb] X.env = [(false, eval eb X.env)] := by rfl) :
    PI X tg (.Call (.Name "range" p) [ea, eb] [] pos) (tI g W (mSrcA mas srcR2)) := pi_imp (pi_range2 hg hm ha hs hs2) fun σ H Q t => by
  obtain ⟨φ, ρ, h, s, m, o⟩ := t
  refine ⟨φ, ρ, h, s, m, out_srcA o fun d h1 φ1 v H1 e1 r1 m1 o1 => ?_⟩
  unfold srcR2 at o1
  split at o1
  · cases r1 with
    | cons r rr =>
      cases rr with
      | cons r' rr =>
        cases rr
        cases r
        cases r'
        split at o1
        · rename_i hj
          unfold inR at hj
          rw [Bool.and_eq_true, Bool.and_eq_true, Bool.and_eq_true] at hj
          exact ⟨_, _, rfl, ⟨of_decide_eq_true hj.1.1, of_decide_eq_true hj.1.2, of_decide_eq_true hj.2.1, of_decide_eq_true hj.2.2⟩, o1 φ1 _ H1 Ext.refl m1 (walk_rng _ _)⟩
        · exact o1.elim
  · exact o1.elim
/-- for -/
def loopF (u : MG) (b : MS) (chk : MH → Bool) : List D → MS
  | [] => fun ρ h => if chk h = true then .nx ρ h else .bad
  | d :: r => fun ρ h => if chk h = true then (match u d ρ h with
    | none => .bad
    | some (ρ1, h1) => match b ρ1 h1 with
      | .nx ρ2 h2 => loopF u b chk r ρ2 h2
      | .ct ρ2 h2 => loopF u b chk r ρ2 h2
      | .bk ρ2 h2 => .nx ρ2 h2
      | x => x) else .bad
def mFor (i : MI') (u : MG) (b : MS) : MS := fun ρ h => (i ρ h).toF ρ fun s h1 => loopF u b s.chk s.items ρ h1
theorem s_for {iter tg : Expr} {body : List Stmt} {mi : MI'} {u : MG} (hc : X.calm = true) (hp : PassesOwn (model X.prog X.w) X.A X.env X.xe) (hi : PI X tg iter (tI g W mi)) (hg : PG X tg (tG g u)) (hb : PSs X body (tS g W ms))
    (hs : ∀ x, foldedSetIterable iter X.env x = pure x := by intro _; rfl) : PS X (.For tg iter body [] pos) (tS g W (mFor mi u ms)) := ps_imp (ps_for hp hc hi hg hb hs) fun E σ H t => by
  obtain ⟨φ, ρ, h, s, m, o⟩ := t
  refine ⟨φ, ρ, h, s, m, ?_⟩
  unfold mFor at o
  cases hr : mi ρ h with
  | bad => rw [hr] at o; exact o
  | exc x h1 => rw [hr] at o; exact fun φ1 c dx H1 e r1 m1 => o φ1 σ c dx H1 e (s.ext e) r1 m1
  | ok src h1 =>
    rw [hr] at o
    intro φ1 J H1 e1 m1 wk
    refine ⟨fun i k σ' H' => k = src.items.length - i ∧ i ≤ src.items.length ∧ ∃ φ' ρ' h', Ext φ1 H1 φ' H' ∧ Slots g.r φ' H' σ' ρ' ∧ Hok g φ' H' h' ∧ OutS g W φ' H' E (loopF u ms src.chk (src.items.drop i) ρ' h'),
      ⟨src.items.length, by simp, Nat.zero_le _, φ1, ρ, h1, Ext.refl, s.ext e1, m1, OutS.base e1 o⟩, ?_⟩
    rintro i k σ2 H2 ⟨rfl, hi, φ2, ρ2, h2, e2, s2, m2, o2⟩
    by_cases hlt : i < src.items.length
    · rw [List.drop_eq_getElem_cons hlt] at o2
      unfold loopF at o2
      split at o2
      · rename_i hck
        obtain ⟨w1, w2⟩ := (wk φ2 H2 h2 e2.tr m2 hck i)
        obtain ⟨go, yl⟩ := w1 src.items[i] (by simp [hlt])
        refine .inr ⟨go, fun σ' H' => ∃ φ' ρ' h', Ext φ1 H1 φ' H' ∧ Slots g.r φ' H' σ' ρ' ∧ Hok g φ' H' h' ∧ OutS g W φ' H' E (loopF u ms src.chk (src.items.drop (i + 1)) ρ' h'), fun σ' H' q => ⟨src.items.length - (i + 1), by omega, rfl, hlt, q⟩, fun x H3 y => ?_⟩
        obtain ⟨φ3, e3, r3, m3⟩ := yl x H3 y
        refine ⟨φ3, ρ2, h2, src.items[i], s2.ext e3, m3, r3, ?_⟩
        cases hu : u src.items[i] ρ2 h2 with
        | none => rw [hu] at o2; exact o2.elim
        | some q =>
          obtain ⟨ρ4, h4⟩ := q
          rw [hu] at o2
          refine fun φ4 σ4 H4 e4 s4 m4 => ⟨φ4, ρ4, h4, s4, m4, ?_⟩
          have e5 : Ext φ2 H2 φ4 H4 := e3.trans e4
          dsimp only at o2
          cases hb' : ms ρ4 h4 with
          | nx ρ6 h6 => rw [hb'] at o2; exact fun φ6 σ6 H6 e6 s6 m6 => ⟨φ6, ρ6, h6, (e2.trans e5).trans e6, s6, m6, OutS.base (e5.trans e6) o2⟩
          | ct ρ6 h6 => rw [hb'] at o2; exact fun φ6 σ6 H6 e6 s6 m6 => ⟨φ6, ρ6, h6, (e2.trans e5).trans e6, s6, m6, OutS.base (e5.trans e6) o2⟩
          | bk ρ6 h6 => rw [hb'] at o2; exact fun φ6 σ6 H6 e6 s6 m6 => o2 φ6 σ6 H6 (e5.trans e6) s6 m6
          | rt d h6 => rw [hb'] at o2; exact fun φ6 v6 H6 e6 s6 m6 => o2 φ6 v6 H6 (e5.trans e6) s6 m6
          | exc ρ6 x h6 => rw [hb'] at o2; exact fun φ6 σ6 c dx H6 e6 s6 r6 m6 => o2 φ6 σ6 c dx H6 (e5.trans e6) s6 r6 m6
          | bad => rw [hb'] at o2; exact o2.elim
      · exact o2.elim
    · have ei : i = src.items.length := by omega
      subst ei
      rw [List.drop_length] at o2
      unfold loopF at o2
      split at o2
      · rename_i hck
        obtain ⟨w1, w2⟩ := (wk φ2 H2 h2 e2.tr m2 hck src.items.length)
        exact .inl ⟨w2 (Nat.le_refl _), o2 φ2 σ2 H2 Ext.refl s2 m2⟩
      · exact o2.elim
end
end MI
namespace MI
open PySem PySem.Spec
open PyProof.Rows L2

/-! ### defs -/
abbrev FnM := List D → MH → R D
def startM (n : Nat) (ds : List D) : Env1 := ds.map some ++ List.replicate (n - ds.length) none
/-- np parameters, n names -/
def mFn (np n : Nat) (b : MS) : FnM := fun ds h => if ds.length = np then (match b (startM n ds) h with
  | .nx _ h1 => .ok .non h1
  | .rt d h1 => .ok d h1
  | .exc _ e h1 => .exc e h1
  | _ => .bad) else .bad
def spM (g : Gm) (np : Nat) (f : FnM) : Sp := fun vs H Q E => vs.length = np ∧ ∃ φ ds h, Reps g.r φ H vs ds ∧ Hok g φ H h ∧ Out g (fun c dx _ H' => E c dx H') [] φ H (Rep g.r) Q (f ds h)
section
variable {g : Gm} {P : Program} {w : World} {mg : Str → Option Value} {base : Heap}
theorem fn_start {N : List Str} {np : Nat} {b : MS} {vs : List V} {H : Hp} {Q : VK} {E : XK} (hsp : spM g np (mFn np N.length b) vs H Q E) : tS g (fun c dx _ H' => E c dx H') b { nx := fun _ H' => Q .non H', rt := Q } (L2.start N vs) H := by
  obtain ⟨hl, φ, ds, h, r, m, o⟩ := hsp
  have hd : ds.length = np := by rw [← r.length]; exact hl
  unfold mFn at o
  rw [if_pos hd] at o
  refine ⟨φ, startM N.length ds, h, Slots.start r, m, ?_⟩
  cases hr : b (startM N.length ds) h with
  | nx ρ h1 => rw [hr] at o; exact fun φ1 σ1 H1 e1 s1 m1 => o φ1 _ H1 e1 .non m1
  | rt d h1 => rw [hr] at o; exact fun φ1 v H1 e1 r1 m1 => o φ1 v H1 e1 r1 m1
  | bk ρ h1 => rw [hr] at o; exact o.elim
  | ct ρ h1 => rw [hr] at o; exact o.elim
  | exc ρ x h1 => rw [hr] at o; exact fun φ1 σ1 c dx H1 e1 s1 r1 m1 => o φ1 c dx H1 e1 r1 m1
  | bad => rw [hr] at o; exact o.elim
/-- a def keeps to its function -/
theorem fn_m {x qual : Str} {st : Stmt} {f : Addr} {fd : FuncData} {N ps : List Str} {k np : Nat} {b : MS} (F : Fun g.r.K x qual st f fd) (S : FnScope N ps (defScope st)) (hnp : ps.length = np)
    (hb : ∀ (cdv : Value) (A : Around) (outer : List Env) (s : Shared) (H : Hp) (E : XK), Room k (A.deeper (envOfC qual (defScope st) s.heap.objs.size f cdv)) →
      Takes (cxOf (L2.CX P w) P w g.r.K mg base N qual (defScope st) f cdv A outer s H E) (fun c dx _ H' => E c dx H') →
      PassesOwn (model P w) (cxOf (L2.CX P w) P w g.r.K mg base N qual (defScope st) f cdv A outer s H E).A (cxOf (L2.CX P w) P w g.r.K mg base N qual (defScope st) f cdv A outer s H E).env (cxOf (L2.CX P w) P w g.r.K mg base N qual (defScope st) f cdv A outer s H E).xe →
      PSs (cxOf (L2.CX P w) P w g.r.K mg base N qual (defScope st) f cdv A outer s H E) (defBody st) (tS g (fun c dx _ H' => E c dx H') b)) :
    FnOk P w g.r.K mg base (L2.CX P w) (k + 1) f fd ps (spM g np (mFn np N.length b)) := by
  refine F.okX S (fun vs H Q E h => by rw [hnp]; exact h.1) fun cdv A outer s H vs Q E hr hsp => ⟨_, hb cdv A outer s H E hr (takes_of rfl rfl rfl rfl) (passes_of rfl), ?_⟩
  exact fn_start hsp
end
section
variable {g : Gm} {W : WX} {X : Cx} {e : Expr} {es : List Expr} {p pos : Pos} {x : Str} {mas : MA} {k np : Nat} {f : Addr} {fd : FuncData} {ps : List Str} {m : FnM} {ds : List Value} {dvs : List V} {dD : List D}
/-- f(e, ..): the written arguments, then the defaults dD -/
def mCallD (np : Nat) (m : FnM) (dD : List D) (a : MA) : ME := fun ρ h => (a ρ h).bind fun xs h1 => if (xs ++ dD).length = np then m (xs ++ dD) h1 else .bad
theorem s_callD (F : FnOk X.prog X.w X.K X.mg X.base (L2.CX X.prog X.w) k f fd ps (spM g np m)) (tk : Takes X W) (hr : Room k X.A) (hm : X.mg x = some (.ref f)) (hk : PySem.W.keepIn X.K (.ref f) = true) (hb : Binds X.K fd ps ds) (hd : Vals dvs ds) (hD : ∀ φ H, Reps g.r φ H dvs dD)
    (ha : PA X (e :: es) (tA g W mas)) (hg : Gl X x := by rfl) (hdb : (x == ("__debug__" : Str)) = false := by decide) (he : starEach (e :: es) X.env = (false, eval e X.env) :: starEach es X.env := by rfl) (hpl : (backTo pos (starEach es X.env)).any (·.1) = false := by rfl) :
    PE X (.Call (.Name x p) (e :: es) [] pos) (tE g W (mCallD np m dD mas)) := pe_imp (pe_callSD (E := fun σ c dx H' => W c dx σ H') F hr hg hm hk hb hd (fun σ => passAt tk σ) ha hdb he hpl) fun σ H Q t => by
  obtain ⟨φ, ρ, h, s, mm, o⟩ := t
  refine ⟨φ, ρ, h, s, mm, Out.next o fun xs h1 φ1 vs H1 e1 r1 m1 o1 => ?_⟩
  have rr := r1.append (hD φ1 H1)
  split at o1
  · rename_i hl
    refine ⟨by rw [rr.length]; exact hl, φ1, _, h1, rr, m1, ?_⟩
    cases hm' : m (xs ++ dD) h1 with
    | ok d h2 => rw [hm'] at o1; exact o1
    | exc x h2 => rw [hm'] at o1; exact o1
    | bad => rw [hm'] at o1; exact o1
  · exact o1.elim
theorem s_call (F : FnOk X.prog X.w X.K X.mg X.base (L2.CX X.prog X.w) k f fd ps (spM g np m)) (tk : Takes X W) (hr : Room k X.A) (hm : X.mg x = some (.ref f)) (hk : PySem.W.keepIn X.K (.ref f) = true) (hb : Binds X.K fd ps [])
    (ha : PA X (e :: es) (tA g W mas)) (hg : Gl X x := by rfl) (hdb : (x == ("__debug__" : Str)) = false := by decide) (he : starEach (e :: es) X.env = (false, eval e X.env) :: starEach es X.env := by rfl) (hpl : (backTo pos (starEach es X.env)).any (·.1) = false := by rfl) :
    PE X (.Call (.Name x p) (e :: es) [] pos) (tE g W (mCallD np m [] mas)) := s_callD F tk hr hm hk hb .nil (fun _ _ => .nil) ha hg hdb he hpl
end

/-! ### comprehensions -/
/-- a target that is names alone -/
def GOk (g : Gm) (vs : List Nat) (t : TG) (u : MG) : Prop := ∀ {v : V} {σ : L2.St} {H : Hp} {Q : L2.St → Hp → Prop} {φ : Ph} {ρ : Env1} {h : MH} {d : D} {ρ' : Env1} {h' : MH}, Slots g.r φ H σ ρ → Rep g.r φ H v d → u d ρ h = some (ρ', h') →
  (∀ σ', h' = h → Slots g.r φ H σ' ρ' → wipe σ' vs = wipe σ vs → Q σ' H) → t v σ H Q
def GsOk (g : Gm) (vs : List Nat) (t : TGs) (u : MGs) : Prop := ∀ {v : List V} {σ : L2.St} {H : Hp} {Q : L2.St → Hp → Prop} {φ : Ph} {ρ : Env1} {h : MH} {d : List D} {ρ' : Env1} {h' : MH}, Slots g.r φ H σ ρ → Reps g.r φ H v d → u d ρ h = some (ρ', h') →
  (∀ σ', h' = h → Slots g.r φ H σ' ρ' → wipe σ' vs = wipe σ vs → Q σ' H) → t v σ H Q
theorem wipe_set {i : Nat} {o : Option V} : ∀ {vs : List Nat} {σ : L2.St}, i ∈ vs → wipe (σ.set i o) vs = wipe σ vs
  | v :: vs, σ, hi => by
    show (wipe (σ.set i o) vs).set v none = (wipe σ vs).set v none
    by_cases hv : i ∈ vs
    · rw [wipe_set hv]
    · have e : i = v := by
        rcases List.mem_cons.mp hi with e | e
        · exact e
        · exact absurd e hv
      subst e
      have go : ∀ (ws : List Nat) (τ : L2.St), i ∉ ws → wipe (τ.set i o) ws = (wipe τ ws).set i o := by
        intro ws
        induction ws with
        | nil => intro τ _; rfl
        | cons w ws ih =>
          intro τ hn
          rw [List.mem_cons, not_or] at hn
          show (wipe (τ.set i o) ws).set w none = ((wipe τ ws).set w none).set i o
          rw [ih τ hn.2, List.set_comm _ _ hn.1]
      rw [go vs σ hv, List.set_set]
theorem wipe_wipe : ∀ (vs ws : List Nat) (σ : L2.St), (∀ v ∈ vs, v ∈ ws) → wipe (wipe σ vs) ws = wipe σ ws
  | [], _, _, _ => rfl
  | v :: vs, ws, σ, h => by
    show wipe ((wipe σ vs).set v none) ws = wipe σ ws
    rw [wipe_set (h v List.mem_cons_self), wipe_wipe vs ws σ fun x hx => h x (List.mem_cons_of_mem _ hx)]
section
variable {g : Gm} {vs : List Nat}
theorem go_name {i : Nat} (hi : i ∈ vs := by decide) : GOk g vs (gName i) (gN i) := by
  intro v σ H Q φ ρ h d ρ' h' s r e k
  cases e
  exact k _ rfl (s.set r i) (wipe_set hi)
theorem gso_nil : GsOk g vs gNil gsNil := by
  intro v σ H Q φ ρ h d ρ' h' s r e k
  cases r with
  | nil => cases e; exact ⟨rfl, k _ rfl s rfl⟩
  | cons _ _ => cases e
theorem gso_cons {t : TG} {ts : TGs} {u : MG} {us : MGs} (a : GOk g vs t u) (b : GsOk g vs ts us) : GsOk g vs (gCons t ts) (gsCons u us) := by
  intro v σ H Q φ ρ h d ρ' h' s r e k
  cases r with
  | nil => cases e
  | cons r1 rr =>
    rename_i x d1 xs ds
    have e' : (u d1 ρ h).bind (fun x => us ds x.1 x.2) = some (ρ', h') := e
    cases hu : u d1 ρ h with
    | none => rw [hu] at e'; cases e'
    | some q =>
      obtain ⟨ρ1, h1⟩ := q
      rw [hu] at e'
      refine ⟨x, xs, rfl, a s r1 hu fun σ1 eh s1 w1 => ?_⟩
      refine b s1 rr (show us ds ρ1 h1 = some (ρ', h') from e') fun σ2 eh2 s2 w2 => ?_
      exact k σ2 (eh2.trans eh) s2 (w2.trans w1)
theorem go_tup {ts : TGs} {us : MGs} {n : Nat} (b : GsOk g vs ts us) : GOk g vs (gTup g.r.K n ts) (gT n us) := by
  intro v σ H Q φ ρ h d ρ' h' s r e k
  cases r with
  | tup q r =>
    rename_i a xs ds
    have e' : (if ds.length = n then us ds ρ h else none) = some (ρ', h') := e
    split at e'
    · rename_i hl
      exact ⟨a, xs, rfl, q.sq, by rw [r.length]; exact hl, b s r e' k⟩
    · cases e'
  | _ => cases e
end
def wipeM (ρ : Env1) : List Nat → Env1
  | [] => ρ
  | v :: vs => (wipeM ρ vs).set v none
def noEx {α : Type} (r : R α) : R α := match r with
  | .exc _ _ => .bad
  | r => r
/-- the items made, one after the other -/
def loopC (u : MG) (t : MT) (m : ME) (ρ : Env1) (chk : MH → Bool) : List D → List D → MH → R (List D)
  | [], acc, h => if chk h = true then .ok acc h else .bad
  | d :: r, acc, h => if chk h = true then (match u d ρ h with
    | none => .bad
    | some (ρ1, h1) => (noEx (t ρ1 h1)).bind fun b h2 => match b with
      | true => (noEx (m ρ1 h2)).bind fun y h3 => if acc.length < 16777216 then loopC u t m ρ chk r (acc ++ [y]) h3 else .bad
      | false => loopC u t m ρ chk r acc h2) else .bad
def mLc (i : MI') (u : MG) (t : MT) (m : ME) (vs : List Nat) : ME := fun ρ h => (i ρ h).bind fun s h1 => (loopC u t m (wipeM ρ vs) s.chk s.items [] h1).bind fun l h2 => .ok (.lst l) h2
def mLcC (i : MI') (u : MG) (t : MT) (m : ME) (vs : List Nat) : ME := fun ρ h => (i ρ h).bind fun s h1 => (loopC u t m (wipeM ρ vs) s.chk s.items [] h1).bind fun l h2 => .ok (.cell h2.length) (h2 ++ [l])
abbrev W0 : WX := fun _ _ _ _ => False
section
variable {g : Gm} {φ φ' : Ph} {H : Hp} {h : MH}
theorem Slots.wipe {σ : L2.St} {ρ : Env1} (s : Slots g.r φ H σ ρ) : ∀ vs : List Nat, Slots g.r φ H (wipe σ vs) (wipeM ρ vs)
  | [] => s
  | v :: vs => (Slots.wipe s vs).unset v
theorem Hok.gput {p : Addr} {o : HO} (m : Hok g φ H h) (hp : p ∈ φ.g) (pl : Pl o) : Hok g φ (upd H p o) h := by
  have hc := (m.gs p hp).1
  have t : Tr φ H φ (upd H p o) := Tr.upd (.inr (.inr hp))
  refine ⟨m.nd, m.len, fun a ha => ⟨(m.gs a ha).1, ?_⟩, fun n a ds e1 e2 => ?_, fun n a ds e1 e2 => ?_, Tabs.upd m.tb (m.pl (.inr hp)), g.ivm _ _ _ _ t m.iv⟩
  · by_cases z : a = p
    · rw [z, upd_same]; exact ⟨o, rfl, pl⟩
    · rw [upd_ne z]; exact (m.gs a ha).2
  · obtain ⟨xs, q, r⟩ := m.at_ n a ds e1 e2
    exact ⟨xs, by rw [upd_ne fun z => hc (by rw [← z]; exact List.mem_of_getElem? e1.1)]; exact q, r.tr t⟩
  · obtain ⟨ks, vs, u, r, q⟩ := m.atD n a ds e1 e2
    exact ⟨ks, vs, u, r.tr t, by rw [upd_ne fun z => hc (by rw [← z]; exact List.mem_of_getElem? e1.1)]; exact q⟩
/-- fewer things are being made -/
theorem Tr.less (e : φ'.c = φ.c) (em : φ'.m = φ.m) (le : ∀ a ∈ φ'.g, a ∈ φ.g) : Tr φ H φ' H := by
  have hs : ∀ a, ¬ φ.has a → ¬ φ'.has a := fun a n z => n (z.imp (fun z => by rw [← e]; exact z) (le a))
  exact ⟨fun a o q n _ => ⟨q, hs a n⟩, fun a o q n _ => ⟨q, hs a n⟩, fun n a q => ⟨by rw [e]; exact q.1, by rw [em]; exact q.2⟩, fun n a q => ⟨by rw [e]; exact q.1, by rw [em]; exact q.2⟩⟩
theorem Hok.less (m : Hok g φ H h) (e : φ'.c = φ.c) (em : φ'.m = φ.m) (le : ∀ a ∈ φ'.g, a ∈ φ.g) : Hok g φ' H h :=
  ⟨by rw [e]; exact m.nd, by rw [e]; exact m.len, fun a ha => by rw [e]; exact m.gs a (le a ha), fun n a ds e1 e2 => by
    obtain ⟨xs, q, r⟩ := m.at_ n a ds ⟨by rw [← e]; exact e1.1, by rw [← em]; exact e1.2⟩ e2
    exact ⟨xs, q, r.tr (Tr.less e em le)⟩, fun n a ds e1 e2 => by
    obtain ⟨ks, vs, u, r, q⟩ := m.atD n a ds ⟨by rw [← e]; exact e1.1, by rw [← em]; exact e1.2⟩ e2
    exact ⟨ks, vs, u, r.tr (Tr.less e em le), q⟩, m.tb, g.ivm _ _ _ _ (Tr.less e em le) m.iv⟩
/-- something new is being made -/
theorem mk_g {p : Addr} {o : HO} (m : Hok g φ H h) (hp : H p = none) (pl : Pl o) : Ext φ H ⟨φ.c, p :: φ.g, φ.m⟩ (upd H p o) ∧ Hok g ⟨φ.c, p :: φ.g, φ.m⟩ (upd H p o) h := by
  have np := m.notin hp
  have hs : ∀ a, a ≠ p → ¬ φ.has a → ¬ (⟨φ.c, p :: φ.g, φ.m⟩ : Ph).has a := fun a n na z => by
    rcases z with z | z
    · exact na (.inl z)
    · rcases List.mem_cons.mp z with z | z
      · exact n z
      · exact na (.inr z)
  have t0 : Tr φ H φ (upd H p o) := Tr.upd (.inl hp)
  have t : Tr φ H ⟨φ.c, p :: φ.g, φ.m⟩ (upd H p o) := by
    refine ⟨fun a u q n s => ⟨(t0.keep a u q n s).1, hs a (ne_of_none q hp) n⟩, fun a u q n s => ⟨(t0.keepD a u q n s).1, hs a ?_ n⟩, fun n a e => e, fun n a e => e⟩
    · rcases q with q | ⟨_, q⟩ <;> exact ne_of_none q hp
  have nec : ∀ {n : Nat} {a : Addr}, φ.c[n]? = some a → a ≠ p := fun e z => np (.inl (by rw [← z]; exact List.mem_of_getElem? e))
  refine ⟨⟨t, ⟨[], by simp⟩, fun a ha => List.mem_cons_of_mem _ ha, fun a ha => upd_ne fun z => np (.inr (by rw [← z]; exact ha))⟩, m.nd, m.len, fun a ha => ?_, fun n a ds e1 e2 => ?_, fun n a ds e1 e2 => ?_, Tabs.upd m.tb (fun u q => by rw [hp] at q; cases q), g.ivm _ _ _ _ t m.iv⟩
  · rcases List.mem_cons.mp ha with z | z
    · rw [z]; exact ⟨fun q => np (.inl q), o, upd_same, pl⟩
    · rw [upd_ne fun q => np (.inr (by rw [← q]; exact z))]; exact m.gs a z
  · obtain ⟨xs, q, r⟩ := m.at_ n a ds e1 e2
    exact ⟨xs, by rw [upd_ne (nec e1.1)]; exact q, r.tr t⟩
  · obtain ⟨ks, vs, u, r, q⟩ := m.atD n a ds e1 e2
    exact ⟨ks, vs, u, r.tr t, by rw [upd_ne (nec e1.1)]; exact q⟩
/-- what is being made is another one -/
theorem Ext.gset {p : Addr} {o : HO} (e : Ext φ H φ' H') (hn : ¬ φ.has p) (hp : p ∈ φ'.g) : Ext φ H φ' (upd H' p o) :=
  ⟨e.tr.trans (Tr.upd (.inr (.inr hp))), e.pre, e.gh, fun a ha => by rw [upd_ne fun z => hn (.inr (by rw [← z]; exact ha))]; exact e.gk a ha⟩
def lessG (φ : Ph) (p : Addr) : Ph := ⟨φ.c, φ.g.filter fun a => decide (a ≠ p), φ.m⟩
theorem lessG_le {p : Addr} : ∀ a ∈ (lessG φ p).g, a ∈ φ.g := fun a ha => (List.mem_filter.mp ha).1
theorem lessG_ne {p : Addr} : ∀ a ∈ (lessG φ p).g, a ≠ p := fun a ha => of_decide_eq_true (List.mem_filter.mp ha).2
/-- it is made: it stands from now on -/
theorem made {p : Addr} (e : Ext φ H φ' H') (m : Hok g φ' H' h) (hn : ¬ φ.has p) (hp : p ∈ φ'.g) : Ext φ H (lessG φ' p) H' ∧ Hok g (lessG φ' p) H' h ∧ Tr φ' H' (lessG φ' p) H' ∧ ¬ (lessG φ' p).has p := by
  have t : Tr φ' H' (lessG φ' p) H' := Tr.less rfl rfl lessG_le
  refine ⟨⟨e.tr.trans t, e.pre, fun a ha => List.mem_filter.mpr ⟨e.gh a ha, decide_eq_true fun z => hn (.inr (by rw [← z]; exact ha))⟩, e.gk⟩, m.less rfl rfl lessG_le, t, fun z => ?_⟩
  rcases z with z | z
  · exact (m.gs _ hp).1 z
  · exact lessG_ne _ z rfl
/-- .. as a cell -/
theorem madeC {p : Addr} {o : HO} {ds : List D} {mm : List Addr} (e : Ext φ H φ' H') (m : Hok g φ' H' h) (hn : ¬ φ.has p) (hp : p ∈ φ'.g) (ho : H' p = some o) (hmm : ∀ a, a ≠ p → a ∈ φ'.c → (a ∈ mm ↔ a ∈ φ'.m))
    (hr : p ∉ mm → ∃ xs, o = .lst xs ∧ Reps g.r φ' H' xs ds) (hd : p ∈ mm → ∃ ks vs, DHas g.r φ' H' o ks vs ∧ ds = [.dct ks vs]) :
    Ext φ H ⟨φ'.c ++ [p], (lessG φ' p).g, mm⟩ H' ∧ Hok g ⟨φ'.c ++ [p], (lessG φ' p).g, mm⟩ H' (h ++ [ds]) ∧ (φ'.c ++ [p])[h.length]? = some p := by
  have cp := (m.gs _ hp).1
  have nec : ∀ {n : Nat} {a : Addr}, φ'.c[n]? = some a → a ≠ p := fun e z => cp (by rw [← z]; exact List.mem_of_getElem? e)
  have hs : ∀ a, ¬ φ'.has a → ¬ (⟨φ'.c ++ [p], (lessG φ' p).g, mm⟩ : Ph).has a := fun a n z => by
    rcases z with z | z
    · rcases List.mem_append.mp z with z | z
      · exact n (.inl z)
      · have : a = p := by simpa using z
        exact n (.inr (by rw [this]; exact hp))
    · exact n (.inr (lessG_le a z))
  have up : ∀ {n : Nat} {a : Addr}, φ'.c[n]? = some a → (φ'.c ++ [p])[n]? = some a := fun {n a} e => by
    rw [List.getElem?_append_left (List.getElem?_eq_some_iff.mp e).1]; exact e
  have t : Tr φ' H' ⟨φ'.c ++ [p], (lessG φ' p).g, mm⟩ H' := ⟨fun a o q n _ => ⟨q, hs a n⟩, fun a o q n _ => ⟨q, hs a n⟩,
    fun n a q => ⟨up q.1, fun z => q.2 ((hmm a (nec q.1) (List.mem_of_getElem? q.1)).mp z)⟩, fun n a q => ⟨up q.1, (hmm a (nec q.1) (List.mem_of_getElem? q.1)).mpr q.2⟩⟩
  refine ⟨⟨e.tr.trans t, ?_, fun a ha => List.mem_filter.mpr ⟨e.gh a ha, decide_eq_true fun z => hn (.inr (by rw [← z]; exact ha))⟩, e.gk⟩, ⟨?_, by simp [m.len], fun a ha => ⟨fun z => ?_, (m.gs a (lessG_le a ha)).2⟩, fun n a es e1 e2 => ?_, fun n a es e1 e2 => ?_, m.tb, g.ivm _ _ _ _ t m.iv⟩, ?_⟩
  · obtain ⟨k, e⟩ := e.pre
    exact ⟨k ++ [p], by rw [e, List.append_assoc]⟩
  · show (φ'.c ++ [p]).Nodup
    rw [List.nodup_append]
    refine ⟨m.nd, by simp, fun a ha b hb z => ?_⟩
    have : b = p := by simpa using hb
    subst this
    subst z
    exact cp ha
  · rcases List.mem_append.mp z with z | z
    · exact (m.gs a (lessG_le a ha)).1 z
    · exact lessG_ne a ha (by simpa using z)
  · obtain ⟨e1, k1⟩ := e1
    have e1 : (φ'.c ++ [p])[n]? = some a := e1
    by_cases hl : n < φ'.c.length
    · rw [List.getElem?_append_left hl] at e1
      rw [List.getElem?_append_left (by rw [← m.len]; exact hl)] at e2
      obtain ⟨ys, q, r2⟩ := m.at_ n a es ⟨e1, fun z => k1 ((hmm a (nec e1) (List.mem_of_getElem? e1)).mpr z)⟩ e2
      exact ⟨ys, q, r2.tr t⟩
    · obtain ⟨hn', ea⟩ := idx_last e1 hl
      subst hn'
      subst ea
      rw [m.len] at e2
      simp at e2
      subst e2
      obtain ⟨xs, eo, r⟩ := hr k1
      subst eo
      exact ⟨xs, ho, r.tr t⟩
  · obtain ⟨e1, k1⟩ := e1
    have e1 : (φ'.c ++ [p])[n]? = some a := e1
    by_cases hl : n < φ'.c.length
    · rw [List.getElem?_append_left hl] at e1
      rw [List.getElem?_append_left (by rw [← m.len]; exact hl)] at e2
      obtain ⟨ks, vs, u, r2, q⟩ := m.atD n a es ⟨e1, (hmm a (nec e1) (List.mem_of_getElem? e1)).mp k1⟩ e2
      exact ⟨ks, vs, u, r2.tr t, q⟩
    · obtain ⟨hn', ea⟩ := idx_last e1 hl
      subst hn'
      subst ea
      rw [m.len] at e2
      simp at e2
      subst e2
      obtain ⟨ks, vs, r, eo⟩ := hd k1
      exact ⟨ks, vs, o, r.tr t, .inl ⟨eo, ho⟩⟩
  · rw [← m.len, List.getElem?_append_right (Nat.le_refl _)]
    simp
end
section
variable {g : Gm} {W : WX} {X : Cx} {mi : MI'} {u : MG} {mt : MT} {me : ME} {wt : TG} {vs : List Nat}
/-- what stands while a comprehension runs -/
structure LcAt (g : Gm) (φ1 : Ph) (H1 : Hp) (D0 : Addr) (φ : Ph) (H : Hp) (h : MH) (acc : List V) (ds : List D) : Prop where
  e : Ext φ1 H1 φ H
  m : Hok g φ H h
  d : D0 ∈ φ.g
  o : H D0 = some (.lst acc)
  r : Reps g.r φ H acc ds
theorem imp_lc (hg : GOk g vs wt u) {fin : List D → MH → R D} {Pq : Ph → Hp → Addr → Prop} (σ : L2.St) (H : Hp) (Q : VK)
    (t : tE g W (fun ρ h => (mi ρ h).bind fun s h1 => (loopC u mt me (wipeM ρ vs) s.chk s.items [] h1).bind fin) σ H Q)
    (hfin : ∀ φ1 H1 D0 φ2 H2 h2 acc ds, H1 D0 = none → ¬ φ1.has D0 → LcAt g φ1 H1 D0 φ2 H2 h2 acc ds → Out g W σ φ1 H1 (Rep g.r) Q (fin ds h2) → Q (.ref D0) H2) :
    tLc (tI g W mi) wt (tT g W0 mt) (tE g W0 me) vs σ H Q := by
  obtain ⟨φ, ρ, h, s, m, o⟩ := t
  refine ⟨φ, ρ, h, s, m, ?_⟩
  dsimp only at o
  cases hr : mi ρ h with
  | bad => rw [hr] at o; exact o
  | exc x h1 => rw [hr] at o; exact o
  | ok src h1 =>
    rw [hr] at o
    have o : Out g W σ φ H (Rep g.r) Q ((loopC u mt me (wipeM ρ vs) src.chk src.items [] h1).bind fin) := o
    intro φ1 J H1 e1 m1 wk D0 hD0
    have nD := m1.notin hD0
    have o1 := Out.base e1 o
    have s1 := s.ext e1
    obtain ⟨eg, mg⟩ := mk_g (o := .lst []) m1 hD0 Pl.lst
    refine ⟨fun i k H' => k = src.items.length - i ∧ i ≤ src.items.length ∧ ∃ φ2 h2 acc ds, LcAt g φ1 H1 D0 φ2 H' h2 acc ds ∧ Out g W σ φ1 H1 (Rep g.r) Q ((loopC u mt me (wipeM ρ vs) src.chk (src.items.drop i) ds h2).bind fin), ⟨src.items.length, by simp, Nat.zero_le _, ⟨φ1.c, D0 :: φ1.g, φ1.m⟩, h1, [], [], ⟨eg, mg, List.mem_cons_self, upd_same, .nil⟩, o1⟩, ?_⟩
    rintro i k H2 ⟨rfl, hi, φ2, h2, acc, ds, L, o2⟩
    by_cases hlt : i < src.items.length
    · rw [List.drop_eq_getElem_cons hlt] at o2
      unfold loopC at o2
      split at o2
      · rename_i hck
        obtain ⟨w1, w2⟩ := (wk φ2 H2 h2 L.e.tr L.m hck i)
        obtain ⟨go, yl⟩ := w1 src.items[i] (by simp [hlt])
        refine .inr ⟨go, fun H' => ∃ φ2 h2 acc ds, LcAt g φ1 H1 D0 φ2 H' h2 acc ds ∧ Out g W σ φ1 H1 (Rep g.r) Q ((loopC u mt me (wipeM ρ vs) src.chk (src.items.drop (i + 1)) ds h2).bind fin), fun H' q => ⟨src.items.length - (i + 1), by omega, rfl, hlt, q⟩, fun x H3 y => ?_⟩
        obtain ⟨φ3, e3, r3, m3⟩ := yl x H3 y
        cases hu : u src.items[i] (wipeM ρ vs) h2 with
        | none => rw [hu] at o2; exact o2.elim
        | some q =>
          obtain ⟨ρ4, h4⟩ := q
          rw [hu] at o2
          refine hg ((s1.ext (L.e.trans e3)).wipe vs) r3 hu fun σ4 eh s4 w4 => ⟨w4.trans (wipe_wipe vs vs σ fun _ h => h), ?_⟩
          subst eh
          dsimp only at o2
          refine ⟨φ3, ρ4, h4, s4, m3, ?_⟩
          cases ht : mt ρ4 h4 with
          | bad => rw [ht] at o2; exact o2.elim
          | exc _ _ => rw [ht] at o2; exact o2.elim
          | ok b h5 =>
            rw [ht] at o2
            intro φ5 b' H5 e5 r5 m5
            cases (show b' = b from r5)
            have e25 := e3.trans e5
            cases b with
            | false => exact ⟨φ5, h5, acc, ds, ⟨L.e.trans e25, m5, e25.gh _ L.d, (e25.gk _ L.d).trans L.o, L.r.ext e25⟩, o2⟩
            | true =>
              refine ⟨φ5, ρ4, h5, s4.ext e5, m5, ?_⟩
              have o3 : Out g W σ φ1 H1 (Rep g.r) Q (((noEx (me ρ4 h5)).bind fun y h3 => if ds.length < 16777216 then loopC u mt me (wipeM ρ vs) src.chk (src.items.drop (i + 1)) (ds ++ [y]) h3 else .bad : R (List D)).bind fin) := o2
              cases hm : me ρ4 h5 with
              | bad => rw [hm] at o3; exact o3.elim
              | exc _ _ => rw [hm] at o3; exact o3.elim
              | ok y' h6 =>
                rw [hm] at o3
                intro φ6 v6 H6 e6 r6 m6
                have o4 : Out g W σ φ1 H1 (Rep g.r) Q ((if ds.length < 16777216 then loopC u mt me (wipeM ρ vs) src.chk (src.items.drop (i + 1)) (ds ++ [y']) h6 else .bad : R (List D)).bind fin) := o3
                have e26 := e25.trans e6
                have r26 := L.r.ext e26
                have d6 := e26.gh _ L.d
                have c6 := (m6.gs _ d6).1
                have x6 := L.e.trans e26
                split at o4
                · rename_i hs
                  exact ⟨acc, (e26.gk _ L.d).trans L.o, by rw [L.r.length, sizeLine_eq]; exact hs, φ6, h6, acc ++ [v6], ds ++ [y'], ⟨x6.gset nD d6, m6.gput d6 Pl.lst, d6, upd_same, (r26.append (.one r6)).tr (Tr.upd (.inr (.inr d6)))⟩, o4⟩
                · exact o4.elim
      · exact o2.elim
    · have ei : i = src.items.length := by omega
      subst ei
      rw [List.drop_length] at o2
      unfold loopC at o2
      split at o2
      · rename_i hck
        obtain ⟨w1, w2⟩ := (wk φ2 H2 h2 L.e.tr L.m hck src.items.length)
        exact .inl ⟨w2 (Nat.le_refl _), hfin φ1 H1 D0 φ2 H2 h2 acc ds hD0 nD L o2⟩
      · exact o2.elim
/-- the list is made: it stands from now on, or is a cell -/
theorem lc_end {φ1 φ2 : Ph} {H1 H2 : Hp} {D0 : Addr} {h2 : MH} {acc : List V} {ds : List D} (hn : H1 D0 = none) (nD : ¬ φ1.has D0) (L : LcAt g φ1 H1 D0 φ2 H2 h2 acc ds) :
    Ext φ1 H1 (lessG φ2 D0) H2 ∧ Hok g (lessG φ2 D0) H2 h2 ∧ Rep g.r (lessG φ2 D0) H2 (.ref D0) (.lst ds) := by
  obtain ⟨a, b, t, n⟩ := made L.e L.m nD L.d
  exact ⟨a, b, .lst ⟨L.o, n⟩ (L.r.tr t)⟩
theorem lc_endC {φ1 φ2 : Ph} {H1 H2 : Hp} {D0 : Addr} {h2 : MH} {acc : List V} {ds : List D} (hn : H1 D0 = none) (nD : ¬ φ1.has D0) (L : LcAt g φ1 H1 D0 φ2 H2 h2 acc ds) :
    ∃ φ3, Ext φ1 H1 φ3 H2 ∧ Hok g φ3 H2 (h2 ++ [ds]) ∧ Rep g.r φ3 H2 (.ref D0) (.cell h2.length) := by
  have cD := (L.m.gs _ L.d).1
  have nm : D0 ∉ φ2.m.filter fun a => decide (a ∈ φ2.c) := fun z => cD (of_decide_eq_true (List.mem_filter.mp z).2)
  obtain ⟨a, b, c⟩ := madeC (ds := ds) (mm := φ2.m.filter fun a => decide (a ∈ φ2.c)) L.e L.m nD L.d L.o (fun a _ ha => by simp [ha]) (fun _ => ⟨acc, rfl, L.r⟩) (fun z => absurd z nm)
  exact ⟨_, a, b, .cell ⟨c, nm⟩⟩
theorem imp_lcL (hg : GOk g vs wt u) (σ : L2.St) (H : Hp) (Q : VK) (t : tE g W (mLc mi u mt me vs) σ H Q) : tLc (tI g W mi) wt (tT g W0 mt) (tE g W0 me) vs σ H Q :=
  imp_lc (Pq := fun _ _ _ => True) hg σ H Q t fun φ1 H1 D0 φ2 H2 h2 acc ds hn nD L o => by
    obtain ⟨a, b, c⟩ := lc_end hn nD L
    exact o _ _ _ a c b
theorem imp_lcC (hg : GOk g vs wt u) (σ : L2.St) (H : Hp) (Q : VK) (t : tE g W (mLcC mi u mt me vs) σ H Q) : tLc (tI g W mi) wt (tT g W0 mt) (tE g W0 me) vs σ H Q :=
  imp_lc (Pq := fun _ _ _ => True) hg σ H Q t fun φ1 H1 D0 φ2 H2 h2 acc ds hn nD L o => by
    obtain ⟨φ3, a, b, c⟩ := lc_endC hn nD L
    exact o _ _ _ a c b
end
end MI
namespace MI
open PySem PySem.Spec
open PyProof.Rows L2

def mYes : MT := fun _ h => .ok true h
section
variable {g : Gm} {W : WX} {X : Cx} {mi : MI'} {u : MG} {mt : MT} {me ma mb : ME} {wt : TG} {elt tg iter a b : Expr} {ifs : List Expr} {scope : Scope} {own : List (Str × Nat)} {pos p : Pos} {mas : MA}
theorem sts_nil : PTs X [] (tT g W mYes) := ⟨fun pins s σ H Q I t => pts_nil.run pins s σ H Q I (by
  obtain ⟨φ, ρ, h, s, m, o⟩ := t
  exact o φ true H Ext.refl rfl m)⟩
theorem sts_one {c : Expr} (h : PT X c (tT g W mt)) : PTs X [c] (tT g W mt) := pts_one h
theorem s_lc (hc : X.calm = true) (hN : X.N.Nodup) (hi : PI X tg iter (tI g W mi)) (ok : BlkOk X.N X.env.scope scope own) (hgo : GOk g (own.map (·.2)) wt u)
    (hg : ∀ (s : Shared) (H : Hp) (C : Addr) (cl : List (Str × Addr)) (fp : List Addr), PG (X.blk s H scope (compEnvC scope cl C X.env) fp) tg wt) (ht : ∀ (s : Shared) (H : Hp) (C : Addr) (cl : List (Str × Addr)) (fp : List Addr), PTs (X.blk s H scope (compEnvC scope cl C X.env) fp) ifs (tT g W0 mt))
    (he : ∀ (s : Shared) (H : Hp) (C : Addr) (cl : List (Str × Addr)) (fp : List Addr), PE (X.blk s H scope (compEnvC scope cl C X.env) fp) elt (tE g W0 me)) (hs : ∀ x, foldedSetIterable iter X.env x = pure x := by intro _; rfl) :
    PE X (.ListComp elt [⟨tg, iter, ifs, 0⟩] scope pos) (tE g W (mLc mi u mt me (own.map (·.2)))) := pe_imp (pe_lc hc hN hi ok hg ht he hs) (imp_lcL hgo)
theorem s_lcC (hc : X.calm = true) (hN : X.N.Nodup) (hi : PI X tg iter (tI g W mi)) (ok : BlkOk X.N X.env.scope scope own) (hgo : GOk g (own.map (·.2)) wt u)
    (hg : ∀ (s : Shared) (H : Hp) (C : Addr) (cl : List (Str × Addr)) (fp : List Addr), PG (X.blk s H scope (compEnvC scope cl C X.env) fp) tg wt) (ht : ∀ (s : Shared) (H : Hp) (C : Addr) (cl : List (Str × Addr)) (fp : List Addr), PTs (X.blk s H scope (compEnvC scope cl C X.env) fp) ifs (tT g W0 mt))
    (he : ∀ (s : Shared) (H : Hp) (C : Addr) (cl : List (Str × Addr)) (fp : List Addr), PE (X.blk s H scope (compEnvC scope cl C X.env) fp) elt (tE g W0 me)) (hs : ∀ x, foldedSetIterable iter X.env x = pure x := by intro _; rfl) :
    PE X (.ListComp elt [⟨tg, iter, ifs, 0⟩] scope pos) (tE g W (mLcC mi u mt me (own.map (·.2)))) := pe_imp (pe_lc hc hN hi ok hg ht he hs) (imp_lcC hgo)
theorem s_setLc {i : Nat} {y : Str} {py spos : Pos} (hc : X.calm = true) (hN : X.N.Nodup) (hsw : swapsWith (.ListComp elt [⟨tg, iter, ifs, 0⟩] scope pos) (some (.Name y py)) spos.line X.env = pure true) (hi : PI X tg iter (tI g W mi)) (ok : BlkOk X.N X.env.scope scope own) (hgo : GOk g (own.map (·.2)) wt u)
    (hg : ∀ (s : Shared) (H : Hp) (C : Addr) (cl : List (Str × Addr)) (fp : List Addr), PG (X.blk s H scope (compEnvC scope cl C X.env) fp) tg wt) (ht : ∀ (s : Shared) (H : Hp) (C : Addr) (cl : List (Str × Addr)) (fp : List Addr), PTs (X.blk s H scope (compEnvC scope cl C X.env) fp) ifs (tT g W0 mt))
    (he : ∀ (s : Shared) (H : Hp) (C : Addr) (cl : List (Str × Addr)) (fp : List Addr), PE (X.blk s H scope (compEnvC scope cl C X.env) fp) elt (tE g W0 me))
    (hy : X.N[i]? = some y := by rfl) (hyl : X.env.scope.names.lookup y = some .local := by rfl) (hs : ∀ x, foldedSetIterable iter X.env x = pure x := by intro _; rfl) :
    PS X (.Assign [.Name y py] (.ListComp elt [⟨tg, iter, ifs, 0⟩] scope pos) spos) (tS g W (mAsg (mLc mi u mt me (own.map (·.2))) (gN i))) := ps_imp (ps_setLc hc hN hy hyl hsw hi ok hg ht he hs) fun E σ H t => by
  obtain ⟨φ, ρ, h, s, m, o⟩ := t
  have t' : tE g W (mLc mi u mt me (own.map (·.2))) σ H (fun x H1 => gName i x σ H1 E.nx) := ⟨φ, ρ, h, s, m, OutS.expr s o fun d h1 φ1 v H1 e1 r1 m1 o1 => o1 φ1 _ H1 Ext.refl ((s.ext e1).set r1 i) m1⟩
  exact imp_lcL hgo σ H _ t'
theorem s_setLcC {i : Nat} {y : Str} {py spos : Pos} (hc : X.calm = true) (hN : X.N.Nodup) (hsw : swapsWith (.ListComp elt [⟨tg, iter, ifs, 0⟩] scope pos) (some (.Name y py)) spos.line X.env = pure true) (hi : PI X tg iter (tI g W mi)) (ok : BlkOk X.N X.env.scope scope own) (hgo : GOk g (own.map (·.2)) wt u)
    (hg : ∀ (s : Shared) (H : Hp) (C : Addr) (cl : List (Str × Addr)) (fp : List Addr), PG (X.blk s H scope (compEnvC scope cl C X.env) fp) tg wt) (ht : ∀ (s : Shared) (H : Hp) (C : Addr) (cl : List (Str × Addr)) (fp : List Addr), PTs (X.blk s H scope (compEnvC scope cl C X.env) fp) ifs (tT g W0 mt))
    (he : ∀ (s : Shared) (H : Hp) (C : Addr) (cl : List (Str × Addr)) (fp : List Addr), PE (X.blk s H scope (compEnvC scope cl C X.env) fp) elt (tE g W0 me))
    (hy : X.N[i]? = some y := by rfl) (hyl : X.env.scope.names.lookup y = some .local := by rfl) (hs : ∀ x, foldedSetIterable iter X.env x = pure x := by intro _; rfl) :
    PS X (.Assign [.Name y py] (.ListComp elt [⟨tg, iter, ifs, 0⟩] scope pos) spos) (tS g W (mAsg (mLcC mi u mt me (own.map (·.2))) (gN i))) := ps_imp (ps_setLc hc hN hy hyl hsw hi ok hg ht he hs) fun E σ H t => by
  obtain ⟨φ, ρ, h, s, m, o⟩ := t
  have t' : tE g W (mLcC mi u mt me (own.map (·.2))) σ H (fun x H1 => gName i x σ H1 E.nx) := ⟨φ, ρ, h, s, m, OutS.expr s o fun d h1 φ1 v H1 e1 r1 m1 o1 => o1 φ1 _ H1 Ext.refl ((s.ext e1).set r1 i) m1⟩
  exact imp_lcC hgo σ H _ t'

/-! ### zip -/
def zipD : List D → List D → List D
  | a :: r, b :: s => .tup [a, b] :: zipD r s
  | _, _ => []
def srcZ : List D → MH → R Src
  | [.lst l, .lst m], h => .ok ⟨zipD l m, none⟩ h
  | [.tup l, .tup m], h => .ok ⟨zipD l m, none⟩ h
  | _, _ => .bad
theorem zipD_get : ∀ {l m : List D} {i : Nat} {d : D}, (zipD l m)[i]? = some d → ∃ x y, l[i]? = some x ∧ m[i]? = some y ∧ d = .tup [x, y]
  | [], _, i, d, e => by simp [zipD] at e
  | _ :: _, [], i, d, e => by simp [zipD] at e
  | a :: r, b :: s, 0, d, e => by simp [zipD] at e; exact ⟨a, b, by simp, by simp, e.symm⟩
  | a :: r, b :: s, i + 1, d, e => by
    obtain ⟨x, y, e1, e2, e3⟩ := zipD_get (l := r) (m := s) (i := i) (by simpa [zipD] using e)
    exact ⟨x, y, by simpa using e1, by simpa using e2, e3⟩
theorem zipD_len : ∀ (l m : List D), (zipD l m).length = min l.length m.length
  | [], _ => by simp [zipD]
  | _ :: _, [] => by simp [zipD]
  | a :: r, b :: s => by simp [zipD, zipD_len r s]
theorem pair_new {φ : Ph} {H : Hp} {h : MH} {T : Addr} {x y : V} {d e : D} (m : Hok g φ H h) (hT : H T = none) (rx : Rep g.r φ H x d) (ry : Rep g.r φ H y e) :
    Ext φ H φ (upd H T (.tup [x, y])) ∧ Rep g.r φ (upd H T (.tup [x, y])) (.ref T) (.tup [d, e]) ∧ Hok g φ (upd H T (.tup [x, y])) h := by
  have ee : Ext φ H φ (upd H T (.tup [x, y])) := Ext.new hT (m.notin hT)
  exact ⟨ee, .tup ⟨upd_same, m.notin hT⟩ (.cons (rx.ext ee) (.cons (ry.ext ee) .nil)), m.new hT⟩
theorem si_zip {e e2 : Expr} {tpos : Pos} {elts : List Expr} {kk : Nat} (hk : g.r.K = X.K) (hm : X.mg "zip" = none) (ha : PA X [e, e2] (tA g W mas)) (hg : Gl X "zip" := by rfl)
    (hs : starEach [e, e2] X.env = (false, eval e X.env) :: starEach [e2] X.env := by rfl) (hpl : (backTo pos (starEach [e2] X.env)).any (·.1) = false := by rfl) :
    PI X (.Tuple elts kk tpos) (.Call (.Name "zip" p) [e, e2] [] pos) (tI g W (mSrcA mas srcZ)) := pi_imp (RZ.pi_zipA hg hm ha hs hpl) fun σ H Q t => by
  obtain ⟨φ, ρ, h, s, m, o⟩ := t
  refine ⟨φ, ρ, h, s, m, out_srcA o fun d h1 φ1 v H1 e1 r1 m1 o1 => ?_⟩
  unfold srcZ at o1
  split at o1
  · cases r1 with
    | cons r rr =>
      cases rr with
      | cons r' rr =>
        cases rr
        cases r with
        | lst q r =>
          cases r' with
          | lst q' r' =>
            rename_i a xs b ys
            refine ⟨a, b, xs, ys, rfl, .inl ⟨hk ▸ q.sq, hk ▸ q'.sq, ?_⟩⟩
            rw [← hk]
            refine o1 φ1 _ H1 Ext.refl m1 fun φ' H' h' ee m' _ i => ⟨fun d hd => ?_, fun hi => ?_⟩
            · obtain ⟨x, y, d1, d2, rfl⟩ := zipD_get hd
              obtain ⟨x', f1, f2⟩ := (r.tr ee).get d1
              obtain ⟨y', f3, f4⟩ := (r'.tr ee).get d2
              refine ⟨⟨xs, ys, x', y', (ee.fl q).sq, (ee.fl q').sq, f1, f3⟩, fun z H2 ⟨T, x2, y2, e3, e4, e5, e6, e7⟩ => ?_⟩
              have g1 := e6 xs (ee.fl q).sq
              have g2 := e7 ys (ee.fl q').sq
              rw [f1] at g1
              rw [f3] at g2
              cases g1
              cases g2
              subst e3
              subst e5
              exact ⟨φ', pair_new m' e4 f2 f4⟩
            · refine ⟨xs, ys, (ee.fl q).sq, (ee.fl q').sq, ?_⟩
              rw [zipD_len] at hi
              have := r.length
              have := r'.length
              omega
  · cases r1 with
    | cons r rr =>
      cases rr with
      | cons r' rr =>
        cases rr
        cases r with
        | tup q r =>
          cases r' with
          | tup q' r' =>
            rename_i a xs b ys
            refine ⟨a, b, xs, ys, rfl, .inr ⟨hk ▸ q.sq, hk ▸ q'.sq, ?_⟩⟩
            rw [← hk]
            refine o1 φ1 _ H1 Ext.refl m1 fun φ' H' h' ee m' _ i => ⟨fun d hd => ?_, fun hi => ?_⟩
            · obtain ⟨x, y, d1, d2, rfl⟩ := zipD_get hd
              obtain ⟨x', f1, f2⟩ := (r.tr ee).get d1
              obtain ⟨y', f3, f4⟩ := (r'.tr ee).get d2
              refine ⟨⟨xs, ys, x', y', (ee.ft q).sq, (ee.ft q').sq, f1, f3⟩, fun z H2 ⟨T, x2, y2, e3, e4, e5, e6, e7⟩ => ?_⟩
              have g1 := e6 xs (ee.ft q).sq
              have g2 := e7 ys (ee.ft q').sq
              rw [f1] at g1
              rw [f3] at g2
              cases g1
              cases g2
              subst e3
              subst e5
              exact ⟨φ', pair_new m' e4 f2 f4⟩
            · refine ⟨xs, ys, (ee.ft q).sq, (ee.ft q').sq, ?_⟩
              rw [zipD_len] at hi
              have := r.length
              have := r'.length
              omega
  · exact o1.elim

/-! ### methods of a cell -/
def mMeth (f : Nat → List D → MH → R D) (o : ME) (a : MA) : ME := fun ρ h => (o ρ h).bind fun x h1 => match x with
  | .cell n => if n < h1.length then (a ρ h1).bind fun ys h2 => f n ys h2 else .bad
  | _ => .bad
def vAppend (n : Nat) (ys : List D) (h : MH) : R D := match ys, h[n]? with
  | [y], some l => if l.length < 16777216 then .ok .non (h.set n (l ++ [y])) else .bad
  | _, _ => .bad
def vPopAt (n : Nat) (ys : List D) (h : MH) : R D := match ys, h[n]? with
  | [.int i], some l => if (decide (-(2 ^ 63) ≤ i) && decide (i < 2 ^ 63)) = true then (match ixN l.length i with
    | some k => match l[k]? with
      | some y => .ok y (h.set n (l.eraseIdx k))
      | none => .bad
    | none => .bad) else .bad
  | _, _ => .bad
theorem imp_meth {f : Nat → List D → MH → R D} {r : V → List V → Hp → VK → Prop} (hk : g.r.K = X.K)
    (hf : ∀ {σ : L2.St} {φ : Ph} {H : Hp} {h : MH} {n : Nat} {a : Addr} {xs : List V} {ds : List D} {Q : VK}, φ.lc n a → Reps g.r φ H xs ds → Hok g φ H h → Out g W σ φ H (Rep g.r) Q (f n ds h) → r (.ref a) xs H Q)
    (σ : L2.St) (H : Hp) (Q : VK) (t : tE g W (mMeth f ma mas) σ H Q) : tBM X.K "list" r (tE g W ma) (tA g W mas) σ H Q := by
  obtain ⟨φ, ρ, h, s, m, o⟩ := t
  refine ⟨φ, ρ, h, s, m, Out.next o fun x h1 φ1 v H1 e1 r1 m1 o1 => ?_⟩
  cases r1 with
  | cell q =>
    rename_i a n
    dsimp only at o1
    split at o1
    · rename_i hl
      obtain ⟨xs, q2, _⟩ := m1.at_ n a h1[n] q (by simp [hl])
      refine ⟨.inl ⟨rfl, xs, SqL.of q2⟩, φ1, ρ, h1, s.ext e1, m1, Out.next o1 fun ys h2 φ2 vs H2 e2 r2 m2 o2 => ?_⟩
      exact hf (e2.ix q) r2 m2 o2
    · exact o1.elim
  | _ => exact o1.elim
variable {e : Expr} {es : List Expr} {apos cpos : Pos}
theorem append_f {σ : L2.St} {φ : Ph} {H : Hp} {h : MH} {n : Nat} {a : Addr} {xs : List V} {ds : List D} {Q : VK} (q : φ.lc n a) (r : Reps g.r φ H xs ds) (m : Hok g φ H h) (o : Out g W σ φ H (Rep g.r) Q (vAppend n ds h)) : rAppend (.ref a) xs H Q := by
  unfold vAppend at o
  split at o
  · rename_i y l hl
    split at o
    · rename_i hs
      cases r with
      | cons r1 rr =>
        cases rr
        obtain ⟨zs, q2, r2⟩ := m.at_ n a l q hl
        obtain ⟨e3, m3⟩ := m.put q (r2.append (.one r1))
        exact ⟨a, zs, _, rfl, rfl, q2, by rw [r2.length, sizeLine_eq]; exact hs, o φ _ _ e3 .non m3⟩
    · exact o.elim
  · exact o.elim
theorem popAt_f {σ : L2.St} {φ : Ph} {H : Hp} {h : MH} {n : Nat} {a : Addr} {xs : List V} {ds : List D} {Q : VK} (q : φ.lc n a) (r : Reps g.r φ H xs ds) (m : Hok g φ H h) (o : Out g W σ φ H (Rep g.r) Q (vPopAt n ds h)) : rPopAt (.ref a) xs H Q := by
  unfold vPopAt at o
  split at o
  · rename_i i l hl
    split at o
    · rename_i hs
      rw [Bool.and_eq_true] at hs
      split at o
      · rename_i k hi
        split at o
        · rename_i y hy
          cases r with
          | cons r1 rr =>
            cases rr
            cases r1
            obtain ⟨zs, q2, r2⟩ := m.at_ n a l q hl
            obtain ⟨x, e1, e2⟩ := r2.get hy
            obtain ⟨e3, m3⟩ := m.put q (r2.eraseIdx k)
            exact ⟨a, zs, i, k, x, rfl, rfl, q2, of_decide_eq_true hs.1, of_decide_eq_true hs.2, by rw [r2.length]; exact (ixN_seq hi).1, e1, o φ _ _ e3 (e2.ext e3) m3⟩
        · exact o.elim
      · exact o.elim
    · exact o.elim
  · exact o.elim
theorem s_append (hk : g.r.K = X.K) (ho : PE X a (tE g W ma)) (ha : PA X (e :: es) (tA g W mas)) (hbase : attributeBase a "append" X.env (eval a X.env) = eval a X.env := by rfl)
    (hfew : ((backTo cpos (starEach (e :: es) X.env)).all (fun x => !x.1) && (backToKw cpos (keywordEach [] X.env)).all (fun x => x.1.isSome) && decide ((e :: es).length + ([] : List Keyword).length + (if ([] : List Keyword).isEmpty then 0 else 1) < 30)) = true := by rfl)
    (hline : (apos.endLine == cpos.line) = true := by rfl) (hs : starEach (e :: es) X.env = (false, eval e X.env) :: starEach es X.env := by rfl) (hplain : (backTo cpos (starEach es X.env)).any (·.1) = false := by rfl) :
    PE X (.Call (.Attribute a "append" apos) (e :: es) [] cpos) (tE g W (mMeth vAppend ma mas)) := pe_imp (pe_bm PySem.F.plainAttrs_list PySem.F.slot_list_append PySem.F.type_list_append mt_append ho ha hbase hfew hline hs hplain) (imp_meth hk fun q r m o => append_f q r m o)
theorem s_popAt (hk : g.r.K = X.K) (ho : PE X a (tE g W ma)) (ha : PA X (e :: es) (tA g W mas)) (hbase : attributeBase a "pop" X.env (eval a X.env) = eval a X.env := by rfl)
    (hfew : ((backTo cpos (starEach (e :: es) X.env)).all (fun x => !x.1) && (backToKw cpos (keywordEach [] X.env)).all (fun x => x.1.isSome) && decide ((e :: es).length + ([] : List Keyword).length + (if ([] : List Keyword).isEmpty then 0 else 1) < 30)) = true := by rfl)
    (hline : (apos.endLine == cpos.line) = true := by rfl) (hs : starEach (e :: es) X.env = (false, eval e X.env) :: starEach es X.env := by rfl) (hplain : (backTo cpos (starEach es X.env)).any (·.1) = false := by rfl) :
    PE X (.Call (.Attribute a "pop" apos) (e :: es) [] cpos) (tE g W (mMeth vPopAt ma mas)) := pe_imp (pe_bm PySem.F.plainAttrs_list PySem.F.slot_list_pop PySem.F.type_list_pop mt_popAt ho ha hbase hfew hline hs hplain) (imp_meth hk fun q r m o => popAt_f q r m o)

/-! ### t[::-1] of a tuple, a list -/
def vRev (d : D) (h : MH) : R D := match d with
  | .tup l => .ok (.tup l.reverse) h
  | d => match listOf h d with
    | some l => .ok (.lst l.reverse) h
    | none => .bad
/-! ### {} -/
theorem s_dict0 : PE X (.Dict [] [] pos) (tE g W (mC (.dic [] []))) := pe_imp pe_dnewK fun σ H Q t => by
  obtain ⟨φ, ρ, h, s, m, o⟩ := t
  intro d hd
  exact o φ _ _ (Ext.new hd (m.notin hd)) (.dic (kvs := []) (.inl upd_same) (m.notin hd) rfl .nil) (m.new hd)
end
end MI
namespace MI
open PySem PySem.Spec
open PyProof.Rows L2

/-! ### a list or a tuple is walked -/
def iSeq (K : PySem.W.Frag) (tl : TE) : TI := fun σ H R' => tl σ H fun x H1 => ∃ a, x = .ref a ∧ (((∃ xs, SqL K H1 a xs) ∧ R' (Itl K a) H1) ∨ ((∃ xs, SqT K H1 a xs) ∧ R' (Itt K a) H1))
section
variable {g : Gm} {W : WX} {X : Cx} {ma : ME}
theorem pi_seq {tg l : Expr} {tl : TE} (hl : PE X l tl) : PI X tg l (iSeq X.K tl) := by
  refine ⟨fun pins s σ H R' I h => thn (hl.run pins s σ H _ I h) fun v s1 hv => ?_⟩
  obtain ⟨x, H1, I1, r1, a, ex, q⟩ := hv
  subst ex
  cases r1
  have fresh : ∀ b ∈ [s1.heap.objs.size], FpOk X pins H1 b := fun b hb => by
    have e : b = s1.heap.objs.size := by simpa using hb
    rw [e]
    exact I1.fpOk (Nat.le_refl _) (I1.hok.fresh (Nat.le_refl _))
  rcases q with ⟨⟨xs, hq⟩, q⟩ | ⟨⟨xs, hq⟩, q⟩
  · obtain ⟨its, rv, pl, hz⟩ := I1.list hq
    exact wpAny_pyIter_list pl.isList ⟨_, [s1.heap.objs.size], _, _, H1, rfl, I1.kept (t' := s1.toks) fun b o e => Heap.get?_push_of_some _ e, turn_list a _, ⟨_, Heap.get?_push_size _ rfl, rfl, rfl⟩, fresh, q⟩
  · obtain ⟨its, rv, pt, hz⟩ := I1.tuple hq
    exact wpAny_pyIter_tuple (show s1.heap.IsTuple a its.toArray from pt) ⟨_, [s1.heap.objs.size], _, _, H1, rfl, I1.kept (t' := s1.toks) fun b o e => Heap.get?_push_of_some _ e, turn_tuple a _, ⟨_, Heap.get?_push_size _ rfl, rfl, rfl⟩, fresh, q⟩
def srcS (d : D) (h : MH) : R Src := match d with
  | .tup l => .ok ⟨l, none⟩ h
  | .lst l => .ok ⟨l, none⟩ h
  | .scr l => .ok ⟨l.map .int, none⟩ h
  | .ctp l => .ok ⟨l.map .int, none⟩ h
  | .cell n => match h[n]? with
    | some l => .ok ⟨l, some (n, l)⟩ h
    | none => .bad
  | _ => .bad
theorem si_seq {tg l : Expr} (hk : g.r.K = X.K) (hl : PE X l (tE g W ma)) : PI X tg l (tI g W (mSrc ma srcS)) := pi_imp (pi_seq hl) fun σ H Q t => by
  obtain ⟨φ, ρ, h, s, m, o⟩ := t
  refine ⟨φ, ρ, h, s, m, out_src o fun d h1 φ1 v H1 e1 r1 m1 o1 => ?_⟩
  cases r1 with
  | tup q r =>
    rename_i a xs ds
    refine ⟨a, rfl, .inr ⟨⟨xs, hk ▸ q.sq⟩, ?_⟩⟩
    rw [← hk]
    refine o1 φ1 _ H1 Ext.refl m1 fun φ' H' h' e m' _ i => ?_
    have q' := (e.ft q).sq
    have r' := r.tr e
    refine ⟨fun d hd => ?_, fun hi => ⟨xs, q', by rw [r'.length]; exact hi⟩⟩
    obtain ⟨x, e3, e4⟩ := r'.get hd
    refine ⟨⟨xs, x, q', e3⟩, fun x' H2 ⟨e5, e6⟩ => ?_⟩
    have := e6 xs q'
    rw [e3] at this
    cases this
    subst e5
    exact ⟨φ', Ext.refl, e4, m'⟩
  | ctp q =>
    rename_i a l
    refine ⟨a, rfl, .inr ⟨⟨_, hk ▸ ctp_sq q⟩, ?_⟩⟩
    rw [← hk]
    refine o1 φ1 _ H1 Ext.refl m1 fun φ' H' h' e m' _ i => ?_
    have q' := ctp_sq (H := H') q
    have r' : Reps g.r φ' H' (l.map V.int) (l.map D.int) := reps_ints l
    refine ⟨fun d hd => ?_, fun hi => ⟨_, q', by rw [r'.length]; exact hi⟩⟩
    obtain ⟨x, e3, e4⟩ := r'.get hd
    refine ⟨⟨_, x, q', e3⟩, fun x' H2 ⟨e5, e6⟩ => ?_⟩
    have := e6 _ q'
    rw [e3] at this
    cases this
    subst e5
    exact ⟨φ', Ext.refl, e4, m'⟩
  | lst q r =>
    rename_i a xs ds
    refine ⟨a, rfl, .inl ⟨⟨xs, hk ▸ q.sq⟩, ?_⟩⟩
    rw [← hk]
    exact o1 φ1 _ H1 Ext.refl m1 (walk_lst (fun φ' H' e => ⟨xs, (e.fl q).sq, r.tr e⟩) fun _ _ _ _ _ _ => trivial)
  | scr q =>
    rename_i a l
    refine ⟨a, rfl, .inl ⟨⟨_, hk ▸ q.sq⟩, ?_⟩⟩
    rw [← hk]
    exact o1 φ1 _ H1 Ext.refl m1 (walk_lst (fun φ' H' e => ⟨_, (e.fs q).sq, reps_ints l⟩) fun _ _ _ _ _ _ => trivial)
  | cell q =>
    rename_i a n
    cases hn : h1[n]? with
    | none => simp only [srcS, hn] at o1; exact o1.elim
    | some l =>
      simp only [srcS, hn] at o1
      obtain ⟨xs, q2, r⟩ := m1.at_ n a l q hn
      refine ⟨a, rfl, .inl ⟨⟨xs, SqL.of q2⟩, ?_⟩⟩
      rw [← hk]
      refine o1 φ1 _ H1 Ext.refl m1 fun φ' H' h' e m' hc i => ?_
      have hl : h'[n]? = some l := by
        simp only [Src.chk] at hc
        cases hh : h'[n]? with
        | none => rw [hh] at hc; cases hc
        | some l' => rw [hh] at hc; rw [Ds.eqb_eq hc]
      obtain ⟨ys, q3, r3⟩ := m'.at_ n a l (e.lc _ _ q) hl
      refine ⟨fun d hd => ?_, fun hi => ⟨ys, SqL.of q3, by rw [r3.length]; exact hi⟩⟩
      obtain ⟨x, e3, e4⟩ := r3.get hd
      refine ⟨⟨ys, x, SqL.of q3, e3⟩, fun x' H2 ⟨e5, e6⟩ => ?_⟩
      have := e6 ys (SqL.of q3)
      rw [e3] at this
      cases this
      subst e5
      exact ⟨φ', Ext.refl, e4, m'⟩
  | _ => exact o1.elim
end

/-! ### the defs of a text -/
/-- a def stands at x: its parameters, the constants that fill up, its function -/
structure Dn (P : Program) (w : World) (K : PySem.W.Frag) (mg : Str → Option Value) (base : Heap) (g : Gm) (k : Nat) (x : Str) (dD : List D) (np : Nat) (m : FnM) : Prop where
  ex : ∃ (f : Addr) (fd : FuncData) (ps : List Str) (dvs : List V) (ds : List Value), mg x = some (.ref f) ∧ PySem.W.keepIn K (.ref f) = true ∧ Binds K fd ps ds ∧ Vals dvs ds ∧ (∀ φ H, Reps g.r φ H dvs dD) ∧ FnOk P w K mg base (L2.CX P w) k f fd ps (spM g np m)
section
variable {g : Gm} {W : WX} {X : Cx} {e : Expr} {es : List Expr} {p pos : Pos} {x : Str} {mas : MA} {k np : Nat} {m : FnM} {dD : List D}
theorem s_fn (F : Dn X.prog X.w X.K X.mg X.base g k x dD np m) (tk : Takes X W) (hr : Room k X.A) (ha : PA X (e :: es) (tA g W mas)) (hg : Gl X x := by rfl) (hdb : (x == ("__debug__" : Str)) = false := by decide)
    (he : starEach (e :: es) X.env = (false, eval e X.env) :: starEach es X.env := by rfl) (hpl : (backTo pos (starEach es X.env)).any (·.1) = false := by rfl) : PE X (.Call (.Name x p) (e :: es) [] pos) (tE g W (mCallD np m dD mas)) := by
  obtain ⟨f, fd, ps, dvs, ds, h1, h2, h3, h4, h5, h6⟩ := F.ex
  exact s_callD h6 tk hr h1 h2 h3 h4 h5 ha hg hdb he hpl
end
section
variable {g : Gm} {P : Program} {w : World} {mg : Str → Option Value} {base : Heap}
/-- what the top has left of a def -/
structure At (K : PySem.W.Frag) (mg : Str → Option Value) (x : Str) (st : Stmt) (ps : List Str) : Prop where
  ex : ∃ (f : Addr) (fd : FuncData), mg x = some (.ref f) ∧ Fun K x x st f fd ∧ Binds K fd ps []
theorem at_mk {K : PySem.W.Frag} {mg : Str → Option Value} {h : Heap} {x : Str} {st : Stmt} {ps : List Str} {f : Addr} {oc : Value} {od an : Option Addr} {osl : Array (Option Value)} {kV doc pm cdv ct : Value} (X : K.In h) (G : h.Ns mainGlobals mg)
    (a : PySem.W.nsIn K mainGlobals x = some (some (.ref f))) (l : K.lookup f = some ⟨oc, od, .func (PySem.W.fnOf x x (defArgs st) (defBody st) (defScope st) .none kV doc pm an cdv ct), osl⟩)
    (c : PySem.W.codeIn K cdv x = true) (k : PySem.W.keepIn K (.ref f) = true)
    (b : ∀ (kV doc pm : Value) (an : Option Addr) (cdv ct : Value) (us : List Value), us.length = ps.length → bindArgs (PySem.W.fnOf x x (defArgs st) (defBody st) (defScope st) .none kV doc pm an cdv ct) ⟨us, []⟩ = pure (ps.zip us)) : At K mg x st ps := by
  have F := fun_mk (st := st) l c k
  exact ⟨f, _, PySem.W.mg_of X G a, F, F.binds b⟩
theorem dn_mk {x : Str} {st : Stmt} {N ps : List Str} {k np : Nat} {b : MS} (A : At g.r.K mg x st ps) (S : FnScope N ps (defScope st)) (hnp : ps.length = np)
    (hb : ∀ (f : Addr) (cdv : Value) (A : Around) (outer : List Env) (s : Shared) (H : Hp) (E : XK), Room k (A.deeper (envOfC x (defScope st) s.heap.objs.size f cdv)) →
      Takes (cxOf (L2.CX P w) P w g.r.K mg base N x (defScope st) f cdv A outer s H E) (fun c dx _ H' => E c dx H') →
      PassesOwn (model P w) (cxOf (L2.CX P w) P w g.r.K mg base N x (defScope st) f cdv A outer s H E).A (cxOf (L2.CX P w) P w g.r.K mg base N x (defScope st) f cdv A outer s H E).env (cxOf (L2.CX P w) P w g.r.K mg base N x (defScope st) f cdv A outer s H E).xe →
      PSs (cxOf (L2.CX P w) P w g.r.K mg base N x (defScope st) f cdv A outer s H E) (defBody st) (tS g (fun c dx _ H' => E c dx H') b)) :
    Dn P w g.r.K mg base g (k + 1) x [] np (mFn np N.length b) := by
  obtain ⟨f, fd, h1, F, B⟩ := A.ex
  exact ⟨f, fd, ps, [], [], h1, F.kp, B, .nil, fun _ _ => .nil, fn_m F S hnp (hb f)⟩
/-- a def with constants for its last parameters, called without them: n are written -/
structure AtD (K : PySem.W.Frag) (mg : Str → Option Value) (x : Str) (st : Stmt) (ps : List Str) (dvs : List V) : Prop where
  ex : ∃ (f : Addr) (fd : FuncData) (ds : List Value), mg x = some (.ref f) ∧ FunD K x x (defArgs st) (defBody st) (defScope st) dvs [] f fd ∧ Vals dvs ds ∧ Binds K fd ps ds
theorem atD_mk {K : PySem.W.Frag} {mg : Str → Option Value} {h : Heap} {x : Str} {st : Stmt} {ps : List Str} {f Tp : Addr} {oc : Value} {od an : Option Addr} {osl : Array (Option Value)} {kV doc pm cdv ct : Value} {dvs : List V} {ot : Obj} {its : List Value} {nn : Nat} (X : K.In h) (G : h.Ns mainGlobals mg)
    (a : PySem.W.nsIn K mainGlobals x = some (some (.ref f))) (l : K.lookup f = some ⟨oc, od, .func (PySem.W.fnOf x x (defArgs st) (defBody st) (defScope st) (.ref Tp) kV doc pm an cdv ct), osl⟩)
    (c : PySem.W.codeIn K cdv x = true) (k : PySem.W.keepIn K (.ref f) = true) (lt : K.lookup Tp = some ot) (dt : ot.data = .seq its.toArray nn) (rv : Vals dvs its) (hd : dvs ≠ []) (n : Nat) (hn : n + dvs.length = ps.length)
    (b : ∀ (T : Addr) (kV doc pm : Value) (an : Option Addr) (cdv ct : Value) (us its : List Value), us.length = n → its.length = dvs.length →
      ∃ k, bindArgs (PySem.W.fnOf x x (defArgs st) (defBody st) (defScope st) (.ref T) kV doc pm an cdv ct) ⟨us, []⟩ = seqItems? (.ref T) >>= k ∧ k (some its.toArray) = pure (ps.zip (us ++ its.drop 0))) : AtD K mg x st ps dvs := by
  have F : FunD K x x (defArgs st) (defBody st) (defScope st) dvs [] f (PySem.W.fnOf x x (defArgs st) (defBody st) (defScope st) (.ref Tp) kV doc pm an cdv ct) :=
    ⟨⟨oc, od, .ref Tp, kV, doc, pm, an, cdv, ct, osl, rfl, l, c, .inr ⟨hd, Tp, ot, its, nn, rfl, lt, dt, rv⟩, .inl rfl⟩, k⟩
  obtain ⟨ds, h1, h2⟩ := F.binds1 n 0 hd (by simpa using hn) b
  exact ⟨f, _, ds, PySem.W.mg_of X G a, F, h1, h2⟩
theorem dnD_mk {x : Str} {st : Stmt} {N ps : List Str} {k np : Nat} {b : MS} {dvs : List V} {dD : List D} (A : AtD g.r.K mg x st ps dvs) (S : FnScope N ps (defScope st)) (hnp : ps.length = np) (hD : ∀ φ H, Reps g.r φ H dvs dD)
    (hb : ∀ (f : Addr) (cdv : Value) (A : Around) (outer : List Env) (s : Shared) (H : Hp) (E : XK), Room k (A.deeper (envOfC x (defScope st) s.heap.objs.size f cdv)) →
      Takes (cxOf (L2.CX P w) P w g.r.K mg base N x (defScope st) f cdv A outer s H E) (fun c dx _ H' => E c dx H') →
      PassesOwn (model P w) (cxOf (L2.CX P w) P w g.r.K mg base N x (defScope st) f cdv A outer s H E).A (cxOf (L2.CX P w) P w g.r.K mg base N x (defScope st) f cdv A outer s H E).env (cxOf (L2.CX P w) P w g.r.K mg base N x (defScope st) f cdv A outer s H E).xe →
      PSs (cxOf (L2.CX P w) P w g.r.K mg base N x (defScope st) f cdv A outer s H E) (defBody st) (tS g (fun c dx _ H' => E c dx H') b)) :
    Dn P w g.r.K mg base g (k + 1) x dD np (mFn np N.length b) := by
  obtain ⟨f, fd, ds, h1, F, rv, B⟩ := A.ex
  refine ⟨f, fd, ps, dvs, ds, h1, F.kp, B, rv, hD, ?_⟩
  refine F.ok S (fun vs H Q E h => by rw [hnp]; exact h.1) fun cdv A outer s H vs Q E hr hsp => ⟨_, hb f cdv A outer s H E hr (takes_of rfl rfl rfl rfl) (passes_of rfl), ?_⟩
  exact fn_start hsp
end
/-- room for what asks for a little of it -/
theorem hu65 {k : Nat} {A : Around} (r : Room k A) : A.units + 65 < cLine := by have := r.un; omega
theorem hu64 {k : Nat} {A : Around} (r : Room k A) : A.units + 64 < cLine := by have := r.un; omega

end MI
namespace MI
open PySem PySem.Spec
open PyProof.Rows L2
section
variable {g : Gm} {W : WX} {X : Cx} {ma mb mc : ME} {a b c : Expr} {pos : Pos} {x : Str}
/-- constants of a module -/
theorem sc_gint {i : Int} (h : ∃ t, X.mg x = some (.int i t)) (hg : Gl X x := by rfl) (hd : (x == ("__debug__" : Str)) = false := by decide) : PE X (.Name x pos) (tE g W (mC (.int i))) := by
  obtain ⟨t, h⟩ := h
  exact sc_glob hg h (v := .int i) ⟨t, rfl⟩ (fun _ _ => .int i) hd
def GTup (K : PySem.W.Frag) (mg : Str → Option Value) (x : Str) (l : List Int) : Prop := ∃ a, mg x = some (.ref a) ∧ SqT K (fun _ => none) a (l.map V.int)
theorem sc_gtup {l : List Int} (hk : g.r.K = X.K) (h : GTup X.K X.mg x l) (hg : Gl X x := by rfl) (hd : (x == ("__debug__" : Str)) = false := by decide) : PE X (.Name x pos) (tE g W (mC (.ctp l))) := by
  obtain ⟨a, h, q⟩ := h
  exact sc_glob hg h (v := .ref a) rfl (fun φ H => .ctp (hk ▸ q)) hd
theorem gtup_mk {K : PySem.W.Frag} {mg : Str → Option Value} {h : Heap} {ad : Addr} {o : Obj} {its : Array Value} {n : Nat} {l : List Int} (X : K.In h) (G : h.Ns mainGlobals mg) (e : PySem.W.nsIn K mainGlobals x = some (some (.ref ad))) (lk : K.lookup ad = some o)
    (hc : o.cls = .type "tuple") (hd : o.data = .seq its n) (hz : its.size ≤ sizeLine) (hv : Vals (l.map V.int) its.toList) : GTup K mg x l := ⟨ad, PySem.W.mg_of X G e, .inr ⟨o, its, n, lk, hc, hd, hz, hv⟩⟩
/-- a test: a < b < c -/
theorem st_chain {op op' : CmpOp} {r r' : R2} {f f' : D → D → MH → R D} (ho : OpR X (compareOp op) r) (hf : Op2 g r f) (ho' : OpR X (compareOp op') r') (hf' : Op2 g r' f') (ha : PE X a (tE g W ma)) (hb : PE X b (tE g W mb)) (hc : PE X c (tE g W mc))
    (hm : lastMarks [op, op'] [b, c] = false := by with_unfolding_all rfl) : PT X (.Compare a [op, op'] [b, c] pos) (tT g W (mTest (mChain f f' ma mb mc))) := pt_imp (pt_chain ho ho' ha hb hc hm) fun σ H Q t => imp_chain hf hf' σ H _ (show tE g W (mChain f f' ma mb mc) σ H _ from imp_test σ H Q t)
end
theorem bt_int : bootBuiltins "int" = some (.type "int") := by decide +kernel
theorem bt_bool : bootBuiltins "bool" = some (.type "bool") := by decide +kernel
theorem bt_str : bootBuiltins "str" = some (.type "str") := by decide +kernel
theorem bt_tuple : bootBuiltins "tuple" = some (.type "tuple") := by decide +kernel
theorem bt_list : bootBuiltins "list" = some (.type "list") := by decide +kernel
theorem bt_dict : bootBuiltins "dict" = some (.type "dict") := by decide +kernel
theorem bt_len : bootBuiltins "len" = some (.builtin "len") := by decide +kernel
theorem bt_isinstance : bootBuiltins "isinstance" = some (.builtin "isinstance") := by decide +kernel
theorem bt_sum : bootBuiltins "sum" = some (.builtin "sum") := by decide +kernel
theorem bt_all : bootBuiltins "all" = some (.builtin "all") := by decide +kernel
theorem bt_any : bootBuiltins "any" = some (.builtin "any") := by decide +kernel
theorem bt_max : bootBuiltins "max" = some (.builtin "max") := by decide +kernel
theorem bt_min : bootBuiltins "min" = some (.builtin "min") := by decide +kernel
theorem bt_abs : bootBuiltins "abs" = some (.builtin "abs") := by decide +kernel
theorem bt_repr : bootBuiltins "repr" = some (.builtin "repr") := by decide +kernel
theorem bt_sorted : bootBuiltins "sorted" = some (.builtin "sorted") := by decide +kernel
def rLenA (K : PySem.W.Frag) : List V → Hp → VK → Prop := fun xs H Q => ∃ x n, xs = [x] ∧ LenV K x H n ∧ Q (.int n) H
def rMax2A : List V → Hp → VK → Prop := fun xs H Q => ∃ i j, xs = [.int i, .int j] ∧ Q (.int (if j > i then j else i)) H
def rMin2A : List V → Hp → VK → Prop := fun xs H Q => ∃ i j, xs = [.int i, .int j] ∧ Q (.int (if j < i then j else i)) H
def rAbsA : List V → Hp → VK → Prop := fun xs H Q => ∃ i, xs = [.int i] ∧ Q (.int (if i < 0 then -i else i)) H
def rIntA : List V → Hp → VK → Prop := fun xs H Q => (∃ i, xs = [.int i] ∧ Q (.int i) H) ∨ ∃ k, xs = [.bl k] ∧ Q (.int (if k then 1 else 0)) H
def rTupOf (K : PySem.W.Frag) : List V → Hp → VK → Prop := fun xs H Q => ∃ p ys, xs = [.ref p] ∧ ((SqL K H p ys ∧ ∀ l, H l = none → Q (.ref l) (upd H l (.tup ys))) ∨ (SqT K H p ys ∧ Q (.ref p) H))
section
variable {g : Gm} {W : WX} {X : Cx} {mas : MA} {e : Expr} {es : List Expr} {p pos : Pos}
theorem b_len (hk : g.r.K = X.K) (hm : X.mg "len" = none) (ha : PA X (e :: es) (tA g W mas)) (hg : Gl X "len" := by rfl) (he : starEach (e :: es) X.env = (false, eval e X.env) :: starEach es X.env := by rfl) (hpl : (backTo pos (starEach es X.env)).any (·.1) = false := by rfl) :
    PE X (.Call (.Name "len" p) (e :: es) [] pos) (tE g W (mCall (vOne vLen) mas)) := s_blt (r := rLenA X.K) call_len (oOne (len_o hk)) bt_len hm ha hg (by decide) (by decide) he hpl
theorem b_isi (hk : g.r.K = X.K) (hm : X.mg "isinstance" = none) (ha : PA X (e :: es) (tA g W mas)) (hg : Gl X "isinstance" := by rfl) (he : starEach (e :: es) X.env = (false, eval e X.env) :: starEach es X.env := by rfl) (hpl : (backTo pos (starEach es X.env)).any (·.1) = false := by rfl) :
    PE X (.Call (.Name "isinstance" p) (e :: es) [] pos) (tE g W (mCall (vTwo vIsi) mas)) := s_blt call_isiZ (oTwo (isi_o hk)) bt_isinstance hm ha hg (by decide) (by decide) he hpl
theorem b_sum (hk : g.r.K = X.K) (hc : X.calm = true) (hm : X.mg "sum" = none) (ha : PA X (e :: es) (tA g W mas)) (hg : Gl X "sum" := by rfl) (he : starEach (e :: es) X.env = (false, eval e X.env) :: starEach es X.env := by rfl) (hpl : (backTo pos (starEach es X.env)).any (·.1) = false := by rfl) :
    PE X (.Call (.Name "sum" p) (e :: es) [] pos) (tE g W (mCall (vOne vSum) mas)) := s_blt (cr_sum hc) (oOne (sum_o hk)) bt_sum hm ha hg (by decide) (by decide) he hpl
theorem b_all (hk : g.r.K = X.K) (hc : X.calm = true) (hm : X.mg "all" = none) (ha : PA X (e :: es) (tA g W mas)) (hg : Gl X "all" := by rfl) (he : starEach (e :: es) X.env = (false, eval e X.env) :: starEach es X.env := by rfl) (hpl : (backTo pos (starEach es X.env)).any (·.1) = false := by rfl) :
    PE X (.Call (.Name "all" p) (e :: es) [] pos) (tE g W (mCall (vOne vAll) mas)) := s_blt (cr_all hc) (oOne (all_o hk)) bt_all hm ha hg (by decide) (by decide) he hpl
theorem b_any (hk : g.r.K = X.K) (hc : X.calm = true) (hm : X.mg "any" = none) (ha : PA X (e :: es) (tA g W mas)) (hg : Gl X "any" := by rfl) (he : starEach (e :: es) X.env = (false, eval e X.env) :: starEach es X.env := by rfl) (hpl : (backTo pos (starEach es X.env)).any (·.1) = false := by rfl) :
    PE X (.Call (.Name "any" p) (e :: es) [] pos) (tE g W (mCall (vOne vAny) mas)) := s_blt (cr_any hc) (oOne (any_o hk)) bt_any hm ha hg (by decide) (by decide) he hpl
theorem b_max2 (hc : X.calm = true) (hm : X.mg "max" = none) (ha : PA X (e :: es) (tA g W mas)) (hg : Gl X "max" := by rfl) (he : starEach (e :: es) X.env = (false, eval e X.env) :: starEach es X.env := by rfl) (hpl : (backTo pos (starEach es X.env)).any (·.1) = false := by rfl) :
    PE X (.Call (.Name "max" p) (e :: es) [] pos) (tE g W (mCall (vTwo vMax2) mas)) := s_blt (r := rMax2A) (call_max2 hc) (oTwo max2_o) bt_max hm ha hg (by decide) (by decide) he hpl
theorem b_min2 (hc : X.calm = true) (hm : X.mg "min" = none) (ha : PA X (e :: es) (tA g W mas)) (hg : Gl X "min" := by rfl) (he : starEach (e :: es) X.env = (false, eval e X.env) :: starEach es X.env := by rfl) (hpl : (backTo pos (starEach es X.env)).any (·.1) = false := by rfl) :
    PE X (.Call (.Name "min" p) (e :: es) [] pos) (tE g W (mCall (vTwo vMin2) mas)) := s_blt (r := rMin2A) (call_min2 hc) (oTwo min2_o) bt_min hm ha hg (by decide) (by decide) he hpl
theorem b_max1 (hk : g.r.K = X.K) (hc : X.calm = true) (hm : X.mg "max" = none) (ha : PA X (e :: es) (tA g W mas)) (hg : Gl X "max" := by rfl) (he : starEach (e :: es) X.env = (false, eval e X.env) :: starEach es X.env := by rfl) (hpl : (backTo pos (starEach es X.env)).any (·.1) = false := by rfl) :
    PE X (.Call (.Name "max" p) (e :: es) [] pos) (tE g W (mCall (vOne vMaxL) mas)) := s_blt (cr_max hc) (oOne (maxL_o hk)) bt_max hm ha hg (by decide) (by decide) he hpl
theorem b_min1 (hk : g.r.K = X.K) (hc : X.calm = true) (hm : X.mg "min" = none) (ha : PA X (e :: es) (tA g W mas)) (hg : Gl X "min" := by rfl) (he : starEach (e :: es) X.env = (false, eval e X.env) :: starEach es X.env := by rfl) (hpl : (backTo pos (starEach es X.env)).any (·.1) = false := by rfl) :
    PE X (.Call (.Name "min" p) (e :: es) [] pos) (tE g W (mCall (vOne vMinL) mas)) := s_blt (cr_min hc) (oOne (minL_o hk)) bt_min hm ha hg (by decide) (by decide) he hpl
theorem b_abs (hm : X.mg "abs" = none) (ha : PA X (e :: es) (tA g W mas)) (hg : Gl X "abs" := by rfl) (he : starEach (e :: es) X.env = (false, eval e X.env) :: starEach es X.env := by rfl) (hpl : (backTo pos (starEach es X.env)).any (·.1) = false := by rfl) :
    PE X (.Call (.Name "abs" p) (e :: es) [] pos) (tE g W (mCall (vOne vAbs) mas)) := s_blt (r := rAbsA) call_abs (oOne abs_o) bt_abs hm ha hg (by decide) (by decide) he hpl
theorem b_repr (hm : X.mg "repr" = none) (ha : PA X (e :: es) (tA g W mas)) (hg : Gl X "repr" := by rfl) (he : starEach (e :: es) X.env = (false, eval e X.env) :: starEach es X.env := by rfl) (hpl : (backTo pos (starEach es X.env)).any (·.1) = false := by rfl) :
    PE X (.Call (.Name "repr" p) (e :: es) [] pos) (tE g W (mCall (vOne vRepr) mas)) := s_blt call_repr (oOne repr_o) bt_repr hm ha hg (by decide) (by decide) he hpl
theorem b_sortI (hk : g.r.K = X.K) (hm : X.mg "sorted" = none) (ha : PA X (e :: es) (tA g W mas)) (hg : Gl X "sorted" := by rfl) (he : starEach (e :: es) X.env = (false, eval e X.env) :: starEach es X.env := by rfl) (hpl : (backTo pos (starEach es X.env)).any (·.1) = false := by rfl) :
    PE X (.Call (.Name "sorted" p) (e :: es) [] pos) (tE g W (mCall (vOne vSortI) mas)) := s_blt cr_sortedI (oOne (sortI_o hk)) bt_sorted hm ha hg (by decide) (by decide) he hpl
theorem b_int (hm : X.mg "int" = none) (ha : PA X (e :: es) (tA g W mas)) (hg : Gl X "int" := by rfl) (he : starEach (e :: es) X.env = (false, eval e X.env) :: starEach es X.env := by rfl) (hpl : (backTo pos (starEach es X.env)).any (·.1) = false := by rfl) :
    PE X (.Call (.Name "int" p) (e :: es) [] pos) (tE g W (mCall (vOne vInt) mas)) := s_bty (r := rIntA) call_int1 (oOne int_o) bt_int hm ha hg (by decide) (by decide) he hpl
theorem b_tuple (hk : g.r.K = X.K) (hm : X.mg "tuple" = none) (ha : PA X (e :: es) (tA g W mas)) (hg : Gl X "tuple" := by rfl) (he : starEach (e :: es) X.env = (false, eval e X.env) :: starEach es X.env := by rfl) (hpl : (backTo pos (starEach es X.env)).any (·.1) = false := by rfl) :
    PE X (.Call (.Name "tuple" p) (e :: es) [] pos) (tE g W (mCall (vOne vTuple) mas)) := s_bty (r := rTupOf X.K) call_tuple_of (oOne (tuple_o hk)) bt_tuple hm ha hg (by decide) (by decide) he hpl
theorem b_list (hk : g.r.K = X.K) (hm : X.mg "list" = none) (ha : PA X (e :: es) (tA g W mas)) (hg : Gl X "list" := by rfl) (he : starEach (e :: es) X.env = (false, eval e X.env) :: starEach es X.env := by rfl) (hpl : (backTo pos (starEach es X.env)).any (·.1) = false := by rfl) :
    PE X (.Call (.Name "list" p) (e :: es) [] pos) (tE g W (mCall (vOne vList) mas)) := s_bty (r := rListOf X.K) call_list_of (oOne (list_o hk)) bt_list hm ha hg (by decide) (by decide) he hpl
theorem b_listC (hk : g.r.K = X.K) (hm : X.mg "list" = none) (ha : PA X (e :: es) (tA g W mas)) (hg : Gl X "list" := by rfl) (he : starEach (e :: es) X.env = (false, eval e X.env) :: starEach es X.env := by rfl) (hpl : (backTo pos (starEach es X.env)).any (·.1) = false := by rfl) :
    PE X (.Call (.Name "list" p) (e :: es) [] pos) (tE g W (mCall (vOne vListC) mas)) := s_bty (r := rListOf X.K) call_list_of (oOne (listC_o hk)) bt_list hm ha hg (by decide) (by decide) he hpl
theorem b_gcd (hm : X.mg "gcd" = some (.builtin "math.gcd")) (ha : PA X (e :: es) (tA g W mas)) (hg : Gl X "gcd" := by rfl) (he : starEach (e :: es) X.env = (false, eval e X.env) :: starEach es X.env := by rfl) (hpl : (backTo pos (starEach es X.env)).any (·.1) = false := by rfl) :
    PE X (.Call (.Name "gcd" p) (e :: es) [] pos) (tE g W (mCall (vTwo vGcd) mas)) := s_bfun cr_gcd (oTwo gcd_o) hm ha hg (by decide) he hpl
end
/-- the law's own def -/
theorem law_fn {g : Gm} {P : Program} {w : World} {mg : Str → Option Value} {h : Heap} {x : Str} {st : Stmt} {N : List Str} {k : Nat} {b : MS} {f fa : Addr} {oc : Value} {od an : Option Addr} {osl : Array (Option Value)} {kV doc pm cdv ct : Value} (X : g.r.K.In h) (G : h.Ns mainGlobals mg)
    (hfa : mg "law" = some (.ref fa)) (a : PySem.W.nsIn g.r.K mainGlobals "law" = some (some (.ref f))) (l : g.r.K.lookup f = some ⟨oc, od, .func (PySem.W.fnOf "law" "law" (defArgs st) (defBody st) (defScope st) .none kV doc pm an cdv ct), osl⟩)
    (c : PySem.W.codeIn g.r.K cdv "law" = true) (kp : PySem.W.keepIn g.r.K (.ref f) = true) (bd : ∀ (kV doc pm : Value) (an : Option Addr) (cdv ct u : Value), bindArgs (PySem.W.fnOf "law" "law" (defArgs st) (defBody st) (defScope st) .none kV doc pm an cdv ct) ⟨[u], []⟩ = pure [(x, u)]) (S : FnScope N [x] (defScope st))
    (hb : ∀ base : Heap, g.r.K.In base → base.Ns mainGlobals mg → ∀ (f : Addr) (cdv : Value) (A : Around) (outer : List Env) (s : Shared) (H : Hp) (E : XK), Room k (A.deeper (envOfC "law" (defScope st) s.heap.objs.size f cdv)) →
      Takes (cxOf (L2.CX P w) P w g.r.K mg base N "law" (defScope st) f cdv A outer s H E) (fun c dx _ H' => E c dx H') →
      PassesOwn (model P w) (cxOf (L2.CX P w) P w g.r.K mg base N "law" (defScope st) f cdv A outer s H E).A (cxOf (L2.CX P w) P w g.r.K mg base N "law" (defScope st) f cdv A outer s H E).env (cxOf (L2.CX P w) P w g.r.K mg base N "law" (defScope st) f cdv A outer s H E).xe →
      PSs (cxOf (L2.CX P w) P w g.r.K mg base N "law" (defScope st) f cdv A outer s H E) (defBody st) (tS g (fun c dx _ H' => E c dx H') b)) :
    ∃ fd : FuncData, (∀ (s : Shared) (u : Value), BindsTo s fd ⟨[u], []⟩ [(x, u)]) ∧ ∀ base : Heap, g.r.K.In base → base.Ns mainGlobals mg → FnOk P w g.r.K mg base (L2.CX P w) (k + 1) fa fd [x] (spM g 1 (mFn 1 N.length b)) := by
  have e := hfa.symm.trans (PySem.W.mg_of X G a)
  cases e
  exact ⟨_, fun s u => .of_eq (bd _ _ _ _ _ _ u), fun base hK hN => fn_m (fun_mk (st := st) l c kp) S rfl (hb base hK hN _)⟩
end MI
namespace MI
open PySem PySem.Spec
open PyProof.Rows L2
theorem gt_o {g : Gm} : Op2 g (rI0 fun i j => .bl (decide (j < i))) vGt := o2I fun _ _ _ _ => .bl _
theorem ge_o {g : Gm} : Op2 g (rI0 fun i j => .bl (decide (j ≤ i))) vGe := o2I fun _ _ _ _ => .bl _

theorem gint_mk {K : PySem.W.Frag} {mg : Str → Option Value} {h : Heap} {x : Str} {i j : Int} {t : Tok} (X : K.In h) (G : h.Ns mainGlobals mg) (e : PySem.W.nsIn K mainGlobals x = some (some (.int i t))) (hj : i = j) : ∃ t, mg x = some (.int j t) := hj ▸ ⟨t, PySem.W.mg_of X G e⟩
theorem wth {α β : Prop} (a : α) (k : α → β) : β := k a
/-! ### a, b = a tuple or a list -/
def gTA (n : Nat) (u : MGs) : MG := fun d ρ h => match d with
  | .tup l => if l.length = n then u l ρ h else none
  | .lst l => if l.length = n then u l ρ h else none
  | .cell c => match h[c]? with
    | some l => if l.length = n then u l ρ h else none
    | none => none
  | _ => none
theorem g_tupA {g : Gm} {X : Cx} {pos : Pos} {es : List Expr} {k : Nat} {u : MGs} {n : Nat} (hk : g.r.K = X.K) (hc : X.calm = true) (h : PGs X es (tGs g u)) (hn : (assignEach es X.env).length = n := by rfl) (hst : (assignEach es X.env).findIdx? (·.1) = none := by rfl) : PG X (.Tuple es k pos) (tG g (gTA n u)) :=
  ⟨fun pins s σ H v w Q I r q => by
    obtain ⟨φ, ρ, hh, d, sl, m, rr, o⟩ := q
    cases rr with
    | tup q r2 =>
      rename_i a xs ds
      have o' : OutG g φ H Q (if ds.length = n then u ds ρ hh else none) := o
      by_cases hl : ds.length = n
      · rw [if_pos hl] at o'
        exact (pg_tup hc h hn hst).run pins s σ H _ w Q I r ⟨a, xs, rfl, hk ▸ q.sq, by rw [r2.length]; exact hl, φ, ρ, hh, ds, sl, m, r2, o'⟩
      · rw [if_neg hl] at o'
        exact o'.elim
    | lst q r2 =>
      rename_i a xs ds
      have o' : OutG g φ H Q (if ds.length = n then u ds ρ hh else none) := o
      by_cases hl : ds.length = n
      · rw [if_pos hl] at o'
        exact (pg_lst hc h hn hst).run pins s σ H _ w Q I r ⟨a, xs, rfl, hk ▸ q.sq, by rw [r2.length]; exact hl, φ, ρ, hh, ds, sl, m, r2, o'⟩
      · rw [if_neg hl] at o'
        exact o'.elim
    | cell q =>
      rename_i a c
      cases hq : hh[c]? with
      | none =>
        have o' : OutG g φ H Q (match hh[c]? with
          | some l => if l.length = n then u l ρ hh else none
          | none => none) := o
        rw [hq] at o'
        exact o'.elim
      | some ds =>
        obtain ⟨xs, e1, r2⟩ := m.at_ _ _ _ q hq
        have o' : OutG g φ H Q (match hh[c]? with
          | some l => if l.length = n then u l ρ hh else none
          | none => none) := o
        rw [hq] at o'
        have o' : OutG g φ H Q (if ds.length = n then u ds ρ hh else none) := o'
        by_cases hl : ds.length = n
        · rw [if_pos hl] at o'
          exact (pg_lst hc h hn hst).run pins s σ H _ w Q I r ⟨a, xs, rfl, SqL.of e1, by rw [r2.length]; exact hl, φ, ρ, hh, ds, sl, m, r2, o'⟩
        · rw [if_neg hl] at o'
          exact o'.elim
    | _ => exact o.elim⟩
/-! ### t[::-1] -/
section
variable {prog : Program} {w : World} {A : Around} {E : Value → Shared → Prop} {s : Shared}
theorem places_rev (n : Nat) : Builtin.Slice.slicePlaces ((n : Int) - 1) (-1) (-1) = n := by
  unfold Builtin.Slice.slicePlaces
  have h1 : ¬ ((-1 : Int) > 0) := by omega
  simp only [h1, if_false]
  have e : (-(-1) : Int) = 1 := by decide
  split
  · rw [e, Int.ediv_one]; omega
  · have : n = 0 := by omega
    subst this; rfl
theorem applied_rev {sl : Addr} {vl vu vs : Value} {n : Nat} {Q : Int × Int × Nat → Shared → Prop} (hs : s.heap.IsSliceOf sl vl vu vs) (pl : IsPart vl none) (pu : IsPart vu none) (ps : IsPart vs (some (-1)))
    (h : Q ((n : Int) - 1, -1, n) s) : wpAny (model prog w) A (Builtin.Slice.sliceApplied (.ref sl) (pure (n : Int))) Q E s := by
  obtain ⟨os, hos, hcs, hds⟩ := id hs
  unfold Builtin.Slice.sliceApplied Builtin.Slice.sliceFields
  refine wpAny_bind (wpAny_bind (wpAny_field hos hds (x := vl) rfl (wpAny_bind (wpAny_field hos hds (x := vu) rfl (wpAny_bind (wpAny_field hos hds (x := vs) rfl (wpAny_pure ?_)))))))
  refine wpAny_bind (HT.slicePart_ ps ?_)
  show wpAny _ _ (if ((-1 : Int) == 0) = true then _ else _) _ _ s
  rw [if_neg (by decide)]
  refine wpAny_bind (HT.slicePart_ pl (wpAny_bind (HT.slicePart_ pu (wpAny_bind (wpAny_pure ?_)))))
  show wpAny _ _ (pure ((n : Int) - 1, (-1 : Int), Builtin.Slice.slicePlaces ((n : Int) - 1) (-1) (-1))) _ _ s
  rw [places_rev]
  exact wpAny_pure h
theorem fmap_congr {α β : Type} {f g : α → Option β} : ∀ (l : List α), (∀ a ∈ l, f a = g a) → l.filterMap f = l.filterMap g
  | [], _ => rfl
  | a :: l, h => by
    rw [List.filterMap_cons, List.filterMap_cons, h a List.mem_cons_self, fmap_congr l fun b hb => h b (List.mem_cons_of_mem _ hb)]
theorem pick_rev (xs : Array Value) : ((List.range xs.size).filterMap fun (m : Nat) => xs[((xs.size : Int) - 1 + (m : Int) * -1).toNat]?).toArray = xs.toList.reverse.toArray := by
  have e : ((List.range xs.size).filterMap fun (m : Nat) => xs[((xs.size : Int) - 1 + (m : Int) * -1).toNat]?) = ((List.range xs.size).map fun k => xs.size - 1 - k).filterMap (xs[·]?) := by
    rw [List.filterMap_map]
    refine fmap_congr _ fun m hm => ?_
    have := List.mem_range.mp hm
    have e : ((xs.size : Int) - 1 + (m : Int) * -1).toNat = xs.size - 1 - m := by omega
    rw [e]
    try rfl
  rw [e, PySem.W.krv_range, List.filterMap_reverse, PySem.W.krv_all]
theorem getItem_tuple_rev {t sl : Addr} {items : Array Value} {vl vu vs : Value} {Q : Value → Shared → Prop} (ht : IsTup s.heap t items) (hs : s.heap.IsSliceOf sl vl vu vs) (pl : IsPart vl none) (pu : IsPart vu none) (ps : IsPart vs (some (-1)))
    (h : Q (.ref s.heap.objs.size) { s with heap := s.heap.push { cls := .type "tuple", data := .seq items.toList.reverse.toArray } }) (hsz : items.size ≤ sizeLine) : wpAny (model prog w) A (getItem (.ref t) (.ref sl)) Q E s := by
  have htake : sizeOk (.seq items.toList.reverse.toArray) := by
    show items.toList.reverse.toArray.size ≤ sizeLine
    rw [List.size_toArray, List.length_reverse, Array.length_toList]
    omega
  obtain ⟨os, hos, hcs, hds⟩ := id hs
  have hTs : s.TypeIs (.ref sl) "slice" := ⟨os, hos, hcs⟩
  unfold getItem
  try with_reducible refine wpAny_holding ?_
  first | refine wpAny_bind (wpAny_pure ?_) | skip
  refine wpAny_bind (wpAny_sequenceKey ht.typeIs (by decide) ?_)
  refine wpAny_bind (wpAny_callSpecial?_slot (name := Str.ofString "__getitem__") ht.typeIs PyProof.Rows.slot_tuple_getitem
    (wpAny_call_entry PyProof.Rows.slot_tuple_getitem ht.typeIs entry_tuple_getitem ?_ (args_tuple_getitem _ _)))
  show wpAny _ _ (Builtin.Tuple.tupleItemsOf (.ref t) >>= _) _ _ s
  refine wpAny_bind (tupleItemsOf_ ht ?_)
  refine wpAny_bind (wpAny_typeOf hTs ?_)
  rw [if_pos (by decide)]
  refine wpAny_bind (applied_rev hs pl pu ps ?_)
  show wpAny _ _ (if (((items.size : Int) - 1) == 0 && (-1 : Int) == 1 && items.size == items.size) = true then _ else _) _ _ s
  rw [if_neg (by simp), pick_rev]
  first
    | exact wpAny_bind (m := Builtin.Tuple.tupleExact _) (wpAny_newObj_type (wpAny_pure ⟨_, rfl, wpAny_pure h⟩) htake)
    | exact wpAny_bind (m := Builtin.Tuple.tupleExact _) (wpAny_newObj_type (wpAny_bind (wpAny_pure (wpAny_pure ⟨_, rfl, wpAny_pure h⟩))) htake)
    | exact wpAny_bind (wpAny_bind (m := Builtin.Tuple.tupleExact _) (wpAny_newObj_type (wpAny_pure (wpAny_pure ⟨_, rfl, wpAny_pure h⟩)) htake))
    | exact wpAny_bind (wpAny_bind (m := Builtin.Tuple.tupleExact _) (wpAny_newObj_type (wpAny_pure ⟨_, rfl, wpAny_pure h⟩) htake))
end
section
variable {X : Cx} {e : Expr} {te t2 : TE} {k : Nat} {p1 p2 p3 pos : Pos}
/-- by one reading or by the other -/
theorem pe_either (a : PE X e te) (b : PE X e t2) : PE X e (fun σ H Q => te σ H Q ∨ t2 σ H Q) := ⟨fun pins s σ H Q I q => q.elim (a.run pins s σ H Q I) (b.run pins s σ H Q I)⟩
def tRevT (K : PySem.W.Frag) (te : TE) : TE := fun σ H Q => te σ H fun x H1 => ∃ a xs, x = .ref a ∧ SqT K H1 a xs ∧ ∀ p, H1 p = none → Q (.ref p) (upd H1 p (.tup xs.reverse))
/-- the step -1, as a part of a slice -/
theorem po_m1 : PO X (some (.UnaryOp .USub (.Constant (.int 1) k p1) p2)) (fun _ H Q => Q (some (-1)) H) := by
  have h := po_some (X := X) (pe_un un_neg (pe_int (X := X) (i := 1) (j := k) (pos := p1)) (pos := p2))
  exact ⟨fun pins s σ H Q I q => h.run pins s σ H Q I ⟨1, rfl, -1, rfl, q⟩⟩
theorem pe_revT (he : PE X e te) : PE X (.Subscript e (.Slice none none (some (.UnaryOp .USub (.Constant (.int 1) k p1) p2)) p3) pos) (tRevT X.K te) := by
  constructor
  intro pins s σ H Q I h
  apply Subscript_
  refine thn (he.run pins s σ H _ I h) ?_
  rintro v s1 ⟨_, H1, I1, r1, a, xs, rfl, hx, q⟩
  obtain rfl : v = Value.ref a := r1
  apply wpAny_Slice
  refine thn (po_none.run pins s1 σ H1 (fun o G => o = none ∧ G = H1) I1 ⟨rfl, rfl⟩) ?_
  rintro vl s2 ⟨_, _, I2, pl, rfl, rfl⟩
  refine thn (po_none.run pins s2 σ _ (fun o G => o = none ∧ G = _) I2 ⟨rfl, rfl⟩) ?_
  rintro vu s3 ⟨_, _, I3, pu, rfl, rfl⟩
  refine thn (po_m1.run pins s3 σ _ (fun o G => o = some (-1) ∧ G = _) I3 ⟨rfl, rfl⟩) ?_
  rintro vs s4 ⟨_, _, I4, ps, rfl, rfl⟩
  have up : ∀ {x : Obj} {b : Addr} {ob : Obj}, s4.heap.get? b = some ob → (s4.heap.push x).get? b = some ob := fun z => Heap.get?_push_of_some _ z
  obtain ⟨its, r, ⟨o, ho, hcl, nn, hd⟩, hz⟩ := I4.tuple hx
  have hl : its.length = xs.length := r.length.symm
  have I5 := I4.kept (h' := s4.heap.push { cls := .type "slice", data := .fields #[vl, vu, vs] }) (t' := s4.toks) fun b ob z => up z
  have ht : IsTup (s4.heap.push { cls := .type "slice", data := .fields #[vl, vu, vs] }) a its.toArray := ⟨o, up ho, hcl, nn, hd⟩
  refine tail_any (s := { s4 with heap := s4.heap.push { cls := .type "slice", data := .fields #[vl, vu, vs] } }) (ops := [.ref a, .ref s4.heap.objs.size]) ht.typeIs PyProof.Rows.slot_tuple_getitem.lookup
    (getItem_tuple_rev ht (Heap.IsSliceOf.new _ vl vu vs) pl pu ps ⟨.ref _, _, I5.laid (t' := s4.toks) (o := .tup xs.reverse) (fun b ob z => Heap.get?_push_of_some _ z) (Nat.le_refl _) ⟨?_, _, r.reverse, ⟨_, Heap.get?_push_size _ rfl, rfl, _, rfl⟩⟩, rfl, q _ (I5.hok.fresh (Nat.le_refl _))⟩ ?_) (by with_unfolding_all rfl)
  · rw [List.length_reverse]; omega
  · rw [List.size_toArray]; omega
end
theorem Reps.reverse {g : Gm} {φ : Ph} {H : Hp} : ∀ {xs : List V} {ds : List D}, Reps g.r φ H xs ds → Reps g.r φ H xs.reverse ds.reverse
  | _, _, .nil => .nil
  | _, _, .cons h r => by
    rw [List.reverse_cons, List.reverse_cons]
    exact (Reps.reverse r).append (.one h)
section
variable {g : Gm} {W : WX} {X : Cx} {ma : ME} {a : Expr}
theorem s_rev {k : Nat} {p1 p2 p3 pos : Pos} (hk : g.r.K = X.K) (ha : PE X a (tE g W ma)) : PE X (.Subscript a (.Slice none none (some (.UnaryOp .USub (.Constant (.int 1) k p1) p2)) p3) pos) (tE g W (mUn vRev ma)) := pe_imp (pe_either (pe_revL ha) (pe_revT ha)) fun σ H Q t => by
  obtain ⟨φ, ρ, h, s, m, o⟩ := t
  unfold mUn at o
  have go : ∀ {R : V → Hp → Prop} {d : D} {h1 : MH}, ma ρ h = .ok d h1 → (∀ φ1 v H1, Rep g.r φ1 H1 v d → Hok g φ1 H1 h1 → Out g W σ φ1 H1 (Rep g.r) Q (vRev d h1) → R v H1) → tE g W ma σ H R := fun {R d h1} e n => by
    refine ⟨φ, ρ, h, s, m, ?_⟩
    rw [e] at o ⊢
    intro φ1 v H1 e1 r1 m1
    exact n φ1 v H1 r1 m1 (Out.base e1 o)
  cases hr : ma ρ h with
  | bad => rw [hr] at o; exact o.elim
  | exc x h1 => exact .inl ⟨φ, ρ, h, s, m, by rw [hr] at o ⊢; exact o⟩
  | ok d h1 =>
    cases d with
    | tup l =>
      refine .inr (go hr fun φ1 v H1 r1 m1 o1 => ?_)
      cases r1 with
      | tup q r => exact ⟨_, _, rfl, hk ▸ q.sq, fun p hp => new_tup m1 hp r.reverse o1⟩
    | lst l =>
      refine .inl (go hr fun φ1 v H1 r1 m1 o1 => ?_)
      cases r1 with
      | lst q r => exact ⟨_, _, rfl, hk ▸ q.sq, fun p hp => new_lst m1 hp r.reverse o1⟩
    | scr l =>
      refine .inl (go hr fun φ1 v H1 r1 m1 o1 => ?_)
      cases r1 with
      | scr q => exact ⟨_, _, rfl, hk ▸ q.sq, fun p hp => new_lst m1 hp (reps_ints _).reverse o1⟩
    | cell n =>
      refine .inl (go hr fun φ1 v H1 r1 m1 o1 => ?_)
      cases r1 with
      | cell q =>
        cases h0 : h1[n]? with
        | none => simp only [vRev, listOf, h0] at o1; exact o1.elim
        | some l =>
          simp only [vRev, listOf, h0] at o1
          obtain ⟨xs, e1, r⟩ := m1.at_ _ _ _ q h0
          exact ⟨_, xs, rfl, SqL.of e1, fun p hp => new_lst m1 hp r.reverse o1⟩
    | _ => rw [hr] at o; exact (show False from o).elim

/-! ### {i: j} -/
theorem s_dictII {i j : Int} {k1 k2 : Nat} {p1 p2 pos : Pos} : PE X (.Dict [some (.Constant (.int i) k1 p1)] [.Constant (.int j) k2 p2] pos) (tE g W (mC (.dic [.int i] [.int j]))) :=
  pe_imp (pe_disp (pps_cons pe_int pe_int pps_nil) rfl rfl (by simp) (by simp)) fun σ H Q t => by
    obtain ⟨φ, ρ, h, s, m, o⟩ := t
    intro d hd
    refine ⟨upd_same, [(Sum.inl i, .int j)], rfl, by simp, ?_⟩
    have e : upd (upd H d (.dK [])) d (.dK (mergeK [] [(Sum.inl i, V.int j)])) = upd H d (.dK [(Sum.inl i, V.int j)]) := by
      funext b
      unfold upd
      split <;> rfl
    rw [e]
    exact o φ _ _ (Ext.new hd (m.notin hd)) (.dic (kvs := [(Sum.inl i, V.int j)]) (.inl upd_same) (m.notin hd) rfl (.cons (.int j) .nil)) (m.new hd)
end
end MI
namespace MI
open PySem PySem.Spec
open PyProof.Rows L2
/-! ### tuples of ints in their order -/
def lexI : List Int → List Int → Bool
  | [], [] => false
  | [], _ :: _ => true
  | _ :: _, [] => false
  | x :: r, y :: t => decide (x < y) || (!decide (y < x) && lexI r t)
def insT (t : List Int) : List (List Int) → List (List Int)
  | [] => [t]
  | u :: r => if lexI u t = true then u :: insT t r else t :: u :: r
def tsort : List (List Int) → List (List Int)
  | [] => []
  | t :: r => insT t (tsort r)
def tdedup : List (List Int) → List (List Int)
  | [] => []
  | t :: r => if t ∈ r then tdedup r else t :: tdedup r
def asTups : List D → Option (List (List Int))
  | [] => some []
  | .tup l :: r => match asInts l with
    | some (i :: t) => (asTups r).map ((i :: t) :: ·)
    | _ => none
  | _ => none
def tupD (t : List Int) : D := .tup (t.map .int)
def vSortT (d : D) (h : MH) : R D := match (listOf h d).bind asTups with
  | some l => .ok (.lst ((tsort l).map tupD)) h
  | none => .bad
def vSortSet (d : D) (h : MH) : R D := match (listOf h d).bind asTups with
  | some l => if l.length < 64 then .ok (.lst ((tsort (tdedup l)).map tupD)) h else .bad
  | none => .bad
theorem lexI_eq : ∀ a b : List Int, lexLt itemOrd (a.map Sum.inl) (b.map Sum.inl) = lexI a b
  | [], [] => rfl
  | [], _ :: _ => rfl
  | _ :: _, [] => rfl
  | x :: r, y :: t => by
    show (decide (x < y) || (!decide (y < x) && lexLt itemOrd (r.map Sum.inl) (t.map Sum.inl))) = (decide (x < y) || (!decide (y < x) && lexI r t))
    rw [lexI_eq r t]
theorem lexI_total : ∀ a b : List Int, lexI a b = false → lexI b a = false → a = b
  | [], [], _, _ => rfl
  | [], _ :: _, h, _ => by simp [lexI] at h
  | _ :: _, [], _, h => by simp [lexI] at h
  | x :: r, y :: t, h1, h2 => by
    simp only [lexI, Bool.or_eq_false_iff, Bool.and_eq_false_iff, Bool.not_eq_false', decide_eq_false_iff_not, decide_eq_true_eq] at h1 h2
    have e : x = y := by omega
    subst e
    have := lexI_total r t (h1.2.resolve_left (by omega)) (h2.2.resolve_left (by omega))
    rw [this]
theorem lexI_asymm : ∀ a b : List Int, lexI a b = true → lexI b a = false
  | [], [], h => by simp [lexI] at h
  | [], _ :: _, _ => rfl
  | _ :: _, [], h => by simp [lexI] at h
  | x :: r, y :: t, h => by
    simp only [lexI, Bool.or_eq_true, Bool.and_eq_true, Bool.not_eq_true', decide_eq_false_iff_not, decide_eq_true_eq] at h
    simp only [lexI, Bool.or_eq_false_iff, Bool.and_eq_false_iff, Bool.not_eq_false', decide_eq_false_iff_not, decide_eq_true_eq]
    rcases h with h | ⟨h1, h2⟩
    · exact ⟨by omega, .inl h⟩
    · by_cases hxy : x < y
      · exact ⟨by omega, .inl hxy⟩
      · exact ⟨by omega, .inr (lexI_asymm r t h2)⟩
/-- not above: transitive -/
theorem lexI_le_trans : ∀ a b c : List Int, lexI b a = false → lexI c b = false → lexI c a = false
  | [], _, [], _, _ => rfl
  | [], [], _ :: _, _, h => h
  | [], _ :: _, _ :: _, _, _ => rfl
  | _ :: _, [], _, h, _ => by simp [lexI] at h
  | _ :: _, _ :: _, [], _, h => by simp [lexI] at h
  | x :: r, y :: t, z :: u, h1, h2 => by
    simp only [lexI, Bool.or_eq_false_iff, Bool.and_eq_false_iff, Bool.not_eq_false', decide_eq_false_iff_not, decide_eq_true_eq] at h1 h2 ⊢
    refine ⟨by omega, ?_⟩
    by_cases hxz : x < z
    · exact .inl hxz
    · exact .inr (lexI_le_trans r t u (h1.2.resolve_left (by omega)) (h2.2.resolve_left (by omega)))
def LeT (a b : List Int) : Prop := lexI b a = false
theorem insT_perm (t : List Int) : ∀ l : List (List Int), (insT t l).Perm (t :: l)
  | [] => .refl _
  | u :: r => by
    unfold insT
    split
    · exact ((insT_perm t r).cons u).trans (.swap t u r)
    · exact .refl _
theorem tsort_perm : ∀ l : List (List Int), (tsort l).Perm l
  | [] => .refl _
  | t :: r => (insT_perm t _).trans ((tsort_perm r).cons t)
theorem insT_sorted (t : List Int) : ∀ l : List (List Int), l.Pairwise LeT → (insT t l).Pairwise LeT
  | [], _ => by simp [insT]
  | u :: r, h => by
    have h' := h
    rw [List.pairwise_cons] at h
    unfold insT
    split
    · rename_i hu
      refine List.pairwise_cons.mpr ⟨fun v hv => ?_, insT_sorted t r h.2⟩
      rcases List.mem_cons.mp ((insT_perm t r).mem_iff.mp hv) with e | hv
      · subst e
        exact lexI_asymm _ _ hu
      · exact h.1 v hv
    · rename_i hu
      have hu : lexI u t = false := by simpa using hu
      refine List.pairwise_cons.mpr ⟨fun v hv => ?_, h'⟩
      rcases List.mem_cons.mp hv with e | hv
      · subst e; exact hu
      · exact lexI_le_trans _ _ _ hu (h.1 v hv)
theorem tsort_sorted : ∀ l : List (List Int), (tsort l).Pairwise LeT
  | [] => .nil
  | t :: r => insT_sorted t _ (tsort_sorted r)
theorem sorted_one : ∀ l m : List (List Int), l.Pairwise LeT → m.Pairwise LeT → l.Perm m → l = m
  | [], m, _, _, p => (List.nil_perm.mp p).symm
  | a :: l, [], _, _, p => absurd p.length_eq (by simp)
  | a :: l, b :: m, h1, h2, p => by
    rw [List.pairwise_cons] at h1 h2
    have e : a = b := by
      rcases List.mem_cons.mp (p.mem_iff.mp (List.mem_cons_self : a ∈ a :: l)) with e | ha
      · exact e
      · rcases List.mem_cons.mp (p.mem_iff.mpr (List.mem_cons_self : b ∈ b :: m)) with e | hb
        · exact e.symm
        · exact lexI_total a b (h2.1 a ha) (h1.1 b hb)
    subst e
    rw [sorted_one l m h1.2 h2.2 (List.perm_cons a |>.mp p)]
theorem tsort_of {l m : List (List Int)} (h : l.Pairwise LeT) (p : l.Perm m) : l = tsort m := sorted_one _ _ h (tsort_sorted m) (p.trans (tsort_perm m).symm)
theorem tdedup_mem {t : List Int} : ∀ l : List (List Int), t ∈ tdedup l ↔ t ∈ l
  | [] => .rfl
  | u :: r => by
    have ih := tdedup_mem (t := t) r
    unfold tdedup
    split
    · rename_i hu
      rw [ih, List.mem_cons]
      exact ⟨.inr, fun h => h.elim (fun e => e ▸ hu) id⟩
    · rw [List.mem_cons, List.mem_cons, ih]
theorem tdedup_nodup : ∀ l : List (List Int), (tdedup l).Nodup
  | [] => .nil
  | u :: r => by
    unfold tdedup
    split
    · exact tdedup_nodup r
    · rename_i hu
      exact List.nodup_cons.mpr ⟨fun h => hu ((tdedup_mem r).mp h), tdedup_nodup r⟩
theorem tsort_congr {l m : List (List Int)} (p : l.Perm m) : tsort l = tsort m := tsort_of (tsort_sorted l) ((tsort_perm l).trans p)

/-! ### the sorting of the model -/
def sh0 : Nat → Bool := fun _ => false
abbrev AL := List (Addr × List Int)
def refs (L : AL) : List Value := L.map fun p => Value.ref p.1
def refsV (L : AL) : List V := L.map fun p => V.ref p.1
theorem items_inl : ∀ {vs : List Value} {ns : List Int} (i : Nat), IntsAre vs ns → tupItems sh0 i vs = some (ns.map Sum.inl)
  | [], _, _, .nil => rfl
  | _ :: _, _, i, .cons k t r => by
    show (tupItems sh0 (i + 1) _).map (Sum.inl k :: ·) = _
    rw [items_inl (i + 1) r]
    rfl
theorem key_of {h : Heap} {v : Value} {ns : List Int} (x : TS.TupInts h v ns) : PyProof.Rows.G.tupKeyC h sh0 v = some (ns.map Sum.inl) := by
  obtain ⟨a, xs, rfl, ⟨o, ho, hc, n, hd⟩, i⟩ := x
  exact PyProof.Rows.G.tupKeyC_of ho hc hd (items_inl 0 i)
theorem first_of {h : Heap} {v : Value} {ns : List Int} (x : TS.TupInts h v ns) (hn : ns ≠ []) : ∃ f, TupOf h sh0 v f := by
  obtain ⟨a, xs, rfl, ⟨o, ho, hc, n, hd⟩, i⟩ := x
  cases hx : xs.toList with
  | nil => rw [hx] at i; cases i; exact absurd rfl hn
  | cons y ys =>
    rw [hx] at i
    cases i with
    | cons k t r =>
      refine ⟨_, a, o, xs, n, rfl, ho, hc, hd, by rw [← Array.getElem?_toList, hx]; rfl, fun _ => ⟨k, t, rfl⟩, fun e => absurd e (by decide)⟩
theorem firsts_of {h : Heap} : ∀ L : AL, (∀ p ∈ L, TS.TupInts h (.ref p.1) p.2 ∧ p.2 ≠ []) → ∃ fs, TupsOf h sh0 (refs L) fs
  | [], _ => ⟨[], .nil⟩
  | p :: L, hx => by
    obtain ⟨f, hf⟩ := first_of (hx p List.mem_cons_self).1 (hx p List.mem_cons_self).2
    obtain ⟨fs, hfs⟩ := firsts_of L fun q hq => hx q (List.mem_cons_of_mem _ hq)
    exact ⟨f :: fs, .cons hf hfs⟩
def adr : Value → Addr
  | .ref a => a
  | _ => 0
/-- what comes out -/
theorem sorted_refs {h : Heap} {L : AL} {arr : Array Keyed} (hx : ∀ p ∈ L, TS.TupInts h (.ref p.1) p.2 ∧ p.2 ≠ []) (hp : arr.Perm (pairsOf (refs L))) (hs : SortedToK (PyProof.Rows.G.tupKindC h sh0) arr (pairsOf (refs L)).size) :
    ∃ L' : AL, (arr.map (·.2)).toList = refs L' ∧ L'.Perm L ∧ L'.map (·.2) = tsort (L.map (·.2)) := by
  have pl : arr.toList.Perm ((refs L).zip (refs L)) := by
    rw [← pairsOf_toList]
    exact Array.perm_iff_toList_perm.mp hp
  have same : ∀ p ∈ arr.toList, p.1 = p.2 ∧ ∃ q ∈ L, p.2 = Value.ref q.1 := fun p hm => by
    obtain ⟨e, hm⟩ := mem_zip_self (pl.mem_iff.mp hm)
    obtain ⟨q, hq, e2⟩ := List.mem_map.mp hm
    exact ⟨e, q, hq, by rw [← e]; exact e2.symm⟩
  have zs : ∀ l : List Value, (l.zip l).map (·.2) = l := fun l => by
    induction l with
    | nil => rfl
    | cons a l ih => rw [List.zip_cons_cons, List.map_cons, ih]
  have po : (arr.map (·.2)).toList.Perm (refs L) := by
    have e := pl.map (·.2)
    rw [zs] at e
    rw [Array.toList_map]
    exact e
  let kp : Value → Addr × List Int := fun v => (adr v, TS.intsOf h v)
  have kr : ∀ p ∈ L, kp (Value.ref p.1) = p := fun p hm => Prod.ext rfl ((hx p hm).1.ints)
  have kL : (refs L).map kp = L := by
    unfold refs
    rw [List.map_map]
    conv => rhs; rw [← List.map_id L]
    exact List.map_congr_left fun p hm => kr p hm
  have pL : ((arr.map (·.2)).toList.map kp).Perm L := by
    have e := po.map kp
    rw [kL] at e
    exact e
  refine ⟨(arr.map (·.2)).toList.map kp, ?_, pL, tsort_of ?_ (pL.map (·.2))⟩
  · unfold refs
    rw [List.map_map]
    conv => lhs; rw [← List.map_id (arr.map (·.2)).toList]
    refine List.map_congr_left fun v hm => ?_
    obtain ⟨q, hq, e⟩ := List.mem_map.mp (po.mem_iff.mp hm)
    subst e
    rfl
  · rw [List.map_map, Array.toList_map, List.map_map, List.pairwise_map]
    refine List.pairwise_iff_getElem.mpr fun i j hi hj hij => ?_
    have hsz : (pairsOf (refs L)).size = arr.size := hp.size_eq.symm
    have hk := hs i j (Nat.le_of_lt hij) (by rw [hsz]; simpa using hj)
    have key : ∀ (i : Nat) (hi : i < arr.toList.length), KK (PyProof.Rows.G.tupKindC h sh0) arr i = (TS.intsOf h (arr.toList[i]).2).map Sum.inl := fun i hi => by
      have hm : arr.toList[i] ∈ arr.toList := List.getElem_mem hi
      obtain ⟨e, q, hq, e2⟩ := same _ hm
      unfold KK
      have e3 : arr[i]? = some arr.toList[i] := by rw [← Array.getElem?_toList, List.getElem?_eq_getElem hi]
      rw [e3]
      show (PyProof.Rows.G.tupKeyC h sh0 (arr.toList[i]).1).getD [] = _
      rw [e, e2, key_of (hx q hq).1, (hx q hq).1.ints]
      rfl
    rw [key i hi, key j hj] at hk
    have hk' : lexLt itemOrd ((TS.intsOf h (arr.toList[j]).2).map Sum.inl) ((TS.intsOf h (arr.toList[i]).2).map Sum.inl) = false := hk
    rw [lexI_eq] at hk'
    exact hk'
end MI
namespace MI
open PySem PySem.Spec
open PyProof.Rows L2
section
variable {X : Cx}
def rSortTG (K : PySem.W.Frag) : List V → Hp → VK → Prop := fun vs H Q => ∃ (a : Addr) (L : AL), vs = [V.ref a] ∧ SqL K H a (refsV L) ∧ (∀ p ∈ L, SqT K H p.1 (p.2.map V.int) ∧ p.2 ≠ []) ∧
  ∀ (L' : AL) (p : Addr), L'.Perm L → L'.map (·.2) = tsort (L.map (·.2)) → H p = none → Q (.ref p) (upd H p (.lst (refsV L')))
theorem tup_raw {pins : List (Addr × Obj)} {σ : L2.St} {H : Hp} {s : Shared} (I : Inv X pins σ H s) {t : Addr} {ns : List Int} (h : SqT X.K H t (ns.map V.int)) : TS.TupInts s.heap (.ref t) ns := tupI_raw I h
theorem refs_vals (L : AL) : Vals (refsV L) (refs L) := vals_of_refs L
theorem cr_sortTG : CallR X (.builtin "sorted") (rSortTG X.K) := by
  intro pins s σ H vs us Q I r h
  obtain ⟨a, L, rfl, hl, hk, q⟩ := h
  rw [Vals.ref1 r]
  obtain ⟨its, rv, pl, hz⟩ := I.list hl
  have ei : its = refs L := refs_of_vals rv
  subst ei
  have hx : ∀ p ∈ L, TS.TupInts s.heap (.ref p.1) p.2 ∧ p.2 ≠ [] := fun p hp => ⟨tup_raw I (hk p hp).1, (hk p hp).2⟩
  obtain ⟨fs, hf⟩ := firsts_of L hx
  have hlen : (refs L).length = (refsV L).length := by simp [refs, refsV]
  refine PyProof.Rows.G.sorted_tups (shape := sh0) (fs := fs) pl.isList hf (fun v hv => ?_) (by rw [hlen]; exact hz) fun st' hp hs _ => ?_
  · obtain ⟨p, hp, e⟩ := List.mem_map.mp hv
    subst e
    exact ⟨_, key_of (hx p hp).1⟩
  · obtain ⟨L', e1, e2, e3⟩ := sorted_refs hx hp hs
    obtain ⟨ep, he'⟩ := PyProof.Rows.sortedAll_at s.heap (refs L) ((arrOf st').map (·.2))
    have hl' : (refsV L').length ≤ sizeLine := by
      have : (refsV L').length = (refsV L).length := by simp [refsV, e2.length_eq]
      omega
    refine ⟨.ref _, upd H (s.heap.objs.size + 1) (.lst (refsV L')), I.laid (t' := s.toks) (fun _ _ => PyProof.Rows.sortedAll_old) (Nat.le_succ _) ⟨hl', refs L', ep, refs_vals L', ?_⟩, rfl, q L' _ e2 e3 (I.hok.fresh (Nat.le_succ _))⟩
    rw [he', ← e1]
def rSortSetG (K : PySem.W.Frag) (P : Program) (w : World) : List V → Hp → VK → Prop := fun vs H Q => ∃ (a : Addr) (L : AL), vs = [V.ref a] ∧ H a = some (SetTO P w a L) ∧ (∀ p ∈ L, SqT K H p.1 (p.2.map V.int) ∧ p.2 ≠ []) ∧
  ∀ (L' : AL) (p : Addr), L'.Perm L → (L.map (·.2)).Nodup → L'.map (·.2) = tsort (L.map (·.2)) → H p = none → Q (.ref p) (upd H p (.lst (refsV L')))
theorem cr_sortSetG (hc : X.calm = true) : CallR X (.builtin "sorted") (rSortSetG X.K X.prog X.w) := by
  intro pins s σ H vs us Q I r h
  obtain ⟨a, L, rfl, ha, hk, q⟩ := h
  have R0 : SetT0 X.prog X.w s.heap a L := (I.hok a _ ha).1
  obtain ⟨es, ep, t, R⟩ := R0.full fun p hp => I.isT (hk p hp).1
  rw [Vals.ref1 r]
  obtain ⟨o, ho, hex, hd⟩ := R.ob
  have hsz := R.size
  have hfew := R.few
  refine Calls.call_function_entry kind_sorted plain_sorted entry_sorted (args_sorted1 _) ?_
  unfold Builtin.«sorted»
  refine wpAny_bind (m := checkCount "sorted" 1 1 _) (wpAny_pure ?_)
  refine wpAny_bind (collect_set (A := X.A.in1) (I.ok.hd hc) ⟨o, ho, hex.1, hd⟩ R.fits (by unfold scanBound; omega) R.tab.ris R.led fun s1 vs k1 hz g1 o1 pm => ?_)
  have hes : es.toList.map (·.2) = refs L := by
    rw [R.rows]
    unfold rowsOf refs
    rw [List.map_map] <;> rfl
  rw [hes] at pm
  have hx1 : ∀ p ∈ L, TS.TupInts s.heap (.ref p.1) p.2 ∧ p.2 ≠ [] := fun p hp => ⟨tup_raw I (hk p hp).1, (hk p hp).2⟩
  -- the list that is gathered, in its own order
  obtain ⟨L1, e1, pL1⟩ : ∃ L1 : AL, vs = refs L1 ∧ L1.Perm L := by
    let kp : Value → Addr × List Int := fun v => (adr v, TS.intsOf s.heap v)
    have kr : ∀ p ∈ L, kp (Value.ref p.1) = p := fun p hm => Prod.ext rfl ((hx1 p hm).1.ints)
    have kL : (refs L).map kp = L := by
      unfold refs
      rw [List.map_map]
      conv => rhs; rw [← List.map_id L]
      exact List.map_congr_left fun p hm => kr p hm
    refine ⟨vs.map kp, ?_, ?_⟩
    · unfold refs
      rw [List.map_map]
      conv => lhs; rw [← List.map_id vs]
      refine List.map_congr_left fun v hm => ?_
      obtain ⟨q, hq, e⟩ := List.mem_map.mp (pm.mem_iff.mp hm)
      subst e
      rfl
    · have e := pm.map kp
      rw [kL] at e
      exact e
  subst e1
  have hvl : (refs L1).length < 64 := by rw [pm.length_eq]; unfold refs; rw [List.length_map]; exact hfew
  refine wpAny_bind (wpAny_newList ?_ (by rw [sizeLine_eq]; omega))
  have hoL : (s1.heap.push (seqObj "list" (refs L1).toArray 0)).get? s1.heap.objs.size = some (seqObj "list" (refs L1).toArray 0) := Heap.get?_push_size _ rfl
  have hx : ∀ p ∈ L1, TS.TupInts (s1.heap.push (seqObj "list" (refs L1).toArray 0)) (.ref p.1) p.2 ∧ p.2 ≠ [] := fun p hp =>
    ⟨(hx1 p (pL1.mem_iff.mp hp)).1.keeps fun b u e _ => Heap.get?_push_of_some _ (k1 b u e), (hx1 p (pL1.mem_iff.mp hp)).2⟩
  obtain ⟨fs, hf⟩ := firsts_of L1 hx
  refine wpAny_bind (wpAny_holding (wpAny_call_entry slot_list_sort ⟨_, hoL, rfl⟩ entry_list_sort (PyProof.Rows.G.list_sort_tups (s := { s1 with heap := s1.heap.push (seqObj "list" (refs L1).toArray 0) }) (shape := sh0) (fs := fs) hoL hf (fun v hv => ?_) (by rw [sizeLine_eq]; omega) fun st' hp hs _ => ⟨_, rfl, ?_⟩) (args_list_sort _)))
  · obtain ⟨p, hp, e⟩ := List.mem_map.mp hv
    subst e
    exact ⟨_, key_of (hx p hp).1⟩
  · obtain ⟨L', e1, e2, e3⟩ := sorted_refs hx hp hs
    obtain ⟨c, hc'⟩ := sortedHeap_at (vs := refs L1) (out := (arrOf st').map (·.2)) hoL
    have hp' : L'.Perm L := e2.trans pL1
    have hlen : (refsV L').length ≤ sizeLine := by
      have : (refsV L').length = L.length := by simp [refsV, hp'.length_eq]
      rw [this, sizeLine_eq]
      omega
    have hk' : ∀ b u, s.heap.get? b = some u → (sortedHeap (s1.heap.push (seqObj "list" (refs L1).toArray 0)) s1.heap.objs.size (refs L1) ((arrOf st').map (·.2))).get? b = some u := fun b u e => by
      have q := k1 b u e
      have hlt := Heap.lt_size q
      rw [sortedHeap_old (Nat.ne_of_lt hlt) (by rw [size_push']; exact Nat.lt_succ_of_lt hlt)]
      exact Heap.get?_push_of_some _ q
    have hn : H s1.heap.objs.size = none := I.hok.fresh hz
    have hobj : (sortedHeap (s1.heap.push (seqObj "list" (refs L1).toArray 0)) s1.heap.objs.size (refs L1) ((arrOf st').map (·.2))).get? s1.heap.objs.size = some (seqObj "list" (refs L').toArray c) := by
      rw [hc', ← e1]
    have J : Inv X pins σ (upd H s1.heap.objs.size (.lst (refsV L'))) { s with heap := sortedHeap (s1.heap.push (seqObj "list" (refs L1).toArray 0)) s1.heap.objs.size (refs L1) ((arrOf st').map (·.2)), gens := s1.gens, drawn := s1.drawn, toks := s1.toks } :=
      I.call (ch := []) (Un.laid hk' hz hn) (I.hok.laid hk' hz ⟨hlen, refs L', c, refs_vals L', hobj⟩) (by rw [g1]; exact I.bare) (fun _ z => nomatch z)
    have e : ({ s1 with heap := sortedHeap (s1.heap.push (seqObj "list" (refs L1).toArray 0)) s1.heap.objs.size (refs L1) ((arrOf st').map (·.2)) } : Shared) = { s with heap := sortedHeap (s1.heap.push (seqObj "list" (refs L1).toArray 0)) s1.heap.objs.size (refs L1) ((arrOf st').map (·.2)), gens := s1.gens, drawn := s1.drawn, toks := s1.toks } := by
      cases s1
      cases s
      cases o1
      rfl
    refine wpAny_pure ⟨_, rfl, ?_⟩
    show EP X pins σ Q _ ({ s1 with heap := sortedHeap (s1.heap.push (seqObj "list" (refs L1).toArray 0)) s1.heap.objs.size (refs L1) ((arrOf st').map (·.2)) } : Shared)
    rw [e]
    exact ⟨.ref s1.heap.objs.size, _, J, rfl, q L' _ hp' R.nd (by rw [e3]; exact tsort_congr (pL1.map (·.2))) hn⟩
end

/-! ### the rules -/
theorem reps_inv {g : Gm} {φ : Ph} {H : Hp} : ∀ {xs : List V} {l : List Int}, Reps g.r φ H xs (l.map D.int) → xs = l.map V.int
  | _, [], .nil => rfl
  | _, i :: l, .cons h r => by
    cases h
    rw [reps_inv r]
    rfl
theorem asInts_eq : ∀ {ds : List D} {l : List Int}, asInts ds = some l → ds = l.map D.int
  | [], l, h => by simp [asInts] at h; subst h; rfl
  | .int i :: r, l, h => by
    cases e : asInts r with
    | none => simp [asInts, e] at h
    | some m =>
      simp [asInts, e] at h
      subst h
      rw [asInts_eq e]
      rfl
  | .non :: r, l, h => by simp [asInts] at h
  | .bl _ :: r, l, h => by simp [asInts] at h
  | .str _ :: r, l, h => by simp [asInts] at h
  | .ty _ :: r, l, h => by simp [asInts] at h
  | .th _ :: r, l, h => by simp [asInts] at h
  | .adr _ :: r, l, h => by simp [asInts] at h
  | .tup _ :: r, l, h => by simp [asInts] at h
  | .lst _ :: r, l, h => by simp [asInts] at h
  | .cell _ :: r, l, h => by simp [asInts] at h
  | .dcell _ :: r, l, h => by simp [asInts] at h
  | .scr _ :: r, l, h => by simp [asInts] at h
  | .dic _ _ :: r, l, h => by simp [asInts] at h
  | .dct _ _ :: r, l, h => by simp [asInts] at h
  | .frd _ _ :: r, l, h => by simp [asInts] at h
  | .obj _ _ :: r, l, h => by simp [asInts] at h
  | .unset :: r, l, h => by simp [asInts] at h
theorem rep_tup {g : Gm} {φ : Ph} {H : Hp} {v : V} {ds : List D} (r : Rep g.r φ H v (.tup ds)) : ∃ a xs, v = .ref a ∧ FT g.r.K φ H a xs ∧ Reps g.r φ H xs ds := by
  cases r with
  | tup q r => exact ⟨_, _, rfl, q, r⟩
theorem tups_split {g : Gm} {φ : Ph} {H : Hp} : ∀ {xs : List V} {ds : List D} {ks : List (List Int)}, Reps g.r φ H xs ds → asTups ds = some ks →
    ∃ L : AL, xs = refsV L ∧ ds = L.map (fun p => tupD p.2) ∧ ks = L.map (·.2) ∧ ∀ p ∈ L, Rep g.r φ H (.ref p.1) (tupD p.2) ∧ SqT g.r.K H p.1 (p.2.map V.int) ∧ p.2 ≠ []
  | _, _, ks, .nil, h => by
    simp [asTups] at h
    subst h
    exact ⟨[], rfl, rfl, rfl, fun p hp => absurd hp (by simp)⟩
  | _, _, ks, .cons hx r, h => by
    cases hx with
    | tup q rr =>
      rename_i xs ds a ys es
      cases e : asInts es with
      | none => simp [asTups, e] at h
      | some l =>
        cases l with
        | nil => simp [asTups, e] at h
        | cons i t =>
          cases e2 : asTups ds with
          | none => simp [asTups, e, e2] at h
          | some m =>
            simp [asTups, e, e2] at h
            subst h
            obtain ⟨L, h1, h2, h3, h4⟩ := tups_split r e2
            have ee := asInts_eq e
            subst ee
            have ev := reps_inv rr
            subst ev
            refine ⟨(a, i :: t) :: L, by rw [h1]; rfl, by rw [h2]; rfl, by rw [h3]; rfl, fun p hp => ?_⟩
            rcases List.mem_cons.mp hp with e3 | hp
            · subst e3
              exact ⟨.tup q rr, q.sq, by simp⟩
            · exact h4 p hp
    | _ => simp [asTups] at h
theorem reps_refs {g : Gm} {φ : Ph} {H : Hp} : ∀ L : AL, (∀ p ∈ L, Rep g.r φ H (.ref p.1) (tupD p.2)) → Reps g.r φ H (refsV L) ((L.map (·.2)).map tupD)
  | [], _ => .nil
  | p :: L, h => .cons (h p List.mem_cons_self) (reps_refs L fun q hq => h q (List.mem_cons_of_mem _ hq))
theorem listOf_rep {g : Gm} {φ : Ph} {H : Hp} {h : MH} {x : V} {d : D} {l : List D} (rx : Rep g.r φ H x d) (m : Hok g φ H h) (e : listOf h d = some l) : ∃ a xs, x = .ref a ∧ SqL g.r.K H a xs ∧ Reps g.r φ H xs l := by
  cases rx with
  | lst q r => simp only [listOf] at e; cases e; exact ⟨_, _, rfl, q.sq, r⟩
  | scr q => simp only [listOf] at e; cases e; exact ⟨_, _, rfl, q.sq, reps_ints _⟩
  | cell q =>
    simp only [listOf] at e
    obtain ⟨xs, e1, r⟩ := m.at_ _ _ _ q e
    exact ⟨_, xs, rfl, SqL.of e1, r⟩
  | _ => simp [listOf] at e
section
variable {g : Gm} {W : WX} {X : Cx} {ma : ME} {mas : MA} {e a : Expr} {es : List Expr} {p pos : Pos}
theorem sortT_o (hk : g.r.K = X.K) : Op1 g (fun x H Q => rSortTG X.K [x] H Q) vSortT := by
  intro W σ φ H h x d Q rx m o
  unfold vSortT at o
  cases e : listOf h d with
  | none => rw [e] at o; exact o.elim
  | some l =>
    rw [e] at o
    cases e2 : asTups l with
    | none => simp only [Option.bind_some, e2] at o; exact o.elim
    | some ks =>
      simp only [Option.bind_some, e2] at o
      obtain ⟨a, xs, rfl, hl, r⟩ := listOf_rep rx m e
      obtain ⟨L, rfl, rfl, rfl, hL⟩ := tups_split r e2
      rw [← hk]
      refine ⟨a, L, rfl, hl, fun p hp => (hL p hp).2, fun L' p pm es hp => new_lst m hp ?_ o⟩
      rw [← es]
      exact reps_refs L' fun q hq => (hL q (pm.mem_iff.mp hq)).1
theorem b_sortT (hk : g.r.K = X.K) (hm : X.mg "sorted" = none) (ha : PA X (e :: es) (tA g W mas)) (hg : Gl X "sorted" := by rfl) (he : starEach (e :: es) X.env = (false, eval e X.env) :: starEach es X.env := by rfl) (hpl : (backTo pos (starEach es X.env)).any (·.1) = false := by rfl) :
    PE X (.Call (.Name "sorted" p) (e :: es) [] pos) (tE g W (mCall (vOne vSortT) mas)) := s_blt cr_sortTG (oOne (sortT_o hk)) bt_sorted hm ha hg (by decide) (by decide) he hpl
theorem bt_set : bootBuiltins "set" = some (.type "set") := by decide +kernel
theorem s_sortSet {p2 q : Pos} (hk : g.r.K = X.K) (hc : X.calm = true) (hu : X.A.units + 65 < cLine) (hm : X.mg "sorted" = none) (hm2 : X.mg "set" = none) (ha : PE X a (tE g W ma)) (hg : Gl X "sorted" := by rfl) (hg2 : Gl X "set" := by rfl)
    (hs : starEach [a] X.env = (false, eval a X.env) :: starEach [] X.env := by rfl) (he : starEach [.Call (.Name "set" p2) [a] [] q] X.env = (false, eval (.Call (.Name "set" p2) [a] [] q) X.env) :: starEach [] X.env := by rfl) :
    PE X (.Call (.Name "sorted" p) [.Call (.Name "set" p2) [a] [] q] [] pos) (tE g W (mUn vSortSet ma)) := by
  have h1 := pe_callTy (p := p2) (pos := q) (cr_setOfT hc (by omega)) hg2 hm2 bt_set (pa_cons ha pa_nil hs) (by decide) (by decide) hs rfl
  refine pe_imp (pe_callB (cr_sortSetG hc) hg hm bt_sorted (pa_cons h1 pa_nil he) (by decide) (by decide) he rfl) fun σ H Q t => ?_
  obtain ⟨φ, ρ, h, s, m, o⟩ := t
  refine ⟨φ, ρ, h, s, m, Out.next o fun x h1 φ1 v H1 e1 r1 m1 o1 => ?_⟩
  unfold vSortSet at o1
  cases e : listOf h1 x with
  | none => rw [e] at o1; exact o1.elim
  | some l =>
    rw [e] at o1
    cases e2 : asTups l with
    | none => simp only [Option.bind_some, e2] at o1; exact o1.elim
    | some ks =>
      simp only [Option.bind_some, e2] at o1
      split at o1
      · rename_i hlt
        obtain ⟨b, xs, rfl, hl, r⟩ := listOf_rep r1 m1 e
        obtain ⟨L, rfl, rfl, rfl, hL⟩ := tups_split r e2
        have hq : ∀ p ∈ L, SqT X.K H1 p.1 (p.2.map V.int) := fun p hp => hk ▸ (hL p hp).2.1
        refine ⟨b, L, rfl, hk ▸ hl, hq, by simpa using hlt, fun c L1 hc1 hs1 ha1 => ?_⟩
        have ee : Ext φ1 H1 φ1 (upd H1 c (SetTO X.prog X.w c L1)) := Ext.new hc1 (m1.notin hc1)
        refine ⟨c, L1, rfl, upd_same, fun p hp => ⟨?_, (hL p (hs1 p hp)).2.2⟩, fun L' p pm nd es hp => ?_⟩
        · have rp := (hL p (hs1 p hp)).1.ext ee
          obtain ⟨a, ys, ea, q, rr⟩ := rep_tup (show Rep g.r _ _ (.ref p.1) (.tup (p.2.map D.int)) from rp)
          cases ea
          have := reps_inv rr
          subst this
          exact hk ▸ q.sq
        · refine new_lst (m1.new hc1) hp ?_ (Out.base ee o1)
          have e3 : tsort (tdedup (L.map (·.2))) = L'.map (·.2) := by
            rw [es]
            refine tsort_congr ((List.perm_ext_iff_of_nodup (tdedup_nodup _) nd).mpr fun t => ?_)
            rw [tdedup_mem]
            constructor
            · intro ht
              obtain ⟨p, hp, rfl⟩ := List.mem_map.mp ht
              exact ha1 p hp
            · intro ht
              obtain ⟨p, hp, rfl⟩ := List.mem_map.mp ht
              exact List.mem_map.mpr ⟨p, hs1 p hp, rfl⟩
          rw [e3]
          exact reps_refs L' fun q hq => (hL q (hs1 q (pm.mem_iff.mp hq))).1.ext ee
      · exact o1.elim
end
end MI
/-! an own class over KeyError: the call goes by LookupError's __new__, KeyError's __init__ -/
namespace KN
open PySem PySem.HandSPX
section
variable {MM : Model} {AA : Around} {EE : Value → Shared → Prop} {hh : Heap} {gg : Array GenState} {dd : Drawn} {tt : Nat} {oo : OsState}
variable {nm qq : Str} {C N : Addr} {bs mm b0 : List Value} {hasD : Bool} {sn : List Str} {sb : List Value} {ab : Bool} {cl : Option Bool} {dx : Option Addr} {k0 k1 k2 k3 k5 : Option Value} {O nId iId : String}
/-- the ancestors hold O, neither AttributeError nor NameError -/
structure Anc (mm : List Value) (O : String) : Prop where
  o : mm.contains (.type O) = true
  a : mm.contains (.type "AttributeError") = false
  n : mm.contains (.type "NameError") = false
theorem chk (F : ExcBaseFacts O nId iId b0) (Z : Anc mm O) {rs : List Value} {Q : Unit → Shared → Prop}
    (c : hh.get? C = some (excClassObj nm qq C N bs mm hasD sn sb ab cl dx k0 k1 k2 k3 k5 nId))
    (z : Q () ⟨hh, gg, dd, tt, oo⟩) : wpAny MM AA (checkBuiltinCall nId ⟨.ref C :: rs, []⟩) Q EE ⟨hh, gg, dd, tt, oo⟩ := by
  have con : (Value.ref C :: mm).contains (.type O) = true := by
    rw [List.contains_cons, Z.o, Bool.or_true]
  have nst := F.noStar
  simp only [checkBuiltinCall, F.newKind, F.newSplit, F.newRow]
  repeat (first
    | refine wpAny_loadPart_at c ?_
    | (refine wpAny_isSubtype_exc c ?_; rw [con])
    | refine wpAny_staticBase_exc c ?_
    | refine wpAny_madeBy_exc c ?_
    | simp only [bne_self_eq_false, Bool.false_eq_true, if_false]
    | wp_step)
  exact z
end
section
variable {P : Program} {w : World} {AA : Around} {EE : Value → Shared → Prop} {R : Result → Shared → Prop} {hh : Heap} {gg : Array GenState} {dd : Drawn} {tt : Nat} {oo : OsState}
variable {nm qq : Str} {C N : Addr} {bs mm b0 : List Value} {hasD : Bool} {sn : List Str} {sb : List Value} {ab : Bool} {cl : Option Bool} {dx : Option Addr} {k0 k1 k2 k3 k5 : Option Value} {O nId iId : String}
theorem nw (F : ExcBaseFacts O nId iId b0) (Z : Anc mm O) {rs : List Value} (c : hh.get? C = some (excClassObj nm qq C N bs mm hasD sn sb ab cl dx k0 k1 k2 k3 k5 nId))
    (z : R (.ok (.ret (.ref (hh.objs.size + 1)))) ⟨(hh.push (PySem.W.kdv_tup rs)).push (excO C hh.objs.size), gg, dd, tt, oo⟩) (hl : rs.length ≤ sizeLine) :
    codeAny (model P w) AA (.builtin nId ⟨.ref C :: rs, []⟩) R ⟨hh, gg, dd, tt, oo⟩ := by
  have en := F.ends
  have c1 : (Value.ref C :: mm).contains (.type O) = true := by
    rw [List.contains_cons, Z.o, Bool.or_true]
  have c2 : (Value.ref C :: mm).contains (.type "AttributeError") = false := by
    rw [List.contains_cons, Z.a]; rfl
  have c3 : (Value.ref C :: mm).contains (.type "NameError") = false := by
    rw [List.contains_cons, Z.n]; rfl
  refine codeAny_builtinAt F.entry ?_
  unfold Builtin.«BaseException.__new__»
  refine wpAt_bind ?_
  show wpAt _ _ _ (stack >>= _) _ _ _
  refine wpAt_bind (wpAt_stack fun _ _ => wpAt_of_wpAny ?_)
  wp_walk
  refine wpAt_of_wpAny ?_
  rw [F.owner]
  repeat (first
    | with_reducible refine wpAny_madeHere_exc F.canon c ?_
    | with_reducible refine wpAny_loadPart_at c ?_
    | (with_reducible refine wpAny_isSubtype_exc c ?_; first | rw [c1] | rw [c2] | rw [c3])
    | wp_step)
  show R _ _
  rw [Heap.size_push]
  exact z
theorem tcall (F : ExcBaseFacts O nId iId b0) (Z : Anc mm O) {rs : List Value} {fI : Addr} {Q : Fin → Shared → Prop}
    (c : hh.get? C = some (excClassObj nm qq C N bs mm hasD sn sb ab cl dx k0 k1 k2 k3 k5 nId))
    (li : W.Looks (model P w) hh (typeLookup (.ref C) "__init__") (some (.ref fI)))
    (lb : ∀ x, W.Looks (model P w) hh (bindSpecial (.ref fI) x) (.ref fI, [x])) (hl : rs.length ≤ sizeLine)
    (z : codeAny (model P w) AA (.call (.ref fI) ⟨.ref (hh.objs.size + 1) :: rs, []⟩)
      (fun r s' => match r with
        | .ok (.ret v) => v = .none ∧ Q (.done (.ret (.ref (hh.objs.size + 1)))) s'
        | .ok _ => False
        | .error e => EE e s')
      ⟨(hh.push (W.kdv_tup rs)).push (excO C hh.objs.size), gg, dd, tt, oo⟩) :
    wpAny (model P w) AA (Builtin.«type.__call__» ⟨.ref C :: rs, []⟩) Q EE ⟨hh, gg, dd, tt, oo⟩ := by
  repeat (first | with_reducible refine wpAny_loadPart_at c ?_ | with_reducible refine wpAny_madeBy_exc c ?_ | wp_step)
  refine codeAny_call_builtin_code (Code.quiet_builtin _ F.quiet) (chk F Z c ?_)
  refine nw F Z c ?_ hl
  show wpAny _ _ _ _ _ _
  have kk : ∀ b o, hh.get? b = some o → ((hh.push (W.kdv_tup rs)).push (excO C hh.objs.size)).get? b = some o :=
    fun b o e => Heap.get?_push_of_some _ (Heap.get?_push_of_some _ e)
  have c' := kk _ _ c
  have new : ((hh.push (W.kdv_tup rs)).push (excO C hh.objs.size)).get? (hh.objs.size + 1) = some (excO C hh.objs.size) := by
    heap_get
  have self : (Value.ref C :: mm).contains (.ref C) = true := by simp
  have li' := li.keeps kk
  have lb' := (lb (.ref (hh.objs.size + 1))).keeps kk
  unfold isInstance
  repeat (first
    | with_reducible refine wpAny_loadPart_at new ?_
    | (with_reducible refine wpAny_isSubtype_exc c' ?_; rw [self])
    | wp_step)
  show wpAny _ _ (typeLookup (.ref C) _) _ _ _
  refine li'.at ?_
  refine wpAny_holding (wpAny_bind (lb'.at ?_))
  refine wpAny_bind (wpAny_call (codeAny_mono z fun r s' q => ?_))
  rcases r with e | (v | _ | _ | _) <;> first | exact q | exact q.elim | skip
  obtain ⟨rfl, q⟩ := q
  first
    | exact wpAny_pure (wpAny_pure q)
    | (wp_walk; exact q)
theorem call (F : ExcBaseFacts O nId iId b0) (Z : Anc mm O) {rs : List Value} {fI : Addr}
    (c : hh.get? C = some (excClassObj nm qq C N bs mm hasD sn sb ab cl dx k0 k1 k2 k3 k5 nId))
    (li : W.Looks (model P w) hh (typeLookup (.ref C) "__init__") (some (.ref fI)))
    (lb : ∀ x, W.Looks (model P w) hh (bindSpecial (.ref fI) x) (.ref fI, [x])) (hl : rs.length ≤ sizeLine)
    (z : codeAny (model P w) (AA.under (.builtin "type.__call__" ⟨.ref C :: rs, []⟩)) (.call (.ref fI) ⟨.ref (hh.objs.size + 1) :: rs, []⟩) (W.InitBack (hh.objs.size + 1) R)
      ⟨(hh.push (W.kdv_tup rs)).push (excO C hh.objs.size), gg, dd, tt, oo⟩) :
    codeAny (model P w) AA (.call (.ref C) ⟨rs, []⟩) R ⟨hh, gg, dd, tt, oo⟩ := by
  have l1 := tc_lookup
  have l2 := tc_bind (.ref C)
  have tC : (⟨hh, gg, dd, tt, oo⟩ : Shared).TypeIs (.ref C) "type" := ⟨_, c, rfl⟩
  refine codeAny_of_tree ?_
  show wpAny _ _ (callAny (.ref C) _) _ _ _
  repeat (any_goals (first | assumption | with_reducible refine wpAny_loadPart_at c ?_ | wp_step))
  refine ⟨rfl, ?_⟩
  refine codeAny_call_builtin_at (Code.quiet_builtin _ (by decide +kernel)) entry_typeCall (wpAny_check_type_call_sub c (tcall F Z c li lb hl ?_))
  refine codeAny_mono z fun r s' q => ?_
  rcases r with e | (v | _ | _ | _) <;> exact q
end
/-- what is asked of the __init__ that super() finds -/
structure IniF (B iId : String) : Prop where
  kind : builtinKind iId = some .slot
  row : Manifest.signature? iId = some ⟨.positional, "*", B, .self, [⟨"args", .varPos, false⟩]⟩
  star : (B != "*") = true
  entry : entryFor table iId = some Builtin.«BaseException.__init__»
  quiet : Code.quiet (.builtin iId ⟨[], []⟩) = true ∨ True
section
variable {MM : Model} {AA : Around} {EE : Value → Shared → Prop} {hh : Heap} {gg : Array GenState} {dd : Drawn} {tt : Nat} {oo : OsState}
variable {nm qq : Str} {C N e : Addr} {oe : Obj} {bs mm b0 : List Value} {hasD : Bool} {sn : List Str} {sb : List Value} {ab : Bool} {cl : Option Bool} {dx : Option Addr} {k0 k1 k2 k3 k5 : Option Value} {B nId iId : String}
theorem chkI (F : IniF B iId) {rs : List Value} {Q : Unit → Shared → Prop} (c : hh.get? C = some (excClassObj nm qq C N bs mm hasD sn sb ab cl dx k0 k1 k2 k3 k5 nId))
    (he : hh.get? e = some oe) (hc : oe.cls = .ref C) (z : Q () ⟨hh, gg, dd, tt, oo⟩) : wpAny MM AA (checkBoundCall iId ⟨.ref e :: rs, []⟩) Q EE ⟨hh, gg, dd, tt, oo⟩ := by
  have nst := F.star
  simp only [checkBoundCall, F.kind, F.row]
  repeat (first
    | (with_reducible refine wpAny_loadPart_at he ?_; rw [hc])
    | with_reducible refine wpAny_loadPart_at c ?_
    | wp_step)
  refine wpAny_onRaise ?_
  have bk : ∀ (a b : String) (n : Nat), Bind.check ⟨.positional, "*", B, .self, [⟨"args", .varPos, false⟩]⟩ a b n (List.map (fun x => x.fst) ({ pos := Value.ref e :: rs } : Args).kw) = pure () :=
    fun a b n => check_star_args _ _ _ _ _ _
  rw [bk]
  exact wpAny_pure z
end
theorem ini_KeyError : IniF "KeyError" "KeyError.__init__" := ⟨by decide +kernel, by kernel_rfl, by decide, entryFor_alias (id' := "BaseException.__init__") (by rw [fastTable_eq_tree]; kernel_rfl) (by first | rfl | decide +kernel) (by decide +kernel) (by rw [fastTable_eq_tree]; kernel_rfl), .inr trivial⟩
theorem IniF.of {B nId iId : String} {b0 : List Value} (F : ExcBaseFacts B nId iId b0) : IniF B iId := ⟨F.initKind, F.initRow, F.noStar, F.initEntry, .inr trivial⟩
end KN
namespace PySem.F
abbrev keyMro : List Value := [.type "KeyError", .type "LookupError", .type "Exception", .type "BaseException", .type "object"]
theorem store_KeyError : StoreFacts "KeyError" keyMro "object.__setattr__" "object" := by
  constructor
  case mro => kernel_rfl
  case slot => exact .of (owner := "object") (n := "__setattr__") (by rw [typeLookup_type, builtinLookup_eq_fast]; kernel_rfl) (by decide +kernel) (by decide +kernel) (by decide +kernel) (by first | exact .inl (by decide +kernel) | exact .inr (by decide +kernel)) (by rw [isSubtype_type]; kernel_rfl)
  case entry => exact entry_object_sa
  case kind => decide +kernel
  case split => decide +kernel
  case hasOwner => decide +kernel
  case args => exact fun a b c => (by unfold argsOk; kernel_rfl)
  case passes => exact fun self => (by kernel_rfl)
theorem slot_KeyError_init : Slot "KeyError" "__init__" "KeyError.__init__" := .of (owner := "KeyError") (n := "__init__") (by rw [typeLookup_type, builtinLookup_eq_fast]; kernel_rfl) (by decide +kernel) (by decide +kernel) (by decide +kernel) (by first | exact .inl (by decide +kernel) | exact .inr (by decide +kernel)) (by rw [isSubtype_type]; kernel_rfl)
end PySem.F
namespace PySem.W
theorem kxs_KeyError : KxsFacts "KeyError" "KeyError.__init__" := ⟨by { show builtinType _ = _; rw [builtinType_eq_fast]; kernel_rfl }, by first | kernel_rfl | rfl⟩
end PySem.W
/-! an own exception whose __init__ hands a text to super().__init__ and keeps its argument in a field -/
namespace XS
open PySem PySem.Spec PyProof.Rows L2
open PySem.W (KxsFacts kxs_mw excObj excTup)
section
open Builtin Builtin.ObjectAttr
variable {P : Program} {w : World} {A : Around} {E : Value → Shared → Prop} {K : PySem.W.Frag} {hp : Heap} {g : Array GenState} {d : Drawn} {t : Nat} {os : OsState} {B : String} {bmB : List Value}
/-- self.f = u, the exception without a dict as yet -/
theorem sto {e C t1 : Addr} {f : Str} {u : Value} {Q : Unit → Shared → Prop} (SF : StoreFacts B bmB "object.__setattr__" "object") (X : K.In hp) (he : hp.get? e = some (excObj C t1 none .none)) (ov : PySem.W.excOver K C bmB = true) (hd : PySem.W.hasDictIn K C = true)
    (sa : PySem.W.findIn K (.ref C) "__setattr__" = some (some (.builtin "object.__setattr__"))) (tk : PySem.W.takerIn K C f = some none)
    (hq : ∀ h' tk' dx, (∀ b o, b ≠ e → hp.get? b = some o → h'.get? b = some o) → hp.objs.size ≤ dx → dx ≠ e → h'.get? e = some (excObj C t1 (some dx) .none) → h'.Ns1 dx (fun y => if y = f then some u else none) → Q () ⟨h', g, d, tk', os⟩) :
    wpAny (model P w) A (setAttr (.ref e) f u) Q E ⟨hp, g, d, t, os⟩ := by
  have I : PySem.W.InstAt hp e (excObj C t1 none .none) C none := ⟨he, rfl, rfl, trivial⟩
  have hes : e ≠ hp.objs.size := Nat.ne_of_lt (Heap.lt_size he)
  refine PySem.W.set_plain X I sa ?_
  refine PySem.W.osa_openX SF X I ov tk fun b => ?_
  obtain ⟨cd, hc, -⟩ := PySem.W.any_some ov
  have hcls : PySem.W.Looks (model P w) hp (classData C) cd := PySem.W.looks_clsIn X hc
  have hdc : cd.hasDict = true := by
    unfold PySem.W.hasDictIn at hd
    rw [hc] at hd
    exact hd
  obtain ⟨nm, bs, mro, ns, qn, hdd, sn, sb, ab, col, del⟩ := cd
  dsimp only at hdc
  subst hdc
  unfold storeInOwnDict ownDictForStores
  repeat (first | with_reducible refine PySem.HandSPX.store_in_new ?_ ?_ | with_reducible refine wpAny_loadPart_at he ?_ | with_reducible refine hcls.at ?_ | wp_step)
  · exact ⟨_, #[], _, (Heap.get?_update_ne _ _ _ _ hes.symm).trans (Heap.get?_push_at rfl rfl), rfl, fun e he => absurd he (by simp), fun _ => rfl⟩
  · intro h' tk' hn' hs
    have hx₁ : (hp.push { cls := .type "dict", data := .dict #[] }).get? e = some (excObj C t1 none .none) := Heap.get?_push_of_some _ he
    refine hq h' tk' hp.objs.size (fun b o hb ho => ?_) (Nat.le_refl _) hes.symm ?_ hn'
    · exact (hs.2 b (Nat.ne_of_lt (Heap.lt_size ho))).trans ((Heap.get?_update_ne _ _ _ _ hb).trans (Heap.get?_push_of_some _ ho))
    · exact (hs.2 e hes).trans (Heap.get?_update_self _ hx₁ rfl)
end
/-- the body of such an __init__ -/
abbrev bodyOf (f txt : Str) (j : Nat) (p0 p1 p2 p3 p4 p5 p6 p7 p8 p9 : Pos) : List Stmt :=
  [.Expr (.Call (.Attribute (.Call (.Name "super" p0) [] [] p1) "__init__" p2) [.Constant (.str txt) j p3] [] p4) p5, .Assign [.Attribute (.Name "self" p6) f p7] (.Name f p8) p9]
/-- the def __init__ at fI, its code object at cda, the cell of __class__ at cc -/
structure SupFn (P : Program) (K : PySem.W.Frag) (C fI : Addr) (f : Str) : Prop where
  ex : ∃ (oc : Value) (od : Option Addr) (osl : Array (Option Value)) (qual txt : Str) (params : Arguments) (scope : Scope) (kV doc pm ct : Value) (an : Option Addr) (cc cda : Addr) (j : Nat) (p0 p1 p2 p3 p4 p5 p6 p7 p8 p9 : Pos)
      (ccl : Value) (cdd : Option Addr) (ccs : Array (Option Value)) (vs : Array Value) (file : Str) (tf : Tok) (cl : Value) (cld : Option Addr) (csl : Array (Option Value)) (ar : Arg),
    K.lookup fI = some ⟨oc, od, .func (PySem.W.ksFn "__init__" qual params (bodyOf f txt j p0 p1 p2 p3 p4 p5 p6 p7 p8 p9) scope .none kV doc pm an (.ref cda) ct cc), osl⟩ ∧ PySem.W.codeIn K (.ref cda) qual = true ∧
    K.lookup cda = some ⟨ccl, cdd, .fields vs, ccs⟩ ∧ vs[2]? = some (.str file tf) ∧ ((P.main.file : Str) == file) = true ∧ K.lookup cc = some ⟨cl, cld, .cell (some (.ref C)), csl⟩ ∧
    (params.posonlyargs ++ params.args).head? = some ar ∧ ar.arg = "self" ∧
    (∀ (cl : List (Str × Addr)) (kV doc pm : Value) (an : Option Addr) (cdv ct u v : Value), bindArgs (PySem.W.fnX "__init__" qual params (bodyOf f txt j p0 p1 p2 p3 p4 p5 p6 p7 p8 p9) scope cl .none kV doc pm an cdv ct) ⟨[u, v], []⟩ = pure [(("self" : Str), u), (f, v)]) ∧
    scope.kind = .function ∧ scope.isCoroutine = false ∧ scope.isGenerator = false ∧ scope.names.lookup ("super" : Str) = some .globalImplicit ∧ scope.names.lookup ("__class__" : Str) = some .free ∧ scope.names.lookup ("self" : Str) = some .local ∧ scope.names.lookup f = some .local ∧ (∀ x ∈ scope.names, x.2 ≠ .cell) ∧
    (f == ("self" : Str)) = false ∧ (f == ("__debug__" : Str)) = false ∧
    (∀ env : Env, ∃ pl : Sem Bool, eval (.Call (.Attribute (.Call (.Name "super" p0) [] [] p1) "__init__" p2) [.Constant (.str txt) j p3] [] p4) env = (do
      let ov ← attributeBase (.Call (.Name "super" p0) [] [] p1) "__init__" env (eval (.Call (.Name "super" p0) [] [] p1) env)
      standAt p2.atName
      let (f, first) ← holding [ov] (getMethod ov "__init__" pl)
      callWith p4 f first (backTo p4 (starEach [.Constant (.str txt) j p3] env)) []))
/-- such a class at C -/
structure Sup (P : Program) (K : PySem.W.Frag) (C : Addr) (f : Str) (B newId initId : String) (bmB : List Value) : Prop where
  own : ∀ {w : World} {AA : Around} {R : Result → Shared → Prop} {hh : Heap} {gg : Array GenState} {dd : Drawn} {tt : Nat} {oo : OsState} {rs : List Value} {fI : Addr}, K.In hh →
    PySem.W.Looks (model P w) hh (typeLookup (.ref C) "__init__") (some (.ref fI)) → (∀ x, PySem.W.Looks (model P w) hh (bindSpecial (.ref fI) x) (.ref fI, [x])) → rs.length ≤ sizeLine →
    codeAny (model P w) (AA.under (.builtin "type.__call__" ⟨.ref C :: rs, []⟩)) (.call (.ref fI) ⟨.ref (hh.objs.size + 1) :: rs, []⟩) (PySem.W.InitBack (hh.objs.size + 1) R) ⟨(hh.push (PySem.W.kdv_tup rs)).push (PySem.HandSPX.excO C hh.objs.size), gg, dd, tt, oo⟩ →
    codeAny (model P w) AA (.call (.ref C) ⟨rs, []⟩) R ⟨hh, gg, dd, tt, oo⟩
  IF : KN.IniF B initId
  IS : Slot B "__init__" initId
  KF : KxsFacts B initId
  SF : StoreFacts B bmB "object.__setattr__" "object"
  q : PySem.W.excInitIn K C bmB newId = true
  ov : PySem.W.excOver K C bmB = true
  hd : PySem.W.hasDictIn K C = true
  sa : PySem.W.findIn K (.ref C) "__setattr__" = some (some (.builtin "object.__setattr__"))
  tk : PySem.W.takerIn K C f = some none
  exC : PySem.W.subIn K (.ref C) (.type "BaseException") = some true
  tyC : PySem.W.typeIn K (.ref C) = some (.type "type")
  kC : PySem.W.keepIn K (.ref C) = true
  hB : PySem.W.subIn K (.ref C) (.type B) = some true
  mro : PySem.W.mroIn K C (.ref C) = some true
  su : PySem.W.ks_superIn K C C "__init__" = some (some (.builtin initId))
  op : PySem.W.nsIn K cStatics "thirdparty.any" = some none
  htop : (P.main.scope.names.lookup ("super" : Str)).isSome = false
  fn : ∃ fI, PySem.W.findIn K (.ref C) "__init__" = some (some (.ref fI)) ∧ PySem.W.typeIn K (.ref fI) = some (.type "function") ∧ SupFn P K C fI f
section
open PySem.W PySem.Calls
variable {P : Program} {w : World} {A : Around} {K : Frag} {hp : Heap} {g : Array GenState} {d : Drawn} {t : Nat} {os : OsState} {B newId initId : String} {bmB : List Value} {C : Addr} {f : Str} {mg mb : Str → Option Value}
theorem run_init {fI e t0 : Addr} {u : Value} {R : Result → Shared → Prop} (S : Sup P K C f B newId initId bmB) (F : SupFn P K C fI f) (X : K.In hp) (lim : hp.NoLimit) (hg : hp.Ns mainGlobals mg) (hb : hp.Ns builtinsNs mb) (hm : mg "super" = none) (hv : mb "super" = some (.type "super")) (hr : A.depth < recursionLimit)
    (he : hp.get? e = some (excObj C t0 none .none)) (hke : K.lookup e = none)
    (hq : ∀ h' tk' t1 dx, (∀ b o, b ≠ e → hp.get? b = some o → h'.get? b = some o) → hp.objs.size ≤ dx → dx ≠ e → h'.get? e = some (excObj C t1 (some dx) .none) → h'.Ns1 dx (fun y => if y = f then some u else none) → R (.ok (.ret .none)) ⟨h', g, d, tk', os⟩) :
    codeAny (model P w) A (.call (.ref fI) ⟨[.ref e, u], []⟩) R ⟨hp, g, d, t, os⟩ := by
  obtain ⟨oc, od, osl, qual, txt, params, scope, kV, doc, pm, ct, an, cc, cda, j, p0, p1, p2, p3, p4, p5, p6, p7, p8, p9, ccl, cdd, ccs, vs, file, tf, cl, cld, csl, ar, lk, hcd, lkc, hvs, hfile, lkl, har, hself, hbind, hkind, hco, hgen, hks, hkc, hkself, hkf, hcell, hne, hnd, hev⟩ := F.ex
  have nself : ("self" : Str) ≠ f := fun z => by rw [← z] at hne; simp at hne
  refine ks_codeAny_call_defAt (fd := ksFn "__init__" qual params (bodyOf f txt j p0 p1 p2 p3 p4 p5 p6 p7 p8 p9) scope .none kV doc pm an (.ref cda) ct cc) (binds := [(("self" : Str), .ref e), (f, u)]) hr (X _ _ lk) rfl lim (codeRec_of X hcd) rfl (BindsTo.of_eq (hbind _ _ _ _ _ _ _ _ _)) hcell (fun y hy => ?_) (fun h₀ hns k₀ => ?_) hco hgen hkind
  · rcases List.mem_cons.mp hy with z | hy
    · rw [z]; exact hkself
    · rcases List.mem_cons.mp hy with z | hy
      · rw [z]; exact hkf
      · exact absurd hy (by simp)
  have l1 : (List.reverse [(("self" : Str), Value.ref e), (f, u)]).lookup ("self" : Str) = some (Value.ref e) := by
    show List.lookup ("self" : Str) [(f, u), (("self" : Str), Value.ref e)] = _
    simp [List.lookup, show (("self" : Str) == f) = false from by simpa using nself]
  have l2 : (List.reverse [(("self" : Str), Value.ref e), (f, u)]).lookup f = some u := by
    show List.lookup f [(f, u), (("self" : Str), Value.ref e)] = _
    simp [List.lookup]
  have X0 : K.In h₀ := fun a o z => k₀ a o (X a o z)
  have he0 := k₀ _ _ he
  obtain ⟨cd, hcl, hcr⟩ : ∃ cd, clsIn K C = some cd ∧ alongIn K "__init__" ((cd.mro.dropWhile (· != .ref C)).drop 1) = some (some (.builtin initId)) := by
    have z := S.su
    unfold ks_superIn at z
    cases hc : clsIn K C with
    | none => rw [hc] at z; cases z
    | some cd => rw [hc] at z; exact ⟨cd, rfl, z⟩
  obtain ⟨oD, hD1, hD2⟩ : ∃ oD, K.lookup C = some oD ∧ oD.data = .cls cd := by
    unfold clsIn at hcl
    split at hcl
    · rename_i c d cd' sl ho
      cases hcl
      exact ⟨_, ho, rfl⟩
    · cases hcl
  obtain ⟨pl, hev⟩ := hev (callEnv (ksFn "__init__" qual params (bodyOf f txt j p0 p1 p2 p3 p4 p5 p6 p7 p8 p9) scope .none kV doc pm an (.ref cda) ct cc) hp.objs.size fI)
  have hint : interactive (callEnv (ksFn "__init__" qual params (bodyOf f txt j p0 p1 p2 p3 p4 p5 p6 p7 p8 p9) scope .none kV doc pm an (.ref cda) ct cc) hp.objs.size fI) = false := by
    have z : (callEnv (ksFn "__init__" qual params (bodyOf f txt j p0 p1 p2 p3 p4 p5 p6 p7 p8 p9) scope .none kV doc pm an (.ref cda) ct cc) hp.objs.size fI).scope.kind = .function := hkind
    simp [interactive, z]
  refine ks_wpAt_execs_cons (ks_wpAt_Expr_any (ks_wpAt_MethodCall ?_ hev) hint rfl)
  refine ks_wpAt_super_base (fd := ksFn "__init__" qual params (bodyOf f txt j p0 p1 p2 p3 p4 p5 p6 p7 p8 p9) scope .none kV doc pm an (.ref cda) ct cc) hks hkc rfl rfl (X0 _ _ lk) rfl har rfl (X0 _ _ lkc) rfl hvs hfile S.htop ?_
  refine ks_loadName_global hkind hks (loadGlobal_builtin (mg := mg) (mb := mb) (hg.keeps k₀) hm (hb.keeps k₀) hv ⟨rfl, ?_⟩)
  refine wpAny_loadName_free (c := cc) hkind hkc rfl ⟨_, X0 _ _ lkl, rfl⟩ ?_
  rw [hself]
  refine wpAny_loadName_local hkind hkself hns l1 ?_
  refine ks_wpAny_isType_cls (X0 _ _ hD1) hD2 ⟨rfl, ?_⟩
  refine ks_wpAny_call_super (X0 _ _ hD1) hD2 he0 rfl (fun c z => by cases z) (looks_mroIn X0 S.mro) fun h2 e2 k2 => ?_
  have X2 : K.In h2 := fun a o z => k2 a o (X0 a o z)
  have he2 := k2 _ _ he0
  have I2 : InstAt h2 e (excObj C t0 none .none) C none := ⟨he2, rfl, rfl, trivial⟩
  have hmr : Looks (model P w) h2 (mroOf (.ref C)) cd.mro := fun A Q E s k q => wpAny_bind ((looks_clsIn X2 hcl) A _ E s k (wpAny_pure q))
  refine kxs_getMethod S.KF e2 (looks_opaque X2 S.op) hmr rfl X2 hcr (I2.type.andThen (looks_subIn X2 S.hB)) (ks_ne X2 I2 hcl) rfl ?_
  have e3 : (h2.push (kxs_mw initId e)).get? h2.objs.size = some (kxs_mw initId e) := Heap.get?_push_size _ rfl
  refine kxs_callWith (i := initId) (x := e) rfl (evalArgs_plain (spliced_cons (wpAny_Constant_str (x := txt) (k := j) (pos := p3) (spliced_nil ⟨e3, ?_⟩))))
  have k3 : ∀ b o, h2.get? b = some o → (h2.push (kxs_mw initId e)).get? b = some o := fun b o z => Heap.get?_push_of_some _ z
  obtain ⟨nm, N', qn, bs, bm, hdct, sn, sub, ab, col, dd, k0, k1, kk2, kk3, k5, hC, hT⟩ := excInit_of (fun a o z => k3 a o (X2 a o z) : K.In (h2.push (kxs_mw initId e))) S.q
  have he3 := k3 _ _ he2
  -- the bound __init__ is called
  have bw : (Value.type "method-wrapper" == Value.type "method" || Value.type "method-wrapper" == Value.type "builtin_function_or_method" || Value.type "method-wrapper" == Value.type "method-wrapper") = true := by decide
  refine wpAny_call (codeAny_of_tree (show wpAny (model P w) _ (callAny (.ref h2.objs.size) ⟨[.str txt _], []⟩) _ _ _ from ?_))
  simp only [callAny]
  refine wpAny_bind (wpAny_load e3 ?_)
  simp only [kxs_mw, bw, if_true]
  refine KFB.if_so (by decide) (wpAny_bind (KN.chkI S.IF hC he3 rfl (wpAny_bind (wpAny_pure (wpAny_pure ⟨plainId_quiet S.IS.plain _, codeAny_builtin S.IF.entry ?_⟩)))))
  refine exc_init_tree (cls := .ref C) (t0 := t0) (dv := none) (c2 := .none) (c3 := .none) (b4 := .bool false) he3 (by rw [sizeLine_eq]; show 1 ≤ _; omega) fun h4 k4 e4 _ => ?_
  -- self.f = f
  show PySem.wpAt _ _ _ (execs [.Assign [.Attribute (.Name "self" p6) f p7] (.Name f p8) p9] _) _ _ _
  have X4 : K.In h4 := fun a o z => k4 a o (fun q => by rw [q] at z; rw [hke] at z; cases z) (k3 a o (X2 a o z))
  have hL : hp.objs.size ≠ e := fun z => absurd (Heap.lt_size he) (by rw [← z]; exact Nat.lt_irrefl _)
  have hns4 : h4.Ns hp.objs.size fun x => List.lookup x [(("self" : Str), Value.ref e), (f, u)].reverse := by
    obtain ⟨o, es, ep, ho, r⟩ := hns
    exact ⟨o, es, ep, k4 _ _ hL (k3 _ _ (k2 _ _ ho)), r⟩
  refine ks_wpAt_execs_cons (ks_wpAt_Assign_Attr (wpAt_of_wpAny (wpAny_Name (wpAny_loadName_local hkind hkf hns4 l2 (wpAny_Name (wpAny_loadName_local hkind hkself hns4 l1 ?_) rfl)) hnd)) ?_)
  · refine sto S.SF X4 (t1 := _) e4 S.ov S.hd S.sa S.tk fun h5 tk5 dx k5 hdx dne e5 n5 => wpAt_of_wpAny (wpAny_execs_nil ?_)
    have hsz : hp.objs.size ≤ h4.objs.size := by
      obtain ⟨o, es, ep, ho, r⟩ := hns4
      exact Nat.le_of_lt (Heap.lt_size ho)
    exact hq h5 tk5 _ dx (fun b o hb z => k5 b o hb (k4 b o hb (k3 b o (k2 b o (k₀ b o z))))) (Nat.le_trans hsz hdx) dne e5 n5
  · rfl
end
/-- C(a): the exception has the field f -/
def tSup (C : Addr) (f : Str) (ta : TE) : L2.St → Hp → XK → Prop := fun σ H Q => ta σ H fun v H1 => ∀ d, H1 d = none → Q (.ref C) (some d) (upd H1 d (.xd [(f, v)]))
section
variable {X : Cx} {B newId initId : String} {bmB : List Value} {C : Addr} {f x : Str} {a : Expr} {ta : TE} {p pos : Pos}
theorem pmk_sup (S : Sup X.prog X.K C f B newId initId bmB) (hm : X.mg x = some (.ref C)) (hsup : X.mg "super" = none) (hr : Room 1 X.A) (ha : PE X a ta) (hg : Gl X x := by rfl)
    (hdb : (x == ("__debug__" : Str)) = false := by decide) (he : starEach [a] X.env = (false, eval a X.env) :: starEach [] X.env := by rfl) (hpl : (backTo pos (starEach [] X.env)).any (·.1) = false := by rfl) :
    PMk X (.Call (.Name x p) [a] [] pos) (tSup C f ta) := by
  intro pins s σ H Q I h
  obtain ⟨fI, hi, tI, F⟩ := S.fn
  refine wpAny_Call_Name_kw (ld_glob I hg hm ?_ hdb)
  refine PySem.W.callWith_K (h₀ := X.base) I.ok.mod.kin S.kC (thn ((pa_cons ha pa_nil he).run pos pins s σ H (fun vs H1 => ∃ v, vs = [v] ∧ ∀ d, H1 d = none → Q (.ref C) (some d) (upd H1 d (.xd [(f, v)]))) I ?_) fun us s1 hh => ?_) he hpl
  · have e2 : (fun (y : V) H1 => ∃ v, [y] = [v] ∧ ∀ d, H1 d = none → Q (.ref C) (some d) (upd H1 d (.xd [(f, v)]))) = (fun v H1 => ∀ d, H1 d = none → Q (.ref C) (some d) (upd H1 d (.xd [(f, v)]))) := by
      funext y H1
      refine propext ⟨fun ⟨v, ev, z⟩ => ?_, fun z => ⟨y, rfl, z⟩⟩
      cases ev
      exact z
    show ta σ H (fun (y : V) H1 => ∃ v, [y] = [v] ∧ ∀ d, H1 d = none → Q (.ref C) (some d) (upd H1 d (.xd [(f, v)])))
    rw [e2]
    exact h
  obtain ⟨vs, H1, I1, r1, v, ev, q⟩ := hh
  subst ev
  obtain ⟨u, rfl, ru⟩ := vals1 r1
  refine ⟨I1.kIn, (show wpAny _ _ (call (.ref C) [u]) _ _ _ from ?_)⟩
  obtain ⟨mb, hb, hbb⟩ := I1.mod.blt
  have hbh := hb.keeps I1.bk
  have hgh := I1.mod.glob.keeps I1.bk
  have lim := I1.nolimit
  obtain ⟨hp, g, dr, tk, os⟩ := s1
  have hsz : hp.objs.size ≤ hp.objs.size + 1 := Nat.le_succ _
  have hn : H1 (hp.objs.size + 1) = none := I1.hok.fresh hsz
  have kk : ∀ b o, hp.get? b = some o → ((hp.push (PySem.W.kdv_tup [u])).push (PySem.HandSPX.excO C hp.objs.size)).get? b = some o := fun b o e => Heap.get?_push_of_some _ (Heap.get?_push_of_some _ e)
  have hget : ((hp.push (PySem.W.kdv_tup [u])).push (PySem.HandSPX.excO C hp.objs.size)).get? (hp.objs.size + 1) = some (PySem.HandSPX.excO C hp.objs.size) := by heap_get
  have I2 : Inv X pins σ (upd H1 (hp.objs.size + 1) (exo (hp.objs.size + 1) C none)) ⟨(hp.push (PySem.W.kdv_tup [u])).push (PySem.HandSPX.excO C hp.objs.size), g, dr, tk, os⟩ :=
    I1.laid (t' := tk) (a := hp.objs.size + 1) (o := exo (hp.objs.size + 1) C none) (h' := (hp.push (PySem.W.kdv_tup [u])).push (PySem.HandSPX.excO C hp.objs.size)) kk hsz (exo_ok hget)
  have hke : X.K.lookup (hp.objs.size + 1) = none := by
    cases z : X.K.lookup (hp.objs.size + 1) with
    | none => rfl
    | some o => exact absurd (Heap.lt_size (I1.kIn _ _ z)) (by show ¬ hp.objs.size + 1 < hp.objs.size; omega)
  have hdp := hr.make C [u] []
  refine wpAny_call (S.own I1.kIn (PySem.W.looks_findIn I1.kIn hi) (fun self => PySem.W.bind_fn I1.kIn self tI) (by rw [sizeLine_eq]; show 1 ≤ _; omega) ?_)
  refine run_init S F (fun b o z => kk b o (I1.kIn b o z)) (lim.keeps kk) (hgh.keeps kk) (hbh.keeps kk) hsup ((hbb _ (by decide +kernel)).trans (by decide +kernel)) hdp.depth hget hke fun h' tk' t1 dx k hdx dne hx hns => ?_
  have hd2 : hp.objs.size ≤ dx := Nat.le_trans (Nat.le_of_lt (Nat.lt_trans (Nat.lt_succ_self _) (Heap.lt_size hget))) hdx
  have hd1 : H1 dx = none := I1.hok.fresh hd2
  have hndx : upd H1 (hp.objs.size + 1) (exo (hp.objs.size + 1) C none) dx = none := by rw [upd_ne dne]; exact hd1
  have nd : ∀ {b : Addr} {o : Obj}, ((hp.push (PySem.W.kdv_tup [u])).push (PySem.HandSPX.excO C hp.objs.size)).get? b = some o → b ≠ dx := fun {b o} q => Nat.ne_of_lt (Nat.lt_of_lt_of_le (Heap.lt_size q) hdx)
  have ea0 : upd H1 (hp.objs.size + 1) (exo (hp.objs.size + 1) C none) (hp.objs.size + 1) = some (exo (hp.objs.size + 1) C none) := upd_same
  have na : ∀ {b : Addr}, upd H1 (hp.objs.size + 1) (exo (hp.objs.size + 1) C none) b = none → b ≠ hp.objs.size + 1 := fun {b} n z => by
    rw [z, ea0] at n
    cases n
  have U : Un (frs X.stack) [] (upd H1 (hp.objs.size + 1) (exo (hp.objs.size + 1) C none)) (upd (upd (upd H1 (hp.objs.size + 1) (exo (hp.objs.size + 1) C none)) dx (exd dx [(f, v)])) (hp.objs.size + 1) (exo (hp.objs.size + 1) C (some dx)))
      ((hp.push (PySem.W.kdv_tup [u])).push (PySem.HandSPX.excO C hp.objs.size)) h' := {
    keep := fun b o q n _ _ => k b o (na n) q
    slot := fun b o q n _ _ => ⟨o.slots, k b o (na n) q⟩
    free := fun b o q n _ => (by rw [upd_ne (na n), upd_ne (nd q)]; exact n)
    there := fun b o q _ => (by
      by_cases hb : b = hp.objs.size + 1
      · exact ⟨_, hb ▸ hx⟩
      · exact ⟨o, k b o hb q⟩)
    tups := fun b xs q => (by rw [upd_ne (at_ne ea0 q exo_tup), upd_ne (ne_of_none q hndx)]; exact q)
    frzs := fun b o v q => (by rw [upd_ne (at_ne ea0 q exo_frz), upd_ne (ne_of_none q hndx)]; exact q)
    tbls := fun b ps q => ⟨#[], by rw [upd_ne (at_ne ea0 q exo_tbl), upd_ne (ne_of_none q hndx), q]; simp⟩ }
  have hok : HOk X.prog X.w (upd (upd (upd H1 (hp.objs.size + 1) (exo (hp.objs.size + 1) C none)) dx (exd dx [(f, v)])) (hp.objs.size + 1) (exo (hp.objs.size + 1) C (some dx))) h' := fun b o q => by
    by_cases hb : b = hp.objs.size + 1
    · rw [hb, upd_same] at q
      cases q
      rw [hb]
      exact exo_ok hx
    · rw [upd_ne hb] at q
      by_cases hd : b = dx
      · rw [hd, upd_same] at q
        cases q
        rw [hd]
        exact exd_ok hns (relO_put (fs := []) ru fun g => True.intro)
      · rw [upd_ne hd] at q
        refine (I2.hok b o q).stay (fun c v hc z => k c v ?_ z) (fun c hc => ?_) fun c xs hc => ?_
        · rcases hc with hc | hc
          · rw [hc]; exact hb
          · exact at_ne ea0 hc exo_own
        · rw [upd_ne (at_ne ea0 hc exo_own), upd_ne (ne_of_none hc hndx)]; exact hc
        · rw [upd_ne (at_ne ea0 hc exo_tup), upd_ne (ne_of_none hc hndx)]; exact hc
  refine ⟨rfl, mk_end (raises_own S.exC S.tyC) I1 hsz kk U hok rfl I2.bare upd_same (by rw [upd_ne dne, upd_same]) hd1 ?_⟩
  have eH : upd (del (upd (upd (upd H1 (hp.objs.size + 1) (exo (hp.objs.size + 1) C none)) dx (exd dx [(f, v)])) (hp.objs.size + 1) (exo (hp.objs.size + 1) C (some dx))) (hp.objs.size + 1)) dx (.xd [(f, v)]) = upd H1 dx (.xd [(f, v)]) := by
    funext b
    by_cases hb : b = dx
    · rw [hb, upd_same, upd_same]
    · rw [upd_ne hb, upd_ne hb]
      by_cases h2 : b = hp.objs.size + 1
      · rw [h2, del_same, hn]
      · rw [del_ne h2, upd_ne h2, upd_ne hb, upd_ne h2]
  rw [eH]
  exact q dx hd1
end
end XS
/-! try with any number of clauses, each with a name or without -/
namespace XT
open PySem PySem.Spec PyProof.Rows L2
/-- a clause's suite as told: the caught exception, its class, its dict -/
abbrev Su := Addr → Value → Option Addr → TS
/-- the ends of a suite whose name goes -/
def gone (i : Nat) (D : Ends) : Ends := { nx := fun τ J => D.nx (τ.set i none) J, rt := D.rt, bk := fun τ J => D.bk (τ.set i none) J, ct := fun τ J => D.ct (τ.set i none) J }
def suiteOf (o : Option Nat) (ts : TS) (D : Ends) (σ : L2.St) (H : Hp) (a : Addr) : Prop := match o with
  | none => ts D σ H
  | some i => ts (gone i D) (σ.set i (some (.ref a))) H
/-- what the clauses wish of an exception of the body -/
def wAll (K : PySem.W.Frag) (Wo : WX) (D : Ends) : List (Value × Option Nat × Su) → WX
  | [] => Wo
  | (c, o, ts) :: r => fun cls d σ H => ∃ b, PySem.W.exmOne K cls c = some b ∧ (b = true → ∀ a, H a = none → suiteOf o (ts a cls d) D σ H a) ∧ (b = false → wAll K Wo D r cls d σ H)
/-- a suite keeps to its telling -/
def SuOk (X : Cx) (sts : List Stmt) (ts : Su) : Prop := ∀ (a : Addr) (oe : Obj) (cls : Value) (d : Option Addr) (pn : List (Addr × Obj)), Zc cls d oe → (∃ vs, oe.data = .fields vs) → PSs (X.suite a ((a, oe) :: pn)) sts (ts a cls d)
inductive Cls (X : Cx) : List ExceptHandler → List (Value × Option Nat × Su) → Prop
  | nil : Cls X [] []
  | bare {x : Str} {c : Value} {ts : Su} {b₀ : Stmt} {su : List Stmt} {p q : Pos} {hs : List ExceptHandler} {l : List (Value × Option Nat × Su)} (hc : Names X x c) (ok : SuOk X (b₀ :: su) ts) (r : Cls X hs l) :
      Cls X (.ExceptHandler (some (.Name x p)) none (b₀ :: su) q :: hs) ((c, none, ts) :: l)
  | named {x n : Str} {i : Nat} {c : Value} {ts : Su} {b₀ : Stmt} {su : List Stmt} {p q : Pos} {hs : List ExceptHandler} {l : List (Value × Option Nat × Su)} (hc : Names X x c) (hi : X.N[i]? = some n) (hl : X.env.kindOf n = some .local) (ok : SuOk X (b₀ :: su) ts) (r : Cls X hs l) :
      Cls X (.ExceptHandler (some (.Name x p)) (some n) (b₀ :: su) q :: hs) ((c, some i, ts) :: l)
section
variable {X : Cx} {pins : List (Addr × Obj)} {σ : L2.St} {H : Hp} {D : Ends} {Wo : WX} {a : Addr} {cls : Value} {d : Option Addr} {B : Heap} {sI s : Shared}
/-- a clause that names no match for a -/
theorem past_all (hs : X.stack = X.env :: X.outer) (hf : X.env.frame = some X.env.locals) (tk : Takes X Wo) (J : Inv X pins σ H sI) (nb : ∀ b o, sI.heap.get? b = some o → b ∉ frs X.stack → B.get? b = some o) (na : H a = none) (os : s.os = sI.os) (ag : AllBare s.gens)
    {h3 : Heap} (fl : HandSPX.FlyingZ B (X.env :: X.outer) a (Zc cls d) h3) (up : sI.heap.UpToSlots h3) (w : Wo cls d σ H) :
    wpAny (model X.prog X.w) X.A (handleBy (.ref a) X.env []) (SP X pins D) X.xe { s with heap := h3 } := by
  obtain ⟨_, _, _, oe, vs, T, _, _, he, _, hd, h1, _⟩ := id fl
  refine wpAny_handleBy_nil (by
    unfold PySem.passOn
    refine wpAny_bind (wpAny_field he hd h1 ?_)
    rw [if_neg (by simp)]
    have out : wpAny (model X.prog X.w) X.A (setFlight (.ref a) X.env.frame) (fun _ s4 => wpAny (model X.prog X.w) X.A (throw (.ref a) : Sem Flow) (SP X pins D) X.xe s4) X.xe { s with heap := h3 } := (by
      rw [hf]
      exact HandSPX.setFlight_upZ fl fun h4 hh up4 => wpAny_throw (tk _ _ ⟨a, B, sI, pins, σ, H, cls, d, rfl, J, nb, up.trans up4, .inr (.inr (hs ▸ hh)), na, os, ag, w⟩))
    first | exact wpAny_bind (wpAny_pure (wpAny_bind out)) | exact wpAny_bind out)
theorem go_all (hs : X.stack = X.env :: X.outer) (hf : X.env.frame = some X.env.locals) (hN : X.N.Nodup) (tk : Takes X Wo) (J : Inv X pins σ H sI) (nb : ∀ b o, sI.heap.get? b = some o → b ∉ frs X.stack → B.get? b = some o) (na : H a = none) (os : s.os = sI.os) (ag : AllBare s.gens)
    {h3 : Heap} (fl : HandSPX.FlyingZ B (X.env :: X.outer) a (Zc cls d) h3) (up : sI.heap.UpToSlots h3) {hds : List ExceptHandler} {l : List (Value × Option Nat × Su)} (hk : Cls X hds l) (w : wAll X.K Wo D l cls d σ H) :
    wpAny (model X.prog X.w) X.A (handleBy (.ref a) X.env hds) (SP X pins D) X.xe { s with heap := h3 } := by
  have ok := J.ok
  have J3 : Inv X pins σ H { s with heap := h3 } := J.landed nb fl.1 up os ag
  obtain ⟨oe3, vs3, he3, hz3, hd3⟩ := fl.there
  have nfr : a ∉ frs (X.env :: X.outer) := fun hm => by
    obtain ⟨_, o', e', hnf⟩ := fl.2.2.1.mem hm
    rw [he3] at e'; cases e'
    exact hnf _ hd3
  have nL : a ≠ X.env.locals := fun z => nfr (List.mem_filterMap.mpr ⟨X.env, List.mem_cons_self, by rw [hf, z]⟩)
  have nF : a ∉ X.fs := fun hm => by
    obtain ⟨e, he, q⟩ := List.mem_filterMap.mp hm
    exact nfr (List.mem_filterMap.mpr ⟨e, List.mem_cons_of_mem _ he, q⟩)
  have S3 := J3.suite he3 hd3 na nL nF
  have LT : PySem.W.Looks (model X.prog X.w) h3 (typeOf (.ref a)) cls := fun A Q E s k q => wpAny_typeOf_ref (k _ _ he3) (by rw [hz3.1]; exact q)
  have tst : ∀ {x : Str} {c : Value} {p : Pos} {Q : Value → Shared → Prop} {E : Value → Shared → Prop}, Names X x c → Q c { s with heap := h3 } → wpAny (model X.prog X.w) (X.A.mark (some (.ref a))) (eval (.Name x p) X.env) Q E { s with heap := h3 } := fun {x c p Q E} hc q => by
    obtain ⟨hg, hdbg, hm | ⟨hm, hv, hnn⟩⟩ := hc
    · exact ld_glob (X := X.suite a ((a, oe3) :: (X.pn ++ pins))) S3 hg hm q hdbg
    · exact ld_blt (X := X.suite a ((a, oe3) :: (X.pn ++ pins))) S3 hg hm hv q hnn hdbg
  induction hk with
  | nil => exact past_all hs hf tk J nb na os ag fl up w
  | @bare x c ts b₀ su p q hs2 l2 hc sok r ih =>
    obtain ⟨b, hb1, hyes, hno⟩ := w
    have LM := PySem.W.exm_one (M := model X.prog X.w) J3.kIn LT hb1
    refine wpAny_handleBy_cons (codeAny_handlers_test (tst hc (LM.here ?_))) (by intro q; cases q)
    cases b with
    | false => exact ih (hno rfl)
    | true =>
      refine codeAny_handlers_suite (HandSPX.lands_againZ fl fun h4 fl4 up4 => ?_)
      obtain ⟨oe4, vs4, he4, hz4, hd4⟩ := fl4.there
      have S4 := (J.landed (s' := { s with heap := h4 }) nb fl4.1 (up.trans up4) os ag).suite he4 hd4 na nL nF
      refine wpAny_mono ((sok a oe4 cls d (X.pn ++ pins) hz4 ⟨_, hd4⟩).run [] _ _ H D S4 (hyes rfl a na)) (fun f s6 sp => ?_) (fun _ _ z => False.elim z)
      cases f with
      | next => obtain ⟨τ, G, S6, q6⟩ := sp; exact ⟨_, _, S6.unsuite ok, q6⟩
      | brk => obtain ⟨τ, G, S6, q6⟩ := sp; exact ⟨_, _, S6.unsuite ok, q6⟩
      | cont => obtain ⟨τ, G, S6, q6⟩ := sp; exact ⟨_, _, S6.unsuite ok, q6⟩
      | ret u => obtain ⟨v, τ, G, S6, r6, q6⟩ := sp; exact ⟨_, _, _, S6.unsuite ok, r6, q6⟩
  | @named x n i c ts b₀ su p q hs2 l2 hc hi hl sok r ih =>
    obtain ⟨b, hb1, hyes, hno⟩ := w
    have LM := PySem.W.exm_one (M := model X.prog X.w) J3.kIn LT hb1
    refine wpAny_handleBy_cons (codeAny_handlers_test (tst hc (LM.here ?_))) (by intro q; cases q)
    cases b with
    | false => exact ih (hno rfl)
    | true =>
      refine codeAny_handlers_suite_as (HandSPX.lands_againZ fl fun h4 fl4 up4 => ?_)
      obtain ⟨oe4, vs4, he4, hz4, hd4⟩ := fl4.there
      have S4 := (J.landed (s' := { s with heap := h4 }) nb fl4.1 (up.trans up4) os ag).suite he4 hd4 na nL nF
      refine store_ok (X := X.suite a ((a, oe4) :: (X.pn ++ pins))) (v := .ref a) S4 hN hi (.inl hl) rfl (fun s5 S5 => ?_) (.inr hl)
      refine wpAny_mono ((sok a oe4 cls d (X.pn ++ pins) hz4 ⟨_, hd4⟩).run [] s5 _ H (gone i D) S5 (hyes rfl a na)) (fun f s6 sp => ?_) (fun _ _ z => False.elim z)
      cases f with
      | next => obtain ⟨τ, G, S6, q6⟩ := sp; exact gone_ok (S6.unsuite ok) hN hi hl fun s7 J7 => ⟨_, _, J7, q6⟩
      | brk => obtain ⟨τ, G, S6, q6⟩ := sp; exact gone_ok (S6.unsuite ok) hN hi hl fun s7 J7 => ⟨_, _, J7, q6⟩
      | cont => obtain ⟨τ, G, S6, q6⟩ := sp; exact gone_ok (S6.unsuite ok) hN hi hl fun s7 J7 => ⟨_, _, J7, q6⟩
      | ret u => obtain ⟨v, τ, G, S6, r6, q6⟩ := sp; exact gone_ok (S6.unsuite ok) hN hi hl fun s7 J7 => ⟨_, _, _, J7, r6, q6⟩
end
section
variable {X : Cx} {body : List Stmt} {h₀ : ExceptHandler} {hds : List ExceptHandler} {l : List (Value × Option Nat × Su)} {pos : Pos} {tb : WX → TS} {Wo : WX}
theorem ps_try_all (hs : X.stack = X.env :: X.outer) (hf : X.env.frame = some X.env.locals) (hN : X.N.Nodup) (tk : Takes X Wo)
    (hb : ∀ (W : WX) (pn : List (Addr × Obj)) (xe : Value → Shared → Prop), Takes (X.tr pn xe) W → PassesOwn (model X.prog X.w) X.A X.env xe → PSs (X.tr pn xe) body (tb W))
    (hh : Cls X (h₀ :: hds) l) : PS X (.Try body (h₀ :: hds) [] [] pos) (fun D σ H => tb (wAll X.K Wo D l) D σ H) := by
  refine ⟨fun pins s σ H D I h => wpAny_Try_except ?_⟩
  have ok := I.ok
  have hfr : X.A.frames = some (X.env :: X.outer) := by rw [ok.frames, hs]
  let ct : Value → Shared → Prop := fun e s₁ => wpAny (model X.prog X.w) X.A (noteFrame e X.env) (fun _ s₂ => wpAny (model X.prog X.w) X.A (setFlight e none) (fun _ s₃ => wpAny (model X.prog X.w) X.A (handleBy e X.env (h₀ :: hds)) (SP X pins D) X.xe s₃) X.xe s₂) X.xe s₁
  have tct : Takes (X.tr (X.pn ++ pins) ct) (wAll X.K Wo D l) := fun u s' xx => by
    obtain ⟨a, B, sI, pins', σ', H', cls, d, rfl, J', nb, up, sky, na, os, ag, w⟩ := xx
    have sky' : Sky B (X.env :: X.outer) a (Zc cls d) X.env.locals s'.heap := by rw [← hs]; exact sky
    exact Sky.land Zc.steady hfr hf sky' fun h3 fl3 up3 => go_all hs hf hN tk (J'.ofTry ok) nb na os ag fl3 (up.trans up3) hh w
  refine wpAny_mono ((hb (wAll X.K Wo D l) (X.pn ++ pins) ct tct PassesOwn.looking).run [] s σ H D (I.toTry _) h) (fun f s1 sp => ?_) (fun e s1 he => he)
  cases f with
  | next => obtain ⟨σ', H', J', q⟩ := sp; exact wpAny_execs_nil ⟨σ', H', J'.ofTry ok, q⟩
  | brk => obtain ⟨σ', H', J', q⟩ := sp; exact ⟨σ', H', J'.ofTry ok, q⟩
  | cont => obtain ⟨σ', H', J', q⟩ := sp; exact ⟨σ', H', J'.ofTry ok, q⟩
  | ret u => obtain ⟨v, σ', H', J', r, q⟩ := sp; exact ⟨v, σ', H', J'.ofTry ok, r, q⟩
end
end XT
namespace MI
open PySem PySem.Spec
open PyProof.Rows L2

/-! ### repr of data, where no repr is under way -/
def vReprD (d : D) (h : MH) : R D := match pyOf h d with
  | some p => if (p.showable && !p.hasDict && small p.shown.length && decide (p.depth ≤ 60)) = true then .ok (.str p.shown) h else .bad
  | none => .bad
def rReprD (K : PySem.W.Frag) : List V → Hp → VK → Prop := fun xs H Q => ∃ x d, xs = [x] ∧ Dp K H x d ∧ d.showable = true ∧ d.hasDict = false ∧ d.shown.length ≤ sizeLine ∧ d.depth ≤ 60 ∧ Q (.str d.shown) H
section
variable {g : Gm} {W : WX} {X : Cx} {mas : MA} {e : Expr} {es : List Expr} {p pos : Pos}
theorem call_reprD (hg : X.A.guards = some []) (hu : X.A.units + 65 < cLine) : CallR X (.builtin "repr") (rReprD X.K) := by
  intro pins s σ H xs us Q I r h
  obtain ⟨x, d, rfl, hd, hs, hn, hz, hp, q⟩ := h
  obtain ⟨u, rfl, rx⟩ := vals1 r
  have big : ∀ a : Addr, u = .ref a → wpAny (model X.prog X.w) X.A (call (.builtin "repr") [u]) (EP X pins σ Q) X.xe s := fun a ea => by
    obtain ⟨as, rd⟩ := Dp.reads I d x u hd rx
    subst ea
    exact repr_of_reads' rd hs (PyData.noDict_hsm hn) hg (by omega) (fun _ _ e => e) (fun h' u tk k => ⟨.str _, H, I.kept k, ⟨_, rfl⟩, q⟩) hz
  cases hd with
  | non => cases rx; exact PySem.P.repr_of_none ⟨.str _, H, I.tok _, ⟨_, rfl⟩, q⟩
  | bl b => cases rx; exact PySem.P.repr_of_bool ⟨.str _, H, I.tok _, ⟨_, rfl⟩, q⟩
  | int i =>
    obtain ⟨t, rfl⟩ := (show ∃ t, u = Value.int i t from rx)
    exact PySem.P.repr_of_int (of_decide_eq_true hs) ⟨.str _, H, I.tok _, ⟨_, rfl⟩, q⟩
  | str z =>
    obtain ⟨t, rfl⟩ := (show ∃ t, u = Value.str z t from rx)
    exact PySem.P.repr_of_str ⟨.str _, H, I.tok _, ⟨_, rfl⟩, q⟩ hz
  | lst _ _ => exact big _ rx
  | tup _ _ => exact big _ rx
theorem reprD_o (hk : g.r.K = X.K) : Op1 g (fun x H Q => rReprD X.K [x] H Q) vReprD := by
  intro W σ φ H h x d Q rx m o
  unfold vReprD at o
  cases h1 : pyOf h d with
  | none => rw [h1] at o; exact o.elim
  | some y =>
    rw [h1] at o
    dsimp only at o
    split at o
    · rename_i hc
      simp only [Bool.and_eq_true, Bool.not_eq_true'] at hc
      exact ⟨x, y, rfl, hk ▸ (pyOf_dp m rx h1).1, hc.1.1.1, hc.1.1.2, small_line hc.1.2, of_decide_eq_true hc.2, o φ _ H Ext.refl (.str _) m⟩
    · exact o.elim
theorem b_reprD (hk : g.r.K = X.K) (hgd : X.A.guards = some []) (hu : X.A.units + 65 < cLine) (hm : X.mg "repr" = none) (ha : PA X (e :: es) (tA g W mas)) (hg : Gl X "repr" := by rfl) (he : starEach (e :: es) X.env = (false, eval e X.env) :: starEach es X.env := by rfl) (hpl : (backTo pos (starEach es X.env)).any (·.1) = false := by rfl) :
    PE X (.Call (.Name "repr" p) (e :: es) [] pos) (tE g W (mCall (vOne vReprD) mas)) := s_blt (call_reprD hgd hu) (oOne (reprD_o hk)) bt_repr hm ha hg (by decide) (by decide) he hpl
end
end MI
namespace MI
open PySem PySem.Spec
open PyProof.Rows L2

/-! ### defs where no repr is under way; defs whose code object is told -/
/-- a def's promise where no repr is under way -/
structure FnG (P : Program) (w : World) (K : PySem.W.Frag) (mg : Str → Option Value) (base : Heap) (k : Nat) (f : Addr) (fd : FuncData) (ps : List Str) (sp : Sp) : Prop where
  len : ∀ vs H Q E, sp vs H Q E → vs.length = ps.length
  run : ∀ (A : Around) (outer : List Env) (s : Shared) (H : Hp) (args : Args) (us : List Value) (vs : List V) (Q : VK) (E : XK), Room k A → A.guards = some [] → Env0 P w K mg base A outer s H → BindsTo s fd args (ps.zip us) → Vals vs us → sp vs H Q E →
    codeAny (model P w) A (.call (.ref f) args) (CR (L2.CX P w) outer P w H s Q E) s
/-- a def stands at x, its promise such -/
structure DnG (P : Program) (w : World) (K : PySem.W.Frag) (mg : Str → Option Value) (base : Heap) (g : Gm) (k : Nat) (x : Str) (dD : List D) (np : Nat) (m : FnM) : Prop where
  ex : ∃ (f : Addr) (fd : FuncData) (ps : List Str) (dvs : List V) (ds : List Value), mg x = some (.ref f) ∧ PySem.W.keepIn K (.ref f) = true ∧ Binds K fd ps ds ∧ Vals dvs ds ∧ (∀ φ H, Reps g.r φ H dvs dD) ∧ FnG P w K mg base k f fd ps (spM g np m)
section
variable {g : Gm} {W : WX} {X : Cx} {e : Expr} {es : List Expr} {p pos : Pos} {x : Str} {mas : MA} {k np : Nat} {m : FnM} {dD : List D}
theorem call_any {pins : List (Addr × Obj)} {σ : L2.St} {H : Hp} {s : Shared} {Q : VK} {f : Addr} {us : List Value} (tk : Takes X W) (I : Inv X pins σ H s)
    (c : codeAny (model X.prog X.w) X.A (.call (.ref f) ⟨us, []⟩) (CR (L2.CX X.prog X.w) X.stack X.prog X.w H s Q (fun c dx H' => W c dx σ H')) s) : wpAny (model X.prog X.w) X.A (call (.ref f) us) (EP X pins σ Q) X.xe s :=
  wpAny_call (codeAny_mono c fun r s' hq => by
    cases r with
    | error er => exact passAt tk σ pins H s er s' I hq
    | ok fl =>
      cases fl with
      | ret v => exact I.after hq
      | _ => exact False.elim hq)
theorem s_fnG (F : DnG X.prog X.w X.K X.mg X.base g k x dD np m) (tk : Takes X W) (hr : Room k X.A) (hgd : X.A.guards = some []) (ha : PA X (e :: es) (tA g W mas)) (hg : Gl X x := by rfl) (hdb : (x == ("__debug__" : Str)) = false := by decide)
    (he : starEach (e :: es) X.env = (false, eval e X.env) :: starEach es X.env := by rfl) (hpl : (backTo pos (starEach es X.env)).any (·.1) = false := by rfl) : PE X (.Call (.Name x p) (e :: es) [] pos) (tE g W (mCallD np m dD mas)) := by
  obtain ⟨f, fd, ps, dvs, ds, h1, h2, h3, h4, h5, h6⟩ := F.ex
  refine ⟨fun pins s σ H Q I t => wpAny_Call_Name_kw (ld_glob I hg h1 (PySem.W.callWith_K (h₀ := X.base) I.ok.mod.kin h2 (thn (ha.run pos pins s σ H (fun vs H1 => spM g np m (vs ++ dvs) H1 Q (fun c dx H' => W c dx σ H')) I ?_) fun us s1 hh => ?_) he hpl) hdb)⟩
  · obtain ⟨φ, ρ, h, s, mm, o⟩ := t
    refine ⟨φ, ρ, h, s, mm, Out.next o fun xs h1 φ1 vs H1 e1 r1 m1 o1 => ?_⟩
    have rr := r1.append (h5 φ1 H1)
    split at o1
    · rename_i hl
      refine ⟨by rw [rr.length]; exact hl, φ1, _, h1, rr, m1, ?_⟩
      cases hm' : m (xs ++ dD) h1 with
      | ok d h2 => rw [hm'] at o1; exact o1
      | exc x h2 => rw [hm'] at o1; exact o1
      | bad => rw [hm'] at o1; exact o1
    · exact o1.elim
  · obtain ⟨vs, H1, I1, r, q⟩ := hh
    have r2 := r.append h4
    exact ⟨I1.kIn, call_any tk I1 (h6.run X.A X.stack s1 H1 ⟨us, []⟩ (us ++ ds) (vs ++ dvs) Q _ hr hgd I1.env0 (h3 s1 us I1.kIn (by rw [← r2.length]; exact h6.len _ _ _ _ q)) r2 q)⟩
end
section
variable {g : Gm} {P : Program} {w : World} {mg : Str → Option Value} {base : Heap}
/-- what the top has left of a def, its code object at c -/
structure AtC (K : PySem.W.Frag) (mg : Str → Option Value) (x : Str) (st : Stmt) (ps : List Str) (c : Addr) : Prop where
  ex : ∃ (f : Addr) (oc : Value) (od : Option Addr) (kV doc pm : Value) (an : Option Addr) (ct : Value) (osl : Array (Option Value)), mg x = some (.ref f) ∧ K.lookup f = some ⟨oc, od, .func (PySem.W.fnOf x x (defArgs st) (defBody st) (defScope st) .none kV doc pm an (.ref c) ct), osl⟩ ∧
    PySem.W.codeIn K (.ref c) x = true ∧ PySem.W.keepIn K (.ref f) = true ∧ Binds K (PySem.W.fnOf x x (defArgs st) (defBody st) (defScope st) .none kV doc pm an (.ref c) ct) ps []
theorem atC_mk {K : PySem.W.Frag} {mg : Str → Option Value} {h : Heap} {x : Str} {st : Stmt} {ps : List Str} {f c : Addr} {oc : Value} {od an : Option Addr} {osl : Array (Option Value)} {kV doc pm ct : Value} (X : K.In h) (G : h.Ns mainGlobals mg)
    (a : PySem.W.nsIn K mainGlobals x = some (some (.ref f))) (l : K.lookup f = some ⟨oc, od, .func (PySem.W.fnOf x x (defArgs st) (defBody st) (defScope st) .none kV doc pm an (.ref c) ct), osl⟩)
    (cd : PySem.W.codeIn K (.ref c) x = true) (k : PySem.W.keepIn K (.ref f) = true)
    (b : ∀ (kV doc pm : Value) (an : Option Addr) (cdv ct : Value) (us : List Value), us.length = ps.length → bindArgs (PySem.W.fnOf x x (defArgs st) (defBody st) (defScope st) .none kV doc pm an cdv ct) ⟨us, []⟩ = pure (ps.zip us)) : AtC K mg x st ps c := by
  have F := fun_mk (st := st) l cd k
  exact ⟨f, _, _, _, _, _, _, _, _, PySem.W.mg_of X G a, l, cd, k, F.binds b⟩
theorem dnG_mk {x : Str} {st : Stmt} {N ps : List Str} {k np : Nat} {b : MS} {c : Addr} (A : AtC g.r.K mg x st ps c) (S : FnScope N ps (defScope st)) (hnp : ps.length = np)
    (hb : ∀ (f : Addr) (A : Around) (outer : List Env) (s : Shared) (H : Hp) (E : XK), Room k (A.deeper (envOfC x (defScope st) s.heap.objs.size f (.ref c))) → A.guards = some [] →
      Takes (cxOf (L2.CX P w) P w g.r.K mg base N x (defScope st) f (.ref c) A outer s H E) (fun c dx _ H' => E c dx H') →
      PassesOwn (model P w) (cxOf (L2.CX P w) P w g.r.K mg base N x (defScope st) f (.ref c) A outer s H E).A (cxOf (L2.CX P w) P w g.r.K mg base N x (defScope st) f (.ref c) A outer s H E).env (cxOf (L2.CX P w) P w g.r.K mg base N x (defScope st) f (.ref c) A outer s H E).xe →
      PSs (cxOf (L2.CX P w) P w g.r.K mg base N x (defScope st) f (.ref c) A outer s H E) (defBody st) (tS g (fun c dx _ H' => E c dx H') b)) :
    DnG P w g.r.K mg base g (k + 1) x [] np (mFn np N.length b) := by
  obtain ⟨f, oc, od, kV, doc, pm, an, ct, osl, h1, lk, hcd, kp, B⟩ := A.ex
  refine ⟨f, _, ps, [], [], h1, kp, B, .nil, fun _ _ => .nil, fun vs H Q E h => by rw [hnp]; exact h.1, fun A outer s H args us vs Q E hr hgd e0 bd rv hsp => ?_⟩
  exact LamX.run_ofS lk hcd S hr e0 bd rv (by rw [hnp]; exact hsp.1) fun hr' => ⟨_, hb f A outer s H E hr' hgd (takes_of rfl rfl rfl rfl) (passes_of rfl), fn_start hsp⟩
end
/-- guards within a def -/
theorem gd_cx {CX : CXT} {P : Program} {w : World} {K : PySem.W.Frag} {mg : Str → Option Value} {base : Heap} {N : List Str} {q : Str} {sc : Scope} {f : Addr} {cd : Value} {A : Around} {outer : List Env} {s : Shared} {H : Hp} {E : XK} (h : A.guards = some []) : (cxOf CX P w K mg base N q sc f cd A outer s H E).A.guards = some [] := h
end MI
namespace MI
open PySem PySem.Spec
open PyProof.Rows L2

/-! ### raise -/
def mRaise (c : Nat) : MS := fun ρ h => .exc ρ ⟨c, none⟩ h
def mRaiseV (c : Nat) (f : Str) (m : ME) : MS := fun ρ h => (m ρ h).toF ρ fun d h1 => .exc ρ ⟨c, some (f, d)⟩ h1
/-- the class named x, number n, is raised with a text -/
structure RsT (K : PySem.W.Frag) (ex : Nat → Value) (mg : Str → Option Value) (x : Str) (n : Nat) : Prop where
  ex : ∃ (C : Addr) (B newId initId : String) (bmB : List Value), ex n = .ref C ∧ ExcBaseFacts B newId initId bmB ∧ PySem.W.excIn K C bmB newId = true ∧ mg x = some (.ref C) ∧ PySem.W.keepIn K (.ref C) = true ∧
    PySem.W.subIn K (.ref C) (.type "BaseException") = some true ∧ PySem.W.typeIn K (.ref C) = some (.type "type")
/-- .. with what it keeps in the field f -/
structure RsV (P : Program) (K : PySem.W.Frag) (ex : Nat → Value) (mg : Str → Option Value) (x : Str) (n : Nat) (f : Str) : Prop where
  ex : ∃ (C : Addr) (B newId initId : String) (bmB : List Value), ex n = .ref C ∧ XS.Sup P K C f B newId initId bmB ∧ mg x = some (.ref C)
  sup : mg "super" = none
section
variable {g : Gm} {W : WX} {X : Cx} {x m : Str} {n j : Nat} {p p2 pos pos2 : Pos} {a : Expr} {ma : ME} {f : Str}
theorem s_raise (R : RsT X.K g.ex X.mg x n) (hc : X.calm = true) (tk : Takes X W) (hg : Gl X x := by rfl) (hdb : (x == ("__debug__" : Str)) = false := by decide) :
    PS X (.Raise (some (.Call (.Name x p) [.Constant (.str m) j p2] [] pos)) none pos2) (tS g W (mRaise n)) := by
  obtain ⟨C, B, newId, initId, bmB, e1, F, q, gC, kC, sC, tC⟩ := R.ex
  refine ps_imp (ps_raise hc tk (pmk_own F q gC kC (raises_own sC tC) hg hdb)) fun E σ H t => ?_
  obtain ⟨φ, ρ, h, s, mm, o⟩ := t
  exact o φ σ _ none H Ext.refl s ⟨e1.symm, rfl⟩ mm
theorem s_raiseV (R : RsV X.prog X.K g.ex X.mg x n f) (hc : X.calm = true) (tk : Takes X W) (hr : Room 1 X.A) (ha : PE X a (tE g W ma)) (hg : Gl X x := by rfl) (hdb : (x == ("__debug__" : Str)) = false := by decide)
    (he : starEach [a] X.env = (false, eval a X.env) :: starEach [] X.env := by rfl) (hpl : (backTo pos (starEach [] X.env)).any (·.1) = false := by rfl) :
    PS X (.Raise (some (.Call (.Name x p) [a] [] pos)) none pos2) (tS g W (mRaiseV n f ma)) := by
  obtain ⟨C, B, newId, initId, bmB, e1, S, gC⟩ := R.ex
  refine ps_imp (ps_raise hc tk (XS.pmk_sup S gC R.sup hr ha hg hdb he hpl)) fun E σ H t => ?_
  obtain ⟨φ, ρ, h, s, mm, o⟩ := t
  refine ⟨φ, ρ, h, s, mm, OutS.expr s o fun d h1 φ1 v H1 ex1 r1 m1 o1 => fun dd hd => ?_⟩
  have nd := m1.notin hd
  have e2 : Ext φ1 H1 φ1 (upd H1 dd (.xd [(f, v)])) := Ext.new hd nd
  exact o1 φ1 σ _ _ _ e2 ((s.ext ex1).ext e2) ⟨e1.symm, dd, v, rfl, upd_same, nd, r1.ext e2⟩ (m1.new hd)
end

/-! ### try: clauses that hand back a value -/
structure Cl where
  c : Nat
  o : Option Nat
  fn : Exc → MH → R D
def tryC (sub : Nat → Nat → Option Bool) : List Cl → Env1 → Exc → MH → F
  | [], ρ, e, h => .exc ρ e h
  | k :: r, ρ, e, h => match sub e.cls k.c with
    | some true => (match k.fn e h with
      | .ok d h1 => .rt d h1
      | _ => .bad)
    | some false => tryC sub r ρ e h
    | none => .bad
def mTry (sub : Nat → Nat → Option Bool) (b : MS) (cl : List Cl) : MS := fun ρ h => match b ρ h with
  | .exc ρ1 e h1 => tryC sub cl ρ1 e h1
  | r => r
/-- a suite as told -/
def suM (g : Gm) (o : Option Nat) (fn : Exc → MH → R D) : XT.Su := fun a cls d D σ H => ∃ φ h e, Hok g φ H h ∧ ExRep g φ H cls d e ∧ (∀ i, o = some i → i < σ.length → σ[i]? = some (some (.ref a))) ∧ Out g W0 [] φ H (Rep g.r) (fun v H' => D.rt v H') (fn e h)
def clV (g : Gm) (k : Cl) : Value × Option Nat × XT.Su := (g.ex k.c, k.o, suM g k.o k.fn)
/-- what the classes are to one another -/
def SubOk (K : PySem.W.Frag) (ex : Nat → Value) (sub : Nat → Nat → Option Bool) : Prop := ∀ e c b, sub e c = some b → PySem.W.exmOne K (ex e) (ex c) = some b
section
variable {g : Gm} {W : WX} {X : Cx} {sub : Nat → Nat → Option Bool}
theorem ExRep.ext {φ φ' : Ph} {H H' : Hp} {c : Value} {dx : Option Addr} {e : Exc} (x : Ext φ H φ' H') (r : ExRep g φ H c dx e) : ExRep g φ' H' c dx e := by
  obtain ⟨ec, r⟩ := r
  refine ⟨ec, ?_⟩
  cases hk : e.kept with
  | none => rw [hk] at r; exact r
  | some fd =>
    obtain ⟨f, d⟩ := fd
    rw [hk] at r
    obtain ⟨a, v, ea, q, n, rv⟩ := r
    obtain ⟨q', n'⟩ := x.tr.keep _ _ q n (.inl trivial)
    exact ⟨a, v, ea, q', n', rv.ext x⟩
theorem try_wish (hs : SubOk g.r.K g.ex sub) {D : Ends} {φ : Ph} {σ : L2.St} {H : Hp} {ρ : Env1} {c : Value} {dx : Option Addr} {e : Exc} {h : MH} (s : Slots g.r φ H σ ρ) (m : Hok g φ H h) (xr : ExRep g φ H c dx e) : ∀ cl : List Cl, OutS g W φ H D (tryC sub cl ρ e h) → XT.wAll g.r.K W D (cl.map (clV g)) c dx σ H
  | [], o => o φ σ c dx H Ext.refl s xr m
  | k :: r, o => by
    have o' : OutS g W φ H D (match sub e.cls k.c with
      | some true => (match k.fn e h with
        | .ok d h1 => .rt d h1
        | _ => .bad)
      | some false => tryC sub r ρ e h
      | none => .bad) := o
    cases hb : sub e.cls k.c with
    | none => rw [hb] at o'; exact o'.elim
    | some b =>
      rw [hb] at o'
      refine ⟨b, by rw [xr.1]; exact hs _ _ _ hb, fun et a na => ?_, fun ef => ?_⟩
      · subst et
        dsimp only at o'
        have out : ∀ D' : Ends, D'.rt = D.rt → Out g W0 [] φ H (Rep g.r) (fun v H' => D'.rt v H') (k.fn e h) := fun D' eD => by
          cases hf : k.fn e h with
          | ok d h1 => rw [hf] at o'; rw [eD]; exact o'
          | exc _ _ => rw [hf] at o'; exact o'.elim
          | bad => rw [hf] at o'; exact o'.elim
        cases ho : k.o with
        | none =>
          show suM g none k.fn a c dx D σ H
          exact ⟨φ, h, e, m, xr, fun i ei => (by cases ei), out D rfl⟩
        | some i =>
          show suM g (some i) k.fn a c dx (XT.gone i D) (σ.set i (some (.ref a))) H
          refine ⟨φ, h, e, m, xr, fun i' ei hl => ?_, out (XT.gone i D) rfl⟩
          cases ei
          exact List.getElem?_set_self (by simpa using hl)
      · subst ef
        exact try_wish hs s m xr r o'
theorem s_try {body : List Stmt} {h₀ : ExceptHandler} {hds : List ExceptHandler} {cl : List Cl} {pos : Pos} {mb : MS} (hk : g.r.K = X.K) (hs : SubOk X.K g.ex sub) (hN : X.N.Nodup) (tk : Takes X W)
    (hb : ∀ (W : WX) (pn : List (Addr × Obj)) (xe : Value → Shared → Prop), Takes (X.tr pn xe) W → PassesOwn (model X.prog X.w) X.A X.env xe → PSs (X.tr pn xe) body (tS g W mb)) (hh : XT.Cls X (h₀ :: hds) (cl.map (clV g)))
    (hst : X.stack = X.env :: X.outer := by rfl) (hf : X.env.frame = some X.env.locals := by rfl) : PS X (.Try body (h₀ :: hds) [] [] pos) (tS g W (mTry sub mb cl)) := ps_imp (XT.ps_try_all (tb := fun W => tS g W mb) hst hf hN tk hb hh) fun E σ H t => by
  obtain ⟨φ, ρ, h, s, m, o⟩ := t
  refine ⟨φ, ρ, h, s, m, ?_⟩
  unfold mTry at o
  cases hr : mb ρ h with
  | exc ρ1 e h1 =>
    rw [hr] at o
    intro φ' σ' c dx H' x s1 xr m1
    rw [← hk]
    exact try_wish (hk ▸ hs) s1 m1 xr cl (OutS.base x o)
  | nx ρ1 h1 => rw [hr] at o; exact o
  | rt d h1 => rw [hr] at o; exact o
  | bk d h1 => rw [hr] at o; exact o
  | ct d h1 => rw [hr] at o; exact o
  | bad => rw [hr] at o; exact o
end

/-! ### suites -/
def fnC (d : D) : Exc → MH → R D := fun _ h => .ok d h
/-- what is kept in f by an exception of the class c -/
def keptF (c : Nat) (f : Str) (e : Exc) (h : MH) : R D := match e.kept with
  | some (f', d) => if (decide (e.cls = c) && decide (f' = f)) = true then .ok d h else .bad
  | none => .bad
/-- return "z" + repr(e.f) -/
def fnR (z : Str) (c : Nat) (f : Str) : Exc → MH → R D := fun e h => (keptF c f e h).bind fun d h1 => (vReprD d h1).bind fun y h2 => vCatS (.str z) y h2
/-- return repr(e.f) -/
def fnP (c : Nat) (f : Str) : Exc → MH → R D := fun e h => (keptF c f e h).bind fun d h1 => vReprD d h1
/-- return ("z", e.f) -/
def fnT (z : Str) (c : Nat) (f : Str) : Exc → MH → R D := fun e h => (keptF c f e h).bind fun d h1 => .ok (.tup [.str z, d]) h1
/-- what of the class is asked where a field is read -/
structure XfT (K : PySem.W.Frag) (ex : Nat → Value) (c : Nat) (f : Str) : Prop where
  ex : ∃ C, ex c = .ref C ∧ XfC K C ∧ PySem.W.findIn K (.ref C) f = some none
section
variable {g : Gm} {X : Cx} {o : Option Nat} {p q p2 p3 p4 : Pos} {j : Nat} {z : Str}
theorem su_str : XT.SuOk X [.Return (some (.Constant (.str z) j p)) q] (suM g o (fnC (.str z))) := fun a oe cls d pn hz hf => ⟨fun pins s σ H E I t => (pss_one (ps_ret pe_str)).run pins s σ H E I (by
  obtain ⟨φ, h, e, m, xr, hi, oo⟩ := t
  exact oo φ _ H Ext.refl (.str _) m)⟩
theorem su_bl {b : Bool} : XT.SuOk X [.Return (some (.Constant (.bool b) j p)) q] (suM g o (fnC (.bl b))) := fun a oe cls d pn hz hf => ⟨fun pins s σ H E I t => (pss_one (ps_ret pe_bl)).run pins s σ H E I (by
  obtain ⟨φ, h, e, m, xr, hi, oo⟩ := t
  exact oo φ _ H Ext.refl (.bl _) m)⟩
theorem su_non : XT.SuOk X [.Return (some (.Constant .none j p)) q] (suM g o (fnC .non)) := fun a oe cls d pn hz hf => ⟨fun pins s σ H E I t => (pss_one (ps_ret pe_non)).run pins s σ H E I (by
  obtain ⟨φ, h, e, m, xr, hi, oo⟩ := t
  exact oo φ _ H Ext.refl .non m)⟩
/-- e.f in a suite -/
theorem kept_at {c : Nat} {f : Str} {e : Exc} {φ : Ph} {H : Hp} {h : MH} {cls : Value} {dx : Option Addr} {C : Addr} {σ : L2.St} {W : WX} {β : Type} {rel : Ph → Hp → β → D → Prop} {QQ : β → Hp → Prop} {k : D → MH → R D} (eC : g.ex c = .ref C) (xr : ExRep g φ H cls dx e) (oo : Out g W σ φ H rel QQ ((keptF c f e h).bind k)) :
    ∃ dd v d, cls = .ref C ∧ dx = some dd ∧ H dd = some (.xd [(f, v)]) ∧ Rep g.r φ H v d ∧ Out g W σ φ H rel QQ (k d h) := by
  obtain ⟨ec, xr⟩ := xr
  unfold keptF at oo
  cases hk : e.kept with
  | none => rw [hk] at oo; exact oo.elim
  | some fd =>
    obtain ⟨f', d⟩ := fd
    rw [hk] at oo xr
    dsimp only at oo xr
    split at oo
    · rename_i hc
      rw [Bool.and_eq_true] at hc
      have e1 := of_decide_eq_true hc.1
      have e2 := of_decide_eq_true hc.2
      subst e2
      obtain ⟨a, v, ea, hq, n, rv⟩ := xr
      exact ⟨a, v, d, by rw [ec, e1, eC], ea, hq, rv, oo⟩
    · exact oo.elim
theorem look_one {f : Str} {v : V} : List.lookup f [(f, v)] = some v := by simp [List.lookup]
section
variable {c i : Nat} {f n : Str}
variable {q1 q2 q3 : Pos} {kt : Nat}
theorem su_rep (T : XfT X.K g.ex c f) (hk : g.r.K = X.K) (hgd : X.A.guards = some []) (hu : X.A.units + 65 < cLine) (hm : X.mg "repr" = none) (hi : X.N[i]? = some n := by rfl) (hv : Vis X.env.scope n := by first | exact Or.inl rfl | exact Or.inr (Or.inl rfl)) (hg : Gl X "repr" := by rfl)
    (hd : (n == ("__debug__" : Str)) = false := by decide) (hcd : (n == ("__classdict__" : Str)) = false := by decide) :
    XT.SuOk X [.Return (some (.BinOp (.Constant (.str z) j p) .Add (.Call (.Name "repr" p2) [.Attribute (.Name n p3) f p4] [] q1) q2)) q] (suM g (some i) (fnR z c f)) := fun a oe cls d pn hz hf => ⟨fun pins s σ H E I t => by
  obtain ⟨C, eC, xc, hno⟩ := T.ex
  refine (pss_one (ps_ret (pe_op op_add_str pe_str (pe_callB (call_reprD (X := X.suite a ((a, oe) :: pn)) hgd hu) hg hm bt_repr (pa_cons (pe_xf xc hno hz hf (pe_var hi hv hd hcd) (by rfl)) pa_nil (by rfl)))))).run pins s σ H E I ?_
  obtain ⟨φ, h, e, m, xr, hsl, oo⟩ := t
  obtain ⟨dd, v, dv, e1, e2, hq, rv, oo⟩ := kept_at eC xr oo
  refine ⟨.ref a, hsl i rfl (by rw [I.len]; exact (List.getElem?_eq_some_iff.mp hi).1), rfl, e1, dd, [(f, v)], v, e2, hq, look_one, ?_⟩
  have rr : rReprD X.K [v] H (fun y H2 => ∃ i j, V.str z = V.str i ∧ y = V.str j ∧ i.length + j.length ≤ sizeLine ∧ E.rt (V.str (i ++ j)) H2) := reprD_o hk rv m (Out.next (rel' := Rep g.r) oo fun y h2 φ2 u H2 x2 r2 m2 o2 => o_catS (.str z) r2 m2 o2)
  exact rr⟩
theorem su_rp (T : XfT X.K g.ex c f) (hk : g.r.K = X.K) (hgd : X.A.guards = some []) (hu : X.A.units + 65 < cLine) (hm : X.mg "repr" = none) (hi : X.N[i]? = some n := by rfl) (hv : Vis X.env.scope n := by first | exact Or.inl rfl | exact Or.inr (Or.inl rfl)) (hg : Gl X "repr" := by rfl)
    (hd : (n == ("__debug__" : Str)) = false := by decide) (hcd : (n == ("__classdict__" : Str)) = false := by decide) :
    XT.SuOk X [.Return (some (.Call (.Name "repr" p2) [.Attribute (.Name n p3) f p4] [] q1)) q] (suM g (some i) (fnP c f)) := fun a oe cls d pn hz hf => ⟨fun pins s σ H E I t => by
  obtain ⟨C, eC, xc, hno⟩ := T.ex
  refine (pss_one (ps_ret (pe_callB (call_reprD (X := X.suite a ((a, oe) :: pn)) hgd hu) hg hm bt_repr (pa_cons (pe_xf xc hno hz hf (pe_var hi hv hd hcd) (by rfl)) pa_nil (by rfl))))).run pins s σ H E I ?_
  obtain ⟨φ, h, e, m, xr, hsl, oo⟩ := t
  obtain ⟨dd, v, dv, e1, e2, hq, rv, oo⟩ := kept_at eC xr oo
  exact ⟨.ref a, hsl i rfl (by rw [I.len]; exact (List.getElem?_eq_some_iff.mp hi).1), rfl, e1, dd, [(f, v)], v, e2, hq, look_one, reprD_o hk rv m oo⟩⟩
theorem su_fld (T : XfT X.K g.ex c f) (hi : X.N[i]? = some n := by rfl) (hv : Vis X.env.scope n := by first | exact Or.inl rfl | exact Or.inr (Or.inl rfl))
    (hd : (n == ("__debug__" : Str)) = false := by decide) (hcd : (n == ("__classdict__" : Str)) = false := by decide) :
    XT.SuOk X [.Return (some (.Attribute (.Name n p3) f p4)) q] (suM g (some i) (keptF c f)) := fun a oe cls d pn hz hf => ⟨fun pins s σ H E I t => by
  obtain ⟨C, eC, xc, hno⟩ := T.ex
  refine (pss_one (ps_ret (pe_xf xc hno hz hf (pe_var hi hv hd hcd) (by rfl)))).run pins s σ H E I ?_
  obtain ⟨φ, h, e, m, xr, hsl, oo⟩ := t
  have oo : Out g W0 [] φ H (Rep g.r) (fun v H' => E.rt v H') ((keptF c f e h).bind fun d h1 => .ok d h1) := by
    cases hq : keptF c f e h with
    | ok d h1 => rw [hq] at oo; exact oo
    | exc _ _ => rw [hq] at oo; exact oo
    | bad => rw [hq] at oo; exact oo
  obtain ⟨dd, v, dv, e1, e2, hq, rv, oo⟩ := kept_at eC xr oo
  exact ⟨.ref a, hsl i rfl (by rw [I.len]; exact (List.getElem?_eq_some_iff.mp hi).1), rfl, e1, dd, [(f, v)], v, e2, hq, look_one, oo φ v H Ext.refl rv m⟩⟩
theorem su_tup (T : XfT X.K g.ex c f) (hi : X.N[i]? = some n := by rfl) (hv : Vis X.env.scope n := by first | exact Or.inl rfl | exact Or.inr (Or.inl rfl))
    (hd : (n == ("__debug__" : Str)) = false := by decide) (hcd : (n == ("__classdict__" : Str)) = false := by decide) :
    XT.SuOk X [.Return (some (.Tuple [.Constant (.str z) j p, .Attribute (.Name n p3) f p4] kt q1)) q] (suM g (some i) (fnT z c f)) := fun a oe cls d pn hz hf => ⟨fun pins s σ H E I t => by
  obtain ⟨C, eC, xc, hno⟩ := T.ex
  refine (pss_one (ps_ret (pe_tup (pa_cons pe_str (pa_cons (pe_xf xc hno hz hf (pe_var hi hv hd hcd) (by rfl)) pa_nil (by rfl)) (by rfl))))).run pins s σ H E I ?_
  obtain ⟨φ, h, e, m, xr, hsl, oo⟩ := t
  obtain ⟨dd, v, dv, e1, e2, hq, rv, oo⟩ := kept_at eC xr oo
  refine ⟨.ref a, hsl i rfl (by rw [I.len]; exact (List.getElem?_eq_some_iff.mp hi).1), rfl, e1, dd, [(f, v)], v, e2, hq, look_one, by rw [sizeLine_eq]; show 2 ≤ _; omega, fun l hl => ?_⟩
  exact new_tup m hl (.cons (.str z) (.cons rv .nil)) oo⟩
end
end

/-! ### a def that calls what it got: try: a() / except ..: return .. / rest -/
abbrev FnL := (MH → R D) → MH → R D
def endL : F → R D
  | .rt d h => .ok d h
  | .nx _ h => .ok .non h
  | _ => .bad
def mWord (sub : Nat → Nat → Option Bool) (cl : List Cl) (n : Nat) (rest : MS) : FnL := fun call h => match call h with
  | .ok _ h1 => endL (rest (List.replicate n none) h1)
  | .exc e h1 => endL (tryC sub cl (List.replicate n none) e h1)
  | .bad => .bad
/-- what is told of the lambda, and of the def's end -/
def TTw (g : Gm) (m : FnL) : (XK → Hp → VK → Prop) → Hp → VK → Prop := fun tl H Q => ∃ (call : MH → R D) (φ : Ph) (h : MH), Hok g φ H h ∧
  (∀ φ' H' h' E Q', Tr φ H φ' H' → Hok g φ' H' h' → Out g (fun c dx _ H' => E c dx H') [] φ' H' (Rep g.r) Q' (call h') → tl E H' Q') ∧ Out g W0 [] φ H (Rep g.r) Q (m call h)
section
variable {g : Gm} {X : Cx}
theorem slots_none {φ : Ph} {H : Hp} (σ : L2.St) : Slots g.r φ H σ (List.replicate σ.length none) := ⟨by simp, fun i d e => by
  have := List.getElem?_eq_some_iff.mp e
  obtain ⟨_, z⟩ := this
  simp at z⟩
theorem tryC_len {sub : Nat → Nat → Option Bool} {e : Exc} {h : MH} (n k : Nat) : ∀ cl : List Cl, endL (tryC sub cl (List.replicate n none) e h) = endL (tryC sub cl (List.replicate k none) e h)
  | [] => rfl
  | c :: r => by
    unfold tryC
    split
    · rfl
    · exact tryC_len n k r
    · rfl
theorem tryC_ends {sub : Nat → Nat → Option Bool} {ρ : Env1} {e : Exc} {h : MH} : ∀ cl : List Cl, (∃ d h2, tryC sub cl ρ e h = .rt d h2) ∨ (∃ ρ2 e2 h2, tryC sub cl ρ e h = .exc ρ2 e2 h2) ∨ tryC sub cl ρ e h = .bad
  | [] => .inr (.inl ⟨_, _, _, rfl⟩)
  | c :: r => by
    unfold tryC
    split
    · split
      · exact .inl ⟨_, _, rfl⟩
      · exact .inr (.inr rfl)
    · exact tryC_ends r
    · exact .inr (.inr rfl)
theorem word_gives {sub : Nat → Nat → Option Bool} {cl : List Cl} {Ng : List Str} {x a q : Str} {sg : Scope} {f0 : Addr} {cdg : Value} {p1 p2 p3 p4 : Pos} {h₀ : ExceptHandler} {hds : List ExceptHandler} {rest : List Stmt} {mr : MS} (hk : g.r.K = X.K) (hs : SubOk X.K g.ex sub) (hN : Ng.Nodup) (hN0 : 1 ≤ Ng.length)
    (hcl : ∀ (s : Shared) (H : Hp), XT.Cls (cxOf C8.CX0 X.prog X.w X.K X.mg X.base Ng x sg f0 cdg X.A X.stack s H C8.E0).nox (h₀ :: hds) (cl.map (clV g)))
    (hre : ∀ (s : Shared) (H : Hp), PSs (cxOf C8.CX0 X.prog X.w X.K X.mg X.base Ng x sg f0 cdg X.A X.stack s H C8.E0).nox rest (tS g W0 mr)) :
    LamX.GivesTo X Ng x sg f0 cdg (.Try [.Expr (.Call (.Name a p1) [] [] p2) p3] (h₀ :: hds) [] [] p4 :: rest) a q (TTw g (mWord sub cl Ng.length mr)) := by
  intro f c' s H Q tl act hc h
  obtain ⟨call, φ, hh, m, hc2, o⟩ := h
  let E : Ends := { nx := fun _ H' => Q .non H', rt := Q }
  let D' : Ends := { E with nx := fun σ' H' => tS g W0 mr E σ' H' }
  have l0 : (L2.start Ng [V.ref f]).length = Ng.length := by
    simp [L2.start]
    omega
  have h0 : (L2.start Ng [V.ref f])[0]? = some (some (V.ref f)) := rfl
  refine ⟨_, pss_cons (XT.ps_try_all (X := (cxOf C8.CX0 X.prog X.w X.K X.mg X.base Ng x sg f0 cdg X.A X.stack s H C8.E0).nox) (tb := fun W D σ H' => ∃ Ech : XK, (∀ cls d σ' H2, Ech cls d H2 → W cls d σ' H2) ∧ σ[0]? = some (some (.ref f)) ∧ H' c' = some (LamX.CodeO c' q) ∧ tl Ech H' (fun _ H2 => D.nx σ H2))
      rfl rfl hN takes0 (fun W pn xe tk _ => ⟨fun pins s' σ H' D I h' => ?_⟩) (hcl s H)) (hre s H), ?_⟩
  · obtain ⟨Ech, hW, h1, h2, h3⟩ := h'
    have hp := act W pn xe Ech p1 p2 tk hW
    exact (pss_one (ps_expr (pos := p3) hp)).run pins s' σ H' D I ⟨h1, h2, h3⟩
  · show ∃ Ech : XK, (∀ cls d σ' H2, Ech cls d H2 → XT.wAll X.K W0 D' (cl.map (clV g)) cls d σ' H2) ∧ _
    refine ⟨fun cls d H2 => ∀ σ', XT.wAll X.K W0 D' (cl.map (clV g)) cls d σ' H2, fun cls d σ' H2 z => z σ', h0, hc, hc2 φ H hh _ _ Tr.refl m ?_⟩
    unfold mWord at o
    cases hr : call hh with
    | bad => rw [hr] at o; exact o.elim
    | ok d h1 =>
      rw [hr] at o
      intro φ' v H' e1 r1 m1
      have o1 := Out.base e1 (show Out g W0 [] φ H (Rep g.r) Q (endL (mr (List.replicate Ng.length none) h1)) from o)
      refine ⟨φ', List.replicate Ng.length none, h1, by rw [← l0]; exact slots_none _, m1, ?_⟩
      cases hm : mr (List.replicate Ng.length none) h1 with
      | nx ρ2 h2 => rw [hm] at o1; exact fun φ2 σ2 H2 e2 s2 m2 => o1 φ2 .non H2 e2 .non m2
      | rt d2 h2 => rw [hm] at o1; exact o1
      | bk ρ2 h2 => rw [hm] at o1; exact o1.elim
      | ct ρ2 h2 => rw [hm] at o1; exact o1.elim
      | exc ρ2 x2 h2 => rw [hm] at o1; exact o1.elim
      | bad => rw [hm] at o1; exact o1.elim
    | exc e h1 =>
      rw [hr] at o
      intro φ' c dx H' e1 xr m1 σ'
      have o1 := Out.base e1 (show Out g W0 [] φ H (Rep g.r) Q (endL (tryC sub cl (List.replicate Ng.length none) e h1)) from o)
      rw [tryC_len Ng.length σ'.length cl] at o1
      rw [← hk]
      refine try_wish (hk ▸ hs) (slots_none σ') m1 xr cl ?_
      rcases tryC_ends (sub := sub) (ρ := List.replicate σ'.length none) (e := e) (h := h1) cl with ⟨d2, h2, z⟩ | ⟨ρ2, e2, h2, z⟩ | z <;> rw [z] at o1 ⊢
      · exact o1
      · exact o1.elim
      · exact o1.elim
end
end MI
namespace MI
open PySem PySem.Spec
open PyProof.Rows L2

/-! ### x(lambda: e) -/
def mLam (m : FnL) (me : ME) : ME := fun ρ h => noEx (m (fun h' => me ρ h') h)
theorem Slots.tr {r : Rm} {φ φ' : Ph} {H H' : Hp} {σ : L2.St} {ρ : List (Option D)} (e : Tr φ H φ' H') (s : Slots r φ H σ ρ) : Slots r φ' H' σ ρ :=
  ⟨s.1, fun i d q => let ⟨v, a, b⟩ := s.2 i d q; ⟨v, a, b.tr e⟩⟩
theorem not_tbl {o : HO} (h : Stl o) : ∀ ps, o ≠ .tbl ps := fun ps z => by
  subst z
  rcases h with h | ⟨c, q, e⟩ | ⟨a, C, dx, vs, e⟩
  · exact h
  · unfold LamX.CodeO at e; cases e
  · unfold SlX.SlO at e; cases e
theorem Hok.ofN {g : Gm} {φ : Ph} {H H1 : Hp} {h : MH} (m : Hok g φ H h) (e : LamX.ExtN H H1) (tb : LamX.Tabs g.T H1) : Ext φ H φ H1 ∧ Hok g φ H1 h := by
  have kd : ∀ a u, Rd H a u → Dc u → Rd H1 a u := fun a u r d => by
    rcases r with r | ⟨o, r⟩
    · exact .inl (e _ _ r fun ps z => by subst z; exact d)
    · exact .inr ⟨o, e _ _ r fun ps z => by cases z⟩
  have t : Tr φ H φ H1 := ⟨fun a o q n s => ⟨e a o q (not_tbl s), n⟩, fun a u q n d => ⟨kd a u q d, n⟩, fun _ _ q => q, fun _ _ q => q⟩
  refine ⟨⟨t, ⟨[], by simp⟩, fun _ h => h, fun a ha => ?_⟩, ⟨m.nd, m.len, fun a ha => ?_, fun n a ds e1 e2 => ?_, fun n a ds e1 e2 => ?_, tb, g.ivm _ _ _ _ t m.iv⟩⟩
  · obtain ⟨_, o, q, pl⟩ := m.gs a ha
    rw [q]
    exact e _ _ q pl.1
  · obtain ⟨n, o, q, pl⟩ := m.gs a ha
    exact ⟨n, o, e _ _ q pl.1, pl⟩
  · obtain ⟨xs, q, r⟩ := m.at_ n a ds e1 e2
    exact ⟨xs, e _ _ q fun ps z => (by cases z), r.tr t⟩
  · obtain ⟨ks, vs, u, r, q⟩ := m.atD n a ds e1 e2
    refine ⟨ks, vs, u, r.tr t, ?_⟩
    rcases q with ⟨q1, q2⟩ | ⟨q1, o, q2⟩
    · exact .inl ⟨q1, e _ _ q2 r.pl.1⟩
    · exact .inr ⟨q1, o, e _ _ q2 fun ps z => (by cases z)⟩
/-- the table at P is the code object's of the lambdas q -/
structure LmT (g : Gm) (P : Addr) (q : Str) : Prop where
  mem : (P, q) ∈ g.T
  un : ∀ p ∈ g.T, p.1 = P → p.2 = q
section
variable {g : Gm} {W : WX} {X : Cx} {st : Stmt} {Ng : List Str} {x a : Str} {c P : Addr} {k : Nat} {params : Arguments} {body : Expr} {scope : Scope} {p lpos pos : Pos} {m : FnL} {me : ME}
theorem s_lam (A : At X.K X.mg x st [a]) (Sg : FnScope Ng [a] (defScope st)) (hN0 : Ng[0]? = some a) (hva : Vis (defScope st) a) (hG : ∀ (f : Addr) (cdv : Value), LamX.GivesTo X Ng x (defScope st) f cdv (defBody st) a (X.env.qual ++ "<lambda>") (TTw g m))
    (TB : LamX.TabB X.base X.mg c P) (hcode : X.env.code = .ref c) (hT : LmT g P (X.env.qual ++ "<lambda>")) (hr : Room (k + 2) X.A) (L : LamX.LamS X.env.scope scope)
    (hbody : ∀ (A : Around) (outer : List Env) (s : Shared) (H : Hp) (E : XK) (f c' : Addr), Room k (A.deeper (LamX.lamEnv X scope s.heap.objs.size f c')) → PE (LamX.lamCx X A outer s H E scope f c') body (tE g (fun c dx _ H' => E c dx H') me))
    (hdef : defaultsOf params X.env = ([], []) := by rfl) (hbind : ∀ (q : Str) (cl : List (Str × Addr)) (pm cv ctv : Value), bindArgs (PySem.W.kla_fn "<lambda>" q params body scope cl pm cv ctv) ⟨[], []⟩ = pure [] := by exact fun _ _ _ _ _ => rfl)
    (hg : Gl X x := by rfl) (hdb : (x == ("__debug__" : Str)) = false := by decide) (hd : (a == ("__debug__" : Str)) = false := by decide) (hcd : (a == ("__classdict__" : Str)) = false := by decide) :
    PE X (.Call (.Name x p) [.Lambda params body scope lpos] [] pos) (tE g W (mLam m me)) := by
  obtain ⟨f, fd, hm, F, B⟩ := A.ex
  obtain ⟨oc, od, kV, doc, pm, an, cdv, ct, osl, rfl, lk, hcg⟩ := F.ex
  refine pe_imp (LamX.pe_lamcall (T := g.T) (TT := TTw g m) (t := fun E => tE g (fun c dx _ H' => E c dx H') me) hg hm F.kp lk hcg B Sg hN0 hva (hG f cdv) TB hcode hT.mem hT.un hr L hdef hbind hbody hdb hd hcd) fun σ H Q t => ?_
  obtain ⟨φ, ρ, h, s, mm, o⟩ := t
  refine ⟨mm.tb, fun H1 eN T1 => ?_⟩
  obtain ⟨e1, m1⟩ := mm.ofN eN T1
  refine ⟨fun h' => me ρ h', φ, h, m1, fun φ' H' h' E Q' t' m' o' => ⟨φ', ρ, h', (s.ext e1).tr t', m', o'⟩, ?_⟩
  have o1 := Out.base e1 o
  unfold mLam at o1
  cases hr : m (fun h' => me ρ h') h with
  | ok d h2 => rw [hr] at o1; exact o1
  | exc _ _ => rw [hr] at o1; exact o1.elim
  | bad => rw [hr] at o1; exact o1.elim
end
end MI
namespace MI
open PySem PySem.Spec
open PyProof.Rows L2

/-! ### the end: the law's own function is True at every script -/
abbrev tblO : Obj := { cls := .none, data := .fields #[] }
abbrev scrO (vs : List Value) : Obj := { cls := .type "list", data := .seq vs.toArray }
/-- what is tracked at the start: the tables, the script (if it is none of the text's own) -/
def H0 (K : PySem.W.Frag) (T : List Addr) (a : Addr) (vs : List Value) (ns : List Int) : Hp := fun b => if b ∈ T then some (.tbl #[]) else if b = a ∧ K.lookup a = none then some (.frz (scrO vs) (.lst (ns.map V.int))) else none
section
variable {P : Program} {w : World} {K : PySem.W.Frag} {mg mb : Str → Option Value} {k : Nat} {fa a : Addr} {cs : List (Addr × Addr)} {fd : FuncData} {x : Str} {sp : Sp} {s₁ : Shared} {vs : List Value} {ns : List Int} {T : List Addr} {h : Heap}
theorem H0_tbl {b : Addr} (hb : b ∈ T) : H0 K T a vs ns b = some (.tbl #[]) := if_pos hb
theorem H0_inv {b : Addr} {u : HO} (e : H0 K T a vs ns b = some u) : (b ∈ T ∧ u = .tbl #[]) ∨ (b ∉ T ∧ b = a ∧ K.lookup a = none ∧ u = .frz (scrO vs) (.lst (ns.map V.int))) := by
  unfold H0 at e
  split at e
  · rename_i hb; cases e; exact .inl ⟨hb, rfl⟩
  · rename_i hb
    split at e
    · rename_i hc; cases e; exact .inr ⟨hb, hc.1, hc.2, rfl⟩
    · cases e
theorem H0_free {b : Addr} {o : Obj} (hT : ∀ b ∈ T, h.get? b = some tblO) (ha : h.get? a = some (scrO vs)) (e : h.get? b = some o) (n1 : o ≠ tblO) (n2 : o ≠ scrO vs) : H0 K T a vs ns b = none := by
  cases q : H0 K T a vs ns b with
  | none => rfl
  | some u =>
    rcases H0_inv q with ⟨hb, _⟩ | ⟨_, hb, _⟩
    · rw [hT b hb] at e; exact absurd (Option.some.inj e).symm n1
    · rw [hb, ha] at e; exact absurd (Option.some.inj e).symm n2
theorem dict_free {b : Addr} {o : Obj} {es : Array DictEntry} {ep : Nat} (hT : ∀ b ∈ T, h.get? b = some tblO) (ha : h.get? a = some (scrO vs)) (e : h.get? b = some o) (d : o.data = .dict es ep) : H0 K T a vs ns b = none :=
  H0_free hT ha e (fun z => by rw [z] at d; cases d) (fun z => by rw [z] at d; cases d)
theorem ns_hid {L : Addr} {m : Str → Option Value} (hT : ∀ b ∈ T, h.get? b = some tblO) (ha : h.get? a = some (scrO vs)) (n : h.Ns L m) : (hidT h (H0 K T a vs ns)).Ns L m := by
  obtain ⟨o, es, ep, e, d, r⟩ := n
  exact ⟨o, es, ep, hidT_get e (dict_free hT ha e d), d, r⟩
theorem law_run (KX : K.In s₁.heap) (hns : s₁.heap.Ns mainGlobals mg) (hb : s₁.heap.Ns builtinsNs mb) (hbb : ∀ x : Str, x ≠ "__name__" → mb x = bootBuiltins x) (hlim : s₁.heap.NoLimit) (hg : s₁.gens = #[])
    (hT : ∀ p ∈ cs, s₁.heap.get? p.2 = some tblO) (nT : ∀ p ∈ cs, K.lookup p.2 = none) (hC : ∀ p ∈ cs, PySem.W.CodeHd s₁.heap p.1 p.2)
    (hbm : ∃ (bm : Addr) (ob : Obj), mg "__builtins__" = some (.ref bm) ∧ bm ≠ builtinsNs ∧ s₁.heap.get? bm = some ob ∧ ob.cls = .type "module" ∧ ob.dict = some builtinsNs ∧ ob.data = .plain)
    (ha : s₁.heap.get? a = some (scrO vs)) (hi : IntsAre vs ns) (hl : ns.length ≤ sizeLine) (hr : Room k callerA)
    (F : ∀ base : Heap, K.In base → base.Ns mainGlobals mg → (∀ p ∈ cs, LamX.TabB base mg p.1 p.2) → FnG P w K mg base k fa fd [x] sp) (hbind : ∀ (s : Shared) (u : Value), BindsTo s fd ⟨[u], []⟩ [(x, u)])
    (hsp : ∀ H : Hp, (∀ p ∈ cs, H p.2 = some (.tbl #[])) → SqL K H a (ns.map V.int) → sp [.ref a] H (fun v _ => v = .bl true) fun _ _ _ => False) :
    codeAny (model P w) callerA (.call (.ref fa) ⟨[.ref a], []⟩) (fun r s' => r = .ok (.ret (.bool true)) ∧ OldK s₁.heap s'.heap ∧ s'.os = s₁.os ∧ AllBare s'.gens) s₁ := by
  have rv := vals_ints hi
  have hT' : ∀ b ∈ cs.map (·.2), s₁.heap.get? b = some tblO := fun b hb => by
    obtain ⟨p, hp, e⟩ := List.mem_map.mp hb
    rw [← e]; exact hT p hp
  have mT : ∀ p ∈ cs, p.2 ∈ cs.map (·.2) := fun p hp => List.mem_map.mpr ⟨p, hp, rfl⟩
  have aT : a ∉ cs.map (·.2) := fun z => by
    have e := hT' a z
    rw [ha] at e
    exact absurd (congrArg Obj.data (Option.some.inj e)) (fun z => by cases z)
  let H := H0 K (cs.map (·.2)) a vs ns
  have hq : SqL K H a (ns.map V.int) := by
    cases e : K.lookup a with
    | none => exact .inl (.inr ⟨_, show H0 K _ a vs ns a = _ from by unfold H0; rw [if_neg aT, if_pos ⟨rfl, e⟩]⟩)
    | some o =>
      have eo := KX a o e
      rw [ha] at eo
      cases eo
      exact .inr ⟨_, vs.toArray, _, e, rfl, rfl, rfl, by rw [List.size_toArray, hi.length]; exact hl, by simpa using rv⟩
  have ok : HOk P w H s₁.heap := fun b u e => by
    rcases H0_inv e with ⟨hb, rfl⟩ | ⟨_, rfl, _, rfl⟩
    · exact hT' b hb
    · exact ⟨ha, by rw [List.length_map]; exact hl, vs, _, rv, ha⟩
  have kb : K.In (hidT s₁.heap H) := fun b o e => hidT_get (KX b o e) (by
    cases q : H b with
    | none => rfl
    | some u =>
      rcases H0_inv q with ⟨hb, _⟩ | ⟨_, hb, hn, _⟩
      · obtain ⟨p, hp, ep⟩ := List.mem_map.mp hb
        rw [← ep, nT p hp] at e; cases e
      · rw [hb, hn] at e; cases e)
  have nsm := ns_hid (K := K) (ns := ns) hT' ha hns
  have tabs : ∀ p ∈ cs, LamX.TabB (hidT s₁.heap H) mg p.1 p.2 := fun p hp => by
    have hTp := hT p hp
    refine ⟨?_, ?_, fun z => ?_⟩
    · obtain ⟨o, us, file, tf, flags, tg, inF, text, tt, e1, r1, r2, r3, r⟩ := hC p hp
      refine ⟨o, us, file, tf, flags, tg, inF, text, tt, hidT_get e1 (H0_free hT' ha e1 (fun z => ?_) fun z => ?_), r1, r2, r3, r⟩
      · rw [z] at r2
        cases r2
        simp at r3
      · rw [z] at r2; cases r2
    · obtain ⟨bm, ob, b1, b2, b3, b4, b5, b6⟩ := hbm
      have fr := H0_free (K := K) (ns := ns) hT' ha b3 (fun z => by rw [z] at b6; cases b6) (fun z => by rw [z] at b6; cases b6)
      refine ⟨bm, ob, b1, b2, fun q => ?_, fun q => ?_, hidT_get b3 fr, b4, b5, b6⟩
      · obtain ⟨o, es, ep, e, hd, _⟩ := hns
        rw [q, e] at b3
        cases b3
        rw [hd] at b6; cases b6
      · rw [q, hTp] at b3
        cases b3
        cases b6
    · obtain ⟨o, es, ep, e, hd, _⟩ := hns
      rw [z, hTp] at e
      cases e
      cases hd
  have e0 : Env0 P w K mg (hidT s₁.heap H) callerA [] s₁ H := ⟨rfl, ⟨kb, nsm, ⟨mb, ns_hid hT' ha hb, hbb⟩, let ⟨mc, h1, h2⟩ := hlim; ⟨mc, ns_hid hT' ha h1, h2⟩⟩, fun b o e => of_hidT e, Nat.le_of_eq (hidT_size _ _), trivial, fun b hb => absurd (show b ∈ ([] : List Addr) from hb) (by simp), ok, .of_eq hg⟩
  refine codeAny_mono ((F _ kb nsm tabs).run callerA [] s₁ H ⟨[.ref a], []⟩ [.ref a] [.ref a] _ _ hr rfl e0 (hbind s₁ (.ref a)) (.cons rfl .nil) (hsp H (fun p hp => H0_tbl (mT p hp)) hq)) fun r s' hh => ?_
  cases r with
  | error e =>
    obtain ⟨_, _, _, _, _, _, _, _, _, _, _, _, z⟩ := hh
    exact z.elim
  | ok fl =>
    cases fl with
    | ret u =>
      obtain ⟨v, H', os, bare, un, ok', r', q⟩ := hh
      cases (show v = .bl true from q)
      cases (show u = Value.bool true from r')
      have old : ∀ b o, b ∉ cs.map (·.2) → s₁.heap.get? b = some o → s'.heap.get? b = some o := fun b o nb e => by
        cases q : H b with
        | none => exact un.keep b o e q (fun z => absurd (show b ∈ ([] : List Addr) from z) (by simp)) (by simp)
        | some u =>
          rcases H0_inv q with ⟨z, _⟩ | ⟨_, rfl, hn, rfl⟩
          · exact absurd z nb
          · have z2 := (ok' b _ (un.frzs b _ _ q)).1
            rw [ha] at e; cases e
            exact z2
      have more : ∀ p ∈ cs, ∃ m : Array Value, s'.heap.get? p.2 = some { cls := .none, data := .fields m } := fun p hp => by
        obtain ⟨m, z⟩ := un.tbls p.2 #[] (H0_tbl (mT p hp))
        exact ⟨_, ok' p.2 _ z⟩
      refine ⟨rfl, ⟨fun b o e => ?_, fun b o e => ?_⟩, os, bare⟩
      · by_cases hb : b ∈ cs.map (·.2)
        · obtain ⟨p, hp, ep⟩ := List.mem_map.mp hb
          obtain ⟨m, hm⟩ := more p hp
          subst ep
          have e2 := e.symm.trans (hT p hp)
          cases e2
          exact .inr (.inl ⟨((hC p hp).tab (hT p hp)).isCodeTable, rfl, #[], m, rfl, by rw [Array.empty_append]; exact hm⟩)
        · exact .inl (old b o hb e)
      · by_cases hb : b ∈ cs.map (·.2)
        · obtain ⟨p, hp, ep⟩ := List.mem_map.mp hb
          obtain ⟨m, hm⟩ := more p hp
          exact ⟨_, by rw [← ep]; exact hm⟩
        · exact ⟨o, old b o hb e⟩
    | _ => exact False.elim hh
end
/-- each def's table is empty at the start -/
def TabsOf (q : Program) (mg : Str → Option Value) (h : Heap) : Prop := ∀ d ∈ recsOf q, ∃ a o fd c P, mg d.name = some (.ref a) ∧ h.get? a = some o ∧ o.data = .func fd ∧ fd.code = .ref c ∧ h.IsCode c P #[] ∧ h.TableAt c P #[]
/-- a def that makes lambdas: its code object c, its table P -/
structure AtL (K : PySem.W.Frag) (mg : Str → Option Value) (h : Heap) (x : Str) (st : Stmt) (ps : List Str) (c P : Addr) : Prop where
  at_ : AtC K mg x st ps c
  tab : h.get? P = some tblO
  hd : PySem.W.CodeHd h c P
  nk : K.lookup P = none
abbrev tabA {K : PySem.W.Frag} {mg : Str → Option Value} {h : Heap} {x : Str} {st : Stmt} {ps : List Str} {c P : Addr} (A : AtL K mg h x st ps c P) : Addr := P
abbrev codA {K : PySem.W.Frag} {mg : Str → Option Value} {h : Heap} {x : Str} {st : Stmt} {ps : List Str} {c P : Addr} (A : AtL K mg h x st ps c P) : Addr := c
theorem atL_mk {q : Program} {K : PySem.W.Frag} {mg : Str → Option Value} {h : Heap} {x : Str} {st : Stmt} {ps : List Str} {f c P : Addr} {oc e : Value} {od an dd : Option Addr} {osl sl : Array (Option Value)} {kV doc pm ct : Value} {vs : Array Value} (X : K.In h) (G : h.Ns mainGlobals mg) (TB : TabsOf q mg h)
    (a : PySem.W.nsIn K mainGlobals x = some (some (.ref f))) (l : K.lookup f = some ⟨oc, od, .func (PySem.W.fnOf x x (defArgs st) (defBody st) (defScope st) .none kV doc pm an (.ref c) ct), osl⟩)
    (cd : PySem.W.codeIn K (.ref c) x = true) (k : PySem.W.keepIn K (.ref f) = true) (lc : K.lookup c = some ⟨e, dd, .fields vs, sl⟩) (h11 : vs[11]? = some (.ref P)) (nP : K.lookup P = none) (hrec : ((recsOf q).any fun d => d.name == x) = true)
    (b : ∀ (kV doc pm : Value) (an : Option Addr) (cdv ct : Value) (us : List Value), us.length = ps.length → bindArgs (PySem.W.fnOf x x (defArgs st) (defBody st) (defScope st) .none kV doc pm an cdv ct) ⟨us, []⟩ = pure (ps.zip us)) : AtL K mg h x st ps c P := by
  obtain ⟨d, hd, hx⟩ := List.any_eq_true.mp hrec
  obtain ⟨a', o', fd', c', P', h1, h2, h3, h4, h5, h6⟩ := TB d hd
  have ex : d.name = x := beq_iff_eq.mp hx
  rw [ex, PySem.W.mg_of X G a] at h1
  cases h1
  rw [X _ _ l] at h2
  cases h2
  cases h3
  cases h4
  have hq := PySem.W.CodeHd.of h5 h6
  obtain ⟨⟨oc2, vc, e1, _, e3, e4⟩, hP⟩ := h6
  rw [X _ _ lc] at e1
  cases e1
  cases e3
  rw [h11] at e4
  cases e4
  exact ⟨atC_mk X G a l cd k b, hP, hq, nP⟩
section
variable {l : PySem.W.OpenLaw} {q : Program} {loose : List Str} {XP : (Str → Option Value) → Heap → Prop} {YP : World → Heap → Prop} {d : DefRec} {K : Params → PySem.W.Frag} {x : Str} {m : FnM} {k : Nat}
theorem law_endG (hn : l.most = some 63) (hdf : d.params.defaults = []) (hr : Room k callerA) (hY : ∀ (w : World) (h : Heap), YP w h → (K w.params).In h)
    (F : ∀ (w : World) (mg : Str → Option Value) (fa : Addr) (h : Heap), (K w.params).In h → h.Ns mainGlobals mg → mg d.name = some (.ref fa) → TabsOf q mg h →
      ∃ (g : Gm) (cs : List (Addr × Addr)), g.r.K = K w.params ∧ g.iv = (fun _ _ => True) ∧ (∀ p ∈ g.T, ∃ c, (c, p.1) ∈ cs) ∧ (∀ p ∈ cs, h.get? p.2 = some tblO) ∧ (∀ p ∈ cs, (K w.params).lookup p.2 = none) ∧ (∀ p ∈ cs, PySem.W.CodeHd h p.1 p.2) ∧
        ∃ fd : FuncData, (∀ (s : Shared) (u : Value), BindsTo s fd ⟨[u], []⟩ [(x, u)]) ∧ ∀ base : Heap, (K w.params).In base → base.Ns mainGlobals mg → (∀ p ∈ cs, LamX.TabB base mg p.1 p.2) → FnG l.prog w (K w.params) mg base k fa fd [x] (spM g 1 m))
    (ht : ∀ ns : List Int, ns.length ≤ 63 → ∃ h, m [.scr ns] [] = .ok (.bl true) h) :
    PySem.W.WalkO q loose XP YP l.row.toRowW d [] (fun f vs => PySem.call f vs) := by
  refine Att.attach_callB hn hdf fun w s₀ s₁ mg mb fa o pm cd doc a vs ns G Y ho hd hcd hmg hobj hints hlen hbits hg => ?_
  have KX := hY w _ Y
  obtain ⟨g, cs, hK, hiv, hTc, hT, nT, C, fd, hb, hF⟩ := F w mg fa _ KX G.T.g hmg G.T.tab
  refine law_run KX G.T.g G.T.b G.T.builtins G.T.nolimit hg hT nT C G.T.bmain hobj hints (Nat.le_trans hlen (by decide)) hr hF hb fun H hH hS => ?_
  obtain ⟨h, eh⟩ := ht ns hlen
  refine ⟨rfl, ⟨[], [], []⟩, [.scr ns], [], Reps.cons (.scr ?_) .nil, ⟨.nil, rfl, (fun a ha => nomatch ha), fun n a ds e => (by have := e.1; simp at this), fun n a ds e => (by have := e.1; simp at this), fun p hp => ?_, by rw [hiv]; trivial⟩, ?_⟩
  · rw [hK]
    rcases hS with hS | hS
    · exact .inl ⟨hS, fun z => by rcases z with z | z <;> cases z⟩
    · exact .inr (.inr hS)
  · obtain ⟨c, hc⟩ := hTc p hp
    exact LamX.TabS.nil (hH _ hc)
  · rw [eh]
    intro φ' v H' e r m
    cases r
    rfl
theorem law_fnG {g : Gm} {P : Program} {w : World} {mg : Str → Option Value} {st : Stmt} {N : List Str} {b : MS} {fa c : Addr} {cs : List (Addr × Addr)} (A : AtC g.r.K mg "law" st [x] c) (hfa : mg "law" = some (.ref fa))
    (bd : ∀ (kV doc pm : Value) (an : Option Addr) (cdv ct u : Value), bindArgs (PySem.W.fnOf "law" "law" (defArgs st) (defBody st) (defScope st) .none kV doc pm an cdv ct) ⟨[u], []⟩ = pure [(x, u)]) (S : FnScope N [x] (defScope st))
    (hb : ∀ base : Heap, g.r.K.In base → base.Ns mainGlobals mg → (∀ p ∈ cs, LamX.TabB base mg p.1 p.2) → ∀ (f : Addr) (A : Around) (outer : List Env) (s : Shared) (H : Hp) (E : XK), Room k (A.deeper (envOfC "law" (defScope st) s.heap.objs.size f (.ref c))) → A.guards = some [] →
      Takes (cxOf (L2.CX P w) P w g.r.K mg base N "law" (defScope st) f (.ref c) A outer s H E) (fun c dx _ H' => E c dx H') →
      PassesOwn (model P w) (cxOf (L2.CX P w) P w g.r.K mg base N "law" (defScope st) f (.ref c) A outer s H E).A (cxOf (L2.CX P w) P w g.r.K mg base N "law" (defScope st) f (.ref c) A outer s H E).env (cxOf (L2.CX P w) P w g.r.K mg base N "law" (defScope st) f (.ref c) A outer s H E).xe →
      PSs (cxOf (L2.CX P w) P w g.r.K mg base N "law" (defScope st) f (.ref c) A outer s H E) (defBody st) (tS g (fun c dx _ H' => E c dx H') b)) :
    ∃ fd : FuncData, (∀ (s : Shared) (u : Value), BindsTo s fd ⟨[u], []⟩ [(x, u)]) ∧ ∀ base : Heap, g.r.K.In base → base.Ns mainGlobals mg → (∀ p ∈ cs, LamX.TabB base mg p.1 p.2) → FnG P w g.r.K mg base (k + 1) fa fd [x] (spM g 1 (mFn 1 N.length b)) := by
  obtain ⟨f, oc, od, kV, doc, pm, an, ct, osl, h1, lk, hcd, kp, B⟩ := A.ex
  rw [hfa] at h1
  cases h1
  refine ⟨PySem.W.fnOf "law" "law" (defArgs st) (defBody st) (defScope st) .none kV doc pm an (.ref c) ct, fun s u => BindsTo.of_eq (bd kV doc pm an (.ref c) ct u), fun base hK hN hT => ⟨fun vs H Q E h => h.1, fun A outer s H args us vs Q E hr hgd e0 bd rv hsp => ?_⟩⟩
  exact LamX.run_ofS lk hcd S hr e0 bd rv hsp.1 fun hr' => ⟨_, hb base hK hN hT fa A outer s H E hr' hgd (takes_of rfl rfl rfl rfl) (passes_of rfl), fn_start hsp⟩
end
end MI
/-! evaluation of the combinators by simp -/
namespace MI
open PySem PySem.Spec
open PyProof.Rows L2
section
variable {α β : Type} {h : MH} {ρ : Env1} {a b c : ME} {t u : MT} {xs : MA} {s s' : MS}
@[simp] theorem bind_ok (x : α) (k : α → MH → R β) : (R.ok x h).bind k = k x h := rfl
@[simp] theorem toF_ok (x : α) (k : α → MH → F) : (R.ok x h).toF ρ k = k x h := rfl
@[simp] theorem seq_nx (k : MS) : (F.nx ρ h).seq k = k ρ h := rfl
@[simp] theorem seq_rt (d : D) (k : MS) : (F.rt d h).seq k = .rt d h := rfl
@[simp] theorem noEx_ok (x : α) : noEx (R.ok x h) = .ok x h := rfl
@[simp] theorem mVar_ap {i : Nat} : mVar i ρ h = match ρ[i]? with | some (some d) => .ok d h | _ => .bad := rfl
@[simp] theorem mC_ap {d : D} : mC d ρ h = .ok d h := rfl
@[simp] theorem mBin_ap {f : D → D → MH → R D} : mBin f a b ρ h = (a ρ h).bind fun x h1 => (b ρ h1).bind fun y h2 => f x y h2 := rfl
@[simp] theorem mUn_ap {f : D → MH → R D} : mUn f a ρ h = (a ρ h).bind f := rfl
@[simp] theorem mNil_ap : mNil ρ h = .ok [] h := rfl
@[simp] theorem mCons_ap : mCons a xs ρ h = (a ρ h).bind fun x h1 => (xs ρ h1).bind fun ys h2 => .ok (x :: ys) h2 := rfl
@[simp] theorem mCall_ap {f : List D → MH → R D} : mCall f xs ρ h = (xs ρ h).bind f := rfl
@[simp] theorem mTest_ap : mTest a ρ h = (a ρ h).bind asB := rfl
@[simp] theorem asB_bl {k : Bool} : asB (.bl k) h = .ok k h := rfl
@[simp] theorem mNotT_ap : mNotT t ρ h = (t ρ h).bind fun b h1 => .ok (!b) h1 := rfl
@[simp] theorem mAndT_ap : mAndT t u ρ h = (t ρ h).bind fun b h1 => match b with | true => u ρ h1 | false => .ok false h1 := rfl
@[simp] theorem mOrT_ap : mOrT t u ρ h = (t ρ h).bind fun b h1 => match b with | true => .ok true h1 | false => u ρ h1 := rfl
@[simp] theorem mIf_ap : mIf t a b ρ h = (t ρ h).bind fun k h1 => match k with | true => a ρ h1 | false => b ρ h1 := rfl
@[simp] theorem mAnd_ap : mAnd a b ρ h = (a ρ h).bind fun x h1 => match x with | .bl true => b ρ h1 | .bl false => .ok (.bl false) h1 | _ => .bad := rfl
@[simp] theorem mOr_ap : mOr a b ρ h = (a ρ h).bind fun x h1 => match x with | .bl true => .ok (.bl true) h1 | .bl false => b ρ h1 | _ => .bad := rfl
@[simp] theorem vNot_bl {k : Bool} : vNot (.bl k) h = .ok (.bl (!k)) h := rfl
@[simp] theorem mChain_ap {f f' : D → D → MH → R D} : mChain f f' a b c ρ h = (a ρ h).bind fun x h1 => (b ρ h1).bind fun y h2 => (f x y h2).bind fun z h3 => match z with | .bl true => (c ρ h3).bind fun w h4 => f' y w h4 | .bl false => .ok (.bl false) h3 | _ => .bad := rfl
@[simp] theorem mNoPart_ap : mNoPart ρ h = .ok none h := rfl
@[simp] theorem mPart_ap : mPart a ρ h = (a ρ h).bind fun x h1 => match x with | .int i => .ok (some i) h1 | _ => .bad := rfl
@[simp] theorem mCut_ap {lo hi : MO} : mCut a lo hi ρ h = (a ρ h).bind fun x h1 => (lo ρ h1).bind fun l h2 => (hi ρ h2).bind fun u h3 => vCut x l u h3 := rfl
@[simp] theorem mNext_ap : mNext ρ h = .nx ρ h := rfl
@[simp] theorem mSeq_ap : mSeq s s' ρ h = (s ρ h).seq s' := rfl
@[simp] theorem mRet_ap : mRet a ρ h = (a ρ h).toF ρ fun d h1 => .rt d h1 := rfl
@[simp] theorem mRetN_ap : mRetN ρ h = .rt .non h := rfl
@[simp] theorem mDrop_ap : mDrop a ρ h = (a ρ h).toF ρ fun _ h1 => .nx ρ h1 := rfl
@[simp] theorem mIfS_ap : mIfS t s s' ρ h = (t ρ h).toF ρ fun k h1 => match k with | true => s ρ h1 | false => s' ρ h1 := rfl
@[simp] theorem mAsg_ap {g : MG} : mAsg a g ρ h = (a ρ h).toF ρ fun d h1 => F.ofG (g d ρ h1) := rfl
@[simp] theorem ofG_some {x : Env1 × MH} : F.ofG (some x) = .nx x.1 x.2 := rfl
@[simp] theorem gN_ap {i : Nat} {d : D} : gN i d ρ h = some (ρ.set i (some d), h) := rfl
@[simp] theorem gsNil_ap : gsNil [] ρ h = some (ρ, h) := rfl
@[simp] theorem gsCons_ap {m : MG} {v : MGs} {d : D} {r : List D} : gsCons m v (d :: r) ρ h = (m d ρ h).bind fun x => v r x.1 x.2 := rfl
@[simp] theorem gT_ap {n : Nat} {v : MGs} {l : List D} : gT n v (.tup l) ρ h = if l.length = n then v l ρ h else none := rfl
@[simp] theorem gTA_tup {n : Nat} {v : MGs} {l : List D} : gTA n v (.tup l) ρ h = if l.length = n then v l ρ h else none := rfl
@[simp] theorem gTA_lst {n : Nat} {v : MGs} {l : List D} : gTA n v (.lst l) ρ h = if l.length = n then v l ρ h else none := rfl
@[simp] theorem mPar_ap {i j : Nat} : mPar i j a b ρ h = (a ρ h).toF ρ fun x h1 => (b ρ h1).toF ρ fun y h2 => .nx ((ρ.set i (some x)).set j (some y)) h2 := rfl
@[simp] theorem mFor_ap {i : MI'} {g : MG} : mFor i g s ρ h = (i ρ h).toF ρ fun q h1 => loopF g s q.chk q.items ρ h1 := rfl
@[simp] theorem mSrc_ap {f : D → MH → R Src} : mSrc a f ρ h = (a ρ h).bind f := rfl
@[simp] theorem mSrcA_ap {f : List D → MH → R Src} : mSrcA xs f ρ h = (xs ρ h).bind f := rfl
@[simp] theorem srcS_tup {l : List D} : srcS (.tup l) h = .ok ⟨l, none⟩ h := rfl
@[simp] theorem srcS_lst {l : List D} : srcS (.lst l) h = .ok ⟨l, none⟩ h := rfl
@[simp] theorem chk_none {l : List D} : (Src.mk l none).chk h = true := rfl
@[simp] theorem mYes_ap : mYes ρ h = .ok true h := rfl
@[simp] theorem mLc_ap {i : MI'} {g : MG} {vs : List Nat} : mLc i g t a vs ρ h = (i ρ h).bind fun s h1 => (loopC g t a (wipeM ρ vs) s.chk s.items [] h1).bind fun l h2 => .ok (.lst l) h2 := rfl
@[simp] theorem mLcC_ap {i : MI'} {g : MG} {vs : List Nat} : mLcC i g t a vs ρ h = (i ρ h).bind fun s h1 => (loopC g t a (wipeM ρ vs) s.chk s.items [] h1).bind fun l h2 => .ok (.cell h2.length) (h2 ++ [l]) := rfl
@[simp] theorem mCallD_ap {np : Nat} {m : FnM} {dD : List D} : mCallD np m dD xs ρ h = (xs ρ h).bind fun ys h1 => if (ys ++ dD).length = np then m (ys ++ dD) h1 else .bad := rfl
def fnOut : F → R D
  | .nx _ h1 => .ok .non h1
  | .rt d h1 => .ok d h1
  | .exc _ e h1 => .exc e h1
  | _ => .bad
@[simp] theorem fnOut_nx : fnOut (.nx ρ h) = .ok .non h := rfl
@[simp] theorem fnOut_rt {d : D} : fnOut (.rt d h) = .ok d h := rfl
@[simp] theorem mFn_ap {np n : Nat} {ds : List D} (e : ds.length = np) : mFn np n s ds h = fnOut (s (startM n ds) h) := by
  unfold mFn
  rw [if_pos e]
  cases s (startM n ds) h <;> rfl
@[simp] theorem mTup_ap : mTup xs ρ h = (xs ρ h).bind fun l h1 => if l.length ≤ 16777216 then .ok (.tup l) h1 else .bad := rfl
@[simp] theorem mLst_ap : mLst xs ρ h = (xs ρ h).bind fun l h1 => if l.length ≤ 16777216 then .ok (.lst l) h1 else .bad := rfl
@[simp] theorem mCell_ap : mCell xs ρ h = (xs ρ h).bind fun l h1 => if l.length ≤ 16777216 then .ok (.cell h1.length) (h1 ++ [l]) else .bad := rfl
@[simp] theorem mStar_ap : mStar a xs ρ h = (a ρ h).bind fun x h1 => match seqOf h1 x with | some l => (xs ρ h1).bind fun ys h2 => .ok (l ++ ys) h2 | none => .bad := rfl
@[simp] theorem wipe_nil : wipeM ρ [] = ρ := rfl
@[simp] theorem wipe_cons {v : Nat} {vs : List Nat} : wipeM ρ (v :: vs) = (wipeM ρ vs).set v none := rfl
@[simp] theorem startM_ap {n : Nat} {ds : List D} : startM n ds = ds.map some ++ List.replicate (n - ds.length) none := rfl
/-! values -/
variable {i j : Int} {k l : Bool}
@[simp] theorem vAdd_i : vAdd (.int i) (.int j) h = .ok (.int (i + j)) h := rfl
@[simp] theorem vSub_i : vSub (.int i) (.int j) h = .ok (.int (i - j)) h := rfl
@[simp] theorem vNeg_i : vNeg (.int i) h = .ok (.int (-i)) h := rfl
@[simp] theorem vLt_i : vLt (.int i) (.int j) h = .ok (.bl (decide (i < j))) h := rfl
@[simp] theorem vLe_i : vLe (.int i) (.int j) h = .ok (.bl (decide (i ≤ j))) h := rfl
@[simp] theorem vGt_i : vGt (.int i) (.int j) h = .ok (.bl (decide (j < i))) h := rfl
@[simp] theorem vGe_i : vGe (.int i) (.int j) h = .ok (.bl (decide (j ≤ i))) h := rfl
@[simp] theorem vInt_i : vInt (.int i) h = .ok (.int i) h := rfl
@[simp] theorem vInt_b : vInt (.bl k) h = .ok (.int (if k then 1 else 0)) h := rfl
@[simp] theorem vAbs_i : vAbs (.int i) h = .ok (.int (if i < 0 then -i else i)) h := rfl
@[simp] theorem vRepr_b : vRepr (.bl k) h = .ok (.str (if k then "True" else "False")) h := rfl
@[simp] theorem vMax2_i : vMax2 (.int i) (.int j) h = .ok (.int (if j > i then j else i)) h := rfl
@[simp] theorem vMin2_i : vMin2 (.int i) (.int j) h = .ok (.int (if j < i then j else i)) h := rfl
@[simp] theorem vGcd_i : vGcd (.int i) (.int j) h = .ok (.int ((Nat.gcd i.natAbs j.natAbs : Nat) : Int)) h := rfl
@[simp] theorem vOne_ap {f : D → MH → R D} {d : D} : vOne f [d] h = f d h := rfl
@[simp] theorem vTwo_ap {f : D → D → MH → R D} {d e : D} : vTwo f [d, e] h = f d e h := rfl
@[simp] theorem vIsN_non {d : D} : vIsN d .non h = .ok (.bl (match d with | .non => true | _ => false)) h := rfl
theorem vMul_i (c : cMul i j = true) : vMul (.int i) (.int j) h = .ok (.int (i * j)) h := by
  show vOr (vIc cMul fun i j => .int (i * j)) vRepL (.int i) (.int j) h = _
  unfold vOr vIc
  simp [c]
theorem vDiv_i (c : cDiv i j = true) : vDiv (.int i) (.int j) h = .ok (.int (fDiv i j)) h := by
  show vIc cDiv (fun i j => .int (fDiv i j)) (.int i) (.int j) h = _
  unfold vIc
  simp [c]
theorem vMod_i (c : j ≠ 0) : vMod (.int i) (.int j) h = .ok (.int (fMod i j)) h := by
  show vIc cMod (fun i j => .int (fMod i j)) (.int i) (.int j) h = _
  unfold vIc cMod
  simp [c]
theorem fMod_pos (c : 0 < j) : fMod i j = i % j := by unfold fMod; rw [if_pos c]
theorem fDiv_pos (c : 0 < j) : fDiv i j = i / j := by unfold fDiv; rw [if_pos c]
theorem log2_lt {n k : Nat} (hk : 0 < k) (h : n < 2 ^ k) : n.log2 < k := by
  by_cases e : n = 0
  · subst e
    have : Nat.log2 0 = 0 := by decide +kernel
    omega
  · exact (Nat.log2_lt e).mpr h
/-- of a thousand bits at most -/
def Sm (i : Int) : Prop := i.natAbs < 2 ^ 1000
theorem sm_of (a : -(10 ^ 250) ≤ i) (b : i ≤ 10 ^ 250) : Sm i := by
  unfold Sm
  have : (10 : Int) ^ 250 < 2 ^ 1000 := by decide +kernel
  have e : ((2 ^ 1000 : Nat) : Int) = 2 ^ 1000 := by norm_cast
  omega
theorem mul_ok (a : Sm i) (b : Sm j) : cMul i j = true := by
  unfold cMul
  have h1 := log2_lt (by omega) a
  have h2 := log2_lt (by omega) b
  exact decide_eq_true (by omega)
theorem div_ok (b : Sm j) (c : j ≠ 0) : cDiv i j = true := by
  unfold cDiv
  have h2 := log2_lt (by omega) b
  rw [Bool.and_eq_true]
  exact ⟨decide_eq_true c, decide_eq_true (by omega)⟩
@[simp] theorem vEq_i : vEq (.int i) (.int j) h = .ok (.bl (decide (i = j))) h := rfl
@[simp] theorem vNe_i : vNe (.int i) (.int j) h = .ok (.bl (!decide (i = j))) h := rfl
/-- tuples of ints, as a whole -/
theorem eqv_ints : ∀ l m : List Int, PyData.eqvAll (l.map PyData.int) (m.map PyData.int) = decide (l = m)
  | [], [] => rfl
  | [], _ :: _ => rfl
  | _ :: _, [] => rfl
  | x :: r, y :: t => by
    show ((x == y) && PyData.eqvAll (r.map PyData.int) (t.map PyData.int)) = _
    rw [eqv_ints r t]
    by_cases e : x = y
    · subst e; simp
    · simp [e]
theorem loopC_pure {vi : Nat} {P : D → Bool} {f : D → D} {chk : MH → Bool} (hc : chk h = true) : ∀ (items acc : List D), (∀ d ∈ items, t (ρ.set vi (some d)) h = .ok (P d) h ∧ (P d = true → a (ρ.set vi (some d)) h = .ok (f d) h)) → acc.length + items.length ≤ 16777216 →
    loopC (gN vi) t a ρ chk items acc h = .ok (acc ++ (items.filter P).map f) h
  | [], acc, _, _ => by unfold loopC; rw [if_pos hc]; simp
  | d :: r, acc, hd, hl => by
    rw [List.length_cons] at hl
    obtain ⟨h1, h2⟩ := hd d List.mem_cons_self
    have ih := fun acc' => loopC_pure hc r acc' fun e he => hd e (List.mem_cons_of_mem _ he)
    unfold loopC
    rw [if_pos hc]
    simp only [gN_ap, h1, noEx_ok, bind_ok]
    cases hp : P d with
    | false =>
      simp only [hp]
      rw [ih acc (by omega)]
      simp [hp]
    | true =>
      simp only [hp, h2 hp, noEx_ok, bind_ok]
      rw [if_pos (by omega), ih (acc ++ [f d]) (by rw [List.length_append, List.length_singleton]; omega)]
      simp [hp]
theorem abs_nat (x : Int) : (if x < 0 then -x else x) = ((x.natAbs : Nat) : Int) := by split <;> omega
end
end MI
/-! the facts that the ends ask for -/
namespace MI
open PySem PySem.Spec
open PyProof.Rows L2
theorem hu65b {k : Nat} {A : Around} (hr : Room k A) : A.units + 68 < cLine := by
  have := hr.un
  omega
theorem all_n {α : Type} {P : α → Prop} : ∀ p ∈ ([] : List α), P p := fun p h => (by cases h)
theorem all_c {α : Type} {P : α → Prop} {a : α} {l : List α} (h : P a) (t : ∀ p ∈ l, P p) : ∀ p ∈ a :: l, P p := fun p hp => by
  rcases List.mem_cons.mp hp with e | e
  · rw [e]; exact h
  · exact t p e
section
variable {P : Program} {K : PySem.W.Frag} {mg : Str → Option Value} {h : Heap} {x y f : Str} {n i j : Nat} {C D : Addr} {ex : Nat → Value} {b : Bool}
theorem rsT_mk {B newId initId : String} {bmB : List Value} (X : K.In h) (G : h.Ns mainGlobals mg) (he : ∀ C, mg x = some (.ref C) → ex n = .ref C) (F : ExcBaseFacts B newId initId bmB)
    (a : PySem.W.nsIn K mainGlobals x = some (some (.ref C))) (q : PySem.W.excIn K C bmB newId = true) (k : PySem.W.keepIn K (.ref C) = true) (s : PySem.W.subIn K (.ref C) (.type "BaseException") = some true) (t : PySem.W.typeIn K (.ref C) = some (.type "type")) : RsT K ex mg x n :=
  ⟨C, B, newId, initId, bmB, he C (PySem.W.mg_of X G a), F, q, PySem.W.mg_of X G a, k, s, t⟩
theorem nm_mk (X : K.In h) (G : h.Ns mainGlobals mg) (he : ∀ C, mg x = some (.ref C) → ex n = .ref C) (a : PySem.W.nsIn K mainGlobals x = some (some (.ref C))) : mg x = some (ex n) := by
  rw [he C (PySem.W.mg_of X G a)]; exact PySem.W.mg_of X G a
theorem xfT_mk (X : K.In h) (G : h.Ns mainGlobals mg) (he : ∀ C, mg x = some (.ref C) → ex n = .ref C) (a : PySem.W.nsIn K mainGlobals x = some (some (.ref C))) (q1 : PySem.W.findIn K (.ref C) "__getattribute__" = some (some (.builtin "BaseException.__getattribute__"))) (q2 : PySem.W.findIn K (.ref C) "__getattr__" = some none) (q3 : PySem.W.subIn K (.ref C) (.type "BaseException") = some true) (q4 : PySem.W.hasDictIn K C = true) (k : PySem.W.findIn K (.ref C) f = some none) : XfT K ex n f :=
  ⟨C, he C (PySem.W.mg_of X G a), ⟨q1, q2, q3, q4⟩, k⟩
theorem exm_mk (X : K.In h) (G : h.Ns mainGlobals mg) (he : ∀ C, mg x = some (.ref C) → ex i = .ref C) (he' : ∀ C, mg y = some (.ref C) → ex j = .ref C) (a : PySem.W.nsIn K mainGlobals x = some (some (.ref C))) (a' : PySem.W.nsIn K mainGlobals y = some (some (.ref D)))
    (e : PySem.W.exmOne K (.ref C) (.ref D) = some b) : PySem.W.exmOne K (ex i) (ex j) = some b := by
  rw [he C (PySem.W.mg_of X G a), he' D (PySem.W.mg_of X G a')]; exact e
theorem ownB {w : World} {B newId initId : String} {bmB : List Value} (FB : ExcBaseFacts B newId initId bmB) (q : PySem.W.excInitIn K C bmB newId = true) {AA : Around} {R : Result → Shared → Prop} {hh : Heap} {gg : Array GenState} {dd : Drawn} {tt : Nat} {oo : OsState} {rs : List Value} {fI : Addr} (X : K.In hh)
    (li : PySem.W.Looks (model P w) hh (typeLookup (.ref C) "__init__") (some (.ref fI))) (lb : ∀ x, PySem.W.Looks (model P w) hh (bindSpecial (.ref fI) x) (.ref fI, [x])) (hl : rs.length ≤ sizeLine)
    (z : codeAny (model P w) (AA.under (.builtin "type.__call__" ⟨.ref C :: rs, []⟩)) (.call (.ref fI) ⟨.ref (hh.objs.size + 1) :: rs, []⟩) (PySem.W.InitBack (hh.objs.size + 1) R) ⟨(hh.push (PySem.W.kdv_tup rs)).push (PySem.HandSPX.excO C hh.objs.size), gg, dd, tt, oo⟩) :
    codeAny (model P w) AA (.call (.ref C) ⟨rs, []⟩) R ⟨hh, gg, dd, tt, oo⟩ := by
  obtain ⟨nm, N', qn, bs, bm, hdct, sn, sub, ab, col, dd, k0, k1, k2, k3, k5, hC, hT⟩ := PySem.W.excInit_of X q
  exact PySem.HandSPX.call_own FB hT hC li lb hl z
theorem ownK {w : World} (q : PySem.W.excInitIn K C F.keyMro "LookupError.__new__" = true) {AA : Around} {R : Result → Shared → Prop} {hh : Heap} {gg : Array GenState} {dd : Drawn} {tt : Nat} {oo : OsState} {rs : List Value} {fI : Addr} (X : K.In hh)
    (li : PySem.W.Looks (model P w) hh (typeLookup (.ref C) "__init__") (some (.ref fI))) (lb : ∀ x, PySem.W.Looks (model P w) hh (bindSpecial (.ref fI) x) (.ref fI, [x])) (hl : rs.length ≤ sizeLine)
    (z : codeAny (model P w) (AA.under (.builtin "type.__call__" ⟨.ref C :: rs, []⟩)) (.call (.ref fI) ⟨.ref (hh.objs.size + 1) :: rs, []⟩) (PySem.W.InitBack (hh.objs.size + 1) R) ⟨(hh.push (PySem.W.kdv_tup rs)).push (PySem.HandSPX.excO C hh.objs.size), gg, dd, tt, oo⟩) :
    codeAny (model P w) AA (.call (.ref C) ⟨rs, []⟩) R ⟨hh, gg, dd, tt, oo⟩ := by
  obtain ⟨nm, N', qn, bs, bm, hdct, sn, sub, ab, col, dd, k0, k1, k2, k3, k5, hC, hT⟩ := PySem.W.excInit_of X q
  exact KN.call F.excBase_LookupError ⟨by rw [hT]; decide +kernel, by rw [hT]; decide +kernel, by rw [hT]; decide +kernel⟩ hC li lb hl z
theorem rsV_mk {B newId initId : String} {bmB : List Value} {fI cc cda : Addr} {oc : Value} {od : Option Addr} {osl : Array (Option Value)} {qual txt : Str} {params : Arguments} {scope : Scope} {kV doc pm ct : Value} {an : Option Addr} {jj : Nat} {p0 p1 p2 p3 p4 p5 p6 p7 p8 p9 : Pos}
    {ccl : Value} {cdd : Option Addr} {ccs : Array (Option Value)} {vs : Array Value} {file : Str} {tf : Tok} {cl : Value} {cld : Option Addr} {csl : Array (Option Value)} {ar : Arg}
    (X : K.In h) (G : h.Ns mainGlobals mg) (he : ∀ C, mg x = some (.ref C) → ex n = .ref C) (sup : mg "super" = none) (FB : ExcBaseFacts B newId initId bmB) (KF : PySem.W.KxsFacts B initId) (SF : StoreFacts B bmB "object.__setattr__" "object")
    (a1 : PySem.W.nsIn K mainGlobals x = some (some (.ref C))) (a2 : PySem.W.excInitIn K C bmB newId = true) (a3 : PySem.W.excOver K C bmB = true) (a4 : PySem.W.hasDictIn K C = true)
    (a5 : PySem.W.findIn K (.ref C) "__setattr__" = some (some (.builtin "object.__setattr__"))) (a6 : PySem.W.takerIn K C f = some none) (a7 : PySem.W.subIn K (.ref C) (.type "BaseException") = some true) (a8 : PySem.W.typeIn K (.ref C) = some (.type "type")) (a9 : PySem.W.keepIn K (.ref C) = true)
    (a10 : PySem.W.subIn K (.ref C) (.type B) = some true) (a11 : PySem.W.mroIn K C (.ref C) = some true) (a12 : PySem.W.ks_superIn K C C "__init__" = some (some (.builtin initId))) (a13 : PySem.W.nsIn K cStatics "thirdparty.any" = some none) (a14 : (P.main.scope.names.lookup ("super" : Str)).isSome = false)
    (b1 : PySem.W.findIn K (.ref C) "__init__" = some (some (.ref fI))) (b2 : PySem.W.typeIn K (.ref fI) = some (.type "function"))
    (b3 : K.lookup fI = some ⟨oc, od, .func (PySem.W.ksFn "__init__" qual params (XS.bodyOf f txt jj p0 p1 p2 p3 p4 p5 p6 p7 p8 p9) scope .none kV doc pm an (.ref cda) ct cc), osl⟩) (b4 : PySem.W.codeIn K (.ref cda) qual = true)
    (b5 : K.lookup cda = some ⟨ccl, cdd, .fields vs, ccs⟩) (b6 : vs[2]? = some (.str file tf)) (b7 : ((P.main.file : Str) == file) = true) (b8 : K.lookup cc = some ⟨cl, cld, .cell (some (.ref C)), csl⟩)
    (b9 : (params.posonlyargs ++ params.args).head? = some ar) (b10 : ar.arg = "self")
    (b11 : ∀ (cl : List (Str × Addr)) (kV doc pm : Value) (an : Option Addr) (cdv ct u v : Value), bindArgs (PySem.W.fnX "__init__" qual params (XS.bodyOf f txt jj p0 p1 p2 p3 p4 p5 p6 p7 p8 p9) scope cl .none kV doc pm an cdv ct) ⟨[u, v], []⟩ = pure [(("self" : Str), u), (f, v)])
    (b12 : scope.kind = .function) (b13 : scope.isCoroutine = false) (b14 : scope.isGenerator = false) (b15 : scope.names.lookup ("super" : Str) = some .globalImplicit) (b16 : scope.names.lookup ("__class__" : Str) = some .free) (b17 : scope.names.lookup ("self" : Str) = some .local) (b18 : scope.names.lookup f = some .local)
    (b19 : ∀ x ∈ scope.names, x.2 ≠ .cell) (b20 : (f == ("self" : Str)) = false ∧ (f == ("__debug__" : Str)) = false)
    (b21 : ∀ env : Env, ∃ pl : Sem Bool, eval (.Call (.Attribute (.Call (.Name "super" p0) [] [] p1) "__init__" p2) [.Constant (.str txt) jj p3] [] p4) env = (do
      let ov ← attributeBase (.Call (.Name "super" p0) [] [] p1) "__init__" env (eval (.Call (.Name "super" p0) [] [] p1) env)
      standAt p2.atName
      let (f, first) ← holding [ov] (getMethod ov "__init__" pl)
      callWith p4 f first (backTo p4 (starEach [.Constant (.str txt) jj p3] env)) [])) : RsV P K ex mg x n f :=
  ⟨⟨C, B, newId, initId, bmB, he C (PySem.W.mg_of X G a1), ⟨ownB FB a2, .of FB, FB.init, KF, SF, a2, a3, a4, a5, a6, a7, a8, a9, a10, a11, a12, a13, a14, fI, b1, b2,
    ⟨oc, od, osl, qual, txt, params, scope, kV, doc, pm, ct, an, cc, cda, jj, p0, p1, p2, p3, p4, p5, p6, p7, p8, p9, ccl, cdd, ccs, vs, file, tf, cl, cld, csl, ar, b3, b4, b5, b6, b7, b8, b9, b10, b11, b12, b13, b14, b15, b16, b17, b18, b19, b20.1, b20.2, b21⟩⟩, PySem.W.mg_of X G a1⟩, sup⟩
theorem rsK_mk {fI cc cda : Addr} {oc : Value} {od : Option Addr} {osl : Array (Option Value)} {qual txt : Str} {params : Arguments} {scope : Scope} {kV doc pm ct : Value} {an : Option Addr} {jj : Nat} {p0 p1 p2 p3 p4 p5 p6 p7 p8 p9 : Pos}
    {ccl : Value} {cdd : Option Addr} {ccs : Array (Option Value)} {vs : Array Value} {file : Str} {tf : Tok} {cl : Value} {cld : Option Addr} {csl : Array (Option Value)} {ar : Arg}
    (X : K.In h) (G : h.Ns mainGlobals mg) (he : ∀ C, mg x = some (.ref C) → ex n = .ref C) (sup : mg "super" = none)
    (a1 : PySem.W.nsIn K mainGlobals x = some (some (.ref C))) (a2 : PySem.W.excInitIn K C F.keyMro "LookupError.__new__" = true) (a3 : PySem.W.excOver K C F.keyMro = true) (a4 : PySem.W.hasDictIn K C = true)
    (a5 : PySem.W.findIn K (.ref C) "__setattr__" = some (some (.builtin "object.__setattr__"))) (a6 : PySem.W.takerIn K C f = some none) (a7 : PySem.W.subIn K (.ref C) (.type "BaseException") = some true) (a8 : PySem.W.typeIn K (.ref C) = some (.type "type")) (a9 : PySem.W.keepIn K (.ref C) = true)
    (a10 : PySem.W.subIn K (.ref C) (.type "KeyError") = some true) (a11 : PySem.W.mroIn K C (.ref C) = some true) (a12 : PySem.W.ks_superIn K C C "__init__" = some (some (.builtin "KeyError.__init__"))) (a13 : PySem.W.nsIn K cStatics "thirdparty.any" = some none) (a14 : (P.main.scope.names.lookup ("super" : Str)).isSome = false)
    (b1 : PySem.W.findIn K (.ref C) "__init__" = some (some (.ref fI))) (b2 : PySem.W.typeIn K (.ref fI) = some (.type "function"))
    (b3 : K.lookup fI = some ⟨oc, od, .func (PySem.W.ksFn "__init__" qual params (XS.bodyOf f txt jj p0 p1 p2 p3 p4 p5 p6 p7 p8 p9) scope .none kV doc pm an (.ref cda) ct cc), osl⟩) (b4 : PySem.W.codeIn K (.ref cda) qual = true)
    (b5 : K.lookup cda = some ⟨ccl, cdd, .fields vs, ccs⟩) (b6 : vs[2]? = some (.str file tf)) (b7 : ((P.main.file : Str) == file) = true) (b8 : K.lookup cc = some ⟨cl, cld, .cell (some (.ref C)), csl⟩)
    (b9 : (params.posonlyargs ++ params.args).head? = some ar) (b10 : ar.arg = "self")
    (b11 : ∀ (cl : List (Str × Addr)) (kV doc pm : Value) (an : Option Addr) (cdv ct u v : Value), bindArgs (PySem.W.fnX "__init__" qual params (XS.bodyOf f txt jj p0 p1 p2 p3 p4 p5 p6 p7 p8 p9) scope cl .none kV doc pm an cdv ct) ⟨[u, v], []⟩ = pure [(("self" : Str), u), (f, v)])
    (b12 : scope.kind = .function) (b13 : scope.isCoroutine = false) (b14 : scope.isGenerator = false) (b15 : scope.names.lookup ("super" : Str) = some .globalImplicit) (b16 : scope.names.lookup ("__class__" : Str) = some .free) (b17 : scope.names.lookup ("self" : Str) = some .local) (b18 : scope.names.lookup f = some .local)
    (b19 : ∀ x ∈ scope.names, x.2 ≠ .cell) (b20 : (f == ("self" : Str)) = false ∧ (f == ("__debug__" : Str)) = false)
    (b21 : ∀ env : Env, ∃ pl : Sem Bool, eval (.Call (.Attribute (.Call (.Name "super" p0) [] [] p1) "__init__" p2) [.Constant (.str txt) jj p3] [] p4) env = (do
      let ov ← attributeBase (.Call (.Name "super" p0) [] [] p1) "__init__" env (eval (.Call (.Name "super" p0) [] [] p1) env)
      standAt p2.atName
      let (f, first) ← holding [ov] (getMethod ov "__init__" pl)
      callWith p4 f first (backTo p4 (starEach [.Constant (.str txt) jj p3] env)) [])) : RsV P K ex mg x n f :=
  ⟨⟨C, "KeyError", "LookupError.__new__", "KeyError.__init__", F.keyMro, he C (PySem.W.mg_of X G a1), ⟨ownK a2, KN.ini_KeyError, F.slot_KeyError_init, PySem.W.kxs_KeyError, F.store_KeyError, a2, a3, a4, a5, a6, a7, a8, a9, a10, a11, a12, a13, a14, fI, b1, b2,
    ⟨oc, od, osl, qual, txt, params, scope, kV, doc, pm, ct, an, cc, cda, jj, p0, p1, p2, p3, p4, p5, p6, p7, p8, p9, ccl, cdd, ccs, vs, file, tf, cl, cld, csl, ar, b3, b4, b5, b6, b7, b8, b9, b10, b11, b12, b13, b14, b15, b16, b17, b18, b19, b20.1, b20.2, b21⟩⟩, PySem.W.mg_of X G a1⟩, sup⟩
theorem nst_mk (X : K.In h) (G : h.Ns mainGlobals mg) (he : ∀ C, mg x = some (.ref C) → ex n = .ref C) (a : PySem.W.nsIn K mainGlobals x = some (some (.ref C))) (s : PySem.W.subIn K (.ref C) (.type "StopIteration") = some false) : PySem.W.subIn K (ex n) (.type "StopIteration") = some false := by
  rw [he C (PySem.W.mg_of X G a)]; exact s
end
end MI
/-! list(range(..)), tuple(range(..)) -/
namespace MI
open PySem PySem.Spec
open PyProof.Rows L2
def rgD (a b : Int) : List D := (List.range (b - a).toNat).map fun i => D.int (a + (i : Nat))
def rgOk (a b : Int) : Bool := inR a && inR b && decide ((b - a).toNat ≤ 16777216)
def vLstR (x y : D) (h : MH) : R D := match x, y with
  | .int a, .int b => if rgOk a b = true then .ok (.lst (rgD a b)) h else .bad
  | _, _ => .bad
def vTupR (x y : D) (h : MH) : R D := match x, y with
  | .int a, .int b => if rgOk a b = true then .ok (.tup (rgD a b)) h else .bad
  | _, _ => .bad
def vLstRC (x y : D) (h : MH) : R D := match x, y with
  | .int a, .int b => if rgOk a b = true then .ok (.cell h.length) (h ++ [rgD a b]) else .bad
  | _, _ => .bad
section
variable {g : Gm} {W : WX} {X : Cx} {a b : Expr} {ma mb : ME} {p p2 pos pos2 : Pos}
theorem rgV_reps (φ : Ph) (H : Hp) (i j : Int) : Reps g.r φ H (rgV i j) (rgD i j) := by
  unfold rgV rgD
  generalize List.range (j - i).toNat = l
  induction l with
  | nil => exact .nil
  | cons x r ih => exact .cons (.int _) ih
theorem rgOk_of {i j : Int} (h : rgOk i j = true) : RgOk i j := by
  unfold rgOk inR at h
  simp only [Bool.and_eq_true, decide_eq_true_eq] at h
  refine ⟨?_, ?_, ?_, ?_, ?_⟩ <;> omega
theorem rg2_imp {f : D → D → MH → R D} {k : Int → Int → Hp → Prop} {Q : VK} (hf : ∀ φ H h i j, Hok g φ H h → Out g W σ φ H (Rep g.r) Q (f (.int i) (.int j) h) → k i j H) (hn : ∀ x y h, (∀ i, x ≠ .int i) ∨ (∀ j, y ≠ .int j) → f x y h = .bad) (H : Hp)
    (t : tE g W (mBin f ma mb) σ H Q) : tRg2 (tE g W ma) (tE g W mb) σ H k := by
  obtain ⟨φ, ρ, h, s, m, o⟩ := t
  refine ⟨φ, ρ, h, s, m, Out.next o fun x h1 φ1 v H1 e1 r1 m1 o1 => ?_⟩
  refine ⟨φ1, ρ, h1, s.ext e1, m1, Out.next o1 fun y h2 φ2 u H2 e2 r2 m2 o2 => ?_⟩
  cases x with
  | int i =>
    cases y with
    | int j =>
      cases r1
      cases r2
      exact ⟨i, j, rfl, rfl, hf φ2 H2 h2 i j m2 o2⟩
    | _ => rw [hn _ _ _ (.inr fun j z => by cases z)] at o2; exact o2.elim
  | _ => rw [hn _ _ _ (.inl fun j z => by cases z)] at o2; exact o2.elim
theorem s_lstR2 (hc : X.calm = true) (hl : X.mg "list" = none) (hm : X.mg "range" = none) (ha : PE X a (tE g W ma)) (hb : PE X b (tE g W mb)) (hg : Gl X "list" := by rfl) (hg2 : Gl X "range" := by rfl)
    (na : starEach [a, b] X.env = (false, eval a X.env) :: starEach [b] X.env := by rfl) (nb : starEach [b] X.env = (false, eval b X.env) :: starEach [] X.env := by rfl) (hp : (backTo pos (starEach [b] X.env)).any (·.1) = false := by rfl)
    (nc : starEach [.Call (.Name "range" p) [a, b] [] pos] X.env = (false, eval (.Call (.Name "range" p) [a, b] [] pos) X.env) :: starEach [] X.env := by rfl) :
    PE X (.Call (.Name "list" p2) [.Call (.Name "range" p) [a, b] [] pos] [] pos2) (tE g W (mBin vLstR ma mb)) := pe_imp (pe_listRg hc hg hl (prg_2 hg2 hm ha hb na nb hp) nc) fun σ H Q t => by
  refine rg2_imp (fun φ H h i j m o => ?_) (fun x y h z => ?_) H t
  · unfold vLstR at o
    dsimp only at o
    split at o
    · rename_i hr
      exact ⟨rgOk_of hr, fun q hq => o φ _ _ (Ext.new hq (m.notin hq)) (.lst ⟨upd_same, m.notin hq⟩ (rgV_reps _ _ i j)) (m.new hq)⟩
    · exact o.elim
  · unfold vLstR
    split
    · rename_i i j; rcases z with z | z
      · exact absurd rfl (z i)
      · exact absurd rfl (z j)
    · rfl
theorem s_tupR2 (hc : X.calm = true) (hl : X.mg "tuple" = none) (hm : X.mg "range" = none) (ha : PE X a (tE g W ma)) (hb : PE X b (tE g W mb)) (hg : Gl X "tuple" := by rfl) (hg2 : Gl X "range" := by rfl)
    (na : starEach [a, b] X.env = (false, eval a X.env) :: starEach [b] X.env := by rfl) (nb : starEach [b] X.env = (false, eval b X.env) :: starEach [] X.env := by rfl) (hp : (backTo pos (starEach [b] X.env)).any (·.1) = false := by rfl)
    (nc : starEach [.Call (.Name "range" p) [a, b] [] pos] X.env = (false, eval (.Call (.Name "range" p) [a, b] [] pos) X.env) :: starEach [] X.env := by rfl) :
    PE X (.Call (.Name "tuple" p2) [.Call (.Name "range" p) [a, b] [] pos] [] pos2) (tE g W (mBin vTupR ma mb)) := pe_imp (pe_tupRg hc hg hl (prg_2 hg2 hm ha hb na nb hp) nc) fun σ H Q t => by
  refine rg2_imp (fun φ H h i j m o => ?_) (fun x y h z => ?_) H t
  · unfold vTupR at o
    dsimp only at o
    split at o
    · rename_i hr
      exact ⟨rgOk_of hr, fun q hq => o φ _ _ (Ext.new hq (m.notin hq)) (.tup ⟨upd_same, m.notin hq⟩ (rgV_reps _ _ i j)) (m.new hq)⟩
    · exact o.elim
  · unfold vTupR
    split
    · rename_i i j; rcases z with z | z
      · exact absurd rfl (z i)
      · exact absurd rfl (z j)
    · rfl
theorem s_lstR2C (hc : X.calm = true) (hl : X.mg "list" = none) (hm : X.mg "range" = none) (ha : PE X a (tE g W ma)) (hb : PE X b (tE g W mb)) (hg : Gl X "list" := by rfl) (hg2 : Gl X "range" := by rfl)
    (na : starEach [a, b] X.env = (false, eval a X.env) :: starEach [b] X.env := by rfl) (nb : starEach [b] X.env = (false, eval b X.env) :: starEach [] X.env := by rfl) (hp : (backTo pos (starEach [b] X.env)).any (·.1) = false := by rfl)
    (nc : starEach [.Call (.Name "range" p) [a, b] [] pos] X.env = (false, eval (.Call (.Name "range" p) [a, b] [] pos) X.env) :: starEach [] X.env := by rfl) :
    PE X (.Call (.Name "list" p2) [.Call (.Name "range" p) [a, b] [] pos] [] pos2) (tE g W (mBin vLstRC ma mb)) := pe_imp (pe_listRg hc hg hl (prg_2 hg2 hm ha hb na nb hp) nc) fun σ H Q t => by
  refine rg2_imp (fun φ H h i j m o => ?_) (fun x y h z => ?_) H t
  · unfold vLstRC at o
    dsimp only at o
    split at o
    · rename_i hr
      refine ⟨rgOk_of hr, fun q hq => ?_⟩
      obtain ⟨φ2, e2, m2, c2⟩ := m.cell hq (rgV_reps φ H i j)
      exact o _ _ _ e2 (.cell c2) m2
    · exact o.elim
  · unfold vLstRC
    split
    · rename_i i j; rcases z with z | z
      · exact absurd rfl (z i)
      · exact absurd rfl (z j)
    · rfl
/-! a tuple many times -/
def vRepT (d e : D) (h : MH) : R D := match d, e with
  | .tup a, .int k => if (!a.isEmpty && decide (2 ≤ k) && decide (k ≤ 1000) && decide (a.length ≤ 1000)) = true then .ok (.tup (List.replicate k.toNat a).flatten) h else .bad
  | _, _ => .bad
theorem o_repT (hk : g.r.K = X.K) : Op2 g (rRepT X.K) vRepT := by
  intro W σ φ H h x y d e Q rx ry m o
  unfold vRepT at o
  split at o
  · rename_i a k
    cases ry
    obtain ⟨l, xs, e1, q1, r1⟩ := rep_tup rx
    split at o
    · rename_i hs
      simp only [Bool.and_eq_true, decide_eq_true_eq, Bool.not_eq_true', List.isEmpty_eq_false_iff] at hs
      obtain ⟨⟨⟨h1, h2⟩, h3⟩, h4⟩ := hs
      refine ⟨l, k, xs, e1, rfl, hk ▸ q1.sq, fun z => ?_, h2, h3, by rw [r1.length]; exact h4, fun p hp => new_tup m hp (r1.repl _) o⟩
      subst z
      cases r1
      exact h1 rfl
    · exact o.elim
  · exact o.elim
theorem s_repT (hk : g.r.K = X.K) (ha : PE X a (tE g W ma)) (hb : PE X b (tE g W mb)) : PE X (.BinOp a .Mult b pos) (tE g W (mBin vRepT ma mb)) := se_bin op_repT (o_repT hk) ha hb
/-! .. of one bound: what is asked first is 0 -/
theorem rg1_imp {f : D → D → MH → R D} {k : Int → Int → Hp → Prop} {Q : VK} (hf : ∀ φ H h i j, Hok g φ H h → Out g W σ φ H (Rep g.r) Q (f (.int i) (.int j) h) → k i j H) (hn : ∀ x y h, (∀ i, x ≠ .int i) ∨ (∀ j, y ≠ .int j) → f x y h = .bad) (H : Hp)
    (t : tE g W (mUn (f (.int 0)) ma) σ H Q) : tRg1 (tE g W ma) σ H k := by
  obtain ⟨φ, ρ, h, s, m, o⟩ := t
  refine ⟨φ, ρ, h, s, m, Out.next o fun y h1 φ1 v H1 e1 r1 m1 o1 => ?_⟩
  cases y with
  | int j =>
    cases r1
    exact ⟨j, rfl, hf φ1 H1 h1 0 j m1 o1⟩
  | _ => rw [hn _ _ _ (.inr fun j z => by cases z)] at o1; exact o1.elim
theorem s_lstR1 (hc : X.calm = true) (hl : X.mg "list" = none) (hm : X.mg "range" = none) (ha : PE X a (tE g W ma)) (hg : Gl X "list" := by rfl) (hg2 : Gl X "range" := by rfl)
    (na : starEach [a] X.env = (false, eval a X.env) :: starEach [] X.env := by rfl) (nc : starEach [.Call (.Name "range" p) [a] [] pos] X.env = (false, eval (.Call (.Name "range" p) [a] [] pos) X.env) :: starEach [] X.env := by rfl) :
    PE X (.Call (.Name "list" p2) [.Call (.Name "range" p) [a] [] pos] [] pos2) (tE g W (mUn (vLstR (.int 0)) ma)) := pe_imp (pe_listRg hc hg hl (prg_1 hg2 hm ha na) nc) fun σ H Q t => by
  refine rg1_imp (fun φ H h i j m o => ?_) (fun x y h z => ?_) H t
  · unfold vLstR at o
    dsimp only at o
    split at o
    · rename_i hr
      exact ⟨rgOk_of hr, fun q hq => o φ _ _ (Ext.new hq (m.notin hq)) (.lst ⟨upd_same, m.notin hq⟩ (rgV_reps _ _ i j)) (m.new hq)⟩
    · exact o.elim
  · unfold vLstR
    split
    · rename_i i j; rcases z with z | z
      · exact absurd rfl (z i)
      · exact absurd rfl (z j)
    · rfl
theorem s_lstR1C (hc : X.calm = true) (hl : X.mg "list" = none) (hm : X.mg "range" = none) (ha : PE X a (tE g W ma)) (hg : Gl X "list" := by rfl) (hg2 : Gl X "range" := by rfl)
    (na : starEach [a] X.env = (false, eval a X.env) :: starEach [] X.env := by rfl) (nc : starEach [.Call (.Name "range" p) [a] [] pos] X.env = (false, eval (.Call (.Name "range" p) [a] [] pos) X.env) :: starEach [] X.env := by rfl) :
    PE X (.Call (.Name "list" p2) [.Call (.Name "range" p) [a] [] pos] [] pos2) (tE g W (mUn (vLstRC (.int 0)) ma)) := pe_imp (pe_listRg hc hg hl (prg_1 hg2 hm ha na) nc) fun σ H Q t => by
  refine rg1_imp (fun φ H h i j m o => ?_) (fun x y h z => ?_) H t
  · unfold vLstRC at o
    dsimp only at o
    split at o
    · rename_i hr
      refine ⟨rgOk_of hr, fun q hq => ?_⟩
      obtain ⟨φ2, e2, m2, c2⟩ := m.cell hq (rgV_reps φ H i j)
      exact o _ _ _ e2 (.cell c2) m2
    · exact o.elim
  · unfold vLstRC
    split
    · rename_i i j; rcases z with z | z
      · exact absurd rfl (z i)
      · exact absurd rfl (z j)
    · rfl
end
end MI
/-! evaluation, more: what the laws' own words compute with -/
namespace MI
open PySem PySem.Spec
open PyProof.Rows L2
theorem big_ge : (10 : Int) ^ 250 ≥ 1000000 := by decide +kernel
theorem sm_small {i : Int} (a : -1000000 ≤ i) (b : i ≤ 1000000) : Sm i := by
  have := big_ge
  exact sm_of (by omega) (by omega)
theorem div_small {i j : Int} {h : MH} (a : -1000000 ≤ j) (b : j ≤ 1000000) (c : j ≠ 0) : vDiv (.int i) (.int j) h = .ok (.int (fDiv i j)) h := vDiv_i (div_ok (sm_small a b) c)
theorem mul_small {i j : Int} {h : MH} (a : -1000000 ≤ i) (b : i ≤ 1000000) (c : -1000000 ≤ j) (d : j ≤ 1000000) : vMul (.int i) (.int j) h = .ok (.int (i * j)) h := vMul_i (mul_ok (sm_small a b) (sm_small c d))
theorem sm40 {i : Int} (a : -100000000000000000000000000000000000000000000000000 ≤ i) (b : i ≤ 100000000000000000000000000000000000000000000000000) : Sm i := sm_of (by
  have : (10 : Int) ^ 250 ≥ 100000000000000000000000000000000000000000000000000 := by decide +kernel
  omega) (by
  have : (10 : Int) ^ 250 ≥ 100000000000000000000000000000000000000000000000000 := by decide +kernel
  omega)
@[simp] theorem vIx_lst {l : List D} {i : Int} {h : MH} : vIx (.lst l) (.int i) h = match atI l i with | some x => .ok x h | none => .bad := rfl
@[simp] theorem vIx_tup {l : List D} {i : Int} {h : MH} : vIx (.tup l) (.int i) h = match atI l i with | some x => .ok x h | none => .bad := rfl
@[simp] theorem atI_0 {α : Type} {a : α} {r : List α} : atI (a :: r) 0 = some a := by simp [atI, ixN]
@[simp] theorem atI_1 {α : Type} {a b : α} {r : List α} : atI (a :: b :: r) 1 = some b := by
  have : (1 : Int) < (r.length : Int) + 1 + 1 := by omega
  simp [atI, ixN, this]
@[simp] theorem atI_2 {α : Type} {a b c : α} {r : List α} : atI (a :: b :: c :: r) 2 = some c := by
  have : (2 : Int) < (r.length : Int) + 1 + 1 + 1 := by omega
  simp [atI, ixN, this]
@[simp] theorem vTuple_lst {l : List D} {h : MH} : vTuple (.lst l) h = .ok (.tup l) h := rfl
@[simp] theorem vTuple_tup {l : List D} {h : MH} : vTuple (.tup l) h = .ok (.tup l) h := rfl
@[simp] theorem seqOf_lst {l : List D} {h : MH} : seqOf h (.lst l) = some l := rfl
@[simp] theorem seqOf_tup {l : List D} {h : MH} : seqOf h (.tup l) = some l := rfl
@[simp] theorem mMeth_ap {f : Nat → List D → MH → R D} {o : ME} {a : MA} {ρ : Env1} {h : MH} : mMeth f o a ρ h = (o ρ h).bind fun x h1 => match x with | .cell n => if n < h1.length then (a ρ h1).bind fun ys h2 => f n ys h2 else .bad | _ => .bad := rfl
theorem vIx_cell {n : Nat} {l : List D} {i : Int} {h : MH} (e : h[n]? = some l) : vIx (.cell n) (.int i) h = match atI l i with | some x => .ok x h | none => .bad := by
  unfold vIx
  simp only [seqOf, e] <;> (cases atI l i <;> rfl)
theorem atI_nn {α : Type} {l : List α} {i : Int} (h0 : 0 ≤ i) (h1 : i < l.length) : atI l i = l[i.toNat]? := by
  unfold atI ixN
  rw [if_pos h0, if_pos h1]
  rfl
@[simp] theorem ixN_30 : ixN 3 0 = some 0 := rfl
@[simp] theorem ixN_32 : ixN 3 2 = some 2 := rfl
theorem gSub_cell {n : Nat} {l : List D} {i : Int} {h : MH} {ρ : Env1} {o m : ME} {d : D} {j : Nat} (e : h[n]? = some l) (eo : o ρ h = .ok (.cell n) h) (em : m ρ h = .ok (.int i) h) (ej : ixN l.length i = some j) : gSubC o m d ρ h = some (ρ, h.set n (l.set j d)) := by
  unfold gSubC
  simp only [eo, em, e, ej]
theorem popAt_at {h : MH} {m : Nat} {l : List D} {i : Int} {k : Nat} {y : D} (e : h[m]? = some l) (a : -(2 ^ 63) ≤ i ∧ i < 2 ^ 63) (q : ixN l.length i = some k) (g : l[k]? = some y) : vPopAt m [.int i] h = .ok y (h.set m (l.eraseIdx k)) := by
  have : (decide (-(2 ^ 63) ≤ i) && decide (i < 2 ^ 63)) = true := by
    rw [Bool.and_eq_true]
    exact ⟨decide_eq_true a.1, decide_eq_true a.2⟩
  simp only [vPopAt, e, this, if_true, q, g]
theorem app_at {h : MH} {m : Nat} {l : List D} {y : D} (e : h[m]? = some l) (a : l.length < 16777216) : vAppend m [y] h = .ok .non (h.set m (l ++ [y])) := by
  simp only [vAppend, e, a, if_true]
theorem vLen_cell {h : MH} {m : Nat} {l : List D} (e : h[m]? = some l) : vLen (.cell m) h = .ok (.int (l.length : Int)) h := by
  unfold vLen
  simp only [seqOf, e]
theorem vLen_lst {l : List D} {h : MH} : vLen (.lst l) h = .ok (.int (l.length : Int)) h := rfl
theorem vLen_tup {l : List D} {h : MH} : vLen (.tup l) h = .ok (.int (l.length : Int)) h := rfl
theorem vAdd_l {a b : List D} {h : MH} (e : a.length + b.length ≤ 16777216) : vAdd (.lst a) (.lst b) h = .ok (.lst (a ++ b)) h := by
  have c : vCatL (.lst a) (.lst b) h = .ok (.lst (a ++ b)) h := by
    unfold vCatL
    simp only [lstOf, small, e, decide_true, if_true]
  have q : vAdd (.lst a) (.lst b) h = vOr vCatL vCatS (.lst a) (.lst b) h := rfl
  rw [q]
  unfold vOr
  rw [c]
theorem cut_to {l : List D} {k : Int} {h : MH} (hk : 0 ≤ k) : vCut (.lst l) none (some k) h = .ok (.lst (l.take k.toNat)) h := by
  have e : MI.cutD l none (some k) = l.take k.toNat := by
    unfold MI.cutD
    show (l.drop 0).take ((if k < 0 then (k + (l.length : Int)).toNat else min k.toNat l.length) - 0) = _
    rw [if_neg (by omega), List.drop_zero, Nat.sub_zero]
    by_cases q : k.toNat ≤ l.length
    · rw [Nat.min_eq_left q]
    · rw [Nat.min_eq_right (by omega), List.take_of_length_le (by omega), List.take_of_length_le (by omega)]
  show R.ok (D.lst (MI.cutD l none (some k))) h = _
  rw [e]
theorem pw (k : Nat) (hh : MH) (hk : k ≤ 60) : vPow (.int 10) (.int (k : Nat)) hh = .ok (.int (10 ^ k)) hh := by
  have c : cPow 10 (k : Nat) = true := by
    have := (List.all_eq_true.mp (show (List.range 61).all (fun k => cPow 10 ((k : Nat) : Int)) = true by decide +kernel)) k (List.mem_range.mpr (by omega))
    exact this
  show vIc cPow (fun i j => .int (i ^ j.toNat)) (.int 10) (.int (k : Nat)) hh = _
  unfold vIc
  simp [c]
theorem rngD_mem {lo : Int} {n : Nat} {d : D} (h : d ∈ rngD lo n) : ∃ i : Int, d = .int i ∧ lo ≤ i ∧ i < lo + n := by
  unfold rngD at h
  obtain ⟨i, hi, rfl⟩ := List.mem_map.mp h
  have := List.mem_range.mp hi
  exact ⟨_, rfl, by omega, by omega⟩
theorem rngD_len {lo : Int} {n : Nat} : (rngD lo n).length = n := by simp [rngD]
theorem src_r1 {p : Int} (h1 : 0 ≤ p) (h2 : p ≤ 1000000) (h : MH) : srcR1 [.int p] h = .ok ⟨rngD 0 p.toNat, none⟩ h := by
  have hi : inR p = true := by
    unfold inR
    simp only [Bool.and_eq_true, decide_eq_true_eq]
    omega
  show (if inR p = true then R.ok (⟨rngD 0 p.toNat, none⟩ : Src) h else .bad) = _
  rw [if_pos hi]
theorem src_r2 {p q : Int} (h1 : -1000000 ≤ p ∧ p ≤ 1000000) (h2 : -1000000 ≤ q ∧ q ≤ 1000000) (h : MH) : srcR2 [.int p, .int q] h = .ok ⟨rngD p (q - p).toNat, none⟩ h := by
  have hi : (inR p && inR q) = true := by
    unfold inR
    simp only [Bool.and_eq_true, decide_eq_true_eq]
    omega
  show (if (inR p && inR q) = true then R.ok (⟨rngD p (q - p).toNat, none⟩ : Src) h else .bad) = _
  rw [if_pos hi]
/-! ints within -/
theorem pyAll_ints {h : MH} {k : Nat} : ∀ l : List Int, pyAll (D.py h k) (l.map D.int) = some (l.map PyData.int)
  | [] => rfl
  | i :: r => by
    have e : D.py h k (.int i) = some (.int i) := by cases k <;> rfl
    simp only [List.map_cons, pyAll, e, pyAll_ints r, Option.bind_some]
theorem lay_ints : ∀ l : List Int, PyData.canLayAll0 (l.map PyData.int) = true
  | [] => rfl
  | i :: r => by
    show (PyData.canLay0 (.int i) && PyData.canLayAll0 (r.map PyData.int)) = true
    rw [lay_ints r]
    rfl
theorem dep_ints : ∀ l : List Int, PyData.depthAll (l.map PyData.int) = 0
  | [] => rfl
  | i :: r => by
    show max (PyData.depth (.int i)) (PyData.depthAll (r.map PyData.int)) = 0
    rw [dep_ints r]
    rfl
theorem py_ltup {h : MH} (l : List Int) : pyOf h (.tup (l.map D.int)) = some (.tuple (l.map PyData.int)) := by
  unfold pyOf
  have e : D.py h 12 (.tup (l.map D.int)) = some (.tuple (l.map PyData.int)) := by
    show ((pyAll (D.py h 11) (l.map D.int)).map PyData.tuple) = _
    rw [pyAll_ints]; rfl
  rw [e]
  have q : SeqAt.shaped (.tuple (l.map PyData.int)) = true := by
    show (PyData.canLayAll0 (l.map PyData.int) && decide (PyData.depthAll (l.map PyData.int) + 1 ≤ 64)) = true
    rw [lay_ints, dep_ints]
    rfl
  show (if SeqAt.shaped (.tuple (l.map PyData.int)) = true then some (PyData.tuple (l.map PyData.int)) else none) = _
  rw [if_pos q]
theorem py_llst {h : MH} (l : List Int) : pyOf h (.lst (l.map D.int)) = some (.list (l.map PyData.int)) := by
  unfold pyOf
  have e : D.py h 12 (.lst (l.map D.int)) = some (.list (l.map PyData.int)) := by
    show ((pyAll (D.py h 11) (l.map D.int)).map PyData.list) = _
    rw [pyAll_ints]; rfl
  rw [e]
  have q : SeqAt.shaped (.list (l.map PyData.int)) = true := by
    show (PyData.canLayAll0 (l.map PyData.int) && decide (PyData.depthAll (l.map PyData.int) + 1 ≤ 64)) = true
    rw [lay_ints, dep_ints]
    rfl
  show (if SeqAt.shaped (.list (l.map PyData.int)) = true then some (PyData.list (l.map PyData.int)) else none) = _
  rw [if_pos q]
theorem py_int {h : MH} (i : Int) : pyOf h (.int i) = some (.int i) := rfl
theorem vEq_tups (l m : List Int) (h : MH) : vEq (.tup (l.map D.int)) (.tup (m.map D.int)) h = .ok (.bl (decide (l = m))) h := by
  unfold vEq
  rw [py_ltup, py_ltup, ← eqv_ints]
  rfl
theorem vNe_tups (l m : List Int) (h : MH) : vNe (.tup (l.map D.int)) (.tup (m.map D.int)) h = .ok (.bl (!decide (l = m))) h := by
  unfold vNe
  rw [py_ltup, py_ltup, ← eqv_ints]
  rfl
theorem vEq_lsts (l m : List Int) (h : MH) : vEq (.lst (l.map D.int)) (.lst (m.map D.int)) h = .ok (.bl (decide (l = m))) h := by
  unfold vEq
  rw [py_llst, py_llst, ← eqv_ints]
  rfl
theorem vNe_lsts (l m : List Int) (h : MH) : vNe (.lst (l.map D.int)) (.lst (m.map D.int)) h = .ok (.bl (!decide (l = m))) h := by
  unfold vNe
  rw [py_llst, py_llst, ← eqv_ints]
  rfl
theorem any_ints (i : Int) : ∀ l : List Int, ((l.map PyData.int).any fun z => PyData.eqv z (.int i)) = decide (i ∈ l)
  | [] => rfl
  | j :: r => by
    show ((j == i) || (r.map PyData.int).any fun z => PyData.eqv z (.int i)) = _
    rw [any_ints i r]
    by_cases e : j = i
    · subst e; simp
    · have e2 : ¬ i = j := fun z => e z.symm
      simp [e, e2]
theorem vIn_tup (i : Int) (l : List Int) (h : MH) : vIn (.int i) (.tup (l.map D.int)) h = .ok (.bl (decide (i ∈ l))) h := by
  unfold vIn
  rw [py_ltup, py_int, ← any_ints]
  rfl
theorem vIn_lst (i : Int) (l : List Int) (h : MH) : vIn (.int i) (.lst (l.map D.int)) h = .ok (.bl (decide (i ∈ l))) h := by
  unfold vIn
  rw [py_llst, py_int, ← any_ints]
  rfl
/-! the bag -/
def Bg (h : MH) (n : Nat) (c : Int) : Prop := ∃ a b c', h[n]? = some [.int a, .int b, .int c'] ∧ 0 ≤ c' ∧ c' ≤ c
theorem Bg.up {h : MH} {n : Nat} {c d : Int} (b : Bg h n c) (e : c ≤ d) : Bg h n d := by
  obtain ⟨x, y, z, e1, e2, e3⟩ := b
  exact ⟨x, y, z, e1, e2, by omega⟩
theorem Bg.other {h : MH} {n m : Nat} {c : Int} {x : List D} (b : Bg h n c) (hm : m ≠ n) : Bg (h.set m x) n c := by
  obtain ⟨p, q, r, e1, e2, e3⟩ := b
  exact ⟨p, q, r, by rw [List.getElem?_set_ne hm]; exact e1, e2, e3⟩
theorem Bg.lt {h : MH} {n : Nat} {c : Int} (b : Bg h n c) : n < h.length := by
  obtain ⟨p, q, r, e1, e2, e3⟩ := b
  exact (List.getElem?_eq_some_iff.mp e1).1
theorem Bg.app {h : MH} {n : Nat} {c : Int} {x : List D} (b : Bg h n c) : Bg (h ++ [x]) n c := by
  have hl := b.lt
  obtain ⟨p, q, r, e1, e2, e3⟩ := b
  exact ⟨p, q, r, by rw [List.getElem?_append_left hl]; exact e1, e2, e3⟩
theorem at_end {h : MH} {x : List D} : (h ++ [x])[h.length]? = some x := by
  rw [List.getElem?_append_right (Nat.le_refl _)]
  simp
/-- the cells but n as they were (more may be there) -/
def Kp (n : Nat) (h h' : MH) : Prop := h.length ≤ h'.length ∧ ∀ j, j < h.length → j ≠ n → h'[j]? = h[j]?
theorem Kp.refl {n : Nat} {h : MH} : Kp n h h := ⟨Nat.le_refl _, fun _ _ _ => rfl⟩
theorem Kp.trans {n : Nat} {h h' h2 : MH} (a : Kp n h h') (b : Kp n h' h2) : Kp n h h2 :=
  ⟨Nat.le_trans a.1 b.1, fun j hj hn => (b.2 j (Nat.lt_of_lt_of_le hj a.1) hn).trans (a.2 j hj hn)⟩
theorem Kp.set {n : Nat} {h : MH} {l : List D} : Kp n h (h.set n l) := ⟨by rw [List.length_set]; exact Nat.le_refl _, fun j _ hn => List.getElem?_set_ne (fun z => hn z.symm)⟩
theorem Kp.app {n : Nat} {h : MH} {l : List D} : Kp n h (h ++ [l]) := ⟨by rw [List.length_append]; omega, fun j hj _ => List.getElem?_append_left hj⟩
/-- a cell beyond the old ones is free to be set -/
theorem Kp.over {n m : Nat} {h h' : MH} {l : List D} (a : Kp n h h') (hm : h.length ≤ m) : Kp n h (h'.set m l) :=
  ⟨by rw [List.length_set]; exact a.1, fun j hj hn => by rw [List.getElem?_set_ne (by omega)]; exact a.2 j hj hn⟩
/-! loops over lists -/
section
variable {t : MT} {a : ME} {ρ : Env1} {h : MH} {vi : Nat} {chk : MH → Bool}
theorem loopC_ints {q : Int → Bool} {F : Int → D} (hc : chk h = true) (l : List Int) (hd : ∀ i ∈ l, t (ρ.set vi (some (.int i))) h = .ok (q i) h ∧ (q i = true → a (ρ.set vi (some (.int i))) h = .ok (F i) h)) (hl : l.length ≤ 16777216) :
    loopC (gN vi) t a ρ chk (l.map D.int) [] h = .ok ((l.filter q).map F) h := by
  have e := loopC_pure (t := t) (a := a) (ρ := ρ) (vi := vi) (P := fun d => match d with | .int i => q i | _ => false) (f := fun d => match d with | .int i => F i | d => d) (chk := chk) (h := h) hc (l.map D.int) [] (fun d hd' => by
    obtain ⟨i, hi, rfl⟩ := List.mem_map.mp hd'
    exact hd i hi) (by rw [List.length_map]; simpa using hl)
  rw [e]
  congr 1
  rw [List.nil_append]
  clear e hd hl
  induction l with
  | nil => rfl
  | cons i r ih => cases hq : q i <;> simp [hq, ih]
theorem loopC_inv {I : Nat → MH → Prop} {Pd : D → Prop} {N : Nat} (hc : ∀ h, chk h = true) (step : ∀ k d h, k < N → I k h → ∃ v h', a (ρ.set vi (some d)) h = .ok v h' ∧ Pd v ∧ I (k + 1) h') : ∀ (items acc : List D) (k : Nat) (h : MH), k + items.length ≤ N → I k h → acc.length + items.length ≤ 16777216 →
    ∃ out h', loopC (gN vi) mYes a ρ chk items acc h = .ok (acc ++ out) h' ∧ out.length = items.length ∧ (∀ v ∈ out, Pd v) ∧ I (k + items.length) h'
  | [], acc, k, h, _, i, _ => ⟨[], h, by unfold loopC; rw [if_pos (hc h)]; simp, rfl, fun v hv => (by cases hv), i⟩
  | d :: r, acc, k, h, hk, i, hl => by
    rw [List.length_cons] at hk
    rw [List.length_cons] at hl
    obtain ⟨v, h1, e1, p1, i1⟩ := step k d h (by omega) i
    obtain ⟨out, h2, e2, l2, p2, i2⟩ := loopC_inv hc step r (acc ++ [v]) (k + 1) h1 (by omega) i1 (by rw [List.length_append, List.length_singleton]; omega)
    refine ⟨v :: out, h2, ?_, by rw [List.length_cons, l2]; rfl, fun u hu => ?_, by rw [List.length_cons, show k + (r.length + 1) = k + 1 + r.length by omega]; exact i2⟩
    · unfold loopC
      rw [if_pos (hc h)]
      simp only [gN_ap, mYes_ap, noEx_ok, bind_ok, e1]
      rw [if_pos (by omega), e2]
      simp
    · rcases List.mem_cons.mp hu with z | z
      · rw [z]; exact p1
      · exact p2 u z
theorem vAll_bls (l : List Int) (b : Int → Bool) (h : MH) : vAll (.lst (l.map fun i => D.bl (b i))) h = .ok (.bl (l.all b)) h := by
  have e : asBools (l.map fun i => D.bl (b i)) = some (l.map b) := by
    clear h
    induction l with
    | nil => rfl
    | cons i r ih => simp only [List.map_cons, asBools, ih, Option.map_some]
  show (match ((some (l.map fun i => D.bl (b i))).bind asBools) with | some l => R.ok (D.bl (l.all id)) h | none => .bad) = _
  rw [Option.bind_some, e]
  simp only [List.all_map, Function.id_comp, id]
theorem vAny_bls (l : List Int) (b : Int → Bool) (h : MH) : vAny (.lst (l.map fun i => D.bl (b i))) h = .ok (.bl (l.any b)) h := by
  have e : asBools (l.map fun i => D.bl (b i)) = some (l.map b) := by
    clear h
    induction l with
    | nil => rfl
    | cons i r ih => simp only [List.map_cons, asBools, ih, Option.map_some]
  show (match ((some (l.map fun i => D.bl (b i))).bind asBools) with | some l => R.ok (D.bl (l.any id)) h | none => .bad) = _
  rw [Option.bind_some, e]
  simp only [List.any_map, Function.id_comp, id]
end
theorem ints_as : ∀ l : List Int, asInts (l.map D.int) = some l
  | [] => rfl
  | i :: r => by simp only [List.map_cons, asInts, ints_as r, Option.map_some]
theorem vMaxL_ints {i : Int} {r : List Int} {h : MH} : vMaxL (.lst ((i :: r).map D.int)) h = .ok (.int (maxI (i :: r))) h := by
  have e : (listOf h (.lst ((i :: r).map D.int))).bind asInts = some (i :: r) := ints_as (i :: r)
  unfold vMaxL
  rw [e]
theorem maxI_lt {b : Int} : ∀ {l : List Int}, l ≠ [] → (∀ i ∈ l, i < b) → maxI l < b
  | [], h, _ => absurd rfl h
  | [i], _, h => h i (by simp)
  | i :: j :: r, _, h => by
    have ih := maxI_lt (l := j :: r) (by simp) fun k hk => h k (List.mem_cons_of_mem _ hk)
    unfold maxI
    split
    · exact ih
    · exact h i (by simp)
mutual
theorem D.eqb_refl : ∀ d : D, D.eqb d d = true
  | .non => rfl
  | .bl a => by simp [D.eqb]
  | .int a => by simp [D.eqb]
  | .str a => by simp [D.eqb]
  | .ty a => by simp [D.eqb]
  | .th a => by simp [D.eqb]
  | .adr a => by simp [D.eqb]
  | .tup a => by simp [D.eqb, Ds.eqb_refl a]
  | .lst a => by simp [D.eqb, Ds.eqb_refl a]
  | .cell a => by simp [D.eqb]
  | .dcell a => by simp [D.eqb]
  | .scr a => by simp [D.eqb]
  | .ctp a => by simp [D.eqb]
  | .dic k a => by simp [D.eqb, Ds.eqb_refl a, Ds.eqb_refl k]
  | .dct k a => by simp [D.eqb, Ds.eqb_refl a, Ds.eqb_refl k]
  | .frd k a => by simp [D.eqb, Ds.eqb_refl a, Ds.eqb_refl k]
  | .obj c a => by simp [D.eqb, Ds.eqb_refl a]
  | .unset => rfl
theorem Ds.eqb_refl : ∀ l : List D, Ds.eqb l l = true
  | [] => rfl
  | d :: r => by simp [Ds.eqb, D.eqb_refl d, Ds.eqb_refl r]
end
theorem chk_cell {h : MH} {n : Nat} {l : List D} (e : h[n]? = some l) : (Src.mk l (some (n, l))).chk h = true := by
  unfold Src.chk
  simp only [e]
  exact Ds.eqb_refl l
theorem srcS_cell {h : MH} {n : Nat} {l : List D} (e : h[n]? = some l) : srcS (.cell n) h = .ok ⟨l, some (n, l)⟩ h := by
  show (match h[n]? with
    | some l => R.ok (Src.mk l (some (n, l))) h
    | none => .bad) = _
  rw [e]
theorem py_cell {h : MH} {q : Nat} {L : List D} (e : h[q]? = some L) : pyOf h (.cell q) = pyOf h (.lst L) := by
  have a : D.py h 12 (.cell q) = (h[q]?).bind fun l => (pyAll (D.py h 11) l).map .list := rfl
  have b : D.py h 12 (.lst L) = (pyAll (D.py h 11) L).map .list := rfl
  unfold pyOf
  rw [a, b, e]
  rfl
theorem repr_cell {h : MH} {q : Nat} {L : List D} (e : h[q]? = some L) : vReprD (.cell q) h = vReprD (.lst L) h := by
  unfold vReprD
  rw [py_cell e]
theorem eq_cell {h : MH} {q : Nat} {L : List D} {d : D} (e : h[q]? = some L) : vEq (.cell q) d h = vEq (.lst L) d h := by
  unfold vEq
  rw [py_cell e]
theorem pyAll_strs {h : MH} {k : Nat} : ∀ l : List Str, pyAll (D.py h k) (l.map D.str) = some (l.map PyData.str)
  | [] => rfl
  | i :: r => by
    have e : D.py h k (.str i) = some (.str i) := by cases k <;> rfl
    simp only [List.map_cons, pyAll, e, pyAll_strs r, Option.bind_some]
theorem lay_strs : ∀ l : List Str, (∀ s ∈ l, PyData.strOk s = true) → PyData.canLayAll0 (l.map PyData.str) = true
  | [], _ => rfl
  | i :: r, h => by
    show (PyData.strOk i && PyData.canLayAll0 (r.map PyData.str)) = true
    rw [lay_strs r fun s hs => h s (List.mem_cons_of_mem _ hs), h i List.mem_cons_self]
    rfl
theorem dep_strs : ∀ l : List Str, PyData.depthAll (l.map PyData.str) = 0
  | [] => rfl
  | i :: r => by
    show max (PyData.depth (.str i)) (PyData.depthAll (r.map PyData.str)) = 0
    rw [dep_strs r]
    rfl
theorem eqv_strs : ∀ l : List Str, PyData.eqvAll (l.map PyData.str) (l.map PyData.str) = true
  | [] => rfl
  | i :: r => by
    show ((i == i) && PyData.eqvAll (r.map PyData.str) (r.map PyData.str)) = true
    rw [eqv_strs r, beq_self_eq_true]
    rfl
theorem eq_strs {l : List Str} {h : MH} (hs : ∀ s ∈ l, PyData.strOk s = true) : vEq (.lst (l.map D.str)) (.lst (l.map D.str)) h = .ok (.bl true) h := by
  have e : D.py h 12 (.lst (l.map D.str)) = some (.list (l.map PyData.str)) := by
    show ((pyAll (D.py h 11) (l.map D.str)).map PyData.list) = _
    rw [pyAll_strs]; rfl
  have q : SeqAt.shaped (.list (l.map PyData.str)) = true := by
    show (PyData.canLayAll0 (l.map PyData.str) && decide (PyData.depthAll (l.map PyData.str) + 1 ≤ 64)) = true
    rw [lay_strs l hs, dep_strs]
    rfl
  have o : pyOf h (.lst (l.map D.str)) = some (.list (l.map PyData.str)) := by
    unfold pyOf
    rw [e]
    show (if SeqAt.shaped (.list (l.map PyData.str)) = true then some (PyData.list (l.map PyData.str)) else none) = _
    rw [if_pos q]
  unfold vEq
  rw [o]
  show R.ok (D.bl (PyData.eqvAll (l.map PyData.str) (l.map PyData.str))) h = _
  rw [eqv_strs]
/-- a loop that goes through -/
theorem loopF_all {u : MG} {b : MS} {chk : MH → Bool} {P : D → Prop} {I : Env1 → MH → Prop} (hc : ∀ h, chk h = true) (step : ∀ d ρ h, P d → I ρ h → ∃ ρ1 h1 ρ2 h2, u d ρ h = some (ρ1, h1) ∧ b ρ1 h1 = .nx ρ2 h2 ∧ I ρ2 h2) :
    ∀ (items : List D) (ρ : Env1) (h : MH), (∀ d ∈ items, P d) → I ρ h → ∃ ρ' h', loopF u b chk items ρ h = .nx ρ' h' ∧ I ρ' h'
  | [], ρ, h, _, i => ⟨ρ, h, by unfold loopF; rw [if_pos (hc h)], i⟩
  | d :: r, ρ, h, hp, i => by
    obtain ⟨ρ1, h1, ρ2, h2, e1, e2, i2⟩ := step d ρ h (hp d List.mem_cons_self) i
    obtain ⟨ρ', h', e3, i3⟩ := loopF_all hc step r ρ2 h2 (fun x hx => hp x (List.mem_cons_of_mem _ hx)) i2
    refine ⟨ρ', h', ?_, i3⟩
    unfold loopF
    rw [if_pos (hc h), e1]
    simp only [e2]
    exact e3
theorem k_of (n : Nat) : ∃ k : Nat, k ≤ 3 ∧ (if (if ((n : Nat) : Int) < 3 then ((n : Nat) : Int) else 3) > 1 then (if ((n : Nat) : Int) < 3 then ((n : Nat) : Int) else 3) else 1) = ((k : Nat) : Int) := by
  by_cases h0 : n = 0
  · subst h0
    exact ⟨1, by decide, by decide⟩
  · by_cases h1 : n = 1
    · subst h1
      exact ⟨1, by decide, by decide⟩
    · by_cases h2 : n = 2
      · subst h2
        exact ⟨2, by decide, by decide⟩
      · refine ⟨3, by decide, ?_⟩
        have e : ¬ ((n : Int) < 3) := by omega
        simp only [e, if_false]
        decide
/-- the rounds of a law -/
theorem rounds {ρ : Env1} {h : MH} {ns : List Int} (r0 : ρ[0]? = some (some (.scr ns))) : ∃ k : Nat, k ≤ 3 ∧ mSrcA (mCons (mCall (vTwo vMax2) (mCons (mC (.int 1)) (mCons (mCall (vTwo vMin2) (mCons (mC (.int 3)) (mCons (mCall (vOne vLen) (mCons (mVar 0) mNil)) mNil))) mNil))) mNil) srcR1 ρ h = .ok ⟨rngD 0 k, none⟩ h := by
  have vl : vLen (.scr ns) h = .ok (.int ((ns.length : Nat) : Int)) h := by
    unfold vLen
    simp only [seqOf, List.length_map]
  obtain ⟨k, hk, hm⟩ := k_of ns.length
  have sr := src_r1 (p := ((k : Nat) : Int)) (by omega) (by omega) h
  have a0 : mCall (vOne vLen) (mCons (mVar 0) mNil) ρ h = .ok (.int ((ns.length : Nat) : Int)) h := by
    rw [mCall_ap, mCons_ap, mVar_ap]
    simp only [r0, bind_ok, mNil_ap, vOne_ap, vl]
  have a1 : mCall (vTwo vMin2) (mCons (mC (.int 3)) (mCons (mCall (vOne vLen) (mCons (mVar 0) mNil)) mNil)) ρ h = .ok (.int (if ((ns.length : Nat) : Int) < 3 then ((ns.length : Nat) : Int) else 3)) h := by
    rw [mCall_ap, mCons_ap, mC_ap, bind_ok, mCons_ap, a0, bind_ok, mNil_ap, bind_ok, bind_ok, bind_ok, vTwo_ap, vMin2_i]
  revert a1 hm
  generalize (if ((ns.length : Nat) : Int) < 3 then ((ns.length : Nat) : Int) else 3) = M
  intro hm a1
  have a2 : mCons (mCall (vTwo vMax2) (mCons (mC (.int 1)) (mCons (mCall (vTwo vMin2) (mCons (mC (.int 3)) (mCons (mCall (vOne vLen) (mCons (mVar 0) mNil)) mNil))) mNil))) mNil ρ h = .ok [.int ((k : Nat) : Int)] h := by
    rw [mCons_ap, mCall_ap, mCons_ap, mC_ap, bind_ok, mCons_ap, a1, bind_ok, mNil_ap, bind_ok, bind_ok, bind_ok, vTwo_ap, vMax2_i, bind_ok, mNil_ap, bind_ok, hm]
  exact ⟨k, hk, by rw [mSrcA_ap, a2, bind_ok, sr, Int.toNat_natCast]⟩
theorem rng_k {k : Nat} {d : D} (hk : k ≤ 3) (h : d ∈ rngD 0 k) : ∃ i : Nat, d = .int (i : Nat) ∧ i ≤ 100 := by
  obtain ⟨i, rfl, a, b⟩ := rngD_mem h
  exact ⟨i.toNat, by rw [show ((i.toNat : Nat) : Int) = i by omega], by omega⟩
end MI
/-! comprehensions with two fors -/
namespace MI
open PySem PySem.Spec
open PyProof.Rows L2
def loop2 (u : MG) (t : MT) (i1 : MI') (u1 : MG) (t1 : MT) (m : ME) (ρ : Env1) (vs1 : List Nat) (chk : MH → Bool) : List D → List D → MH → R (List D)
  | [], acc, h => if chk h = true then .ok acc h else .bad
  | d :: r, acc, h => if chk h = true then (match u d ρ h with
    | none => .bad
    | some (ρ1, h1) => (noEx (t ρ1 h1)).bind fun b h2 => match b with
      | true => (noEx (i1 ρ1 h2)).bind fun s h3 => (loopC u1 t1 m (wipeM ρ1 vs1) s.chk s.items acc h3).bind fun acc' h4 => loop2 u t i1 u1 t1 m ρ vs1 chk r acc' h4
      | false => loop2 u t i1 u1 t1 m ρ vs1 chk r acc h2) else .bad
def mLc2 (i : MI') (u : MG) (t : MT) (i1 : MI') (u1 : MG) (t1 : MT) (m : ME) (vs vs1 : List Nat) : ME := fun ρ h => (i ρ h).bind fun s h1 => (loop2 u t i1 u1 t1 m (wipeM ρ vs) vs1 s.chk s.items [] h1).bind fun l h2 => .ok (.lst l) h2
section
variable {g : Gm} {W : WX} {X : Cx} {mi mi1 : MI'} {u u1 : MG} {mt mt1 : MT} {me : ME} {wt wt1 : TG} {vs vs1 : List Nat}
theorem imp_lc2 (hg : GOk g vs wt u) (hg1 : GOk g vs1 wt1 u1) {fin : List D → MH → R D} (σ : L2.St) (H : Hp) (Q : VK)
    (t : tE g W (fun ρ h => (mi ρ h).bind fun s h1 => (loop2 u mt mi1 u1 mt1 me (wipeM ρ vs) vs1 s.chk s.items [] h1).bind fin) σ H Q)
    (hfin : ∀ φ1 H1 D0 φ2 H2 h2 acc ds, H1 D0 = none → ¬ φ1.has D0 → LcAt g φ1 H1 D0 φ2 H2 h2 acc ds → Out g W σ φ1 H1 (Rep g.r) Q (fin ds h2) → Q (.ref D0) H2) :
    tLc2 (tI g W mi) wt (tT g W0 mt) (tI g W0 mi1) wt1 (tT g W0 mt1) (tE g W0 me) vs vs1 σ H Q := by
  obtain ⟨φ, ρ, h, s, m, o⟩ := t
  refine ⟨φ, ρ, h, s, m, ?_⟩
  dsimp only at o
  cases hr : mi ρ h with
  | bad => rw [hr] at o; exact o
  | exc x h1 => rw [hr] at o; exact o
  | ok src h1 =>
    rw [hr] at o
    have o : Out g W σ φ H (Rep g.r) Q ((loop2 u mt mi1 u1 mt1 me (wipeM ρ vs) vs1 src.chk src.items [] h1).bind fin) := o
    intro φ1 J H1 e1 m1 wk D0 hD0
    have nD := m1.notin hD0
    have o1 := Out.base e1 o
    have s1 := s.ext e1
    obtain ⟨eg, mg⟩ := mk_g (o := .lst []) m1 hD0 Pl.lst
    refine ⟨fun i k H' => k = src.items.length - i ∧ i ≤ src.items.length ∧ ∃ φ2 h2 acc ds, LcAt g φ1 H1 D0 φ2 H' h2 acc ds ∧ Out g W σ φ1 H1 (Rep g.r) Q ((loop2 u mt mi1 u1 mt1 me (wipeM ρ vs) vs1 src.chk (src.items.drop i) ds h2).bind fin), ⟨src.items.length, by simp, Nat.zero_le _, ⟨φ1.c, D0 :: φ1.g, φ1.m⟩, h1, [], [], ⟨eg, mg, List.mem_cons_self, upd_same, .nil⟩, o1⟩, ?_⟩
    rintro i k H2 ⟨rfl, hi, φ2, h2, acc, ds, L, o2⟩
    by_cases hlt : i < src.items.length
    · rw [List.drop_eq_getElem_cons hlt] at o2
      unfold loop2 at o2
      split at o2
      · rename_i hck
        obtain ⟨w1, w2⟩ := (wk φ2 H2 h2 L.e.tr L.m hck i)
        obtain ⟨go, yl⟩ := w1 src.items[i] (by simp [hlt])
        refine .inr ⟨go, fun H' => ∃ φ2 h2 acc ds, LcAt g φ1 H1 D0 φ2 H' h2 acc ds ∧ Out g W σ φ1 H1 (Rep g.r) Q ((loop2 u mt mi1 u1 mt1 me (wipeM ρ vs) vs1 src.chk (src.items.drop (i + 1)) ds h2).bind fin), fun H' q => ⟨src.items.length - (i + 1), by omega, rfl, hlt, q⟩, fun x H3 y => ?_⟩
        obtain ⟨φ3, e3, r3, m3⟩ := yl x H3 y
        cases hu : u src.items[i] (wipeM ρ vs) h2 with
        | none => rw [hu] at o2; exact o2.elim
        | some q =>
          obtain ⟨ρ4, h4⟩ := q
          rw [hu] at o2
          refine hg ((s1.ext (L.e.trans e3)).wipe vs) r3 hu fun σ4 eh s4 w4 => ⟨w4.trans (wipe_wipe vs vs σ fun _ h => h), ?_⟩
          subst eh
          dsimp only at o2
          refine ⟨φ3, ρ4, h4, s4, m3, ?_⟩
          cases ht : mt ρ4 h4 with
          | bad => rw [ht] at o2; exact o2.elim
          | exc _ _ => rw [ht] at o2; exact o2.elim
          | ok b h5 =>
            rw [ht] at o2
            intro φ5 b' H5 e5 r5 m5
            cases (show b' = b from r5)
            have e25 := e3.trans e5
            cases b with
            | false => exact ⟨φ5, h5, acc, ds, ⟨L.e.trans e25, m5, e25.gh _ L.d, (e25.gk _ L.d).trans L.o, L.r.ext e25⟩, o2⟩
            | true =>
              have s5 := s4.ext e5
              refine ⟨φ5, ρ4, h5, s5, m5, ?_⟩
              have o3 : Out g W σ φ1 H1 (Rep g.r) Q (((noEx (mi1 ρ4 h5)).bind fun s h3 => (loopC u1 mt1 me (wipeM ρ4 vs1) s.chk s.items ds h3).bind fun acc' h4 => loop2 u mt mi1 u1 mt1 me (wipeM ρ vs) vs1 src.chk (src.items.drop (i + 1)) acc' h4).bind fin) := o2
              clear o2
              cases hm1 : mi1 ρ4 h5 with
              | bad => rw [hm1] at o3; exact o3.elim
              | exc _ _ => rw [hm1] at o3; exact o3.elim
              | ok sr1 h6 =>
                rw [hm1] at o3
                have o4 : Out g W σ φ1 H1 (Rep g.r) Q (((loopC u1 mt1 me (wipeM ρ4 vs1) sr1.chk sr1.items ds h6).bind fun acc' h4 => loop2 u mt mi1 u1 mt1 me (wipeM ρ vs) vs1 src.chk (src.items.drop (i + 1)) acc' h4).bind fin) := o3
                clear o3
                intro φ6 J1 H6 e6 m6 wk1
                have e26 := e25.trans e6
                refine ⟨fun j k H' => k = sr1.items.length - j ∧ j ≤ sr1.items.length ∧ ∃ φ7 h7 acc7 ds7, LcAt g φ1 H1 D0 φ7 H' h7 acc7 ds7 ∧ Tr φ6 H6 φ7 H' ∧ Out g W σ φ1 H1 (Rep g.r) Q (((loopC u1 mt1 me (wipeM ρ4 vs1) sr1.chk (sr1.items.drop j) ds7 h7).bind fun acc' h4 => loop2 u mt mi1 u1 mt1 me (wipeM ρ vs) vs1 src.chk (src.items.drop (i + 1)) acc' h4).bind fin),
                  ⟨sr1.items.length, by simp, Nat.zero_le _, φ6, h6, acc, ds, ⟨L.e.trans e26, m6, e26.gh _ L.d, (e26.gk _ L.d).trans L.o, L.r.ext e26⟩, Tr.refl, o4⟩, ?_⟩
                rintro j k7 H7 ⟨rfl, hj, φ7, h7, acc7, ds7, L7, e7, o7⟩
                have s7 := (s5.ext e6).tr e7
                by_cases hlt1 : j < sr1.items.length
                · rw [List.drop_eq_getElem_cons hlt1] at o7
                  unfold loopC at o7
                  split at o7
                  · rename_i hck1
                    obtain ⟨w3, w4'⟩ := (wk1 φ7 H7 h7 e7 L7.m hck1 j)
                    obtain ⟨go1, yl1⟩ := w3 sr1.items[j] (by simp [hlt1])
                    refine .inr ⟨go1, fun H' => ∃ φ7 h7 acc7 ds7, LcAt g φ1 H1 D0 φ7 H' h7 acc7 ds7 ∧ Tr φ6 H6 φ7 H' ∧ Out g W σ φ1 H1 (Rep g.r) Q (((loopC u1 mt1 me (wipeM ρ4 vs1) sr1.chk (sr1.items.drop (j + 1)) ds7 h7).bind fun acc' h4 => loop2 u mt mi1 u1 mt1 me (wipeM ρ vs) vs1 src.chk (src.items.drop (i + 1)) acc' h4).bind fin), fun H' q => ⟨sr1.items.length - (j + 1), by omega, rfl, hlt1, q⟩, fun x8 H8 y8 => ?_⟩
                    obtain ⟨φ8, e8, r8, m8⟩ := yl1 x8 H8 y8
                    cases hu1 : u1 sr1.items[j] (wipeM ρ4 vs1) h7 with
                    | none => rw [hu1] at o7; exact o7.elim
                    | some q =>
                      obtain ⟨ρ9, h9⟩ := q
                      rw [hu1] at o7
                      refine hg1 ((s7.ext e8).wipe vs1) r8 hu1 fun σ9 eh s9 w9 => ⟨w9.trans (wipe_wipe vs1 vs1 σ4 fun _ h => h), ?_⟩
                      subst eh
                      dsimp only at o7
                      refine ⟨φ8, ρ9, h9, s9, m8, ?_⟩
                      cases ht1 : mt1 ρ9 h9 with
                      | bad => rw [ht1] at o7; exact o7.elim
                      | exc _ _ => rw [ht1] at o7; exact o7.elim
                      | ok b1 h10 =>
                        rw [ht1] at o7
                        intro φ10 b1' H10 e10 r10 m10
                        cases (show b1' = b1 from r10)
                        have e810 := e8.trans e10
                        cases b1 with
                        | false => exact ⟨φ10, h10, acc7, ds7, ⟨L7.e.trans e810, m10, e810.gh _ L7.d, (e810.gk _ L7.d).trans L7.o, L7.r.ext e810⟩, e7.trans e810.tr, o7⟩
                        | true =>
                          refine ⟨φ10, ρ9, h10, s9.ext e10, m10, ?_⟩
                          have o8 : Out g W σ φ1 H1 (Rep g.r) Q ((((noEx (me ρ9 h10)).bind fun y h3 => if ds7.length < 16777216 then loopC u1 mt1 me (wipeM ρ4 vs1) sr1.chk (sr1.items.drop (j + 1)) (ds7 ++ [y]) h3 else .bad : R (List D)).bind fun acc' h4 => loop2 u mt mi1 u1 mt1 me (wipeM ρ vs) vs1 src.chk (src.items.drop (i + 1)) acc' h4).bind fin) := o7
                          clear o7
                          cases hm : me ρ9 h10 with
                          | bad => rw [hm] at o8; exact o8.elim
                          | exc _ _ => rw [hm] at o8; exact o8.elim
                          | ok y' h11 =>
                            rw [hm] at o8
                            intro φ11 v11 H11 e11 r11 m11
                            have o9 : Out g W σ φ1 H1 (Rep g.r) Q (((if ds7.length < 16777216 then loopC u1 mt1 me (wipeM ρ4 vs1) sr1.chk (sr1.items.drop (j + 1)) (ds7 ++ [y']) h11 else .bad : R (List D)).bind fun acc' h4 => loop2 u mt mi1 u1 mt1 me (wipeM ρ vs) vs1 src.chk (src.items.drop (i + 1)) acc' h4).bind fin) := o8
                            have e811 := e810.trans e11
                            have r811 := L7.r.ext e811
                            have d11 := e811.gh _ L7.d
                            have x11 := L7.e.trans e811
                            split at o9
                            · rename_i hs
                              exact ⟨acc7, (e811.gk _ L7.d).trans L7.o, by rw [L7.r.length, sizeLine_eq]; exact hs, φ11, h11, acc7 ++ [v11], ds7 ++ [y'], ⟨x11.gset nD d11, m11.gput d11 Pl.lst, d11, upd_same, (r811.append (.one r11)).tr (Tr.upd (.inr (.inr d11)))⟩, (e7.trans e811.tr).trans (Tr.upd (.inr (.inr d11))), o9⟩
                            · exact o9.elim
                  · exact o7.elim
                · have ej : j = sr1.items.length := by omega
                  subst ej
                  rw [List.drop_length] at o7
                  unfold loopC at o7
                  split at o7
                  · rename_i hck1
                    obtain ⟨w3, w4'⟩ := (wk1 φ7 H7 h7 e7 L7.m hck1 sr1.items.length)
                    exact .inl ⟨w4' (Nat.le_refl _), φ7, h7, acc7, ds7, L7, o7⟩
                  · exact o7.elim
      · exact o2.elim
    · have ei : i = src.items.length := by omega
      subst ei
      rw [List.drop_length] at o2
      unfold loop2 at o2
      split at o2
      · rename_i hck
        obtain ⟨w1, w2⟩ := (wk φ2 H2 h2 L.e.tr L.m hck src.items.length)
        exact .inl ⟨w2 (Nat.le_refl _), hfin φ1 H1 D0 φ2 H2 h2 acc ds hD0 nD L o2⟩
      · exact o2.elim
theorem imp_lc2L (hg : GOk g vs wt u) (hg1 : GOk g vs1 wt1 u1) (σ : L2.St) (H : Hp) (Q : VK) (t : tE g W (mLc2 mi u mt mi1 u1 mt1 me vs vs1) σ H Q) : tLc2 (tI g W mi) wt (tT g W0 mt) (tI g W0 mi1) wt1 (tT g W0 mt1) (tE g W0 me) vs vs1 σ H Q :=
  imp_lc2 hg hg1 σ H Q t fun φ1 H1 D0 φ2 H2 h2 acc ds hn nD L o => by
    obtain ⟨a, b, c⟩ := lc_end hn nD L
    exact o _ _ _ a c b
variable {elt tg iter tg1 iter1 : Expr} {ifs ifs1 : List Expr} {scope : Scope} {own : List (Str × Nat)} {pos : Pos}
theorem s_lc2 (hc : X.calm = true) (hN : X.N.Nodup) (hi : PI X tg iter (tI g W mi)) (ok : BlkOk X.N X.env.scope scope own) (hv : ∀ i ∈ vs1, i ∈ own.map (·.2)) (hgo : GOk g (own.map (·.2)) wt u) (hgo1 : GOk g vs1 wt1 u1)
    (hg : ∀ (s : Shared) (H : Hp) (C : Addr) (cl : List (Str × Addr)) (fp : List Addr), PG (X.blk s H scope (compEnvC scope cl C X.env) fp) tg wt) (ht : ∀ (s : Shared) (H : Hp) (C : Addr) (cl : List (Str × Addr)) (fp : List Addr), PTs (X.blk s H scope (compEnvC scope cl C X.env) fp) ifs (tT g W0 mt))
    (hi1 : ∀ (s : Shared) (H : Hp) (C : Addr) (cl : List (Str × Addr)) (fp : List Addr), PI (X.blk s H scope (compEnvC scope cl C X.env) fp) tg1 iter1 (tI g W0 mi1))
    (hg1 : ∀ (s : Shared) (H : Hp) (C : Addr) (cl : List (Str × Addr)) (fp : List Addr), PG (X.blk s H scope (compEnvC scope cl C X.env) fp) tg1 wt1) (ht1 : ∀ (s : Shared) (H : Hp) (C : Addr) (cl : List (Str × Addr)) (fp : List Addr), PTs (X.blk s H scope (compEnvC scope cl C X.env) fp) ifs1 (tT g W0 mt1))
    (he : ∀ (s : Shared) (H : Hp) (C : Addr) (cl : List (Str × Addr)) (fp : List Addr), PE (X.blk s H scope (compEnvC scope cl C X.env) fp) elt (tE g W0 me))
    (hs : ∀ x, foldedSetIterable iter X.env x = pure x := by intro _; rfl) (hs1 : ∀ env x, foldedSetIterable iter1 env x = pure x := by intro _ _; rfl) :
    PE X (.ListComp elt [⟨tg, iter, ifs, 0⟩, ⟨tg1, iter1, ifs1, 0⟩] scope pos) (tE g W (mLc2 mi u mt mi1 u1 mt1 me (own.map (·.2)) vs1)) := pe_imp (pe_lc2 hc hN hi ok hv hg ht hi1 hg1 ht1 he hs hs1) (imp_lc2L hgo hgo1)
theorem s_setLc2 {i : Nat} {y : Str} {py spos : Pos} (hc : X.calm = true) (hN : X.N.Nodup) (hsw : swapsWith (.ListComp elt [⟨tg, iter, ifs, 0⟩, ⟨tg1, iter1, ifs1, 0⟩] scope pos) (some (.Name y py)) spos.line X.env = pure true) (hi : PI X tg iter (tI g W mi)) (ok : BlkOk X.N X.env.scope scope own) (hv : ∀ i ∈ vs1, i ∈ own.map (·.2)) (hgo : GOk g (own.map (·.2)) wt u) (hgo1 : GOk g vs1 wt1 u1)
    (hg : ∀ (s : Shared) (H : Hp) (C : Addr) (cl : List (Str × Addr)) (fp : List Addr), PG (X.blk s H scope (compEnvC scope cl C X.env) fp) tg wt) (ht : ∀ (s : Shared) (H : Hp) (C : Addr) (cl : List (Str × Addr)) (fp : List Addr), PTs (X.blk s H scope (compEnvC scope cl C X.env) fp) ifs (tT g W0 mt))
    (hi1 : ∀ (s : Shared) (H : Hp) (C : Addr) (cl : List (Str × Addr)) (fp : List Addr), PI (X.blk s H scope (compEnvC scope cl C X.env) fp) tg1 iter1 (tI g W0 mi1))
    (hg1 : ∀ (s : Shared) (H : Hp) (C : Addr) (cl : List (Str × Addr)) (fp : List Addr), PG (X.blk s H scope (compEnvC scope cl C X.env) fp) tg1 wt1) (ht1 : ∀ (s : Shared) (H : Hp) (C : Addr) (cl : List (Str × Addr)) (fp : List Addr), PTs (X.blk s H scope (compEnvC scope cl C X.env) fp) ifs1 (tT g W0 mt1))
    (he : ∀ (s : Shared) (H : Hp) (C : Addr) (cl : List (Str × Addr)) (fp : List Addr), PE (X.blk s H scope (compEnvC scope cl C X.env) fp) elt (tE g W0 me))
    (hy : X.N[i]? = some y := by rfl) (hyl : X.env.scope.names.lookup y = some .local := by rfl)
    (hs : ∀ x, foldedSetIterable iter X.env x = pure x := by intro _; rfl) (hs1 : ∀ env x, foldedSetIterable iter1 env x = pure x := by intro _ _; rfl) :
    PS X (.Assign [.Name y py] (.ListComp elt [⟨tg, iter, ifs, 0⟩, ⟨tg1, iter1, ifs1, 0⟩] scope pos) spos) (tS g W (mAsg (mLc2 mi u mt mi1 u1 mt1 me (own.map (·.2)) vs1) (gN i))) := ps_imp (ps_setLc2 hc hN hy hyl hsw hi ok hv hg ht hi1 hg1 ht1 he hs hs1) fun E σ H t => by
  obtain ⟨φ, ρ, h, s, m, o⟩ := t
  have t' : tE g W (mLc2 mi u mt mi1 u1 mt1 me (own.map (·.2)) vs1) σ H (fun x H1 => gName i x σ H1 E.nx) := ⟨φ, ρ, h, s, m, OutS.expr s o fun d h1 φ1 v H1 e1 r1 m1 o1 => o1 φ1 _ H1 Ext.refl ((s.ext e1).set r1 i) m1⟩
  exact imp_lc2L hgo hgo1 σ H _ t'
end
end MI
/-! a generator def that ends with «yield from» a list, and list(..) of its call -/
namespace MI
open PySem PySem.Spec
open PyProof.Rows L2 GenW
section
variable {prog : Program} {w : World} {B : Around} {EX : Value → Shared → Prop} {sh : Shared}
theorem li_item {z l : Addr} {j : Nat} {arr : Array Value} {y : Value} {G : Option Value → Shared → Prop} (at' : sh.heap.IsListIter z l j) (ll : sh.heap.IsList l arr) (gy : arr[j]? = some y)
    (go : ∀ h', h'.IsListIter z l (j + 1) → Heap.SameBut z sh.heap h' → G (some y) { sh with heap := h' }) : wpAny (model prog w) B (callSpecial? (.ref z) "__next__") G EX sh := by
  obtain ⟨ob, g1, g2, g3⟩ := id at'
  obtain ⟨lo, g4, _, m, g5⟩ := ll
  refine wpAny_callSpecial?_slot (name := Str.ofString "__next__") at'.typeIs slot_listiter_next (wpAny_call_entry slot_listiter_next at'.typeIs entry_listiter_next ?_ (args_listiter_next _))
  show wpAny _ _ (field (.ref z) 0 >>= _) _ _ sh
  refine wpAny_bind (wpAny_field g1 g3 (x := .ref l) rfl ?_)
  show wpAny _ _ (if (Value.ref l == Value.none) = true then _ else _) _ _ sh
  rw [if_neg (by exact Bool.false_ne_true : ¬ ((Value.ref l == Value.none) = true))]
  show wpAny _ _ (field (.ref z) 1 >>= _) _ _ sh
  refine wpAny_bind (wpAny_field g1 g3 (x := .int j 0) rfl ?_)
  show wpAny _ _ (seqItems? (.ref l) >>= _) _ _ sh
  refine wpAny_bind (wpAny_seqItems g4 g5 ?_)
  simp only [gy, Int.toNat_natCast]
  refine wpAny_bind (wpAny_setField g1 g3 (by simp) (wpAny_pure ⟨y, rfl, go _ ⟨_, Heap.get?_update_self _ g1 (Obj.isFreed_of_fields (Obj.data_mapFields g3 _)), (Obj.cls_mapFields ..).trans g2, ?_⟩ (Heap.SameBut.update ..)⟩))
  rw [Obj.data_mapFields g3]
  simp [rawInt]
theorem li_end {z l : Addr} {j : Nat} {arr : Array Value} {G : Option Value → Shared → Prop} (nh : B.handled = none) (at' : sh.heap.IsListIter z l j) (ll : sh.heap.IsList l arr) (gy : arr[j]? = none)
    (go : ∀ e h', StopX e h' → Heap.ExtBut z sh.heap h' → EX e { sh with heap := h' }) : wpAny (model prog w) B (callSpecial? (.ref z) "__next__") G EX sh := by
  obtain ⟨ob, g1, g2, g3⟩ := id at'
  obtain ⟨lo, g4, _, m, g5⟩ := ll
  refine wpAny_callSpecial?_slot (name := Str.ofString "__next__") at'.typeIs slot_listiter_next (wpAny_call_entry slot_listiter_next at'.typeIs entry_listiter_next ?_ (args_listiter_next _))
  show wpAny _ _ (field (.ref z) 0 >>= _) _ _ sh
  refine wpAny_bind (wpAny_field g1 g3 (x := .ref l) rfl ?_)
  show wpAny _ _ (if (Value.ref l == Value.none) = true then _ else _) _ _ sh
  rw [if_neg (by exact Bool.false_ne_true : ¬ ((Value.ref l == Value.none) = true))]
  show wpAny _ _ (field (.ref z) 1 >>= _) _ _ sh
  refine wpAny_bind (wpAny_field g1 g3 (x := .int j 0) rfl ?_)
  show wpAny _ _ (seqItems? (.ref l) >>= _) _ _ sh
  refine wpAny_bind (wpAny_seqItems g4 g5 ?_)
  simp only [gy, Int.toNat_natCast]
  refine wpAny_bind (wpAny_rule (wpAny_bind (wpAny_setField g1 g3 (by simp) (?_ : wpAny _ _ (newExc (.type "StopIteration") [] >>= _) _ _ _))))
  refine wpAny_bind ?_
  simp only [newTuple, newExc]
  refine wpAny_bind (wpAny_newObj_type (hd := by size_fits) ?_)
  refine wpAny_bind (m := firstArgMember _ _) (wpAny_of_eq (a := Value.none) (by first | (simp only [firstArgMember]; rfl) | rfl) ?_)
  refine wpAny_newObj_type (hd := by size_fits) ?_
  simp only [raiseNew]
  refine wpAny_bind (wpAny_handled ?_)
  first | rw [nh] | rw [show B.in1.handled = none from nh]
  refine wpAny_bind (wpAny_pure (wpAny_throw (go _ _ ⟨_, _, _, rfl, Heap.get?_push_size _ rfl, rfl, rfl, ?_⟩ (((Heap.SameBut.update ..).extBut.push _).push _))))
  first
    | kernel_rfl
    | (rw [Array.getElem?_append_left (by decide)]; rfl)
end
section
variable {X : Cx} {e : Expr} {te : TE}
def tYfLst (te : TE) : TYf := fun σ H Q => te σ H fun x H1 => ∃ a xs, x = .ref a ∧ H1 a = some (.lst xs) ∧ Q xs H1
theorem li_close : typeLookup (.type "list_iterator") "close" = pure none := by rw [typeLookup_type, builtinLookup_eq_fast]; kernel_rfl
theorem yf_lst (he : PE X e te) : YfE X e (tYfLst te) := by
  refine ⟨fun pins s σ H Q I h => thn (he.run pins s σ H _ I h) fun v s1 ⟨x, H1, I1, r1, a, xs, ex, ha, hq⟩ => ?_⟩
  subst ex
  cases (show v = Value.ref a from r1)
  obtain ⟨hlen, its, cnt, rits, ht⟩ := I1.hok a _ ha
  have hl : s1.heap.IsList a its.toArray := ⟨_, ht, rfl, _, rfl⟩
  refine ⟨"list", hl.typeIs, by decide, wpAny_pyIter_list hl ?_⟩
  have big : ∀ b o, s1.heap.get? b = some o → b ≠ s1.heap.objs.size := fun b o q => Nat.ne_of_lt (Heap.lt_size q)
  have keep : ∀ b o, s1.heap.get? b = some o → (s1.heap.push { cls := .type "list_iterator", data := .fields #[.ref a, .int 0 0] }).get? b = some o := fun b o q => Heap.get?_push_of_some _ q
  refine ⟨s1.heap.objs.size, H1, xs, fun j h => h.IsListIter s1.heap.objs.size a j ∧ h.IsList a its.toArray, rfl, I1.kept (t' := s1.toks) keep, .inr I1.sz, Nat.ne_of_gt I1.lt, fun y c hy => ?_, I1.hok.fresh (Nat.le_refl _), fun p hp => big p.1 _ (I1.pin p hp).1,
    ⟨⟨_, Heap.get?_push_size _ rfl, rfl, rfl⟩, hl.push _⟩, ⟨⟨"list_iterator", fun j h q => ?_, li_close, by decide⟩, fun j h h' q hk => ?_, fun A' j x s2 Q' E' hA hx q hQ => ?_, fun A' s2 Q' E' hA q hE => ?_⟩, hq⟩
  · obtain ⟨v, o, ho, _⟩ := I1.cell y c hy
    exact big c o ho
  · obtain ⟨⟨o, q1, q2, _⟩, _⟩ := q
    exact ⟨o, q1, q2⟩
  · obtain ⟨⟨o, q1, q2⟩, o2, q3, q4⟩ := q
    exact ⟨⟨o, hk _ o (.inl rfl) q1, q2⟩, o2, hk _ o2 (.inr (by rw [ha]; exact fun z => by cases z)) q3, q4⟩
  · obtain ⟨u, hu, ru⟩ := rits.get hx
    have hne : a ≠ s1.heap.objs.size := big a _ ht
    exact li_item q.1 q.2 (y := u) (by simpa using hu) fun h' q' hs => hQ u h' s2.toks ru ⟨q', q.2.extBut hs.extBut hne⟩ fun b o hb eb => hs.extBut b o hb eb
  · have hnone : its.toArray[xs.length]? = none := by
      have e1 := rits.length
      have e2 : its[xs.length]? = none := List.getElem?_eq_none_iff.mpr (by omega)
      simpa using e2
    exact li_end hA q.1 q.2 hnone fun e h' hS hk => hE e h' s2.toks hS fun b o hb eb => hk b o hb eb
end
end MI
namespace MI
open PySem PySem.Spec
open PyProof.Rows L2 GenW
/-! ### the body -/
def mSeqG (a b : MS) : MS := fun ρ h => match a ρ h with
  | .nx ρ1 h1 => b ρ1 h1
  | .exc ρ1 e h1 => .exc ρ1 e h1
  | _ => .bad
def mYF (m : ME) : MS := fun ρ h => (m ρ h).toF ρ fun d h1 => match d with
  | .lst l => if l.length ≤ 16777216 then .rt (.lst l) h1 else .bad
  | _ => .bad
def OutY (g : Gm) (E : XK) (φ : Ph) (H : Hp) (Q : List V → Hp → Prop) : F → Prop
  | .rt (.lst l) h1 => ∀ φ1 xs H1, Ext φ H φ1 H1 → Reps g.r φ1 H1 xs l → Hok g φ1 H1 h1 → Q xs H1
  | .exc _ e h1 => ∀ φ1 c dx H1, Ext φ H φ1 H1 → ExRep g φ1 H1 c dx e → Hok g φ1 H1 h1 → E c dx H1
  | _ => False
theorem OutY.base {g : Gm} {E : XK} {φ φ' : Ph} {H H' : Hp} {Q : List V → Hp → Prop} {r : F} (e : Ext φ H φ' H') (o : OutY g E φ H Q r) : OutY g E φ' H' Q r := by
  cases r with
  | rt d h1 =>
    cases d with
    | lst l => exact fun φ1 xs H1 e1 => o φ1 xs H1 (e.trans e1)
    | _ => exact o.elim
  | exc ρ x h1 => exact fun φ1 c dx H1 e1 => o φ1 c dx H1 (e.trans e1)
  | _ => exact o.elim
def tGS (g : Gm) (E : XK) (ms : MS) : TGn := fun D ys σ H => ys = [] ∧ ∃ φ ρ h, Slots g.r φ H σ ρ ∧ Hok g φ H h ∧ OutY g E φ H (fun xs H1 => ∀ σ1, D.nx xs σ1 H1) (ms ρ h)
section
variable {g : Gm} {E : XK} {X : Cx} {ma mb : MS} {me : ME} {st : Stmt} {rest : List Stmt} {e : Expr} {yp pos : Pos}
theorem gss_imp {l : List Stmt} {t t' : TGn} (h : GSs X l t) (i : ∀ D ys σ H, t' D ys σ H → t D ys σ H) : GSs X l t' := ⟨fun A S ip R n ys s₀ c fs K J gd lv s σ H D a b k d q => h.run A S ip R n ys s₀ c fs K J gd lv s σ H D a b k d (i _ _ _ _ q)⟩
theorem gs_seq (ha : PS X st (tS g (fun c dx _ H' => E c dx H') ma)) (hb : GSs X rest (tGS g E mb)) : GSs X (st :: rest) (tGS g E (mSeqG ma mb)) := gss_imp (gss_cons (gs_ps ha) hb) fun D ys σ H t => by
  obtain ⟨rfl, φ, ρ, h, s, m, o⟩ := t
  refine ⟨φ, ρ, h, s, m, ?_⟩
  unfold mSeqG at o
  cases hr : ma ρ h with
  | nx ρ1 h1 =>
    rw [hr] at o
    exact fun φ1 σ1 H1 e1 s1 m1 => ⟨rfl, φ1, ρ1, h1, s1, m1, o.base e1⟩
  | exc ρ1 x h1 =>
    rw [hr] at o
    exact fun φ1 σ1 c dx H1 e1 _ r1 m1 => o φ1 c dx H1 e1 r1 m1
  | _ => rw [hr] at o; exact o.elim
theorem gs_last (ha : PE X e (tE g (fun c dx _ H' => E c dx H') me)) (hc : X.A.handled = none) (hi : interactive X.env = false := by rfl) : GSs X [.Expr (.YieldFrom e yp) pos] (tGS g E (mYF me)) := gss_imp (gss_cons (gs_yieldFrom (yf_lst ha) hc hi) gss_nil) fun D ys σ H t => by
  obtain ⟨rfl, φ, ρ, h, s, m, o⟩ := t
  unfold mYF at o
  show tE g (fun c dx _ H' => E c dx H') me σ H _
  refine ⟨φ, ρ, h, s, m, ?_⟩
  cases hr : me ρ h with
  | bad => rw [hr] at o; exact o.elim
  | exc x h1 => rw [hr] at o; exact fun φ1 c dx H1 e1 r1 m1 => o φ1 c dx H1 e1 r1 m1
  | ok d h1 =>
    rw [hr] at o
    intro φ1 v H1 e1 r1 m1
    cases d with
    | lst l =>
      have o' : OutY g E φ H (fun xs H1 => ∀ σ1, D.nx xs σ1 H1) (if l.length ≤ 16777216 then .rt (.lst l) h1 else .bad) := o
      split at o'
      · rename_i hl
        cases r1 with
        | lst q r => exact ⟨_, _, rfl, q.1, by rw [List.length_nil, Nat.zero_add, r.length]; exact line_of_le hl, by rw [List.nil_append]; exact o' φ1 _ H1 e1 r m1 σ⟩
      · exact o'.elim
    | _ => exact o.elim
end
/-! ### the def -/
def outF : R D → F
  | .ok d h => .rt d h
  | .exc e h => .exc [] e h
  | .bad => .bad
def spG (g : Gm) (np : Nat) (m : FnM) : SpG := fun vs H Q E => vs.length = np ∧ ∃ φ ds h, Reps g.r φ H vs ds ∧ Hok g φ H h ∧ OutY g E φ H Q (outF (m ds h))
structure Gn (P : Program) (w : World) (K : PySem.W.Frag) (mg : Str → Option Value) (base : Heap) (g : Gm) (k : Nat) (x : Str) (np : Nat) (m : FnM) : Prop where
  ex : ∃ (f : Addr) (fd : FuncData) (ps : List Str), mg x = some (.ref f) ∧ PySem.W.keepIn K (.ref f) = true ∧ Binds K fd ps [] ∧ GFn P w K mg base k f fd ps (spG g np m)
section
variable {g : Gm} {P : Program} {w : World} {mg : Str → Option Value} {base : Heap}
theorem gn_mk {x : Str} {st : Stmt} {N ps : List Str} {k np : Nat} {b : MS} (A : At g.r.K mg x st ps) (S : GScope N ps (defScope st)) (hnp : ps.length = np)
    (hb : ∀ (f : Addr) (cdv : Value) (A : Around) (outer : List Env) (s : Shared) (H : Hp) (E : XK) (pn : List (Addr × Obj)), Room k (A.deeper (envOfC x (defScope st) s.heap.objs.size f cdv)) →
      Takes (gcxOf P w g.r.K mg base N x (defScope st) f cdv A outer s H E pn) (fun c dx _ H' => E c dx H') →
      PassesOwn (model P w) (gcxOf P w g.r.K mg base N x (defScope st) f cdv A outer s H E pn).A (gcxOf P w g.r.K mg base N x (defScope st) f cdv A outer s H E pn).env (gcxOf P w g.r.K mg base N x (defScope st) f cdv A outer s H E pn).xe →
      GSs (gcxOf P w g.r.K mg base N x (defScope st) f cdv A outer s H E pn) (defBody st) (tGS g E b)) :
    Gn P w g.r.K mg base g (k + 1) x np (mFn np N.length b) := by
  obtain ⟨f, fd, h1, F, B⟩ := A.ex
  refine ⟨f, fd, ps, h1, F.kp, B, ?_⟩
  obtain ⟨oc, od, kV, doc, pm, an, cdv, ct, osl, rfl, lk, hcd⟩ := F.ex
  refine gfn_of lk hcd S (fun vs H Q E h => by rw [hnp]; exact h.1) fun A outer s H vs Q E pn hr hsp => ⟨_, hb f cdv A outer s H E pn hr takes_gcx owns_gcx, rfl, ?_⟩
  obtain ⟨hl, φ, ds, h, r, m, o⟩ := hsp
  have hd : ds.length = np := by rw [← r.length]; exact hl
  refine ⟨φ, startM N.length ds, h, Slots.start r, m, ?_⟩
  unfold mFn at o
  rw [if_pos hd] at o
  cases hr : b (startM N.length ds) h with
  | rt d h1 =>
    rw [hr] at o
    cases d with
    | lst l => exact fun φ1 xs H1 e1 r1 m1 σ1 => o φ1 xs H1 e1 r1 m1
    | _ => exact o.elim
  | exc ρ x h1 => rw [hr] at o; exact o
  | _ => rw [hr] at o; exact o.elim
end
/-! ### list(f(..)) -/
/-- ok: which exceptions may leave -/
def mListG (ok : Nat → Bool) (np : Nat) (m : FnM) (mas : MA) : ME := fun ρ h => (mas ρ h).bind fun ys h1 => if ys.length = np then (match m ys h1 with
  | .ok (.lst l) h2 => .ok (.lst l) h2
  | .exc e h2 => if ok e.cls = true then .exc e h2 else .bad
  | _ => .bad) else .bad
section
variable {g : Gm} {W : WX} {X : Cx} {e : Expr} {es : List Expr} {p p2 pos pos' : Pos} {x : Str} {mas : MA} {k np : Nat} {m : FnM} {ok : Nat → Bool}
theorem s_listG (F : Gn X.prog X.w X.K X.mg X.base g k x np m) (E : XK) (tk : Takes X W) (hE : ∀ c dx H σ, E c dx H → W c dx σ H) (hok : ∀ e φ H c dx σ, ok e.cls = true → ExRep g φ H c dx e → W c dx σ H → E c dx H) (hns : NoStop X.K E)
    (hr : Room (k + 3) X.A) (hl : X.mg "list" = none) (ha : PA X (e :: es) (tA g W mas)) (hg : Gl X x := by rfl) (hg2 : Gl X "list" := by rfl) (hdb : (x == ("__debug__" : Str)) = false := by decide)
    (he : starEach (e :: es) X.env = (false, eval e X.env) :: starEach es X.env := by rfl) (hpl : (backTo pos' (starEach es X.env)).any (·.1) = false := by rfl)
    (he2 : starEach [.Call (.Name x p2) (e :: es) [] pos'] X.env = (false, eval (.Call (.Name x p2) (e :: es) [] pos') X.env) :: starEach [] X.env := by rfl) :
    PE X (.Call (.Name "list" p) [.Call (.Name x p2) (e :: es) [] pos'] [] pos) (tE g W (mListG ok np m mas)) := by
  obtain ⟨f, fd, ps, h1, h2, h3, h4⟩ := F.ex
  refine pe_imp (pe_listG (pgen_call h4 (hr.mono (Nat.le_add_right _ _)) hg h1 h2 h3 .nil ha hdb he hpl) (fun pins σ H s u s' I c => tk u s' (XE.of_call I (fun c dx H h => hE c dx H σ h) c)) hns hr hg2 hl boot_list (he := he2)) fun σ H Q t => ?_
  obtain ⟨φ, ρ, h, s, mm, o⟩ := t
  show tA g W mas σ H _
  refine ⟨φ, ρ, h, s, mm, Out.next o fun ys h1 φ1 vs H1 e1 r1 m1 o1 => ?_⟩
  split at o1
  · rename_i hy
    refine ⟨by rw [List.append_nil, r1.length]; exact hy, φ1, ys, h1, by rw [List.append_nil]; exact r1, m1, ?_⟩
    cases hm : m ys h1 with
    | bad => rw [hm] at o1; exact o1.elim
    | exc x h2 =>
      rw [hm] at o1
      intro φ2 c dx H2 e2 r2 m2
      dsimp only at o1
      split at o1
      · rename_i hk
        exact hok x φ2 H2 c dx σ hk r2 (o1 φ2 c dx H2 e2 r2 m2)
      · exact o1.elim
    | ok d h2 =>
      rw [hm] at o1
      cases d with
      | lst l => exact fun φ2 xs H2 e2 r2 m2 q hq => o1 φ2 _ _ (e2.trans (Ext.new hq (m2.notin hq))) (.lst ⟨upd_same, m2.notin hq⟩ (r2.ext (Ext.new hq (m2.notin hq)))) (m2.new hq)
      | _ => exact o1.elim
  · exact o1.elim
end
end MI
/-! a def that a suite hands its exception to, and that asks isinstance of it; raise of an own class with a text that is reckoned -/
namespace MI
open PySem PySem.Spec
open PyProof.Rows L2
/-- the exception's own dict stands -/
def dictSt (d : Option Addr) (φ : Ph) (H : Hp) : Prop := ∀ dd, d = some dd → ∃ fs, H dd = some (.xd fs) ∧ ¬ φ.has dd
def gD (g : Gm) (d : Option Addr) : Gm := { g with iv := fun φ H => g.iv φ H ∧ dictSt d φ H, ivm := fun φ H φ' H' t i => ⟨g.ivm φ H φ' H' t i.1, fun dd e => by
  obtain ⟨fs, q, n⟩ := i.2 dd e
  obtain ⟨q', n'⟩ := t.keep _ _ q n (.inl trivial)
  exact ⟨fs, q', n'⟩⟩ }
theorem hok_gD {g : Gm} {d : Option Addr} {φ : Ph} {H : Hp} {h : MH} (m : Hok g φ H h) (i : dictSt d φ H) : Hok (gD g d) φ H h := ⟨m.nd, m.len, m.gs, m.at_, m.atD, m.tb, m.iv, i⟩
theorem hok_dG {g : Gm} {d : Option Addr} {φ : Ph} {H : Hp} {h : MH} (m : Hok (gD g d) φ H h) : Hok g φ H h := ⟨m.nd, m.len, m.gs, m.at_, m.atD, m.tb, m.iv.1⟩
theorem bt_ValueError : bootBuiltins "ValueError" = some (.type "ValueError") := by decide +kernel
theorem bt_IndexError : bootBuiltins "IndexError" = some (.type "IndexError") := by decide +kernel
theorem bt_KeyError : bootBuiltins "KeyError" = some (.type "KeyError") := by decide +kernel
theorem bt_OverflowError : bootBuiltins "OverflowError" = some (.type "OverflowError") := by decide +kernel
theorem bt_ArithmeticError : bootBuiltins "ArithmeticError" = some (.type "ArithmeticError") := by decide +kernel
theorem bt_LookupError : bootBuiltins "LookupError" = some (.type "LookupError") := by decide +kernel
/-- what is asked of an own exception class where isinstance is asked of its instances -/
structure XkF (K : PySem.W.Frag) (C : Addr) : Prop where
  c0 : (PySem.W.clsIn K C).isSome = true
  c1 : PySem.W.findIn K (.ref C) "__getattribute__" = some (some (.builtin "BaseException.__getattribute__"))
  c2 : PySem.W.findIn K (.ref C) "__getattr__" = some none
  c3 : PySem.W.subIn K (.ref C) (.type "BaseException") = some true
  c4 : PySem.W.findIn K (.ref C) "__class__" = some (some (.builtin "object.__class__"))
  c5 : PySem.W.specialIn K (.builtin "object.__class__") "__get__" = some (some (.builtin "getset_descriptor.__get__"))
  c6 : PySem.W.takesIn K (.builtin "object.__class__") = some true
  c7 : PySem.W.mroIn K C (.type "object") = some true
/-- .. and what it answers for each of the classes us -/
structure XkC (K : PySem.W.Frag) (cv : Value) (us : List Value) (bs : List Bool) : Prop where
  ex : ∃ C, cv = .ref C ∧ XkF K C ∧ us.map (PySem.W.kitOne K (.ref C)) = bs.map some
theorem exe_mk {K : PySem.W.Frag} {mg : Str → Option Value} {h : Heap} {x : Str} {n : Nat} {C : Addr} {ex : Nat → Value} (X : K.In h) (G : h.Ns mainGlobals mg) (he : ∀ C, mg x = some (.ref C) → ex n = .ref C) (a : PySem.W.nsIn K mainGlobals x = some (some (.ref C))) : ex n = .ref C := he C (PySem.W.mg_of X G a)
theorem xkC_mk {K : PySem.W.Frag} {mg : Str → Option Value} {h : Heap} {x : Str} {n : Nat} {C : Addr} {ex : Nat → Value} {us : List Value} {bs : List Bool} (X : K.In h) (G : h.Ns mainGlobals mg) (he : ∀ C, mg x = some (.ref C) → ex n = .ref C) (a : PySem.W.nsIn K mainGlobals x = some (some (.ref C)))
    (c0 : (PySem.W.clsIn K C).isSome = true) (c1 : PySem.W.findIn K (.ref C) "__getattribute__" = some (some (.builtin "BaseException.__getattribute__"))) (c2 : PySem.W.findIn K (.ref C) "__getattr__" = some none) (c3 : PySem.W.subIn K (.ref C) (.type "BaseException") = some true)
    (c4 : PySem.W.findIn K (.ref C) "__class__" = some (some (.builtin "object.__class__"))) (c5 : PySem.W.specialIn K (.builtin "object.__class__") "__get__" = some (some (.builtin "getset_descriptor.__get__"))) (c6 : PySem.W.takesIn K (.builtin "object.__class__") = some true) (c7 : PySem.W.mroIn K C (.type "object") = some true)
    (hu : us.map (PySem.W.kitOne K (.ref C)) = bs.map some) : XkC K (ex n) us bs := ⟨C, he C (PySem.W.mg_of X G a), ⟨c0, c1, c2, c3, c4, c5, c6, c7⟩, hu⟩
/-- the context of a def that is handed p -/
def cxP (P : Program) (w : World) (K : PySem.W.Frag) (mg : Str → Option Value) (base : Heap) (N : List Str) (q : Str) (sc : Scope) (f : Addr) (cd : Value) (A : Around) (outer : List Env) (s : Shared) (H : Hp) (p : Addr × Obj) : Cx :=
  L2H.cxH C8.CX0 P w K mg base N q sc f cd A outer s H C8.E0 p
def mIsX (a : Addr) (i : Nat) (b : Bool) : ME := fun ρ h => match ρ[i]? with
  | some (some (.adr x)) => if x = a then .ok (.bl b) h else .bad
  | _ => .bad
section
variable {g : Gm} {X : Cx} {W : WX} {p : Addr × Obj} {cv : Value} {d : Option Addr} {us : List Value} {bs : List Bool} {i k : Nat} {n cn : Str} {q q1 q2 : Pos} {b : Bool}
/-- isinstance(e, u), e the pinned one -/
def rIsP (a : Addr) (d : Option Addr) (c : V) (b : Bool) : List V → Hp → VK → Prop := fun xs H Q => xs = [.ref a, c] ∧ (∀ dd, d = some dd → ∃ fs, H dd = some (.xd fs)) ∧ Q (.bl b) H
theorem call_isP {c : V} {u : Value} (T : XkC X.K cv us bs) (hp : p ∈ X.pn) (hz : Zc cv d p.2) (hf : ∃ vs, p.2.data = .fields vs) (rc : ∀ w, RelV c w → w = u) (hk : us[k]? = some u) (hb : bs[k]? = some b) : CallR X (.builtin "isinstance") (rIsP p.1 d c b) := by
  intro pins s σ H xs vs Q I r h
  obtain ⟨rfl, hd, z⟩ := h
  obtain ⟨u1, u2, rfl, r1, r2⟩ := r.two
  cases (show u1 = Value.ref p.1 from r1)
  cases rc _ r2
  obtain ⟨C, rfl, F, e⟩ := T.ex
  obtain ⟨fs, hfs⟩ := hf
  have ek : PySem.W.kitOne X.K (.ref C) u = some b := by
    have e1 := congrArg (fun l => l[k]?) e
    simp only [List.getElem?_map, hk, hb, Option.map_some] at e1
    exact Option.some.inj e1
  have pin := (I.pin p (List.mem_append_left _ hp)).1
  have J : ∃ od, PySem.W.InstAt s.heap p.1 p.2 C od := by
    have no : PySem.W.notCls p.2 = true := by unfold PySem.W.notCls; rw [hfs]
    cases hdd : d with
    | none => exact ⟨none, pin, hz.1, no, by rw [hz.2, hdd]; trivial⟩
    | some dd =>
      obtain ⟨l, el⟩ := hd dd hdd
      have ok : ObjOk X.prog X.w H s.heap dd (.xd l) := I.hok dd _ el
      obtain ⟨mA, hns, _⟩ := ok
      obtain ⟨o, es, ep, ho, _⟩ := hns
      exact ⟨some o, pin, hz.1, no, by rw [hz.2, hdd]; exact ho⟩
  obtain ⟨od, J⟩ := J
  exact PySem.W.kia_one (PySem.W.kitx_exc F.c0 F.c1 F.c2 F.c3 F.c4 F.c5 F.c6 F.c7) I.kIn J ek (fun z => nomatch z) fun tk => ⟨.bl b, H, I.tok _, rfl, z⟩
theorem o_isX {e2 : Expr} {c : V} {u : Value} (T : XkC X.K cv us bs) (hp : p ∈ X.pn) (hz : Zc cv d p.2) (hf : ∃ vs, p.2.data = .fields vs) (rc : ∀ w, RelV c w → w = u) (hk : us[k]? = some u) (hb : bs[k]? = some b) (h2 : PE X e2 (tC c)) (hm : X.mg "isinstance" = none)
    (hN : X.N[i]? = some n) (hv : Vis X.env.scope n) (hd : (n == ("__debug__" : Str)) = false) (hcd : (n == ("__classdict__" : Str)) = false) (hg : Gl X "isinstance")
    (he : starEach [.Name n q1, e2] X.env = (false, eval (.Name n q1) X.env) :: (false, eval e2 X.env) :: []) (hpl : (backTo q (starEach [e2] X.env)).any (·.1) = false) (hs2 : starEach [e2] X.env = (false, eval e2 X.env) :: []) :
    PE X (.Call (.Name "isinstance" q2) [.Name n q1, e2] [] q) (tE (gD g d) W (mIsX p.1 i b)) := by
  refine pe_imp (pe_callB (call_isP T hp hz hf rc hk hb) hg hm bt_isinstance (pa_cons (pe_var hN hv hd hcd) (pa_cons h2 pa_nil hs2) (by rw [he, hs2])) (by decide) (by decide) (by rw [he, hs2]) hpl) fun σ H Q t => ?_
  obtain ⟨φ, ρ, h, s, m, o⟩ := t
  unfold mIsX at o
  split at o
  · rename_i x hx
    split at o
    · rename_i ex
      subst ex
      obtain ⟨v, e1, r1⟩ := s.2 i _ hx
      have ev : v = .ref p.1 := by cases r1; rfl
      subst ev
      refine ⟨.ref p.1, e1, rfl, fun dd e => ?_, o φ _ H Ext.refl (.bl _) m⟩
      obtain ⟨fs, q, _⟩ := m.iv.2 dd e
      exact ⟨fs, q⟩
    · exact o.elim
  · exact o.elim
/-- the second one an own class -/
theorem s_isXo {us2 : List Value} {bs2 : List Bool} (k : Nat) (T : XkC X.K cv us bs) (T2 : XkC X.K (g.ex k) us2 bs2) (hu : us[k]? = some (g.ex k)) (hb : bs[k]? = some b) {a : Addr} {oe : Obj} (hp : (a, oe) ∈ X.pn) (hz : Zc cv d oe) (hf : ∃ vs, oe.data = .fields vs) (nm : X.mg cn = some (g.ex k)) (hm : X.mg "isinstance" = none)
    (hN : X.N[i]? = some n := by rfl) (hv : Vis X.env.scope n := by first | exact Or.inl rfl | exact Or.inr (Or.inl rfl)) (hd : (n == ("__debug__" : Str)) = false := by decide) (hcd : (n == ("__classdict__" : Str)) = false := by decide) (hg : Gl X "isinstance" := by rfl) (hg2 : Gl X cn := by rfl)
    (hd2 : (cn == ("__debug__" : Str)) = false := by decide) (he : starEach [.Name n q1, .Name cn q] X.env = (false, eval (.Name n q1) X.env) :: (false, eval (.Name cn q) X.env) :: [] := by rfl) {q3 : Pos} (hpl : (backTo q3 (starEach [.Name cn q] X.env)).any (·.1) = false := by rfl) (hs2 : starEach [.Name cn q] X.env = (false, eval (.Name cn q) X.env) :: [] := by rfl) :
    PE X (.Call (.Name "isinstance" q2) [.Name n q1, .Name cn q] [] q3) (tE (gD g d) W (mIsX a i b)) := by
  obtain ⟨D, eD, _⟩ := T2.ex
  rw [eD] at nm hu
  exact o_isX (p := (a, oe)) (c := .ref D) T hp hz hf (fun w z => z) hu hb (pe_glob hg2 nm rfl hd2) hm hN hv hd hcd hg he hpl hs2
/-- .. a built-in class -/
theorem s_isXt {t : String} (k : Nat) (T : XkC X.K cv us bs) (hu : us[k]? = some (.type t)) (hb : bs[k]? = some b) {a : Addr} {oe : Obj} (hp : (a, oe) ∈ X.pn) (hz : Zc cv d oe) (hf : ∃ vs, oe.data = .fields vs) (nm : X.mg cn = none) (bt : bootBuiltins cn = some (.type t)) (hm : X.mg "isinstance" = none) (hnn : cn ≠ "__name__" := by decide)
    (hN : X.N[i]? = some n := by rfl) (hv : Vis X.env.scope n := by first | exact Or.inl rfl | exact Or.inr (Or.inl rfl)) (hd : (n == ("__debug__" : Str)) = false := by decide) (hcd : (n == ("__classdict__" : Str)) = false := by decide) (hg : Gl X "isinstance" := by rfl) (hg2 : Gl X cn := by rfl)
    (hd2 : (cn == ("__debug__" : Str)) = false := by decide) (he : starEach [.Name n q1, .Name cn q] X.env = (false, eval (.Name n q1) X.env) :: (false, eval (.Name cn q) X.env) :: [] := by rfl) {q3 : Pos} (hpl : (backTo q3 (starEach [.Name cn q] X.env)).any (·.1) = false := by rfl) (hs2 : starEach [.Name cn q] X.env = (false, eval (.Name cn q) X.env) :: [] := by rfl) :
    PE X (.Call (.Name "isinstance" q2) [.Name n q1, .Name cn q] [] q3) (tE (gD g d) W (mIsX a i b)) :=
  o_isX (p := (a, oe)) (c := .ty t) T hp hz hf (fun w z => z) hu hb (pe_bltn hg2 nm bt rfl hnn hd2) hm hN hv hd hcd hg he hpl hs2
end
/-! the call of such a def from a suite -/
section
variable {g : Gm} {X : Cx} {a : Addr} {oe : Obj} {cv : Value} {d : Option Addr} {pn : List (Addr × Obj)} {x v n : Str} {st : Stmt} {N : List Str} {i : Nat} {b : Addr → MS} {q q1 q2 : Pos}
def tGiv (g : Gm) (a : Addr) (d : Option Addr) (i : Nat) (m : FnM) : TE := fun σ H Q => σ[i]? = some (some (.ref a)) ∧ ∃ φ h, Hok g φ H h ∧ dictSt d φ H ∧ Out (gD g d) W0 [] φ H (Rep g.r) Q (m [.adr a] h)
theorem pe_given (T : At X.K X.mg x st [v]) (S : FnScope N [v] (defScope st)) (hr : Room 2 X.A)
    (hb : ∀ (f : Addr) (cdv : Value) (s : Shared) (H : Hp), PSs (cxP X.prog X.w X.K X.mg X.base N x (defScope st) f cdv (X.suite a ((a, oe) :: pn)).A X.stack s H (a, oe)) (defBody st) (tS (gD g d) W0 (b a)))
    (hN : X.N[i]? = some n := by rfl) (hv : Vis X.env.scope n := by first | exact Or.inl rfl | exact Or.inr (Or.inl rfl)) (hd : (n == ("__debug__" : Str)) = false := by decide) (hcd : (n == ("__classdict__" : Str)) = false := by decide) (hg : Gl X x := by rfl)
    (hdb : (x == ("__debug__" : Str)) = false := by decide) (he : starEach [.Name n q1] X.env = (false, eval (.Name n q1) X.env) :: starEach [] X.env := by rfl) (hpl : (backTo q (starEach [] X.env)).any (·.1) = false := by rfl) :
    PE (X.suite a ((a, oe) :: pn)) (.Call (.Name x q2) [.Name n q1] [] q) (tGiv g a d i (mFn 1 N.length (b a))) := by
  refine ⟨fun pins s σ H Q I t => ?_⟩
  obtain ⟨es, φ, h, m, ds, o⟩ := t
  obtain ⟨f, fd, h1, F, B⟩ := T.ex
  obtain ⟨oc, od, kV, doc, pm, an, cdv, ct, osl, rfl, lk, hcd'⟩ := F.ex
  have first := (pa_cons (pe_var (X := X.suite a ((a, oe) :: pn)) (pos := q1) hN hv hd hcd) pa_nil he).run q pins s σ H (fun vs H1 => vs = [.ref a] ∧ H1 = H) I ⟨.ref a, es, rfl, rfl⟩
  refine wpAny_Call_Name_kw (ld_glob I hg h1 (PySem.W.callWith_K (h₀ := X.base) I.ok.mod.kin F.kp (thn first fun us s1 ⟨vs, H1, I1, r, ev, eh⟩ => ⟨I1.kIn, ?_⟩) he hpl) hdb)
  subst ev eh
  have pin := I1.pin (a, oe) (List.mem_append_left _ List.mem_cons_self)
  have po : L2H.PinOk X.stack H1 s1 (a, oe) := ⟨pin.1, pin.2.1, fun hm => (List.mem_cons.mp (I1.stkSub a hm)).elim pin.2.2.1 pin.2.2.2.1, pin.2.2.2.2⟩
  have e0 := I1.env0
  have KX : X.K.In s1.heap := e0.mod.kin.keeps fun b o e => (e0.bs b o e).1
  have lim : s1.heap.NoLimit := e0.mod.nolimit.keeps fun b o e => (e0.bs b o e).1
  have hl : us.length = 1 := by rw [← r.length]; rfl
  have bd := B s1 us I1.kIn (by rw [List.append_nil]; exact hl)
  rw [List.append_nil] at bd
  have kinds : ∀ y ∈ [v].zip us, (defScope st).names.lookup y.1 = some .local ∨ ((defScope st).names.lookup y.1 = some .cell ∧ ((cellsFrom (s1.heap.objs.size + 1) (defScope st).names []).lookup y.1).isSome = true) := fun ⟨nn, vv⟩ hy => by
    rcases S.par nn (List.of_mem_zip hy).1 with z | z
    · exact .inl z
    · exact .inr ⟨z, PySem.W.cellsFrom_some _ _ _ (.inl z)⟩
  have deep : (X.suite a ((a, oe) :: pn)).A.depth < recursionLimit := by
    have := hr.dp
    show X.A.depth < _
    omega
  refine wpAny_call (codeAny_call_function deep (KX _ _ lk) rfl S.co S.gen rfl (PySem.W.codeRec_of KX hcd') (bd _ _ _ _ ?_))
  refine wpAny_newFunctionEnv_cells S.kind kinds fun env he2 s2 xc => ?_
  subst he2
  refine ⟨lim.keeps xc.toInCall.keep, codeAny_func ?_⟩
  have J := L2H.inv_startH (CX := C8.CX0) (E := C8.E0) S po e0 (by rw [r.length]; exact hl) r xc
  have hsp : spM (gD g d) 1 (mFn 1 N.length (b a)) [.ref a] H1 Q C8.E0 := by
    refine ⟨rfl, φ, [.adr a], h, .cons (.adr a) .nil, hok_gD m ds, ?_⟩
    cases hmf : mFn 1 N.length (b a) [.adr a] h with
    | ok dd h2 => rw [hmf] at o; exact o
    | exc ex h2 => rw [hmf] at o; exact fun φ' c dx H' e1 r1 m1 => o φ' c dx H' e1 r1 m1
    | bad => rw [hmf] at o; exact o.elim
  refine wpAny_mono ((hb f cdv s1 H1).run [] s2 (L2.start N [.ref a]) H1 { nx := fun _ H' => Q .non H', rt := Q } J ?_) (fun fl s' hs => ?_) fun e s' hs => hs
  · have t0 := fn_start hsp
    exact t0
  have fin : ∀ {σ' : L2.St} {H' : Hp} {vv : V} {u : Value}, Inv (cxP X.prog X.w X.K X.mg X.base N x (defScope st) f cdv (X.suite a ((a, oe) :: pn)).A X.stack s1 H1 (a, oe)) [] σ' H' s' → RelV vv u → Q vv H' → CE X.stack X.prog X.w H1 s1 Q u s' :=
    fun {σ' H' vv u} J' rv z => ⟨vv, H', J'.os, J'.bare, J'.base, J'.hok, rv, z⟩
  cases fl with
  | ret u =>
    obtain ⟨vv, σ', H', J', rv, z⟩ := hs
    exact I1.after (fin J' rv z)
  | next =>
    obtain ⟨σ', H', J', z⟩ := hs
    exact I1.after (fin (vv := V.non) (u := Value.none) J' rfl z)
  | brk =>
    obtain ⟨_, _, _, z⟩ := hs
    exact False.elim z
  | cont =>
    obtain ⟨_, _, _, z⟩ := hs
    exact False.elim z
end
/-! return (flags(e), e.f); return (flags(e), None) -/
def fnFl (m : Addr → FnM) (k : Exc → MH → R D) (tab : Nat → List D) : Exc → MH → R D := fun e h => (k e h).bind fun d h1 => .ok (.tup [.lst (tab e.cls), d]) h1
end MI
/-! suites that hand their exception on; raise C(e); 'x' * n; repr of a dict of plain keys; {'a': (i, j)} -/
namespace MI
open PySem PySem.Spec
open PyProof.Rows L2
theorem dictSt_of {g : Gm} {φ : Ph} {H : Hp} {c : Value} {d : Option Addr} {e : Exc} (xr : ExRep g φ H c d e) : dictSt d φ H := fun dd ed => by
  obtain ⟨_, xr⟩ := xr
  cases hk : e.kept with
  | none => rw [hk] at xr; rw [xr] at ed; cases ed
  | some fd =>
    rw [hk] at xr
    obtain ⟨a, v, ea, q, n, _⟩ := xr
    rw [ea] at ed
    cases ed
    exact ⟨_, q, n⟩
/-- (flags(e), ..): for the first nn classes -/
def fnFlN (nn : Nat) (tab : Nat → List D) : Exc → MH → R D := fun e h => if e.cls < nn then .ok (.tup [.lst (tab e.cls), .non]) h else .bad
def fnFlF (nn : Nat) (tab : Nat → List D) (c : Nat) (f : Str) : Exc → MH → R D := fun e h => if e.cls < nn then (keptF c f e h).bind fun d h1 => .ok (.tup [.lst (tab e.cls), d]) h1 else .bad
section
variable {g : Gm} {X : Cx} {W : WX} {nn i c : Nat} {tab : Nat → List D} {M : Addr → Nat → FnM} {n x f : Str} {p p2 p3 p4 q q1 q2 q3 : Pos} {j kt : Nat}
theorem su_flN (HF : ∀ k < nn, ∀ (a : Addr) (oe : Obj) (d : Option Addr) (pn : List (Addr × Obj)), Zc (g.ex k) d oe → (∃ vs, oe.data = .fields vs) → PE (X.suite a ((a, oe) :: pn)) (.Call (.Name x q2) [.Name n q1] [] q3) (tGiv g a d i (M a k)))
    (ev : ∀ k a h, k < nn → M a k [.adr a] h = .ok (.lst (tab k)) h) (hi : X.N[i]? = some n := by rfl) (he : ∀ (a : Addr) (pn : List (Addr × Obj)), starEach [.Call (.Name x q2) [.Name n q1] [] q3, .Constant .none j p] (X.suite a pn).env = (false, eval (.Call (.Name x q2) [.Name n q1] [] q3) (X.suite a pn).env) :: starEach [.Constant .none j p] (X.suite a pn).env := by intro _ _; rfl) :
    XT.SuOk X [.Return (some (.Tuple [.Call (.Name x q2) [.Name n q1] [] q3, .Constant .none j p] kt p2)) q] (suM g (some i) (fnFlN nn tab)) := fun a oe cls d pn hz hf => ⟨fun pins s σ H E I t => by
  obtain ⟨φ, h, e, m, xr, hsl, oo⟩ := t
  unfold fnFlN at oo
  split at oo
  · rename_i hc
    have e1 := xr.1
    subst e1
    refine (pss_one (ps_ret (pe_tup (pa_cons (HF e.cls hc a oe d pn hz hf) (pa_cons pe_non pa_nil (by rfl)) (he a _))))).run pins s σ H E I ?_
    refine ⟨hsl i rfl (by rw [I.len]; exact (List.getElem?_eq_some_iff.mp hi).1), φ, h, m, dictSt_of xr, ?_⟩
    rw [ev _ _ _ hc]
    intro φ1 v1 H1 x1 r1 m1
    refine ⟨by rw [sizeLine_eq]; show 2 ≤ _; omega, fun l hl => ?_⟩
    exact new_tup (g := g) (W := W0) (σ := []) (hok_dG m1) hl (.cons r1 (.cons .non .nil)) (Out.base x1 oo)
  · exact oo.elim⟩
theorem su_flF (HF : ∀ k < nn, ∀ (a : Addr) (oe : Obj) (d : Option Addr) (pn : List (Addr × Obj)), Zc (g.ex k) d oe → (∃ vs, oe.data = .fields vs) → PE (X.suite a ((a, oe) :: pn)) (.Call (.Name x q2) [.Name n q1] [] q3) (tGiv g a d i (M a k)))
    (ev : ∀ k a h, k < nn → M a k [.adr a] h = .ok (.lst (tab k)) h) (T : XfT X.K g.ex c f) (hi : X.N[i]? = some n := by rfl) (hv : Vis X.env.scope n := by first | exact Or.inl rfl | exact Or.inr (Or.inl rfl)) (hd : (n == ("__debug__" : Str)) = false := by decide) (hcd : (n == ("__classdict__" : Str)) = false := by decide)
    (he : ∀ (a : Addr) (pn : List (Addr × Obj)), starEach [.Call (.Name x q2) [.Name n q1] [] q3, .Attribute (.Name n p3) f p4] (X.suite a pn).env = (false, eval (.Call (.Name x q2) [.Name n q1] [] q3) (X.suite a pn).env) :: starEach [.Attribute (.Name n p3) f p4] (X.suite a pn).env := by intro _ _; rfl) :
    XT.SuOk X [.Return (some (.Tuple [.Call (.Name x q2) [.Name n q1] [] q3, .Attribute (.Name n p3) f p4] kt p2)) q] (suM g (some i) (fnFlF nn tab c f)) := fun a oe cls d pn hz hf => ⟨fun pins s σ H E I t => by
  obtain ⟨φ, h, e, m, xr, hsl, oo⟩ := t
  obtain ⟨C, eC, xc, hno⟩ := T.ex
  unfold fnFlF at oo
  split at oo
  · rename_i hc
    have ds := dictSt_of xr
    have xr0 := xr
    have e0 := xr.1
    obtain ⟨dd, v, dv, e1, e2, hq, rv, oo⟩ := kept_at eC xr oo
    have ndd : ¬ φ.has dd := by
      obtain ⟨fs, _, n⟩ := ds dd e2
      exact n
    refine (pss_one (ps_ret (pe_tup (pa_cons (HF e.cls hc a oe d pn (by rw [← e0]; exact hz) hf) (pa_cons (pe_xf xc hno hz hf (pe_var hi hv hd hcd) (by rfl)) pa_nil (by rfl)) (he a _))))).run pins s σ H E I ?_
    have sl := hsl i rfl (by rw [I.len]; exact (List.getElem?_eq_some_iff.mp hi).1)
    refine ⟨sl, φ, h, m, ds, ?_⟩
    rw [ev _ _ _ hc]
    intro φ1 v1 H1 x1 r1 m1
    obtain ⟨hq1, n1⟩ := x1.tr.keep _ _ hq ndd (.inl trivial)
    refine ⟨.ref a, sl, rfl, e1, dd, [(f, v)], v, e2, hq1, look_one, by rw [sizeLine_eq]; show 2 ≤ _; omega, fun l hl => ?_⟩
    exact new_tup (g := g) (W := W0) (σ := []) (hok_dG m1) hl (.cons r1 (.cons (rv.ext x1) .nil)) (Out.base x1 oo)
  · exact oo.elim⟩
/-! raise C(e) -/
def mRaise1 (c : Nat) (m : ME) : MS := fun ρ h => (m ρ h).toF ρ fun _ h1 => .exc ρ ⟨c, none⟩ h1
theorem s_raise1 {k : Nat} {a : Expr} {ma : ME} {pos pos2 : Pos} (R : RsT X.K g.ex X.mg x k) (hc : X.calm = true) (tk : Takes X W) (ha : PE X a (tE g W ma)) (hg : Gl X x := by rfl) (hdb : (x == ("__debug__" : Str)) = false := by decide) (hs : starEach [a] X.env = (false, eval a X.env) :: starEach [] X.env := by rfl) :
    PS X (.Raise (some (.Call (.Name x p) [a] [] pos)) none pos2) (tS g W (mRaise1 k ma)) := by
  obtain ⟨C, B, newId, initId, bmB, e1, F, q, gC, kC, sC, tC⟩ := R.ex
  refine ps_imp (ps_raise hc tk (SkE.pmk_own1 F q gC kC (raises_own sC tC) hg ha hs hdb)) fun E σ H t => ?_
  obtain ⟨φ, ρ, h, s, mm, o⟩ := t
  exact ⟨φ, ρ, h, s, mm, OutS.expr s o fun d h1 φ1 v H1 x1 r1 m1 o1 => o1 φ1 σ _ none H1 Ext.refl (s.ext x1) ⟨e1.symm, rfl⟩ m1⟩
end
/-! 'x' * n -/
def mulOkB (x : Str) (n : Int) : Bool := decide (0 ≤ n) && decide (n ≤ 1048576) && decide (x.length ≤ 16)
def vMulS (d e : D) (h : MH) : R D := match d, e with
  | .str x, .int n => if mulOkB x n = true then .ok (.str (Txt.mul x n)) h else .bad
  | _, _ => .bad
theorem mulOkB_ok {x : Str} {n : Int} (h : mulOkB x n = true) : MulOk x n := by
  unfold mulOkB at h
  rw [Bool.and_eq_true, Bool.and_eq_true] at h
  have h1 := of_decide_eq_true h.1.1
  have h2 := of_decide_eq_true h.1.2
  have h3 := of_decide_eq_true h.2
  refine ⟨by rw [Bool.or_eq_false_iff]; exact ⟨decide_eq_false (by omega), decide_eq_false (by omega)⟩, fun a b c => ?_, fun a b => ?_⟩
  · have : (2 ^ 63 - 1 : Int) / n ≥ 16 := by
      rw [ge_iff_le, Int.le_ediv_iff_mul_le (by omega)]
      omega
    omega
  · unfold Builtin.Str.tooLong
    refine decide_eq_false ?_
    have hm : x.length * n.toNat ≤ 16 * 1048576 := Nat.mul_le_mul h3 (by omega)
    have hs : sizeLine = 16777216 := sizeLine_eq
    omega
def rMulS : R2 := fun x y H Q => ∃ a n, x = .str a ∧ y = .int n ∧ MulOk a n ∧ Q (.str (Txt.mul a n)) H
section
variable {g : Gm} {W : WX} {X : Cx} {a b e : Expr} {es : List Expr} {ma mb : ME} {mas : MA} {p pos : Pos}
theorem op_mulS : OpR X (binaryOp .Mult) rMulS := by
  intro pins s σ H x y v u Q I rx ry h
  obtain ⟨z, n, rfl, rfl, ok, q⟩ := h
  obtain ⟨t, rfl⟩ := (show ∃ t, v = Value.str z t from rx)
  obtain ⟨t2, rfl⟩ := (show ∃ t, u = Value.int n t from ry)
  exact SB.mul ok fun t' k => ⟨.str _, H, I.tok _, ⟨_, rfl⟩, q⟩
theorem mulS_o : Op2 g rMulS vMulS := by
  intro W σ φ H h x y d e Q rx ry m o
  unfold vMulS at o
  split at o
  · rename_i z n
    split at o
    · rename_i hc
      cases rx
      cases ry
      exact ⟨z, n, rfl, rfl, mulOkB_ok hc, o φ _ H Ext.refl (.str _) m⟩
    · exact o.elim
  · exact o.elim
theorem s_mulS (ha : PE X a (tE g W ma)) (hb : PE X b (tE g W mb)) : PE X (.BinOp a .Mult b pos) (tE g W (mBin vMulS ma mb)) := se_bin op_mulS mulS_o ha hb
/-! {'z': (i, j)} -/
theorem s_dictST {z : Str} {i j : Int} {k1 k2 k3 k4 : Nat} {p1 p2 p3 p4 : Pos} : PE X (.Dict [some (.Constant (.str z) k1 p1)] [.Tuple [.Constant (.int i) k2 p2, .Constant (.int j) k3 p3] k4 p4] pos) (tE g W (mC (.dic [.str z] [.tup [.int i, .int j]]))) :=
  pe_imp (pe_disp (pps_cons pe_str (pe_tup (pa_cons pe_int (pa_cons pe_int pa_nil (by rfl)) (by rfl))) pps_nil) rfl rfl (by simp) (by simp)) fun σ H Q t => by
    obtain ⟨φ, ρ, h, s, m, o⟩ := t
    intro d hd
    refine ⟨by rw [sizeLine_eq]; show 2 ≤ _; omega, fun t ht => ?_⟩
    have ntd : t ≠ d := fun z => by rw [z, upd_same] at ht; cases ht
    have ht0 : H t = none := by rw [upd_ne ntd] at ht; exact ht
    refine ⟨by rw [upd_ne (Ne.symm ntd), upd_same], [(Sum.inr z, .ref t)], rfl, by simp, ?_⟩
    have e : upd (upd (upd H d (.dK [])) t (.tup [.int i, .int j])) d (.dK (mergeK [] [(Sum.inr z, V.ref t)])) = upd (upd H t (.tup [.int i, .int j])) d (.dK [(Sum.inr z, V.ref t)]) := by
      funext b
      by_cases hb : b = d
      · subst hb; rw [upd_same, upd_same]; rfl
      · rw [upd_ne hb, upd_ne hb]
        by_cases ht : b = t
        · subst ht; rw [upd_same, upd_same]
        · rw [upd_ne ht, upd_ne ht, upd_ne hb]
    rw [e]
    have hd1 : upd H t (.tup [.int i, .int j]) d = none := by rw [upd_ne (Ne.symm ntd)]; exact hd
    have m1 := m.new (o := .tup [.int i, .int j]) ht0
    have x1 : Ext φ H φ (upd H t (.tup [.int i, .int j])) := Ext.new ht0 (m.notin ht0)
    have x2 : Ext φ (upd H t (.tup [.int i, .int j])) φ (upd (upd H t (.tup [.int i, .int j])) d (.dK [(Sum.inr z, V.ref t)])) := Ext.new hd1 (m1.notin hd1)
    have rt : Rep g.r φ (upd H t (.tup [.int i, .int j])) (.ref t) (.tup [.int i, .int j]) := .tup ⟨upd_same, m.notin ht0⟩ (.cons (.int i) (.cons (.int j) .nil))
    exact o φ _ _ (x1.trans x2) (.dic (kvs := [(Sum.inr z, V.ref t)]) (.inl upd_same) (m1.notin hd1) rfl (.cons (rt.ext x2) .nil)) (m1.new hd1)
/-! repr of a dict of plain keys whose values are told without lists -/
mutual
def PyData.flt : PyData → Bool
  | .list _ => false
  | .dict _ => false
  | .tuple l => PyData.flts l
  | _ => true
def PyData.flts : List PyData → Bool
  | [] => true
  | d :: r => PyData.flt d && PyData.flts r
end
mutual
theorem reads_flt {h : Heap} : ∀ {u : Value} {d : PyData} {as : List Addr}, Reads h u d as → PyData.flt d = true → as = []
  | _, _, _, .none, _ => rfl
  | _, _, _, .bool _, _ => rfl
  | _, _, _, .int _ _, _ => rfl
  | _, _, _, .str _ _, _ => rfl
  | _, _, _, .list _ _ _ _, z => by simp [PyData.flt] at z
  | _, _, _, .tuple _ _ _ r, z => readsAll_flt r (by simpa [PyData.flt] using z)
  | _, _, _, .dict _ _ _ _ _, z => by simp [PyData.flt] at z
theorem readsAll_flt {h : Heap} : ∀ {us : List Value} {ds : List PyData} {as : List Addr}, ReadsAll h us ds as → PyData.flts ds = true → as = []
  | _, _, _, .nil, _ => rfl
  | _, _, _, .cons r rr, z => by
    rw [PyData.flts, Bool.and_eq_true] at z
    rw [reads_flt r z.1, readsAll_flt rr z.2]
    rfl
end
def keyPy : Key → PyData
  | .inl i => .int i
  | .inr s => .str s
def rReprK (K : PySem.W.Frag) : List V → Hp → VK → Prop := fun xs H Q => ∃ (a : Addr) (kvs : List (Key × V)) (ds : List PyData), xs = [.ref a] ∧ Rd H a (.dK kvs) ∧ DpAll K H (kvs.map (·.2)) ds ∧ PyData.flts ds = true ∧ (PyData.dict ((kvs.map fun p => keyPy p.1).zip ds)).showable = true ∧
  (PyData.dict ((kvs.map fun p => keyPy p.1).zip ds)).shown.length ≤ sizeLine ∧ (PyData.dict ((kvs.map fun p => keyPy p.1).zip ds)).depth ≤ 60 ∧ Q (.str (PyData.dict ((kvs.map fun p => keyPy p.1).zip ds)).shown) H
theorem keys_reads {P : Program} {w : World} {h : Heap} : ∀ {es : List DictEntry} {kvs : List (Key × V)} {vs : List (Key × Value)}, KV kvs vs → Pairs (mixKind P w) es vs → ReadsAll h (es.map (·.key)) (kvs.map fun p => keyPy p.1) []
  | _, [], _, .nil, q => by
    cases q
    exact .nil
  | _, (k, v) :: kvs, _, .cons (b := (k', u)) e r, q => by
    cases q with
    | cons q1 qv qq =>
      rename_i en es
      have hk : Reads h en.key (keyPy k) [] := by
        have e1 : k = k' := e.1
        subst e1
        rcases keyIs_shape (show keyIs k en.key = true from q1) with ⟨i, t, ek, eu⟩ | ⟨x, t, ek, eu⟩
        · rw [eu]; subst ek; exact .int i t
        · rw [eu]; subst ek; exact .str x t
      exact .cons hk (keys_reads r qq)
theorem vals_read {P : Program} {w : World} : ∀ {es : List DictEntry} {kvs : List (Key × V)} {vs : List (Key × Value)}, KV kvs vs → Pairs (mixKind P w) es vs → Vals (kvs.map (·.2)) (es.map (·.val))
  | _, [], _, .nil, q => by
    cases q
    exact .nil
  | _, (k, v) :: kvs, _, .cons (b := (k', u)) e r, q => by
    cases q with
    | cons q1 qv qq =>
      exact .cons (by show L2.RelV v (DictEntry.val _); rw [qv]; exact e.2) (vals_read r qq)
theorem call_reprK (hg : X.A.guards = some []) (hu : X.A.units + 65 < cLine) : CallR X (.builtin "repr") (rReprK X.K) := by
  intro pins s σ H xs us Q I r h
  obtain ⟨a, kvs, ds, rfl, hr, hd, hf, hs, hz, hp, q⟩ := h
  obtain ⟨u, rfl, rx⟩ := vals1 r
  cases (show u = Value.ref a from rx)
  obtain ⟨_, nm, vs, kv, hdo⟩ := dk_rd I.hok hr
  obtain ⟨o, es, ep, ho, hx, hdat, _, hpr, _⟩ := hdo
  have k1 := keys_reads (h := s.heap) kv hpr
  obtain ⟨bs, k2⟩ := Dp.readsAll I ds _ _ hd (vals_read kv hpr)
  have eb := readsAll_flt k2 hf
  subst eb
  have ln : (kvs.map fun p => keyPy p.1).length = ds.length := by
    have l1 : ∀ {xs : List V} {ds : List PyData}, DpAll X.K H xs ds → xs.length = ds.length := fun {xs ds} z => by
      clear k2 hp hz hs hf hd q
      induction ds generalizing xs with
      | nil => cases z; rfl
      | cons d ds ih => cases z with
        | cons _ z => simp [ih z]
    have := l1 hd
    simpa using this
  have rd : Reads s.heap (.ref a) (.dict ((kvs.map fun p => keyPy p.1).zip ds)) (a :: [] ++ []) := Reads.dict ho hx.1 hdat (by rw [List.map_fst_zip (by omega)]; exact k1) (by rw [List.map_snd_zip (by omega)]; exact k2)
  have na : a ≠ sysModules := fun z => by rw [z] at nm; simp at nm
  exact repr_of_reads' rd hs (fun _ z => na (by simp at z; exact z.symm)) hg (by omega) (fun _ _ e => e) (fun h' u tk k => ⟨.str _, H, I.kept k, ⟨_, rfl⟩, q⟩) hz
/-- repr of data that may be a dict -/
def keyOfD : D → Option Key
  | .int i => some (.inl i)
  | .str s => some (.inr s)
  | _ => none
def keysOfD : List D → Option (List Key)
  | [] => some []
  | d :: r => (keyOfD d).bind fun k => (keysOfD r).bind fun l => some (k :: l)
def vReprX (d : D) (h : MH) : R D := match d with
  | .dic ks vs => (match keysOfD ks, pyAll (pyOf h) vs with
    | some kl, some ds => if (PyData.flts ds && !kl.isEmpty && (PyData.dict ((kl.map keyPy).zip ds)).showable && small (PyData.dict ((kl.map keyPy).zip ds)).shown.length && decide ((PyData.dict ((kl.map keyPy).zip ds)).depth ≤ 60)) = true then .ok (.str (PyData.dict ((kl.map keyPy).zip ds)).shown) h else .bad
    | _, _ => .bad)
  | d => vReprD d h
def rReprX (K : PySem.W.Frag) : List V → Hp → VK → Prop := fun xs H Q => rReprD K xs H Q ∨ rReprK K xs H Q
theorem keyD_of {d : D} {k : Key} (e : keyOfD d = some k) : d = keyD k := by
  cases d <;> simp [keyOfD] at e <;> (subst e; rfl)
theorem keyD_inj {a b : Key} (e : keyD a = keyD b) : a = b := by
  cases a <;> cases b <;> simp [keyD] at e <;> (subst e; rfl)
theorem keysOfD_eq : ∀ {ks : List D} {kl : List Key}, keysOfD ks = some kl → ks = kl.map keyD
  | [], kl, e => by cases e; rfl
  | d :: r, kl, e => by
    unfold keysOfD at e
    cases h1 : keyOfD d with
    | none => rw [h1] at e; cases e
    | some k =>
      cases h2 : keysOfD r with
      | none => rw [h1, h2] at e; cases e
      | some l =>
        rw [h1, h2] at e
        cases e
        rw [List.map_cons, ← keyD_of h1, keysOfD_eq h2]
theorem map_keyD_inj : ∀ {a b : List Key}, a.map keyD = b.map keyD → a = b
  | [], [], _ => rfl
  | [], _ :: _, e => by simp at e
  | _ :: _, [], e => by simp at e
  | x :: a, y :: b, e => by
    rw [List.map_cons, List.map_cons] at e
    injection e with e1 e2
    rw [keyD_inj e1, map_keyD_inj e2]
theorem reprX_o (hk : g.r.K = X.K) : Op1 g (fun x H Q => rReprX X.K [x] H Q) vReprX := by
  intro W σ φ H h x d Q rx m o
  by_cases hd : ∃ ks vs, d = .dic ks vs
  · obtain ⟨ks, vs, rfl⟩ := hd
    have o : Out g W σ φ H (Rep g.r) Q (match keysOfD ks, pyAll (pyOf h) vs with
      | some kl, some ds => if (PyData.flts ds && !kl.isEmpty && (PyData.dict ((kl.map keyPy).zip ds)).showable && small (PyData.dict ((kl.map keyPy).zip ds)).shown.length && decide ((PyData.dict ((kl.map keyPy).zip ds)).depth ≤ 60)) = true then .ok (.str (PyData.dict ((kl.map keyPy).zip ds)).shown) h else .bad
      | _, _ => .bad) := o
    cases h1 : keysOfD ks with
    | none => rw [h1] at o; exact o.elim
    | some kl =>
      cases h2 : pyAll (pyOf h) vs with
      | none => rw [h1, h2] at o; exact o.elim
      | some ds =>
        rw [h1, h2] at o
        dsimp only at o
        split at o
        · rename_i hc
          rw [Bool.and_eq_true, Bool.and_eq_true, Bool.and_eq_true, Bool.and_eq_true] at hc
          cases rx with
          | dic q n e r =>
            rename_i a kvs
            have ek : kvs.map (·.1) = kl := by
              have := keysOfD_eq h1
              rw [← e] at this
              refine map_keyD_inj ?_
              rw [List.map_map]
              exact this
            have ek2 : (kvs.map fun p => keyPy p.1) = kl.map keyPy := by rw [← ek, List.map_map]; rfl
            refine .inr ⟨a, kvs, ds, rfl, q, pyAll_dp (fun {v d x} rv e => ?_) r h2, hc.1.1.1.1, ?_, ?_, ?_, ?_⟩
            · rw [← hk]; exact (pyOf_dp m rv e).1
            · rw [ek2]; exact hc.1.1.2
            · rw [ek2]; exact small_line hc.1.2
            · rw [ek2]; exact of_decide_eq_true hc.2
            · rw [ek2]; exact o φ _ H Ext.refl (.str _) m
          | dicT q n e r =>
            rename_i a kvs
            cases kvs with
            | nil =>
              have ek := keysOfD_eq h1
              rw [← e] at ek
              have ekl : kl = [] := by cases kl with
                | nil => rfl
                | cons _ _ => simp at ek
              subst ekl
              exact absurd hc.1.1.1.2 (by decide)
            | cons p r2 =>
              have ek := keysOfD_eq h1
              rw [← e] at ek
              cases kl with
              | nil => simp at ek
              | cons k l =>
                rw [List.map_cons, List.map_cons] at ek
                injection ek with e1 e2
                cases k <;> cases e1
        · exact o.elim
  · have e2 : vReprX d h = vReprD d h := by
      cases d <;> first | rfl | exact absurd ⟨_, _, rfl⟩ hd
    rw [e2] at o
    exact .inl (reprD_o hk rx m o)
theorem call_reprX (hgd : X.A.guards = some []) (hu : X.A.units + 65 < cLine) : CallR X (.builtin "repr") (rReprX X.K) := by
  intro pins s σ H xs us Q I r h
  rcases h with h | h
  · exact call_reprD hgd hu pins s σ H xs us Q I r h
  · exact call_reprK hgd hu pins s σ H xs us Q I r h
theorem b_reprX (hk : g.r.K = X.K) (hgd : X.A.guards = some []) (hu : X.A.units + 65 < cLine) (hm : X.mg "repr" = none) (ha : PA X (e :: es) (tA g W mas)) (hg : Gl X "repr" := by rfl) (he : starEach (e :: es) X.env = (false, eval e X.env) :: starEach es X.env := by rfl) (hpl : (backTo pos (starEach es X.env)).any (·.1) = false := by rfl) :
    PE X (.Call (.Name "repr" p) (e :: es) [] pos) (tE g W (mCall (vOne vReprX) mas)) := s_blt (call_reprX hgd hu) (oOne (reprX_o hk)) bt_repr hm ha hg (by decide) (by decide) he hpl
end
end MI
namespace G
open PySem PySem.Spec PyProof.Rows L2 MI
def subX : Nat → Nat → Option Bool := fun e c => match e, c with
  | 0, 12 => some false
  | 0, 0 => some true
  | 1, 12 => some false
  | 1, 0 => some true
  | 2, 12 => some false
  | 2, 0 => some true
  | 3, 12 => some false
  | 3, 0 => some true
  | 4, 12 => some false
  | 4, 0 => some true
  | 5, 12 => some false
  | 5, 0 => some true
  | 6, 12 => some false
  | 6, 0 => some true
  | 7, 12 => some false
  | 7, 0 => some true
  | 8, 12 => some false
  | 8, 0 => some true
  | 9, 12 => some false
  | 9, 0 => some true
  | 10, 12 => some false
  | 10, 0 => some true
  | 11, 12 => some false
  | 11, 0 => some true
  | 12, 12 => some true
  | 13, 12 => some false
  | 13, 0 => some false
  | 13, 13 => some true
  | 14, 12 => some false
  | 14, 0 => some false
  | 14, 13 => some false
  | 14, 14 => some true
  | 15, 12 => some false
  | 15, 0 => some false
  | 15, 13 => some false
  | 15, 14 => some false
  | 15, 15 => some true
  | 16, 12 => some false
  | 16, 0 => some false
  | 16, 13 => some false
  | 16, 14 => some false
  | 16, 15 => some false
  | 16, 16 => some true
  | 17, 12 => some false
  | 17, 0 => some false
  | 17, 13 => some false
  | 17, 14 => some false
  | 17, 15 => some false
  | 17, 16 => some false
  | 17, 17 => some true
  | _, _ => none
def isaX : Nat → List Bool := fun c => match c with
  | 0 => [true, false, false, false, false, false, false, false, false, false, false, false, false, false, false, false, false, false, true, false, false, false, false, false]
  | 1 => [true, true, false, false, false, false, false, false, false, false, false, false, false, false, false, false, false, false, true, false, false, false, false, false]
  | 2 => [true, false, true, false, false, false, false, false, false, false, false, false, false, false, false, false, false, false, true, false, false, false, false, false]
  | 3 => [true, false, false, true, false, false, false, false, false, false, false, false, false, false, false, false, false, false, true, false, false, false, false, false]
  | 4 => [true, false, false, false, true, false, false, false, false, false, false, false, false, false, false, false, false, false, true, false, false, false, false, false]
  | 5 => [true, false, false, false, false, true, false, false, false, false, false, false, false, false, false, false, false, false, true, false, false, false, false, false]
  | 6 => [true, false, false, false, false, false, true, false, false, false, false, false, false, false, false, false, false, false, true, false, false, false, false, false]
  | 7 => [true, false, false, false, false, false, false, true, false, false, false, false, false, false, false, false, false, false, true, false, false, false, false, false]
  | 8 => [true, false, false, false, false, false, false, false, true, false, false, false, false, false, false, false, false, false, true, false, false, false, false, false]
  | 9 => [true, false, false, false, false, false, false, false, false, true, false, false, false, false, false, false, false, false, true, false, false, false, false, false]
  | 10 => [true, false, false, false, false, false, false, false, false, false, true, false, false, false, false, false, false, false, true, false, false, false, false, false]
  | 11 => [true, false, false, false, false, false, false, false, false, false, false, true, false, false, false, false, false, false, true, false, false, false, false, false]
  | 12 => [true, false, false, false, false, false, false, false, false, false, false, false, true, false, false, false, false, false, true, false, false, false, false, false]
  | 13 => [false, false, false, false, false, false, false, false, false, false, false, false, false, true, false, false, false, false, false, true, false, false, false, true]
  | 14 => [false, false, false, false, false, false, false, false, false, false, false, false, false, false, true, false, false, false, false, false, true, false, false, true]
  | 15 => [false, false, false, false, false, false, false, false, false, false, false, false, false, false, false, true, false, false, false, false, false, true, true, false]
  | 16 => [false, false, false, false, false, false, false, false, false, false, false, false, false, false, false, false, true, false, false, false, false, false, true, false]
  | 17 => [false, false, false, false, false, false, false, false, false, false, false, false, false, false, false, false, false, true, false, false, false, false, false, true]
  | _ => []
def isaD (c : Nat) : List D := (isaX c).map .bl
theorem isa_get : ∀ c < 18, ∀ k < 24, (isaX c)[k]? = some ((isaX c).getD k false) := by decide
def usX (ex : Nat → Value) : List Value := [ex 0, ex 1, ex 2, ex 3, ex 4, ex 5, ex 6, ex 7, ex 8, ex 9, ex 10, ex 11, ex 12, ex 13, ex 14, ex 15, ex 16, ex 17, .type "ValueError", .type "IndexError", .type "KeyError", .type "OverflowError", .type "ArithmeticError", .type "LookupError"]
def m_law_bag : FnM := mFn 2 5
    (mSeq (mAsg (mIf (mTest (mBin vLt (mVar 1) (mCall (vOne vLen) (mCons (mVar 0) mNil)))) (mBin vIx (mVar 0) (mVar 1)) (mBin vAdd (mBin vAdd (mCall (vOne vSum) (mCons (mCut (mVar 0) mNoPart (mPart (mC (.int 1)))) mNil)) (mBin vMul (mC (.int 127)) (mVar 1))) (mC (.int 73)))) (gN 2))
    (mSeq (mAsg (mBin vMod (mCall (vOne vInt) (mCons (mCall (vOne vAbs) (mCons (mVar 2) mNil)) mNil)) (mBin vPow (mBin vPow (mC (.int 10)) (mC (.int 45))) (mC (.int 13)))) (gN 3))
    (mSeq (mAsg (mBin vAdd (mBin vAdd (mBin vAdd (mBin vMul (mBin vMod (mCall (vOne vInt) (mCons (mVar 3) mNil)) (mC (.int 2305843009213693723))) (mC (.int 1000403))) (mBin vMul (mC (.int 9041)) (mVar 1))) (mBin vMul (mC (.int 47)) (mCall (vOne vInt) (mCons (mBin vLt (mVar 2) (mC (.int 0))) mNil)))) (mC (.int 31))) (gN 4))
    (mRet (mCell (mCons (mCall (vTwo vMax2) (mCons (mC (.int 0)) (mCons (mBin vSub (mVar 3) (mBin vPow (mC (.int 10)) (mC (.int 18)))) mNil))) (mCons (mBin vMod (mCall (vOne vInt) (mCons (mVar 4) mNil)) (mC (.int 2305843009213693951))) (mCons (mC (.int 0)) mNil))))))))
def m_law_grab : FnM := mFn 2 5
    (mSeq (mIfS (mTest (mBin vGt (mBin vIx (mVar 0) (mC (.int 0))) (mC (.int 0)))) (mSeq (mAsg (mBin vMod (mCall (vOne vInt) (mCons (mBin vIx (mVar 0) (mC (.int 0))) mNil)) (mVar 1)) (gN 2))
    (mSeq (mAsg (mBin vDiv (mBin vIx (mVar 0) (mC (.int 0))) (mVar 1)) (gSubC (mVar 0) (mC (.int 0))))
    (mRet (mVar 2)))) mNext)
    (mSeq (mAsg (mBin vAdd (mBin vIx (mVar 0) (mC (.int 2))) (mC (.int 1))) (gSubC (mVar 0) (mC (.int 2))))
    (mSeq (mAsg (mBin vMod (mCall (vOne vInt) (mCons (mBin vAdd (mBin vIx (mVar 0) (mC (.int 1))) (mBin vMul (mC (.int 1048627)) (mBin vIx (mVar 0) (mC (.int 2))))) mNil)) (mC (.int 2305843009213693951))) (gN 3))
    (mSeq (mAsg (mBin vAdd (mBin vMul (mBin vMod (mCall (vOne vInt) (mCons (mBin vMul (mVar 3) (mVar 3)) mNil)) (mC (.int 2305843009213693723))) (mVar 3)) (mBin vMul (mC (.int 8147)) (mBin vIx (mVar 0) (mC (.int 2))))) (gN 4))
    (mRet (mBin vMod (mCall (vOne vInt) (mCons (mBin vDiv (mBin vMod (mCall (vOne vInt) (mCons (mVar 4) mNil)) (mC (.int 2305843009213693921))) (mC (.int 16384))) mNil)) (mVar 1)))))))
def m_law_one_of : FnM := mFn 2 2
    (mRet (mBin vIx (mVar 1) (mCallD 2 m_law_grab [] (mCons (mVar 0) (mCons (mCall (vOne vLen) (mCons (mVar 1) mNil)) mNil)))))
def m_law_kept_raised : FnM := mFn 2 2
    (mSeq (mIfS (mTest (mBin vEq (mVar 0) (mC (.int 12)))) (mRaiseV 12 "index" (mVar 1)) mNext)
    (mSeq (mIfS (mTest (mBin vEq (mVar 0) (mC (.int 13)))) (mRaiseV 13 "given" (mVar 1)) mNext)
    (mSeq (mIfS (mTest (mBin vEq (mVar 0) (mC (.int 14)))) (mRaiseV 14 "wanted" (mVar 1)) mNext)
    (mSeq (mIfS (mTest (mBin vEq (mVar 0) (mC (.int 15)))) (mRaiseV 15 "most" (mVar 1)) mNext)
    (mSeq (mIfS (mTest (mBin vEq (mVar 0) (mC (.int 16)))) (mRaiseV 16 "reason" (mVar 1)) mNext)
    (mRaiseV 17 "steps" (mVar 1)))))))
def m_law_raised : FnM := mFn 3 3
    (mSeq (mIfS (mTest (mBin vEq (mVar 0) (mC (.int 0)))) (mRaise1 0 (mVar 1)) mNext)
    (mSeq (mIfS (mTest (mBin vEq (mVar 0) (mC (.int 1)))) (mRaise1 1 (mVar 1)) mNext)
    (mSeq (mIfS (mTest (mBin vEq (mVar 0) (mC (.int 2)))) (mRaise1 2 (mVar 1)) mNext)
    (mSeq (mIfS (mTest (mBin vEq (mVar 0) (mC (.int 3)))) (mRaise1 3 (mVar 1)) mNext)
    (mSeq (mIfS (mTest (mBin vEq (mVar 0) (mC (.int 4)))) (mRaise1 4 (mVar 1)) mNext)
    (mSeq (mIfS (mTest (mBin vEq (mVar 0) (mC (.int 5)))) (mRaise1 5 (mVar 1)) mNext)
    (mSeq (mIfS (mTest (mBin vEq (mVar 0) (mC (.int 6)))) (mRaise1 6 (mVar 1)) mNext)
    (mSeq (mIfS (mTest (mBin vEq (mVar 0) (mC (.int 7)))) (mRaise1 7 (mVar 1)) mNext)
    (mSeq (mIfS (mTest (mBin vEq (mVar 0) (mC (.int 8)))) (mRaise1 8 (mVar 1)) mNext)
    (mSeq (mIfS (mTest (mBin vEq (mVar 0) (mC (.int 9)))) (mRaise1 9 (mVar 1)) mNext)
    (mSeq (mIfS (mTest (mBin vEq (mVar 0) (mC (.int 10)))) (mRaise1 10 (mVar 1)) mNext)
    (mSeq (mIfS (mTest (mBin vEq (mVar 0) (mC (.int 11)))) (mRaise1 11 (mVar 1)) mNext)
    (mDrop (mCallD 2 m_law_kept_raised [] (mCons (mVar 0) (mCons (mVar 2) mNil))))))))))))))))
def bp_law_flags (a : Addr) (c : Nat) : MS := (mSeq (mAsg (mLst (mCons (mIsX a 0 ((isaX c).getD 0 false)) (mCons (mIsX a 0 ((isaX c).getD 1 false)) (mCons (mIsX a 0 ((isaX c).getD 2 false)) mNil)))) (gN 1))
    (mSeq (mAsg (mBin vAdd (mVar 1) (mLst (mCons (mIsX a 0 ((isaX c).getD 3 false)) (mCons (mIsX a 0 ((isaX c).getD 4 false)) (mCons (mIsX a 0 ((isaX c).getD 5 false)) mNil))))) (gN 1))
    (mSeq (mAsg (mBin vAdd (mVar 1) (mLst (mCons (mIsX a 0 ((isaX c).getD 6 false)) (mCons (mIsX a 0 ((isaX c).getD 7 false)) (mCons (mIsX a 0 ((isaX c).getD 8 false)) mNil))))) (gN 1))
    (mSeq (mAsg (mBin vAdd (mVar 1) (mLst (mCons (mIsX a 0 ((isaX c).getD 9 false)) (mCons (mIsX a 0 ((isaX c).getD 10 false)) (mCons (mIsX a 0 ((isaX c).getD 11 false)) mNil))))) (gN 1))
    (mSeq (mAsg (mBin vAdd (mVar 1) (mLst (mCons (mIsX a 0 ((isaX c).getD 12 false)) (mCons (mIsX a 0 ((isaX c).getD 13 false)) (mCons (mIsX a 0 ((isaX c).getD 14 false)) mNil))))) (gN 1))
    (mSeq (mAsg (mBin vAdd (mVar 1) (mLst (mCons (mIsX a 0 ((isaX c).getD 15 false)) (mCons (mIsX a 0 ((isaX c).getD 16 false)) (mCons (mIsX a 0 ((isaX c).getD 17 false)) mNil))))) (gN 1))
    (mSeq (mAsg (mBin vAdd (mVar 1) (mLst (mCons (mIsX a 0 ((isaX c).getD 18 false)) (mCons (mIsX a 0 ((isaX c).getD 19 false)) (mCons (mIsX a 0 ((isaX c).getD 20 false)) mNil))))) (gN 1))
    (mRet (mBin vAdd (mVar 1) (mLst (mCons (mIsX a 0 ((isaX c).getD 21 false)) (mCons (mIsX a 0 ((isaX c).getD 22 false)) (mCons (mIsX a 0 ((isaX c).getD 23 false)) mNil)))))))))))))
def m_law_flags (a : Addr) (c : Nat) : FnM := mFn 1 2 (bp_law_flags a c)
def m_law_told : FnM := mFn 3 4
    (mSeq (mTry subX (mDrop (mCallD 3 m_law_raised [] (mCons (mVar 0) (mCons (mVar 1) (mCons (mVar 2) mNil))))) [⟨12, (some 3), (fnFlF 18 isaD 12 "index")⟩, ⟨0, (some 3), (fnFlN 18 isaD)⟩, ⟨13, (some 3), (fnFlF 18 isaD 13 "given")⟩, ⟨14, (some 3), (fnFlF 18 isaD 14 "wanted")⟩, ⟨15, (some 3), (fnFlF 18 isaD 15 "most")⟩, ⟨16, (some 3), (fnFlF 18 isaD 16 "reason")⟩, ⟨17, (some 3), (fnFlF 18 isaD 17 "steps")⟩])
    (mRet (mC .non)))
def m_law_due : FnM := mFn 1 3
    (mSeq (mAsg (mLst (mCons (mC (.int 0)) (mCons (mVar 0) (mCons (mC (.int 18)) mNil)))) (gN 1))
    (mSeq (mIfS (mTest (mBin vGt (mVar 0) (mC (.int 12)))) (mAsg (mBin vAdd (mLst (mCons (mVar 0) mNil)) (mBin vIx (mLst (mCons (mLst (mCons (mC (.int 19)) (mCons (mC (.int 23)) mNil))) (mCons (mLst (mCons (mC (.int 20)) (mCons (mC (.int 23)) mNil))) (mCons (mLst (mCons (mC (.int 21)) (mCons (mC (.int 22)) mNil))) (mCons (mLst (mCons (mC (.int 22)) mNil)) (mCons (mLst (mCons (mC (.int 23)) mNil)) mNil)))))) (mBin vSub (mVar 0) (mC (.int 13))))) (gN 1)) mNext)
    (mRet (mLc (mSrcA (mCons (mC (.int 24)) mNil) srcR1) (gN 2) mYes (mBin vIn (mVar 2) (mVar 1)) [2]))))
def b_law : MS :=
    (mSeq (mFor (mSrcA (mCons (mCall (vTwo vMax2) (mCons (mC (.int 1)) (mCons (mCall (vTwo vMin2) (mCons (mC (.int 3)) (mCons (mCall (vOne vLen) (mCons (mVar 0) mNil)) mNil))) mNil))) mNil) srcR1) (gN 1) (mSeq (mAsg (mCallD 2 m_law_bag [] (mCons (mVar 0) (mCons (mVar 1) mNil))) (gN 2))
    (mSeq (mAsg (mLst (mCons (mC (.int 0)) (mCons (mUn vNeg (mC (.int 7))) (mCons (mC .non) (mCons (mC (.bl true)) (mCons (mC (.str "ab")) (mCons (mTup (mCons (mC (.str "flat")) mNil)) (mCons (mTup (mCons (mC (.str "deed")) (mCons (mC (.int 3)) (mCons (mC (.str "many")) mNil)))) (mCons (mLst (mCons (mC (.int 1)) (mCons (mC (.str "x")) mNil))) (mCons (mC (.dic [.str "a"] [.tup [.int 1, .int 2]])) (mCons (mBin vPow (mC (.int 10)) (mC (.int 60))) (mCons (mC (.str "")) mNil)))))))))))) (gN 3))
    (mSeq (mAsg (mCallD 2 m_law_one_of [] (mCons (mVar 2) (mCons (mLst (mCons (mC (.str "odd")) (mCons (mC (.str "")) (mCons (mC (.str "a lot is expected")) (mCons (mBin vMulS (mC (.str "x")) (mBin vAdd (mC (.int 1)) (mCallD 2 m_law_grab [] (mCons (mVar 2) (mCons (mC (.int 40)) mNil))))) mNil))))) mNil))) (gN 4))
    (mFor (mSrcA (mCons (mC (.int 18)) mNil) srcR1) (gN 5) (mSeq (mAsg (mCallD 2 m_law_one_of [] (mCons (mVar 2) (mCons (mVar 3) mNil))) (gN 6))
    (mSeq (mAsg (mCallD 3 m_law_told [] (mCons (mVar 5) (mCons (mVar 4) (mCons (mVar 6) mNil)))) (gTA 2 (gsCons (gN 7) (gsCons (gN 8) gsNil))))
    (mIfS (mOrT (mTest (mBin vNe (mVar 7) (mCallD 1 m_law_due [] (mCons (mVar 5) mNil)))) (mAndT (mTest (mBin vGt (mVar 5) (mC (.int 11)))) (mTest (mBin vNe (mCall (vOne vReprX) (mCons (mVar 8) mNil)) (mCall (vOne vReprX) (mCons (mVar 6) mNil)))))) (mRet (mC (.bl false))) mNext))))))))
    (mRet (mC (.bl true))))
def m_law : FnM := mFn 1 9 b_law
end G
namespace G
open PySem PySem.Spec PyProof.Rows L2 MI
theorem isX_at {a : Addr} {b : Bool} {ρ : Env1} {h : MH} {r : Env1} (e : ρ = some (.adr a) :: r) : mIsX a 0 b ρ h = .ok (.bl b) h := by
  subst e
  show (if a = a then R.ok (D.bl b) h else R.bad) = _
  rw [if_pos rfl]
/-- three of them -/
theorem three {a : Addr} {b1 b2 b3 : Bool} {h : MH} {r : Env1} : mLst (mCons (mIsX a 0 b1) (mCons (mIsX a 0 b2) (mCons (mIsX a 0 b3) mNil))) (some (.adr a) :: r) h = .ok (.lst [.bl b1, .bl b2, .bl b3]) h := by
  unfold mLst mCons mNil
  rw [isX_at rfl]
  show (R.bind ((mIsX a 0 b2 (some (.adr a) :: r) h).bind _) _).bind _ = _
  rw [isX_at rfl]
  show (R.bind (R.bind ((mIsX a 0 b3 (some (.adr a) :: r) h).bind _) _) _).bind _ = _
  rw [isX_at rfl]
  rfl
theorem more {a : Addr} {b1 b2 b3 : Bool} {h : MH} {l : List D} (hl : l.length + 3 ≤ 16777216) : mBin vAdd (mVar 1) (mLst (mCons (mIsX a 0 b1) (mCons (mIsX a 0 b2) (mCons (mIsX a 0 b3) mNil)))) [some (.adr a), some (.lst l)] h = .ok (.lst (l ++ [.bl b1, .bl b2, .bl b3])) h := by
  unfold mBin
  show R.bind (R.ok (D.lst l) h) _ = _
  show R.bind (mLst (mCons (mIsX a 0 b1) (mCons (mIsX a 0 b2) (mCons (mIsX a 0 b3) mNil))) [some (.adr a), some (.lst l)] h) _ = _
  rw [three]
  show vAdd (D.lst l) (D.lst [.bl b1, .bl b2, .bl b3]) h = _
  have hs : small (l.length + 3) = true := decide_eq_true hl
  have e : vCatL (D.lst l) (D.lst [.bl b1, .bl b2, .bl b3]) h = .ok (.lst (l ++ [.bl b1, .bl b2, .bl b3])) h := by
    show (if small (l.length + 3) = true then R.ok (D.lst (l ++ [.bl b1, .bl b2, .bl b3])) h else R.bad) = _
    rw [if_pos hs]
  have e1 : vI (fun i j => .int (i + j)) (D.lst l) (D.lst [.bl b1, .bl b2, .bl b3]) h = .bad := rfl
  have e2 : vCatT (D.lst l) (D.lst [.bl b1, .bl b2, .bl b3]) h = .bad := rfl
  unfold vAdd vOr
  rw [e1]
  dsimp only
  rw [e2]
  dsimp only
  rw [e]
theorem ev_law_flags : ∀ (k : Nat) (a : Addr) (h : MH), k < 18 → m_law_flags a k [.adr a] h = .ok (.lst (isaD k)) h := fun k a h hk => by
  have s1 : ∀ (b1 b2 b3 : Bool) (u : MS), mSeq (mAsg (mLst (mCons (mIsX a 0 b1) (mCons (mIsX a 0 b2) (mCons (mIsX a 0 b3) mNil)))) (gN 1)) u [some (.adr a), none] h = u [some (.adr a), some (.lst [.bl b1, .bl b2, .bl b3])] h := fun b1 b2 b3 u => by
    unfold mSeq mAsg
    rw [three]
    rfl
  have s2 : ∀ (b1 b2 b3 : Bool) (l : List D) (u : MS), l.length + 3 ≤ 16777216 → mSeq (mAsg (mBin vAdd (mVar 1) (mLst (mCons (mIsX a 0 b1) (mCons (mIsX a 0 b2) (mCons (mIsX a 0 b3) mNil))))) (gN 1)) u [some (.adr a), some (.lst l)] h = u [some (.adr a), some (.lst (l ++ [.bl b1, .bl b2, .bl b3]))] h := fun b1 b2 b3 l u hl => by
    unfold mSeq mAsg
    rw [more hl]
    rfl
  unfold m_law_flags mFn
  show (match bp_law_flags a k [some (.adr a), none] h with
    | .nx _ h1 => R.ok D.non h1
    | .rt d h1 => .ok d h1
    | .exc _ e h1 => .exc e h1
    | _ => .bad) = _
  unfold bp_law_flags
  rw [s1, s2 _ _ _ _ _ (by simp), s2 _ _ _ _ _ (by simp), s2 _ _ _ _ _ (by simp), s2 _ _ _ _ _ (by simp), s2 _ _ _ _ _ (by simp), s2 _ _ _ _ _ (by simp)]
  unfold mRet
  rw [more (by simp)]
  show R.ok (D.lst _) h = _
  match k, hk with
  | 0, _ => rfl
  | 1, _ => rfl
  | 2, _ => rfl
  | 3, _ => rfl
  | 4, _ => rfl
  | 5, _ => rfl
  | 6, _ => rfl
  | 7, _ => rfl
  | 8, _ => rfl
  | 9, _ => rfl
  | 10, _ => rfl
  | 11, _ => rfl
  | 12, _ => rfl
  | 13, _ => rfl
  | 14, _ => rfl
  | 15, _ => rfl
  | 16, _ => rfl
  | 17, _ => rfl
  | n + 18, h => exact absurd h (by omega)
end G
namespace G
open PySem PySem.Spec PyProof.Rows L2 MI
/-! the words that all laws have: bag, grab, one_of, mixed -/
theorem s_grab {n : Nat} {t c : Int} {h : MH} (ht : 0 < t) (hs : Sm t) (hb : Bg h n c) (hc : c ≤ 1000000) : ∃ r l, m_law_grab [.cell n, .int t] h = .ok (.int r) (h.set n l) ∧ 0 ≤ r ∧ r < t ∧ Bg (h.set n l) n (c + 1) := by
  obtain ⟨a, b, c', e, c0, c1⟩ := hb
  have hn : n < h.length := (List.getElem?_eq_some_iff.mp e).1
  have i0 := vIx_cell (i := 0) e
  have i1 := vIx_cell (i := 1) e
  have i2 := vIx_cell (i := 2) e
  simp only [atI_0, atI_1, atI_2] at i0 i1 i2
  have mt := fun (i : Int) (hh : MH) => vMod_i (i := i) (h := hh) (show t ≠ 0 by omega)
  have ft := fun (i : Int) => fMod_pos (i := i) ht
  by_cases ha : 0 < a
  · have g := fun (ρ : Env1) (d : D) (q : ρ[0]? = some (some (.cell n))) => gSub_cell (ρ := ρ) (o := mVar 0) (m := mC (.int 0)) (d := d) (i := 0) (j := 0) e (by simp [q]) rfl rfl
    have dv := vDiv_i (i := a) (h := h) (div_ok hs (show t ≠ 0 by omega))
    refine ⟨a % t, [.int (fDiv a t), .int b, .int c'], ?_, Int.emod_nonneg _ (by omega), Int.emod_lt_of_pos _ ht, fDiv a t, b, c', List.getElem?_set_self hn, c0, by omega⟩
    have g' := g [some (.cell n), some (.int t), some (.int (a % t)), none, none] (.int (fDiv a t)) rfl
    simp [m_law_grab, i0, ha, mt, ft, dv, g']
  · let l : List D := [.int a, .int b, .int (c' + 1)]
    have e2 : (h.set n l)[n]? = some l := List.getElem?_set_self hn
    have j1 := vIx_cell (i := 1) e2
    have j2 := vIx_cell (i := 2) e2
    simp only [l, atI_0, atI_1, atI_2] at j1 j2
    have g' := gSub_cell (ρ := [some (.cell n), some (.int t), none, none, none]) (o := mVar 0) (m := mC (.int 2)) (d := .int (c' + 1)) (i := 2) (j := 2) e (by simp) rfl rfl
    have M1 : ∀ (i : Int) (hh : MH), vMod (.int i) (.int 2305843009213693951) hh = .ok (.int (i % 2305843009213693951)) hh := fun i hh => by rw [vMod_i (by decide), fMod_pos (by decide)]
    have M2 : ∀ (i : Int) (hh : MH), vMod (.int i) (.int 2305843009213693723) hh = .ok (.int (i % 2305843009213693723)) hh := fun i hh => by rw [vMod_i (by decide), fMod_pos (by decide)]
    have M3 : ∀ (i : Int) (hh : MH), vMod (.int i) (.int 2305843009213693921) hh = .ok (.int (i % 2305843009213693921)) hh := fun i hh => by rw [vMod_i (by decide), fMod_pos (by decide)]
    have D1 : ∀ (i : Int) (hh : MH), vDiv (.int i) (.int 16384) hh = .ok (.int (i / 16384)) hh := fun i hh => by rw [div_small (by decide) (by decide) (by decide), fDiv_pos (by decide)]
    have m1 : ∀ hh : MH, vMul (.int 1048627) (.int (c' + 1)) hh = .ok (.int (1048627 * (c' + 1))) hh := fun hh => vMul_i (mul_ok (sm40 (by decide) (by decide)) (sm40 (by omega) (by omega)))
    let one : Int := (b + 1048627 * (c' + 1)) % 2305843009213693951
    have o1 : 0 ≤ one := Int.emod_nonneg _ (by decide)
    have o2 : one < 2305843009213693951 := Int.emod_lt_of_pos _ (by decide)
    have m2 : ∀ hh : MH, vMul (.int ((b + 1048627 * (c' + 1)) % 2305843009213693951)) (.int ((b + 1048627 * (c' + 1)) % 2305843009213693951)) hh = .ok (.int (one * one)) hh := fun hh => vMul_i (mul_ok (sm40 (i := one) (by omega) (by omega)) (sm40 (i := one) (by omega) (by omega)))
    have q1 : 0 ≤ one * one % 2305843009213693723 := Int.emod_nonneg _ (by decide)
    have q2 : one * one % 2305843009213693723 < 2305843009213693723 := Int.emod_lt_of_pos _ (by decide)
    have m3 : ∀ hh : MH, vMul (.int (one * one % 2305843009213693723)) (.int ((b + 1048627 * (c' + 1)) % 2305843009213693951)) hh = .ok (.int (one * one % 2305843009213693723 * one)) hh := fun hh => vMul_i (mul_ok (sm40 (by omega) (by omega)) (sm40 (i := one) (by omega) (by omega)))
    have m4 : ∀ hh : MH, vMul (.int 8147) (.int (c' + 1)) hh = .ok (.int (8147 * (c' + 1))) hh := fun hh => vMul_i (mul_ok (sm40 (by decide) (by decide)) (sm40 (by omega) (by omega)))
    refine ⟨(one * one % 2305843009213693723 * one + 8147 * (c' + 1)) % 2305843009213693921 / 16384 % t, l, ?_, Int.emod_nonneg _ (by omega), Int.emod_lt_of_pos _ ht, a, b, c' + 1, e2, by omega, by omega⟩
    have g2 : h.set n (([.int a, .int b, .int c'] : List D).set 2 (.int (c' + 1))) = h.set n l := rfl
    rw [g2] at g'
    have kk : l = [.int a, .int b, .int (c' + 1)] := rfl
    simp only [← kk] at j1 j2
    generalize l = l' at *
    simp [m_law_grab, i0, i2, ha, g', j1, j2, m1, M1, m2, M2, m3, m4, M3, D1, mt, ft]
theorem s_one_of {n : Nat} {c : Int} {l : List D} {h : MH} (hl : l ≠ []) (hs : l.length ≤ 1000) (hb : Bg h n c) (hc : c ≤ 1000000) : ∃ x m, m_law_one_of [.cell n, .lst l] h = .ok x (h.set n m) ∧ Bg (h.set n m) n (c + 1) ∧ x ∈ l := by
  have l0 : 0 < l.length := List.length_pos_iff.mpr hl
  obtain ⟨r, m, g, r0, r1, b⟩ := s_grab (t := (l.length : Int)) (by omega) (sm_small (by omega) (by omega)) hb hc
  have hlt : r.toNat < l.length := by omega
  refine ⟨l[r.toNat], m, ?_, b, List.getElem_mem hlt⟩
  have a : atI l r = some l[r.toNat] := by rw [atI_nn r0 r1, List.getElem?_eq_getElem hlt]
  simp [m_law_one_of, vLen_lst, g, a]
theorem s_one_ofT {n : Nat} {c : Int} {l : List D} {h : MH} (hl : l ≠ []) (hs : l.length ≤ 1000) (hb : Bg h n c) (hc : c ≤ 1000000) : ∃ x m, m_law_one_of [.cell n, .tup l] h = .ok x (h.set n m) ∧ Bg (h.set n m) n (c + 1) ∧ x ∈ l := by
  have l0 : 0 < l.length := List.length_pos_iff.mpr hl
  obtain ⟨r, m, g, r0, r1, b⟩ := s_grab (t := (l.length : Int)) (by omega) (sm_small (by omega) (by omega)) hb hc
  have hlt : r.toNat < l.length := by omega
  refine ⟨l[r.toNat], m, ?_, b, List.getElem_mem hlt⟩
  have a : atI l r = some l[r.toNat] := by rw [atI_nn r0 r1, List.getElem?_eq_getElem hlt]
  simp [m_law_one_of, vLen_tup, g, a]
theorem s_bag {ns : List Int} {k : Nat} {h : MH} (hk : k ≤ 100) : ∃ a b : Int, m_law_bag [.scr ns, .int (k : Nat)] h = .ok (.cell h.length) (h ++ [[.int a, .int b, .int 0]]) := by
  have vl : vLen (.scr ns) h = .ok (.int ((ns.length : Nat) : Int)) h := by
    unfold vLen
    simp only [seqOf, List.length_map]
  have st : ∃ z : Int, mIf (mTest (mBin vLt (mVar 1) (mCall (vOne vLen) (mCons (mVar 0) mNil)))) (mBin vIx (mVar 0) (mVar 1)) (mBin vAdd (mBin vAdd (mCall (vOne vSum) (mCons (mCut (mVar 0) mNoPart (mPart (mC (.int 1)))) mNil)) (mBin vMul (mC (.int 127)) (mVar 1))) (mC (.int 73))) [some (.scr ns), some (.int (k : Nat)), none, none, none] h = .ok (.int z) h := by
    by_cases e : k < ns.length
    · have a : atI (ns.map D.int) (k : Nat) = some (.int ns[k]) := by
        rw [atI_nn (by omega) (by rw [List.length_map]; omega)]
        simp [e]
      have ix : vIx (.scr ns) (.int (k : Nat)) h = .ok (.int ns[k]) h := by
        have : vIx (.scr ns) (.int (k : Nat)) h = match atI (ns.map D.int) (k : Nat) with | some x => .ok x h | none => .bad := rfl
        rw [this, a]
      exact ⟨ns[k], by simp [vl, e, ix]⟩
    · have cu : vCut (.scr ns) none (some 1) h = .ok (.lst ((ns.map .int).take 1)) h := by
        have c := cut_to (l := ns.map D.int) (k := 1) (h := h) (by decide)
        have : vCut (.scr ns) none (some 1) h = vCut (.lst (ns.map D.int)) none (some 1) h := rfl
        rw [this, c]
        rfl
      have ai : ∀ l : List Int, asInts (l.map D.int) = some l := fun l => by
        induction l with
        | nil => rfl
        | cons i l ih => simp [asInts, ih]
      have sm : vSum (.lst ((ns.map .int).take 1)) h = .ok (.int (ns.take 1).sum) h := by
        rw [← List.map_take]
        unfold vSum
        simp only [MI.listOf, Option.bind_some, ai]
      exact ⟨(ns.take 1).sum + 127 * (k : Nat) + 73, by simp [vl, e, cu, sm, mul_small (show (-1000000 : Int) ≤ 127 by decide) (by decide) (show (-1000000 : Int) ≤ ((k : Nat) : Int) by omega) (show ((k : Nat) : Int) ≤ 1000000 by omega)]⟩
  obtain ⟨z, st⟩ := st
  have p1 : ∀ hh, vPow (.int 10) (.int 45) hh = .ok (.int (10 ^ 45)) hh := fun hh => pw 45 hh (by decide)
  have p2 : ∀ hh, vPow (.int (10 ^ 45)) (.int 13) hh = .ok (.int ((10 ^ 45) ^ 13)) hh := fun hh => by
    have c : cPow (10 ^ 45) 13 = true := by decide +kernel
    show vIc cPow (fun i j => .int (i ^ j.toNat)) (.int (10 ^ 45)) (.int 13) hh = _
    unfold vIc
    simp only [c, if_true]
    rfl
  have p3 : ∀ hh, vPow (.int 10) (.int 18) hh = .ok (.int (10 ^ 18)) hh := fun hh => pw 18 hh (by decide)
  have t0 : (0 : Int) < (10 ^ 45) ^ 13 := by decide +kernel
  have M0 : ∀ (i : Int) (hh : MH), vMod (.int i) (.int ((10 ^ 45) ^ 13)) hh = .ok (.int (i % (10 ^ 45) ^ 13)) hh := fun i hh => by rw [vMod_i (by omega), fMod_pos t0]
  have M1 : ∀ (i : Int) (hh : MH), vMod (.int i) (.int 2305843009213693951) hh = .ok (.int (i % 2305843009213693951)) hh := fun i hh => by rw [vMod_i (by decide), fMod_pos (by decide)]
  have M2 : ∀ (i : Int) (hh : MH), vMod (.int i) (.int 2305843009213693723) hh = .ok (.int (i % 2305843009213693723)) hh := fun i hh => by rw [vMod_i (by decide), fMod_pos (by decide)]
  have m1 : ∀ (i : Int) (hh : MH), vMul (.int (i % 2305843009213693723)) (.int 1000403) hh = .ok (.int (i % 2305843009213693723 * 1000403)) hh := fun i hh => by
    have q1 : 0 ≤ i % 2305843009213693723 := Int.emod_nonneg _ (by decide)
    have q2 : i % 2305843009213693723 < 2305843009213693723 := Int.emod_lt_of_pos _ (by decide)
    exact vMul_i (mul_ok (sm40 (by omega) (by omega)) (sm40 (by decide) (by decide)))
  have m2 := fun (hh : MH) => mul_small (h := hh) (show (-1000000 : Int) ≤ 9041 by decide) (by decide) (show (-1000000 : Int) ≤ ((k : Nat) : Int) by omega) (show ((k : Nat) : Int) ≤ 1000000 by omega)
  have m3 : ∀ (b : Bool) (hh : MH), vMul (.int 47) (.int (if b then 1 else 0)) hh = .ok (.int (47 * (if b then 1 else 0))) hh := fun b hh => by
    cases b <;> exact mul_small (by decide) (by decide) (by decide) (by decide)
  have P := (10 : Int)
  clear P
  generalize hP : ((10 : Int) ^ 45) ^ 13 = P13 at *
  generalize hQ : (10 : Int) ^ 45 = P45 at *
  generalize hR : (10 : Int) ^ 18 = P18 at *
  apply Exists.intro
  apply Exists.intro
  unfold m_law_bag
  rw [mFn_ap (show [D.scr ns, D.int (k : Nat)].length = 2 from rfl), show startM 5 [D.scr ns, D.int (k : Nat)] = [some (.scr ns), some (.int (k : Nat)), none, none, none] from rfl]
  rw [mSeq_ap, mAsg_ap, st]
  simp only [toF_ok, gN_ap, ofG_some, List.set, seq_nx, mSeq_ap, mAsg_ap, mBin_ap, mCall_ap, mCons_ap, mVar_ap, mC_ap, mNil_ap, List.getElem?_cons_zero, List.getElem?_cons_succ, bind_ok, vOne_ap, vAbs_i, vInt_i, p1, p2, M0, M2, m1, m2, vLt_i, vInt_b, m3, vAdd_i, mRet_ap, mCell_ap, vTwo_ap, p3, vSub_i, vMax2_i, M1, List.length, Nat.zero_add, Nat.reduceAdd, Nat.reduceLeDiff, if_true, fnOut_rt]
  rfl
def lw_1 : MS := mFor (mSrcA (mCons (mCall (vTwo vMax2) (mCons (mC (.int 1)) (mCons (mCall (vTwo vMin2) (mCons (mC (.int 3)) (mCons (mCall (vOne vLen) (mCons (mVar 0) mNil)) mNil))) mNil))) mNil) srcR1) (gN 1) (mSeq (mAsg (mCallD 2 m_law_bag [] (mCons (mVar 0) (mCons (mVar 1) mNil))) (gN 2)) (mSeq (mAsg (mLst (mCons (mC (.int 0)) (mCons (mUn vNeg (mC (.int 7))) (mCons (mC .non) (mCons (mC (.bl true)) (mCons (mC (.str "ab")) (mCons (mTup (mCons (mC (.str "flat")) mNil)) (mCons (mTup (mCons (mC (.str "deed")) (mCons (mC (.int 3)) (mCons (mC (.str "many")) mNil)))) (mCons (mLst (mCons (mC (.int 1)) (mCons (mC (.str "x")) mNil))) (mCons (mC (.dic [.str "a"] [.tup [.int 1, .int 2]])) (mCons (mBin vPow (mC (.int 10)) (mC (.int 60))) (mCons (mC (.str "")) mNil)))))))))))) (gN 3)) (mSeq (mAsg (mCallD 2 m_law_one_of [] (mCons (mVar 2) (mCons (mLst (mCons (mC (.str "odd")) (mCons (mC (.str "")) (mCons (mC (.str "a lot is expected")) (mCons (mBin vMulS (mC (.str "x")) (mBin vAdd (mC (.int 1)) (mCallD 2 m_law_grab [] (mCons (mVar 2) (mCons (mC (.int 40)) mNil))))) mNil))))) mNil))) (gN 4)) (mFor (mSrcA (mCons (mC (.int 18)) mNil) srcR1) (gN 5) (mSeq (mAsg (mCallD 2 m_law_one_of [] (mCons (mVar 2) (mCons (mVar 3) mNil))) (gN 6)) (mSeq (mAsg (mCallD 3 m_law_told [] (mCons (mVar 5) (mCons (mVar 4) (mCons (mVar 6) mNil)))) (gTA 2 (gsCons (gN 7) (gsCons (gN 8) gsNil)))) (mIfS (mOrT (mTest (mBin vNe (mVar 7) (mCallD 1 m_law_due [] (mCons (mVar 5) mNil)))) (mAndT (mTest (mBin vGt (mVar 5) (mC (.int 11)))) (mTest (mBin vNe (mCall (vOne vReprX) (mCons (mVar 8) mNil)) (mCall (vOne vReprX) (mCons (mVar 6) mNil)))))) (mRet (mC (.bl false))) mNext)))))))
def lw_2 : MS := mRet (mC (.bl true))
theorem lw_eq : b_law = (mSeq lw_1 lw_2) := rfl
def lwb_1 : MS := mAsg (mCallD 2 m_law_bag [] (mCons (mVar 0) (mCons (mVar 1) mNil))) (gN 2)
def lwb_2 : MS := mAsg (mLst (mCons (mC (.int 0)) (mCons (mUn vNeg (mC (.int 7))) (mCons (mC .non) (mCons (mC (.bl true)) (mCons (mC (.str "ab")) (mCons (mTup (mCons (mC (.str "flat")) mNil)) (mCons (mTup (mCons (mC (.str "deed")) (mCons (mC (.int 3)) (mCons (mC (.str "many")) mNil)))) (mCons (mLst (mCons (mC (.int 1)) (mCons (mC (.str "x")) mNil))) (mCons (mC (.dic [.str "a"] [.tup [.int 1, .int 2]])) (mCons (mBin vPow (mC (.int 10)) (mC (.int 60))) (mCons (mC (.str "")) mNil)))))))))))) (gN 3)
def lwb_3 : MS := mAsg (mCallD 2 m_law_one_of [] (mCons (mVar 2) (mCons (mLst (mCons (mC (.str "odd")) (mCons (mC (.str "")) (mCons (mC (.str "a lot is expected")) (mCons (mBin vMulS (mC (.str "x")) (mBin vAdd (mC (.int 1)) (mCallD 2 m_law_grab [] (mCons (mVar 2) (mCons (mC (.int 40)) mNil))))) mNil))))) mNil))) (gN 4)
def lwi1 : MS := (mAsg (mCallD 2 m_law_one_of [] (mCons (mVar 2) (mCons (mVar 3) mNil))) (gN 6))
def lwi23 : MS := (mSeq (mAsg (mCallD 3 m_law_told [] (mCons (mVar 5) (mCons (mVar 4) (mCons (mVar 6) mNil)))) (gTA 2 (gsCons (gN 7) (gsCons (gN 8) gsNil)))) (mIfS (mOrT (mTest (mBin vNe (mVar 7) (mCallD 1 m_law_due [] (mCons (mVar 5) mNil)))) (mAndT (mTest (mBin vGt (mVar 5) (mC (.int 11)))) (mTest (mBin vNe (mCall (vOne vReprX) (mCons (mVar 8) mNil)) (mCall (vOne vReprX) (mCons (mVar 6) mNil)))))) (mRet (mC (.bl false))) mNext))
def lwi : MS := mSeq lwi1 lwi23
def lwb_4 : MS := mFor (mSrcA (mCons (mC (.int 18)) mNil) srcR1) (gN 5) lwi
def lwb : MS := (mSeq lwb_1 (mSeq lwb_2 (mSeq lwb_3 lwb_4)))
theorem lw_eq1 : lw_1 = mFor (mSrcA (mCons (mCall (vTwo vMax2) (mCons (mC (.int 1)) (mCons (mCall (vTwo vMin2) (mCons (mC (.int 3)) (mCons (mCall (vOne vLen) (mCons (mVar 0) mNil)) mNil))) mNil))) mNil) srcR1) (gN 1) lwb := rfl

def vals : List D := [.int 0, .int (-7), .non, .bl true, .str "ab", .tup [.str "flat"], .tup [.str "deed", .int 3, .str "many"], .lst [.int 1, .str "x"], .dic [.str "a"] [.tup [.int 1, .int 2]], .int (10 ^ 60), .str ""]
/-- what is kept -/
def keptV (w : Nat) (x : D) : D := if w > 11 then x else .non
theorem told_ok {a b c d e f : Option D} {z : Str} {h : MH} : ∀ w < 18, ∀ x ∈ vals, lwi23 [a, b, c, d, some (.str z), some (.int (w : Nat)), some x, e, f] h = .nx [a, b, c, d, some (.str z), some (.int (w : Nat)), some x, some (.lst (isaD w)), some (keptV w x)] h := by
  intro w hw x hx
  have hw : w = 0 ∨ w = 1 ∨ w = 2 ∨ w = 3 ∨ w = 4 ∨ w = 5 ∨ w = 6 ∨ w = 7 ∨ w = 8 ∨ w = 9 ∨ w = 10 ∨ w = 11 ∨ w = 12 ∨ w = 13 ∨ w = 14 ∨ w = 15 ∨ w = 16 ∨ w = 17 := by omega
  simp only [vals, List.mem_cons, List.not_mem_nil, or_false] at hx
  rcases hw with rfl | rfl | rfl | rfl | rfl | rfl | rfl | rfl | rfl | rfl | rfl | rfl | rfl | rfl | rfl | rfl | rfl | rfl <;> rcases hx with rfl | rfl | rfl | rfl | rfl | rfl | rfl | rfl | rfl | rfl | rfl <;> kernel_rfl
theorem inner {a b : Option D} {n : Nat} {z : Str} {chk : MH → Bool} (hk : ∀ h, chk h = true) : ∀ (ws : List Nat) (o x e f : Option D) (c : Int) (h : MH), (∀ w ∈ ws, w < 18) → Bg h n c → c + (ws.length : Int) ≤ 1000000 →
    ∃ o' x' e' f' h', loopF (gN 5) lwi chk (ws.map fun w => D.int (w : Nat)) [a, b, some (.cell n), some (.lst vals), some (.str z), o, x, e, f] h = .nx [a, b, some (.cell n), some (.lst vals), some (.str z), o', x', e', f'] h'
  | [], o, x, e, f, c, h, _, _, _ => ⟨_, _, _, _, _, by
    show loopF (gN 5) lwi chk [] _ h = _
    unfold loopF
    rw [if_pos (hk h)]⟩
  | w :: ws, o, x, e, f, c, h, hw, hb, hc => by
    have hl : ((w :: ws).length : Int) = (ws.length : Int) + 1 := by simp
    obtain ⟨v, m, eo, bo, hv⟩ := s_one_of (l := vals) (by simp [vals]) (by decide) hb (by omega)
    have t1 : lwi1 [a, b, some (.cell n), some (.lst vals), some (.str z), some (.int (w : Nat)), x, e, f] h = .nx [a, b, some (.cell n), some (.lst vals), some (.str z), some (.int (w : Nat)), some v, e, f] (h.set n m) := by
      rw [lwi1]
      simp only [mAsg_ap, mCallD_ap, mCons_ap, mVar_ap, mNil_ap, List.getElem?_cons_zero, List.getElem?_cons_succ, bind_ok, List.append_nil, List.length, Nat.zero_add, Nat.reduceAdd, if_true, eo, toF_ok, gN_ap, ofG_some, List.set]
    obtain ⟨o', x', e', f', h', ih⟩ := inner hk ws (some (.int (w : Nat))) (some v) (some (.lst (isaD w))) (some (keptV w v)) (c + 1) (h.set n m) (fun y hy => hw y (List.mem_cons_of_mem _ hy)) bo (by omega)
    refine ⟨o', x', e', f', h', ?_⟩
    rw [List.map_cons]
    unfold loopF
    rw [if_pos (hk h), show gN 5 (D.int (w : Nat)) [a, b, some (.cell n), some (.lst vals), some (.str z), o, x, e, f] h = some ([a, b, some (.cell n), some (.lst vals), some (.str z), some (.int (w : Nat)), x, e, f], h) from rfl]
    dsimp only
    rw [lwi, mSeq_ap, t1, seq_nx, told_ok w (hw w List.mem_cons_self) v hv]
    exact ih
theorem l_body {ns : List Int} {k : Nat} {b q t o x e f : Option D} {h : MH} (hk : k ≤ 100) : ∃ b' q' t' o' x' e' f' h', lwb [some (.scr ns), some (.int (k : Nat)), b, q, t, o, x, e, f] h = .nx [some (.scr ns), some (.int (k : Nat)), b', q', t', o', x', e', f'] h' := by
  obtain ⟨u, v, eb⟩ := s_bag (ns := ns) (k := k) (h := h) hk
  have b0 : Bg (h ++ [[.int u, .int v, .int 0]]) h.length 0 := ⟨u, v, 0, at_end, by omega, by omega⟩
  have t1 : lwb_1 [some (.scr ns), some (.int (k : Nat)), b, q, t, o, x, e, f] h = .nx [some (.scr ns), some (.int (k : Nat)), some (.cell h.length), q, t, o, x, e, f] (h ++ [[.int u, .int v, .int 0]]) := by
    rw [lwb_1]
    simp only [mAsg_ap, mCallD_ap, mCons_ap, mVar_ap, mNil_ap, List.getElem?_cons_zero, List.getElem?_cons_succ, bind_ok, List.append_nil, List.length, Nat.zero_add, Nat.reduceAdd, if_true, eb, toF_ok, gN_ap, ofG_some, List.set]
  generalize h ++ [[D.int u, D.int v, D.int 0]] = h1 at *
  generalize h.length = n at *
  have t2 : lwb_2 [some (.scr ns), some (.int (k : Nat)), some (.cell n), q, t, o, x, e, f] h1 = .nx [some (.scr ns), some (.int (k : Nat)), some (.cell n), some (.lst vals), t, o, x, e, f] h1 := by kernel_rfl
  obtain ⟨r, m, eg, r0, r1, bg⟩ := s_grab (t := 40) (by omega) (sm_small (by omega) (by omega)) b0 (by omega)
  have hn : 1 + r ≤ 40 := by omega
  have mu : vMulS (.str "x") (.int (1 + r)) (h1.set n m) = .ok (.str (Txt.mul "x" (1 + r))) (h1.set n m) := by
    have ok : mulOkB "x" (1 + r) = true := by
      unfold mulOkB
      rw [decide_eq_true (show 0 ≤ 1 + r by omega), decide_eq_true (show 1 + r ≤ 1048576 by omega)]
      decide +kernel
    show (if mulOkB "x" (1 + r) = true then R.ok (D.str (Txt.mul "x" (1 + r))) (h1.set n m) else .bad) = _
    rw [if_pos ok]
  have menu : mLst (mCons (mC (.str "odd")) (mCons (mC (.str "")) (mCons (mC (.str "a lot is expected")) (mCons (mBin vMulS (mC (.str "x")) (mBin vAdd (mC (.int 1)) (mCallD 2 m_law_grab [] (mCons (mVar 2) (mCons (mC (.int 40)) mNil))))) mNil)))) [some (.scr ns), some (.int (k : Nat)), some (.cell n), some (.lst vals), t, o, x, e, f] h1 = .ok (.lst [.str "odd", .str "", .str "a lot is expected", .str (Txt.mul "x" (1 + r))]) (h1.set n m) := by
    have g : mCallD 2 m_law_grab [] (mCons (mVar 2) (mCons (mC (.int 40)) mNil)) [some (.scr ns), some (.int (k : Nat)), some (.cell n), some (.lst vals), t, o, x, e, f] h1 = .ok (.int r) (h1.set n m) := by
      simp only [mCallD_ap, mCons_ap, mVar_ap, mC_ap, mNil_ap, List.getElem?_cons_zero, List.getElem?_cons_succ, bind_ok, List.append_nil, List.length, Nat.zero_add, Nat.reduceAdd, if_true, eg]
    have g2 : mBin vMulS (mC (.str "x")) (mBin vAdd (mC (.int 1)) (mCallD 2 m_law_grab [] (mCons (mVar 2) (mCons (mC (.int 40)) mNil)))) [some (.scr ns), some (.int (k : Nat)), some (.cell n), some (.lst vals), t, o, x, e, f] h1 = .ok (.str (Txt.mul "x" (1 + r))) (h1.set n m) := by
      rw [mBin_ap, mC_ap, bind_ok, mBin_ap, mC_ap, bind_ok, g, bind_ok, vAdd_i, bind_ok, mu]
    rw [mLst_ap, mCons_ap, mC_ap, bind_ok, mCons_ap, mC_ap, bind_ok, mCons_ap, mC_ap, bind_ok, mCons_ap, g2]
    rfl
  obtain ⟨y, m2, eo, bo, hy⟩ := s_one_of (l := [.str "odd", .str "", .str "a lot is expected", .str (Txt.mul "x" (1 + r))]) (by simp) (by simp) bg (by omega)
  have : ∃ z, y = .str z := by
    simp only [List.mem_cons, List.not_mem_nil, or_false] at hy
    rcases hy with rfl | rfl | rfl | rfl <;> exact ⟨_, rfl⟩
  obtain ⟨z, rfl⟩ := this
  generalize h1.set n m = h2 at *
  have t3 : lwb_3 [some (.scr ns), some (.int (k : Nat)), some (.cell n), some (.lst vals), t, o, x, e, f] h1 = .nx [some (.scr ns), some (.int (k : Nat)), some (.cell n), some (.lst vals), some (.str z), o, x, e, f] (h2.set n m2) := by
    rw [lwb_3, mAsg_ap, mCallD_ap, mCons_ap, mVar_ap]
    simp only [List.getElem?_cons_zero, List.getElem?_cons_succ, bind_ok]
    rw [mCons_ap, menu]
    simp only [bind_ok, mNil_ap, List.append_nil, List.length_cons, List.length_nil, Nat.zero_add, Nat.reduceAdd, if_true, eo, toF_ok, gN_ap, ofG_some, List.set]
  have sr := src_r1 (p := 18) (by omega) (by omega) (h2.set n m2)
  obtain ⟨o', x', e', f', h', il⟩ := inner (a := some (.scr ns)) (b := some (.int (k : Nat))) (n := n) (z := z) (chk := (Src.mk (rngD 0 (18 : Int).toNat) none).chk) (fun _ => rfl) [0, 1, 2, 3, 4, 5, 6, 7, 8, 9, 10, 11, 12, 13, 14, 15, 16, 17] o x e f _ (h2.set n m2) (by decide) bo (by simp)
  have t4 : lwb_4 [some (.scr ns), some (.int (k : Nat)), some (.cell n), some (.lst vals), some (.str z), o, x, e, f] (h2.set n m2) = .nx [some (.scr ns), some (.int (k : Nat)), some (.cell n), some (.lst vals), some (.str z), o', x', e', f'] h' := by
    have s0 : mSrcA (mCons (mC (.int 18)) mNil) srcR1 [some (.scr ns), some (.int (k : Nat)), some (.cell n), some (.lst vals), some (.str z), o, x, e, f] (h2.set n m2) = .ok ⟨rngD 0 (18 : Int).toNat, none⟩ (h2.set n m2) := by
      rw [mSrcA_ap, mCons_ap, mC_ap, bind_ok, mNil_ap, bind_ok, bind_ok, sr]
    rw [lwb_4, mFor_ap, s0, toF_ok]
    exact il
  exact ⟨_, _, _, _, _, _, _, _, by rw [lwb, mSeq_ap, t1, seq_nx, mSeq_ap, t2, seq_nx, mSeq_ap, t3, seq_nx, t4]⟩
theorem law_true : ∀ ns : List Int, ns.length ≤ 63 → ∃ h, m_law [.scr ns] [] = .ok (.bl true) h := by
  intro ns _
  obtain ⟨k, hk, sr⟩ := rounds (ρ := [some (.scr ns), none, none, none, none, none, none, none, none]) (h := []) (ns := ns) rfl
  obtain ⟨ρ', h', e, a, b, c, d, e1, f1, g1, i1, rfl⟩ := loopF_all (u := gN 1) (b := lwb) (chk := (Src.mk (rngD 0 k) none).chk) (P := fun d => ∃ i : Nat, d = .int (i : Nat) ∧ i ≤ 100) (I := fun ρ h => ∃ a b c d e f g i, ρ = [some (.scr ns), a, b, c, d, e, f, g, i]) (fun _ => rfl) (fun d ρ h hd iv => by
      obtain ⟨i, rfl, hi⟩ := hd
      obtain ⟨a, b, c, d, e, f, g, j, rfl⟩ := iv
      obtain ⟨b', q', t', o', x', e', f', h', ee⟩ := l_body (ns := ns) (k := i) (b := b) (q := c) (t := d) (o := e) (x := f) (e := g) (f := j) (h := h) hi
      exact ⟨_, _, _, _, rfl, ee, _, _, _, _, _, _, _, _, rfl⟩) (rngD 0 k) [some (.scr ns), none, none, none, none, none, none, none, none] [] (fun d hd => rng_k hk hd) ⟨_, _, _, _, _, _, _, _, rfl⟩
  refine ⟨h', ?_⟩
  unfold m_law
  rw [lw_eq, mFn_ap (show [D.scr ns].length = 1 from rfl), show startM 9 [D.scr ns] = [some (.scr ns), none, none, none, none, none, none, none, none] from rfl, mSeq_ap, lw_eq1, mFor_ap, sr, toF_ok, e, seq_nx]
  rfl
end G
namespace G
open PySem PySem.Spec PyProof.Rows L2 MI
def top (i : Nat) : Stmt := PySem.Challenge.pw_tangentrows_k00_whole_errors.main.body.getD i (.Pass ⟨0, 0, 0, 0⟩)
abbrev st_law_bag : Stmt := top 20
theorem sc_law_bag : FnScope ["_law_script", "_law_spot", "_law_cell", "_law_great", "_law_mixed"] ["_law_script", "_law_spot"] (defScope st_law_bag) := ⟨rfl, rfl, rfl, by decide +kernel, rfl, by decide +kernel, by decide +kernel⟩
abbrev st_law_grab : Stmt := top 21
theorem sc_law_grab : FnScope ["_law_bag_here", "_law_total", "_law_found", "_law_one", "_law_two"] ["_law_bag_here", "_law_total"] (defScope st_law_grab) := ⟨rfl, rfl, rfl, by decide +kernel, rfl, by decide +kernel, by decide +kernel⟩
abbrev st_law_one_of : Stmt := top 22
theorem sc_law_one_of : FnScope ["_law_bag_here", "_law_items"] ["_law_bag_here", "_law_items"] (defScope st_law_one_of) := ⟨rfl, rfl, rfl, by decide +kernel, rfl, by decide +kernel, by decide +kernel⟩
abbrev st_law_kept_raised : Stmt := top 24
theorem sc_law_kept_raised : FnScope ["_law_which", "_law_value"] ["_law_which", "_law_value"] (defScope st_law_kept_raised) := ⟨rfl, rfl, rfl, by decide +kernel, rfl, by decide +kernel, by decide +kernel⟩
abbrev st_law_raised : Stmt := top 23
theorem sc_law_raised : FnScope ["_law_which", "_law_text", "_law_value"] ["_law_which", "_law_text", "_law_value"] (defScope st_law_raised) := ⟨rfl, rfl, rfl, by decide +kernel, rfl, by decide +kernel, by decide +kernel⟩
abbrev st_law_flags : Stmt := top 25
theorem sc_law_flags : FnScope ["_law_error", "_law_found"] ["_law_error"] (defScope st_law_flags) := ⟨rfl, rfl, rfl, by decide +kernel, rfl, by decide +kernel, by decide +kernel⟩
abbrev st_law_told : Stmt := top 26
theorem sc_law_told : FnScope ["_law_which", "_law_text", "_law_value", "e"] ["_law_which", "_law_text", "_law_value"] (defScope st_law_told) := ⟨rfl, rfl, rfl, by decide +kernel, rfl, by decide +kernel, by decide +kernel⟩
abbrev st_law_due : Stmt := top 27
theorem sc_law_due : FnScope ["_law_which", "_law_spots", "_law_at"] ["_law_which"] (defScope st_law_due) := ⟨rfl, rfl, rfl, by decide +kernel, rfl, by decide +kernel, by decide +kernel⟩
abbrev st_law : Stmt := top 28
theorem sc_law : FnScope ["_law_script", "_law_spot", "_law_bag_here", "_law_values", "_law_text", "_law_which", "_law_value", "_law_flags_here", "_law_kept"] ["_law_script"] (defScope st_law) := ⟨rfl, rfl, rfl, by decide +kernel, rfl, by decide +kernel, by decide +kernel⟩
def exOf (mg : Str → Option Value) : Nat → Value := fun n => match n with
  | 0 => (mg "TangentError").getD .none
  | 1 => (mg "InvalidForm").getD .none
  | 2 => (mg "InvalidLine").getD .none
  | 3 => (mg "InvalidPoint").getD .none
  | 4 => (mg "InvalidLot").getD .none
  | 5 => (mg "InvalidMarks").getD .none
  | 6 => (mg "InvalidPair").getD .none
  | 7 => (mg "InvalidRow").getD .none
  | 8 => (mg "InvalidTable").getD .none
  | 9 => (mg "InvalidWeb").getD .none
  | 10 => (mg "InvalidPromise").getD .none
  | 11 => (mg "InvalidOperation").getD .none
  | 12 => (mg "ParseError").getD .none
  | 13 => (mg "InvalidNumber").getD .none
  | 14 => (mg "UnknownName").getD .none
  | 15 => (mg "TooMany").getD .none
  | 16 => (mg "Refused").getD .none
  | 17 => (mg "NothingToUndo").getD .none
  | _ => .none
/-- what the defs ask of the module: built-ins under their names, constants, classes -/
structure Fx (P : Program) (g : Gm) (mg : Str → Option Value) : Prop where
  b_ArithmeticError : mg "ArithmeticError" = none
  b_IndexError : mg "IndexError" = none
  b_KeyError : mg "KeyError" = none
  b_LookupError : mg "LookupError" = none
  b_OverflowError : mg "OverflowError" = none
  b_ValueError : mg "ValueError" = none
  b_abs : mg "abs" = none
  b_int : mg "int" = none
  b_isinstance : mg "isinstance" = none
  b_len : mg "len" = none
  b_max : mg "max" = none
  b_min : mg "min" = none
  b_range : mg "range" = none
  b_repr : mg "repr" = none
  b_sum : mg "sum" = none
  r_InvalidForm : RsT g.r.K g.ex mg "InvalidForm" 1
  r_InvalidLine : RsT g.r.K g.ex mg "InvalidLine" 2
  r_InvalidLot : RsT g.r.K g.ex mg "InvalidLot" 4
  r_InvalidMarks : RsT g.r.K g.ex mg "InvalidMarks" 5
  r_InvalidNumber : RsV P g.r.K g.ex mg "InvalidNumber" 13 "given"
  r_InvalidOperation : RsT g.r.K g.ex mg "InvalidOperation" 11
  r_InvalidPair : RsT g.r.K g.ex mg "InvalidPair" 6
  r_InvalidPoint : RsT g.r.K g.ex mg "InvalidPoint" 3
  r_InvalidPromise : RsT g.r.K g.ex mg "InvalidPromise" 10
  r_InvalidRow : RsT g.r.K g.ex mg "InvalidRow" 7
  r_InvalidTable : RsT g.r.K g.ex mg "InvalidTable" 8
  r_InvalidWeb : RsT g.r.K g.ex mg "InvalidWeb" 9
  r_NothingToUndo : RsV P g.r.K g.ex mg "NothingToUndo" 17 "steps"
  r_ParseError : RsV P g.r.K g.ex mg "ParseError" 12 "index"
  r_Refused : RsV P g.r.K g.ex mg "Refused" 16 "reason"
  r_TangentError : RsT g.r.K g.ex mg "TangentError" 0
  r_TooMany : RsV P g.r.K g.ex mg "TooMany" 15 "most"
  r_UnknownName : RsV P g.r.K g.ex mg "UnknownName" 14 "wanted"
  n_InvalidForm : mg "InvalidForm" = some (g.ex 1)
  n_InvalidLine : mg "InvalidLine" = some (g.ex 2)
  n_InvalidLot : mg "InvalidLot" = some (g.ex 4)
  n_InvalidMarks : mg "InvalidMarks" = some (g.ex 5)
  n_InvalidNumber : mg "InvalidNumber" = some (g.ex 13)
  n_InvalidOperation : mg "InvalidOperation" = some (g.ex 11)
  n_InvalidPair : mg "InvalidPair" = some (g.ex 6)
  n_InvalidPoint : mg "InvalidPoint" = some (g.ex 3)
  n_InvalidPromise : mg "InvalidPromise" = some (g.ex 10)
  n_InvalidRow : mg "InvalidRow" = some (g.ex 7)
  n_InvalidTable : mg "InvalidTable" = some (g.ex 8)
  n_InvalidWeb : mg "InvalidWeb" = some (g.ex 9)
  n_NothingToUndo : mg "NothingToUndo" = some (g.ex 17)
  n_ParseError : mg "ParseError" = some (g.ex 12)
  n_Refused : mg "Refused" = some (g.ex 16)
  n_TangentError : mg "TangentError" = some (g.ex 0)
  n_TooMany : mg "TooMany" = some (g.ex 15)
  n_UnknownName : mg "UnknownName" = some (g.ex 14)
  x_InvalidNumber : XfT g.r.K g.ex 13 "given"
  x_NothingToUndo : XfT g.r.K g.ex 17 "steps"
  x_ParseError : XfT g.r.K g.ex 12 "index"
  x_Refused : XfT g.r.K g.ex 16 "reason"
  x_TooMany : XfT g.r.K g.ex 15 "most"
  x_UnknownName : XfT g.r.K g.ex 14 "wanted"
  isa : ∀ c < 18, XkC g.r.K (g.ex c) (usX g.ex) (isaX c)
  sub : SubOk g.r.K g.ex subX
theorem sub_mk {K : PySem.W.Frag} {ex : Nat → Value} (e_0_12 : PySem.W.exmOne K (ex 0) (ex 12) = some false) (e_0_0 : PySem.W.exmOne K (ex 0) (ex 0) = some true) (e_1_12 : PySem.W.exmOne K (ex 1) (ex 12) = some false) (e_1_0 : PySem.W.exmOne K (ex 1) (ex 0) = some true) (e_2_12 : PySem.W.exmOne K (ex 2) (ex 12) = some false) (e_2_0 : PySem.W.exmOne K (ex 2) (ex 0) = some true) (e_3_12 : PySem.W.exmOne K (ex 3) (ex 12) = some false) (e_3_0 : PySem.W.exmOne K (ex 3) (ex 0) = some true) (e_4_12 : PySem.W.exmOne K (ex 4) (ex 12) = some false) (e_4_0 : PySem.W.exmOne K (ex 4) (ex 0) = some true) (e_5_12 : PySem.W.exmOne K (ex 5) (ex 12) = some false) (e_5_0 : PySem.W.exmOne K (ex 5) (ex 0) = some true) (e_6_12 : PySem.W.exmOne K (ex 6) (ex 12) = some false) (e_6_0 : PySem.W.exmOne K (ex 6) (ex 0) = some true) (e_7_12 : PySem.W.exmOne K (ex 7) (ex 12) = some false) (e_7_0 : PySem.W.exmOne K (ex 7) (ex 0) = some true) (e_8_12 : PySem.W.exmOne K (ex 8) (ex 12) = some false) (e_8_0 : PySem.W.exmOne K (ex 8) (ex 0) = some true) (e_9_12 : PySem.W.exmOne K (ex 9) (ex 12) = some false) (e_9_0 : PySem.W.exmOne K (ex 9) (ex 0) = some true) (e_10_12 : PySem.W.exmOne K (ex 10) (ex 12) = some false) (e_10_0 : PySem.W.exmOne K (ex 10) (ex 0) = some true) (e_11_12 : PySem.W.exmOne K (ex 11) (ex 12) = some false) (e_11_0 : PySem.W.exmOne K (ex 11) (ex 0) = some true) (e_12_12 : PySem.W.exmOne K (ex 12) (ex 12) = some true) (e_13_12 : PySem.W.exmOne K (ex 13) (ex 12) = some false) (e_13_0 : PySem.W.exmOne K (ex 13) (ex 0) = some false) (e_13_13 : PySem.W.exmOne K (ex 13) (ex 13) = some true) (e_14_12 : PySem.W.exmOne K (ex 14) (ex 12) = some false) (e_14_0 : PySem.W.exmOne K (ex 14) (ex 0) = some false) (e_14_13 : PySem.W.exmOne K (ex 14) (ex 13) = some false) (e_14_14 : PySem.W.exmOne K (ex 14) (ex 14) = some true) (e_15_12 : PySem.W.exmOne K (ex 15) (ex 12) = some false) (e_15_0 : PySem.W.exmOne K (ex 15) (ex 0) = some false) (e_15_13 : PySem.W.exmOne K (ex 15) (ex 13) = some false) (e_15_14 : PySem.W.exmOne K (ex 15) (ex 14) = some false) (e_15_15 : PySem.W.exmOne K (ex 15) (ex 15) = some true) (e_16_12 : PySem.W.exmOne K (ex 16) (ex 12) = some false) (e_16_0 : PySem.W.exmOne K (ex 16) (ex 0) = some false) (e_16_13 : PySem.W.exmOne K (ex 16) (ex 13) = some false) (e_16_14 : PySem.W.exmOne K (ex 16) (ex 14) = some false) (e_16_15 : PySem.W.exmOne K (ex 16) (ex 15) = some false) (e_16_16 : PySem.W.exmOne K (ex 16) (ex 16) = some true) (e_17_12 : PySem.W.exmOne K (ex 17) (ex 12) = some false) (e_17_0 : PySem.W.exmOne K (ex 17) (ex 0) = some false) (e_17_13 : PySem.W.exmOne K (ex 17) (ex 13) = some false) (e_17_14 : PySem.W.exmOne K (ex 17) (ex 14) = some false) (e_17_15 : PySem.W.exmOne K (ex 17) (ex 15) = some false) (e_17_16 : PySem.W.exmOne K (ex 17) (ex 16) = some false) (e_17_17 : PySem.W.exmOne K (ex 17) (ex 17) = some true) : SubOk K ex subX := by
  intro e c b h
  unfold subX at h
  split at h <;> first | (cases h; assumption) | cases h
section
variable {P : Program} {w : World} {mg : Str → Option Value} {base : Heap} {g : Gm}
theorem ok_law_bag (T : Fx P g mg) (A_law_bag : At g.r.K mg "_law_bag" st_law_bag ["_law_script", "_law_spot"]) : Dn P w g.r.K mg base g 1 "_law_bag" [] 2 m_law_bag := by
  refine dn_mk A_law_bag sc_law_bag rfl fun f cdv A outer s H E hr tk po => ?_
  have nd := sc_law_bag.nd
  exact (ss_cons (s_asg (se_if (st_cmp op_lt lt_o (sv 1) (b_len rfl T.b_len (sa_cons (sv 0) sa_nil)) (nomark _)) (s_ix rfl (sv 0) (sv 1)) (s_add rfl (s_add rfl (b_sum rfl rfl T.b_sum (sa_cons (s_cut rfl (sv 0) so_none (so_some sc_int)) sa_nil)) (s_mul sc_int (sv 1))) sc_int)) (g_name 2 nd))
    (ss_cons (s_asg (s_mod (b_int T.b_int (sa_cons (b_abs T.b_abs (sa_cons (sv 2) sa_nil)) sa_nil)) (s_pow (s_pow sc_int sc_int) sc_int)) (g_name 3 nd))
    (ss_cons (s_asg (s_add rfl (s_add rfl (s_add rfl (s_mul (s_mod (b_int T.b_int (sa_cons (sv 3) sa_nil)) sc_int) sc_int) (s_mul sc_int (sv 1))) (s_mul sc_int (b_int T.b_int (sa_cons (s_lt (sv 2) sc_int) sa_nil)))) sc_int) (g_name 4 nd))
    (ss_one (s_ret (se_cell (sa_cons (b_max2 rfl T.b_max (sa_cons sc_int (sa_cons (s_sub (sv 3) (s_pow sc_int sc_int)) sa_nil))) (sa_cons (s_mod (b_int T.b_int (sa_cons (sv 4) sa_nil)) sc_int) (sa_cons sc_int sa_nil)))))))))
theorem ok_law_grab (T : Fx P g mg) (A_law_grab : At g.r.K mg "_law_grab" st_law_grab ["_law_bag_here", "_law_total"]) : Dn P w g.r.K mg base g 1 "_law_grab" [] 2 m_law_grab := by
  refine dn_mk A_law_grab sc_law_grab rfl fun f cdv A outer s H E hr tk po => ?_
  have nd := sc_law_grab.nd
  exact (ss_cons (s_if (st_cmp op_gt gt_o (s_ix rfl (sv 0) sc_int) sc_int (nomark _)) (ss_cons (s_asg (s_mod (b_int T.b_int (sa_cons (s_ix rfl (sv 0) sc_int) sa_nil)) (sv 1)) (g_name 2 nd))
    (ss_cons (s_asg (s_div (s_ix rfl (sv 0) sc_int) (sv 1)) (g_sub (W := W0) (sv 0) sc_int))
    (ss_one (s_ret (sv 2))))) ss_nil)
    (ss_cons (s_asg (s_add rfl (s_ix rfl (sv 0) sc_int) sc_int) (g_sub (W := W0) (sv 0) sc_int))
    (ss_cons (s_asg (s_mod (b_int T.b_int (sa_cons (s_add rfl (s_ix rfl (sv 0) sc_int) (s_mul sc_int (s_ix rfl (sv 0) sc_int))) sa_nil)) sc_int) (g_name 3 nd))
    (ss_cons (s_asg (s_add rfl (s_mul (s_mod (b_int T.b_int (sa_cons (s_mul (sv 3) (sv 3)) sa_nil)) sc_int) (sv 3)) (s_mul sc_int (s_ix rfl (sv 0) sc_int))) (g_name 4 nd))
    (ss_one (s_ret (s_mod (b_int T.b_int (sa_cons (s_div (s_mod (b_int T.b_int (sa_cons (sv 4) sa_nil)) sc_int) sc_int) sa_nil)) (sv 1))))))))
theorem ok_law_one_of (T : Fx P g mg) (A_law_one_of : At g.r.K mg "_law_one_of" st_law_one_of ["_law_bag_here", "_law_items"]) (D_law_grab : Dn P w g.r.K mg base g 1 "_law_grab" [] 2 m_law_grab) : Dn P w g.r.K mg base g 2 "_law_one_of" [] 2 m_law_one_of := by
  refine dn_mk A_law_one_of sc_law_one_of rfl fun f cdv A outer s H E hr tk po => ?_
  have nd := sc_law_one_of.nd
  exact (ss_one (s_ret (s_ix rfl (sv 1) (s_fn D_law_grab tk (hr.mono (by decide)) (sa_cons (sv 0) (sa_cons (b_len rfl T.b_len (sa_cons (sv 1) sa_nil)) sa_nil))))))
theorem ok_law_kept_raised (T : Fx P g mg) (A_law_kept_raised : At g.r.K mg "_law_kept_raised" st_law_kept_raised ["_law_which", "_law_value"]) : Dn P w g.r.K mg base g 2 "_law_kept_raised" [] 2 m_law_kept_raised := by
  refine dn_mk A_law_kept_raised sc_law_kept_raised rfl fun f cdv A outer s H E hr tk po => ?_
  have nd := sc_law_kept_raised.nd
  exact (ss_cons (s_if (st_cmp (op_eqD (hu64 hr)) (eq_o rfl) (sv 0) sc_int (nomark _)) (ss_one (s_raiseV T.r_ParseError rfl tk (hr.mono (by decide)) (sv 1))) ss_nil)
    (ss_cons (s_if (st_cmp (op_eqD (hu64 hr)) (eq_o rfl) (sv 0) sc_int (nomark _)) (ss_one (s_raiseV T.r_InvalidNumber rfl tk (hr.mono (by decide)) (sv 1))) ss_nil)
    (ss_cons (s_if (st_cmp (op_eqD (hu64 hr)) (eq_o rfl) (sv 0) sc_int (nomark _)) (ss_one (s_raiseV T.r_UnknownName rfl tk (hr.mono (by decide)) (sv 1))) ss_nil)
    (ss_cons (s_if (st_cmp (op_eqD (hu64 hr)) (eq_o rfl) (sv 0) sc_int (nomark _)) (ss_one (s_raiseV T.r_TooMany rfl tk (hr.mono (by decide)) (sv 1))) ss_nil)
    (ss_cons (s_if (st_cmp (op_eqD (hu64 hr)) (eq_o rfl) (sv 0) sc_int (nomark _)) (ss_one (s_raiseV T.r_Refused rfl tk (hr.mono (by decide)) (sv 1))) ss_nil)
    (ss_one (s_raiseV T.r_NothingToUndo rfl tk (hr.mono (by decide)) (sv 1))))))))
theorem ok_law_raised (T : Fx P g mg) (A_law_raised : At g.r.K mg "_law_raised" st_law_raised ["_law_which", "_law_text", "_law_value"]) (D_law_kept_raised : Dn P w g.r.K mg base g 2 "_law_kept_raised" [] 2 m_law_kept_raised) : Dn P w g.r.K mg base g 3 "_law_raised" [] 3 m_law_raised := by
  refine dn_mk A_law_raised sc_law_raised rfl fun f cdv A outer s H E hr tk po => ?_
  have nd := sc_law_raised.nd
  exact (ss_cons (s_if (st_cmp (op_eqD (hu64 hr)) (eq_o rfl) (sv 0) sc_int (nomark _)) (ss_one (s_raise1 T.r_TangentError rfl tk (sv 1))) ss_nil)
    (ss_cons (s_if (st_cmp (op_eqD (hu64 hr)) (eq_o rfl) (sv 0) sc_int (nomark _)) (ss_one (s_raise1 T.r_InvalidForm rfl tk (sv 1))) ss_nil)
    (ss_cons (s_if (st_cmp (op_eqD (hu64 hr)) (eq_o rfl) (sv 0) sc_int (nomark _)) (ss_one (s_raise1 T.r_InvalidLine rfl tk (sv 1))) ss_nil)
    (ss_cons (s_if (st_cmp (op_eqD (hu64 hr)) (eq_o rfl) (sv 0) sc_int (nomark _)) (ss_one (s_raise1 T.r_InvalidPoint rfl tk (sv 1))) ss_nil)
    (ss_cons (s_if (st_cmp (op_eqD (hu64 hr)) (eq_o rfl) (sv 0) sc_int (nomark _)) (ss_one (s_raise1 T.r_InvalidLot rfl tk (sv 1))) ss_nil)
    (ss_cons (s_if (st_cmp (op_eqD (hu64 hr)) (eq_o rfl) (sv 0) sc_int (nomark _)) (ss_one (s_raise1 T.r_InvalidMarks rfl tk (sv 1))) ss_nil)
    (ss_cons (s_if (st_cmp (op_eqD (hu64 hr)) (eq_o rfl) (sv 0) sc_int (nomark _)) (ss_one (s_raise1 T.r_InvalidPair rfl tk (sv 1))) ss_nil)
    (ss_cons (s_if (st_cmp (op_eqD (hu64 hr)) (eq_o rfl) (sv 0) sc_int (nomark _)) (ss_one (s_raise1 T.r_InvalidRow rfl tk (sv 1))) ss_nil)
    (ss_cons (s_if (st_cmp (op_eqD (hu64 hr)) (eq_o rfl) (sv 0) sc_int (nomark _)) (ss_one (s_raise1 T.r_InvalidTable rfl tk (sv 1))) ss_nil)
    (ss_cons (s_if (st_cmp (op_eqD (hu64 hr)) (eq_o rfl) (sv 0) sc_int (nomark _)) (ss_one (s_raise1 T.r_InvalidWeb rfl tk (sv 1))) ss_nil)
    (ss_cons (s_if (st_cmp (op_eqD (hu64 hr)) (eq_o rfl) (sv 0) sc_int (nomark _)) (ss_one (s_raise1 T.r_InvalidPromise rfl tk (sv 1))) ss_nil)
    (ss_cons (s_if (st_cmp (op_eqD (hu64 hr)) (eq_o rfl) (sv 0) sc_int (nomark _)) (ss_one (s_raise1 T.r_InvalidOperation rfl tk (sv 1))) ss_nil)
    (ss_one (s_expr (s_fn D_law_kept_raised tk (hr.mono (by decide)) (sa_cons (sv 0) (sa_cons (sv 2) sa_nil)))))))))))))))))
theorem ok_law_flags (T : Fx P g mg) {A : Around} {outer : List Env} {f : Addr} {cdv : Value} {s : Shared} {H : Hp} {a : Addr} {oe : Obj} {d : Option Addr} {c : Nat} (hc : c < 18) (hz : Zc (g.ex c) d oe) (hf : ∃ vs, oe.data = .fields vs) : PSs (cxP P w g.r.K mg base ["_law_error", "_law_found"] "_law_flags" (defScope st_law_flags) f cdv A outer s H (a, oe)) (defBody st_law_flags) (tS (gD g d) W0 (bp_law_flags a c)) := by
  have nd := sc_law_flags.nd
  exact (ss_cons (s_asg (se_lst (sa_cons (s_isXo (i := 0) 0 (T.isa c hc) (T.isa 0 (by decide)) rfl (isa_get c hc 0 (by decide)) List.mem_cons_self hz hf T.n_TangentError T.b_isinstance) (sa_cons (s_isXo (i := 0) 1 (T.isa c hc) (T.isa 1 (by decide)) rfl (isa_get c hc 1 (by decide)) List.mem_cons_self hz hf T.n_InvalidForm T.b_isinstance) (sa_cons (s_isXo (i := 0) 2 (T.isa c hc) (T.isa 2 (by decide)) rfl (isa_get c hc 2 (by decide)) List.mem_cons_self hz hf T.n_InvalidLine T.b_isinstance) sa_nil)))) (g_name 1 nd))
    (ss_cons (s_asg (s_add rfl (sv 1) (se_lst (sa_cons (s_isXo (i := 0) 3 (T.isa c hc) (T.isa 3 (by decide)) rfl (isa_get c hc 3 (by decide)) List.mem_cons_self hz hf T.n_InvalidPoint T.b_isinstance) (sa_cons (s_isXo (i := 0) 4 (T.isa c hc) (T.isa 4 (by decide)) rfl (isa_get c hc 4 (by decide)) List.mem_cons_self hz hf T.n_InvalidLot T.b_isinstance) (sa_cons (s_isXo (i := 0) 5 (T.isa c hc) (T.isa 5 (by decide)) rfl (isa_get c hc 5 (by decide)) List.mem_cons_self hz hf T.n_InvalidMarks T.b_isinstance) sa_nil))))) (g_name 1 nd))
    (ss_cons (s_asg (s_add rfl (sv 1) (se_lst (sa_cons (s_isXo (i := 0) 6 (T.isa c hc) (T.isa 6 (by decide)) rfl (isa_get c hc 6 (by decide)) List.mem_cons_self hz hf T.n_InvalidPair T.b_isinstance) (sa_cons (s_isXo (i := 0) 7 (T.isa c hc) (T.isa 7 (by decide)) rfl (isa_get c hc 7 (by decide)) List.mem_cons_self hz hf T.n_InvalidRow T.b_isinstance) (sa_cons (s_isXo (i := 0) 8 (T.isa c hc) (T.isa 8 (by decide)) rfl (isa_get c hc 8 (by decide)) List.mem_cons_self hz hf T.n_InvalidTable T.b_isinstance) sa_nil))))) (g_name 1 nd))
    (ss_cons (s_asg (s_add rfl (sv 1) (se_lst (sa_cons (s_isXo (i := 0) 9 (T.isa c hc) (T.isa 9 (by decide)) rfl (isa_get c hc 9 (by decide)) List.mem_cons_self hz hf T.n_InvalidWeb T.b_isinstance) (sa_cons (s_isXo (i := 0) 10 (T.isa c hc) (T.isa 10 (by decide)) rfl (isa_get c hc 10 (by decide)) List.mem_cons_self hz hf T.n_InvalidPromise T.b_isinstance) (sa_cons (s_isXo (i := 0) 11 (T.isa c hc) (T.isa 11 (by decide)) rfl (isa_get c hc 11 (by decide)) List.mem_cons_self hz hf T.n_InvalidOperation T.b_isinstance) sa_nil))))) (g_name 1 nd))
    (ss_cons (s_asg (s_add rfl (sv 1) (se_lst (sa_cons (s_isXo (i := 0) 12 (T.isa c hc) (T.isa 12 (by decide)) rfl (isa_get c hc 12 (by decide)) List.mem_cons_self hz hf T.n_ParseError T.b_isinstance) (sa_cons (s_isXo (i := 0) 13 (T.isa c hc) (T.isa 13 (by decide)) rfl (isa_get c hc 13 (by decide)) List.mem_cons_self hz hf T.n_InvalidNumber T.b_isinstance) (sa_cons (s_isXo (i := 0) 14 (T.isa c hc) (T.isa 14 (by decide)) rfl (isa_get c hc 14 (by decide)) List.mem_cons_self hz hf T.n_UnknownName T.b_isinstance) sa_nil))))) (g_name 1 nd))
    (ss_cons (s_asg (s_add rfl (sv 1) (se_lst (sa_cons (s_isXo (i := 0) 15 (T.isa c hc) (T.isa 15 (by decide)) rfl (isa_get c hc 15 (by decide)) List.mem_cons_self hz hf T.n_TooMany T.b_isinstance) (sa_cons (s_isXo (i := 0) 16 (T.isa c hc) (T.isa 16 (by decide)) rfl (isa_get c hc 16 (by decide)) List.mem_cons_self hz hf T.n_Refused T.b_isinstance) (sa_cons (s_isXo (i := 0) 17 (T.isa c hc) (T.isa 17 (by decide)) rfl (isa_get c hc 17 (by decide)) List.mem_cons_self hz hf T.n_NothingToUndo T.b_isinstance) sa_nil))))) (g_name 1 nd))
    (ss_cons (s_asg (s_add rfl (sv 1) (se_lst (sa_cons (s_isXt (i := 0) 18 (T.isa c hc) rfl (isa_get c hc 18 (by decide)) List.mem_cons_self hz hf T.b_ValueError bt_ValueError T.b_isinstance) (sa_cons (s_isXt (i := 0) 19 (T.isa c hc) rfl (isa_get c hc 19 (by decide)) List.mem_cons_self hz hf T.b_IndexError bt_IndexError T.b_isinstance) (sa_cons (s_isXt (i := 0) 20 (T.isa c hc) rfl (isa_get c hc 20 (by decide)) List.mem_cons_self hz hf T.b_KeyError bt_KeyError T.b_isinstance) sa_nil))))) (g_name 1 nd))
    (ss_one (s_ret (s_add rfl (sv 1) (se_lst (sa_cons (s_isXt (i := 0) 21 (T.isa c hc) rfl (isa_get c hc 21 (by decide)) List.mem_cons_self hz hf T.b_OverflowError bt_OverflowError T.b_isinstance) (sa_cons (s_isXt (i := 0) 22 (T.isa c hc) rfl (isa_get c hc 22 (by decide)) List.mem_cons_self hz hf T.b_ArithmeticError bt_ArithmeticError T.b_isinstance) (sa_cons (s_isXt (i := 0) 23 (T.isa c hc) rfl (isa_get c hc 23 (by decide)) List.mem_cons_self hz hf T.b_LookupError bt_LookupError T.b_isinstance) sa_nil))))))))))))))
theorem ok_law_told (T : Fx P g mg) (A_law_told : At g.r.K mg "_law_told" st_law_told ["_law_which", "_law_text", "_law_value"]) (A_law_flags : At g.r.K mg "_law_flags" st_law_flags ["_law_error"]) (D_law_raised : Dn P w g.r.K mg base g 3 "_law_raised" [] 3 m_law_raised) : Dn P w g.r.K mg base g 4 "_law_told" [] 3 m_law_told := by
  refine dn_mk A_law_told sc_law_told rfl fun f cdv A outer s H E hr tk po => ?_
  have nd := sc_law_told.nd
  exact (ss_cons (s_try (sub := subX) rfl T.sub nd tk (fun W pn xe tk po => (ss_one (s_expr (s_fn D_law_raised tk (hr.mono (by decide)) (sa_cons (sv 0) (sa_cons (sv 1) (sa_cons (sv 2) sa_nil))))))) (.named ⟨rfl, rfl, .inl T.n_ParseError⟩ rfl rfl (su_flF (nn := 18) (tab := isaD) (M := m_law_flags) (fun k hk a oe d pn hz hf => pe_given (N := ["_law_error", "_law_found"]) (b := fun a => bp_law_flags a k) A_law_flags sc_law_flags (hr.mono (by decide)) (fun f cdv s H => ok_law_flags T hk hz hf)) ev_law_flags T.x_ParseError) (.named ⟨rfl, rfl, .inl T.n_TangentError⟩ rfl rfl (su_flN (nn := 18) (tab := isaD) (M := m_law_flags) (fun k hk a oe d pn hz hf => pe_given (N := ["_law_error", "_law_found"]) (b := fun a => bp_law_flags a k) A_law_flags sc_law_flags (hr.mono (by decide)) (fun f cdv s H => ok_law_flags T hk hz hf)) ev_law_flags) (.named ⟨rfl, rfl, .inl T.n_InvalidNumber⟩ rfl rfl (su_flF (nn := 18) (tab := isaD) (M := m_law_flags) (fun k hk a oe d pn hz hf => pe_given (N := ["_law_error", "_law_found"]) (b := fun a => bp_law_flags a k) A_law_flags sc_law_flags (hr.mono (by decide)) (fun f cdv s H => ok_law_flags T hk hz hf)) ev_law_flags T.x_InvalidNumber) (.named ⟨rfl, rfl, .inl T.n_UnknownName⟩ rfl rfl (su_flF (nn := 18) (tab := isaD) (M := m_law_flags) (fun k hk a oe d pn hz hf => pe_given (N := ["_law_error", "_law_found"]) (b := fun a => bp_law_flags a k) A_law_flags sc_law_flags (hr.mono (by decide)) (fun f cdv s H => ok_law_flags T hk hz hf)) ev_law_flags T.x_UnknownName) (.named ⟨rfl, rfl, .inl T.n_TooMany⟩ rfl rfl (su_flF (nn := 18) (tab := isaD) (M := m_law_flags) (fun k hk a oe d pn hz hf => pe_given (N := ["_law_error", "_law_found"]) (b := fun a => bp_law_flags a k) A_law_flags sc_law_flags (hr.mono (by decide)) (fun f cdv s H => ok_law_flags T hk hz hf)) ev_law_flags T.x_TooMany) (.named ⟨rfl, rfl, .inl T.n_Refused⟩ rfl rfl (su_flF (nn := 18) (tab := isaD) (M := m_law_flags) (fun k hk a oe d pn hz hf => pe_given (N := ["_law_error", "_law_found"]) (b := fun a => bp_law_flags a k) A_law_flags sc_law_flags (hr.mono (by decide)) (fun f cdv s H => ok_law_flags T hk hz hf)) ev_law_flags T.x_Refused) (.named ⟨rfl, rfl, .inl T.n_NothingToUndo⟩ rfl rfl (su_flF (nn := 18) (tab := isaD) (M := m_law_flags) (fun k hk a oe d pn hz hf => pe_given (N := ["_law_error", "_law_found"]) (b := fun a => bp_law_flags a k) A_law_flags sc_law_flags (hr.mono (by decide)) (fun f cdv s H => ok_law_flags T hk hz hf)) ev_law_flags T.x_NothingToUndo) .nil))))))))
    (ss_one (s_ret sc_non)))
theorem ok_law_due (T : Fx P g mg) (A_law_due : At g.r.K mg "_law_due" st_law_due ["_law_which"]) : Dn P w g.r.K mg base g 1 "_law_due" [] 1 m_law_due := by
  refine dn_mk A_law_due sc_law_due rfl fun f cdv A outer s H E hr tk po => ?_
  have nd := sc_law_due.nd
  exact (ss_cons (s_asg (se_lst (sa_cons sc_int (sa_cons (sv 0) (sa_cons sc_int sa_nil)))) (g_name 1 nd))
    (ss_cons (s_if (st_cmp op_gt gt_o (sv 0) sc_int (nomark _)) (ss_one (s_asg (s_add rfl (se_lst (sa_cons (sv 0) sa_nil)) (s_ix rfl (se_lst (sa_cons (se_lst (sa_cons sc_int (sa_cons sc_int sa_nil))) (sa_cons (se_lst (sa_cons sc_int (sa_cons sc_int sa_nil))) (sa_cons (se_lst (sa_cons sc_int (sa_cons sc_int sa_nil))) (sa_cons (se_lst (sa_cons sc_int sa_nil)) (sa_cons (se_lst (sa_cons sc_int sa_nil)) sa_nil)))))) (s_sub (sv 0) sc_int))) (g_name 1 nd))) ss_nil)
    (ss_one (s_ret (s_lc (own := [("_law_at", 2)]) rfl nd (si_range1 T.b_range (sa_cons sc_int sa_nil)) (blkOk_by rfl) (go_name (i := 2)) (fun _ _ _ _ _ => (pg_name (i := 2) nd rfl (by first | exact Or.inl rfl | exact Or.inr rfl))) (fun _ _ _ _ _ => sts_nil) (fun _ _ _ _ _ => (s_in rfl (hu65 hr) (sv 2) (sv 1))))))))
theorem ok_law (T : Fx P g mg) {c_law : Addr}  (D_law_bag : Dn P w g.r.K mg base g 1 "_law_bag" [] 2 m_law_bag) (D_law_one_of : Dn P w g.r.K mg base g 2 "_law_one_of" [] 2 m_law_one_of) (D_law_grab : Dn P w g.r.K mg base g 1 "_law_grab" [] 2 m_law_grab) (D_law_told : Dn P w g.r.K mg base g 4 "_law_told" [] 3 m_law_told) (D_law_due : Dn P w g.r.K mg base g 1 "_law_due" [] 1 m_law_due) : ∀ (f : Addr) (A : Around) (outer : List Env) (s : Shared) (H : Hp) (E : XK), Room 4 (A.deeper (envOfC "law" (defScope st_law) s.heap.objs.size f (.ref c_law))) → A.guards = some [] →
      Takes (cxOf (L2.CX P w) P w g.r.K mg base ["_law_script", "_law_spot", "_law_bag_here", "_law_values", "_law_text", "_law_which", "_law_value", "_law_flags_here", "_law_kept"] "law" (defScope st_law) f (.ref c_law) A outer s H E) (fun c dx _ H' => E c dx H') → PassesOwn (model P w) (cxOf (L2.CX P w) P w g.r.K mg base ["_law_script", "_law_spot", "_law_bag_here", "_law_values", "_law_text", "_law_which", "_law_value", "_law_flags_here", "_law_kept"] "law" (defScope st_law) f (.ref c_law) A outer s H E).A (cxOf (L2.CX P w) P w g.r.K mg base ["_law_script", "_law_spot", "_law_bag_here", "_law_values", "_law_text", "_law_which", "_law_value", "_law_flags_here", "_law_kept"] "law" (defScope st_law) f (.ref c_law) A outer s H E).env (cxOf (L2.CX P w) P w g.r.K mg base ["_law_script", "_law_spot", "_law_bag_here", "_law_values", "_law_text", "_law_which", "_law_value", "_law_flags_here", "_law_kept"] "law" (defScope st_law) f (.ref c_law) A outer s H E).xe →
      PSs (cxOf (L2.CX P w) P w g.r.K mg base ["_law_script", "_law_spot", "_law_bag_here", "_law_values", "_law_text", "_law_which", "_law_value", "_law_flags_here", "_law_kept"] "law" (defScope st_law) f (.ref c_law) A outer s H E) (defBody st_law) (tS g (fun c dx _ H' => E c dx H') b_law) := by
  intro f A outer s H E hr hgd tk po
  have nd := sc_law.nd
  exact (ss_cons (s_for rfl po (si_range1 T.b_range (sa_cons (b_max2 rfl T.b_max (sa_cons sc_int (sa_cons (b_min2 rfl T.b_min (sa_cons sc_int (sa_cons (b_len rfl T.b_len (sa_cons (sv 0) sa_nil)) sa_nil))) sa_nil))) sa_nil)) (g_name 1 nd) (ss_cons (s_asg (s_fn D_law_bag tk (hr.mono (by decide)) (sa_cons (sv 0) (sa_cons (sv 1) sa_nil))) (g_name 2 nd))
    (ss_cons (s_asg (se_lst (sa_cons sc_int (sa_cons (s_neg sc_int) (sa_cons sc_non (sa_cons sc_bl (sa_cons sc_str (sa_cons (se_tup (sa_cons sc_str sa_nil)) (sa_cons (se_tup (sa_cons sc_str (sa_cons sc_int (sa_cons sc_str sa_nil)))) (sa_cons (se_lst (sa_cons sc_int (sa_cons sc_str sa_nil))) (sa_cons s_dictST (sa_cons (s_pow sc_int sc_int) (sa_cons sc_str sa_nil)))))))))))) (g_name 3 nd))
    (ss_cons (s_asg (s_fn D_law_one_of tk (hr.mono (by decide)) (sa_cons (sv 2) (sa_cons (se_lst (sa_cons sc_str (sa_cons sc_str (sa_cons sc_str (sa_cons (s_mulS sc_str (s_add rfl sc_int (s_fn D_law_grab tk (hr.mono (by decide)) (sa_cons (sv 2) (sa_cons sc_int sa_nil))))) sa_nil))))) sa_nil))) (g_name 4 nd))
    (ss_one (s_for rfl po (si_range1 T.b_range (sa_cons sc_int sa_nil)) (g_name 5 nd) (ss_cons (s_asg (s_fn D_law_one_of tk (hr.mono (by decide)) (sa_cons (sv 2) (sa_cons (sv 3) sa_nil))) (g_name 6 nd))
    (ss_cons (s_asg (s_fn D_law_told tk (hr.mono (by decide)) (sa_cons (sv 5) (sa_cons (sv 4) (sa_cons (sv 6) sa_nil)))) (g_tupA rfl rfl (gs_cons (g_name 7 nd) (gs_cons (g_name 8 nd) gs_nil))))
    (ss_one (s_if (PW.pt (sw_or (st_cmp (op_neD (hu64 hr)) (ne_o rfl) (sv 7) (s_fn D_law_due tk (hr.mono (by decide)) (sa_cons (sv 5) sa_nil)) (nomark _)) (sw_oneO (PW.pt (sw_and (st_cmp op_gt gt_o (sv 5) sc_int (nomark _)) (sw_one (st_cmp (op_neD (hu64 hr)) (ne_o rfl) (b_reprX rfl hgd (hu65 hr) T.b_repr (sa_cons (sv 8) sa_nil)) (b_reprX rfl hgd (hu65 hr) T.b_repr (sa_cons (sv 6) sa_nil)) (nomark _)))))))) (ss_one (s_ret sc_bl)) ss_nil))))))))))
    (ss_one (s_ret sc_bl)))
theorem fin (T : Fx P g mg) (A_law_bag : At g.r.K mg "_law_bag" st_law_bag ["_law_script", "_law_spot"]) (A_law_grab : At g.r.K mg "_law_grab" st_law_grab ["_law_bag_here", "_law_total"]) (A_law_one_of : At g.r.K mg "_law_one_of" st_law_one_of ["_law_bag_here", "_law_items"]) (A_law_kept_raised : At g.r.K mg "_law_kept_raised" st_law_kept_raised ["_law_which", "_law_value"]) (A_law_raised : At g.r.K mg "_law_raised" st_law_raised ["_law_which", "_law_text", "_law_value"]) (A_law_flags : At g.r.K mg "_law_flags" st_law_flags ["_law_error"]) (A_law_told : At g.r.K mg "_law_told" st_law_told ["_law_which", "_law_text", "_law_value"]) (A_law_due : At g.r.K mg "_law_due" st_law_due ["_law_which"]) {c_law : Addr} (A_law : AtC g.r.K mg "law" st_law ["_law_script"] c_law) : ∀ (f : Addr) (A : Around) (outer : List Env) (s : Shared) (H : Hp) (E : XK), Room 4 (A.deeper (envOfC "law" (defScope st_law) s.heap.objs.size f (.ref c_law))) → A.guards = some [] →
      Takes (cxOf (L2.CX P w) P w g.r.K mg base ["_law_script", "_law_spot", "_law_bag_here", "_law_values", "_law_text", "_law_which", "_law_value", "_law_flags_here", "_law_kept"] "law" (defScope st_law) f (.ref c_law) A outer s H E) (fun c dx _ H' => E c dx H') → PassesOwn (model P w) (cxOf (L2.CX P w) P w g.r.K mg base ["_law_script", "_law_spot", "_law_bag_here", "_law_values", "_law_text", "_law_which", "_law_value", "_law_flags_here", "_law_kept"] "law" (defScope st_law) f (.ref c_law) A outer s H E).A (cxOf (L2.CX P w) P w g.r.K mg base ["_law_script", "_law_spot", "_law_bag_here", "_law_values", "_law_text", "_law_which", "_law_value", "_law_flags_here", "_law_kept"] "law" (defScope st_law) f (.ref c_law) A outer s H E).env (cxOf (L2.CX P w) P w g.r.K mg base ["_law_script", "_law_spot", "_law_bag_here", "_law_values", "_law_text", "_law_which", "_law_value", "_law_flags_here", "_law_kept"] "law" (defScope st_law) f (.ref c_law) A outer s H E).xe → PSs (cxOf (L2.CX P w) P w g.r.K mg base ["_law_script", "_law_spot", "_law_bag_here", "_law_values", "_law_text", "_law_which", "_law_value", "_law_flags_here", "_law_kept"] "law" (defScope st_law) f (.ref c_law) A outer s H E) (defBody st_law) (tS g (fun c dx _ H' => E c dx H') b_law) := by
  have D_law_bag := ok_law_bag (P := P) (w := w) (base := base) T A_law_bag
  have D_law_grab := ok_law_grab (P := P) (w := w) (base := base) T A_law_grab
  have D_law_one_of := ok_law_one_of (P := P) (w := w) (base := base) T A_law_one_of D_law_grab
  have D_law_kept_raised := ok_law_kept_raised (P := P) (w := w) (base := base) T A_law_kept_raised
  have D_law_raised := ok_law_raised (P := P) (w := w) (base := base) T A_law_raised D_law_kept_raised
  have D_law_told := ok_law_told (P := P) (w := w) (base := base) T A_law_told A_law_flags D_law_raised
  have D_law_due := ok_law_due (P := P) (w := w) (base := base) T A_law_due
  exact ok_law (P := P) (w := w) (base := base) T D_law_bag D_law_one_of D_law_grab D_law_told D_law_due
end
end G
open PySem PySem.W PyProof.Rows
set_option maxRecDepth 100000 in
set_option maxHeartbeats 0 in
theorem PySem.Challenge.cw_tangentrows_k00_whole_errors_holds : PySem.Challenge.rw_tangentrows_k00_whole_errors.Holds := by
  w_on; o_law; k_head; (case hw => w_witness2)
  k_fill
  refine MI.law_endG (x := "_law_script") (l := PySem.Challenge.rw_tangentrows_k00_whole_errors) (k := 5) (m := G.m_law) rfl rfl ⟨rfl, by decide, by decide⟩ (fun w h Y => by first | exact PySem.W.kIn_of Y | exact PySem.W.km_in_of Y) ?F G.law_true
  case F =>
    intro w mg fa h KX GN hmg TBS
    have b_ArithmeticError : mg "ArithmeticError" = none := by refine' PySem.W.mg_none_of KX GN ?x; (case x => k_is)
    have b_IndexError : mg "IndexError" = none := by refine' PySem.W.mg_none_of KX GN ?x; (case x => k_is)
    have b_KeyError : mg "KeyError" = none := by refine' PySem.W.mg_none_of KX GN ?x; (case x => k_is)
    have b_LookupError : mg "LookupError" = none := by refine' PySem.W.mg_none_of KX GN ?x; (case x => k_is)
    have b_OverflowError : mg "OverflowError" = none := by refine' PySem.W.mg_none_of KX GN ?x; (case x => k_is)
    have b_ValueError : mg "ValueError" = none := by refine' PySem.W.mg_none_of KX GN ?x; (case x => k_is)
    have b_abs : mg "abs" = none := by refine' PySem.W.mg_none_of KX GN ?x; (case x => k_is)
    have b_int : mg "int" = none := by refine' PySem.W.mg_none_of KX GN ?x; (case x => k_is)
    have b_isinstance : mg "isinstance" = none := by refine' PySem.W.mg_none_of KX GN ?x; (case x => k_is)
    have b_len : mg "len" = none := by refine' PySem.W.mg_none_of KX GN ?x; (case x => k_is)
    have b_max : mg "max" = none := by refine' PySem.W.mg_none_of KX GN ?x; (case x => k_is)
    have b_min : mg "min" = none := by refine' PySem.W.mg_none_of KX GN ?x; (case x => k_is)
    have b_range : mg "range" = none := by refine' PySem.W.mg_none_of KX GN ?x; (case x => k_is)
    have b_repr : mg "repr" = none := by refine' PySem.W.mg_none_of KX GN ?x; (case x => k_is)
    have b_sum : mg "sum" = none := by refine' PySem.W.mg_none_of KX GN ?x; (case x => k_is)
    have b_super : mg "super" = none := by refine' PySem.W.mg_none_of KX GN ?x; (case x => k_is)
    refine' MI.wth (MI.rsT_mk (x := "InvalidForm") (n := 1) (ex := G.exOf mg) KX GN (fun C h => by show (mg "InvalidForm").getD .none = _; rw [h]; rfl) F.excBase_ValueError ?ra ?rq ?rk ?rs ?rt) (fun r_InvalidForm => ?_); (case ra => k_is); (case rq => k_exc); (case rk => k_is); (case rs => k_is); (case rt => k_is)
    refine' MI.wth (MI.rsT_mk (x := "InvalidLine") (n := 2) (ex := G.exOf mg) KX GN (fun C h => by show (mg "InvalidLine").getD .none = _; rw [h]; rfl) F.excBase_ValueError ?ra ?rq ?rk ?rs ?rt) (fun r_InvalidLine => ?_); (case ra => k_is); (case rq => k_exc); (case rk => k_is); (case rs => k_is); (case rt => k_is)
    refine' MI.wth (MI.rsT_mk (x := "InvalidLot") (n := 4) (ex := G.exOf mg) KX GN (fun C h => by show (mg "InvalidLot").getD .none = _; rw [h]; rfl) F.excBase_ValueError ?ra ?rq ?rk ?rs ?rt) (fun r_InvalidLot => ?_); (case ra => k_is); (case rq => k_exc); (case rk => k_is); (case rs => k_is); (case rt => k_is)
    refine' MI.wth (MI.rsT_mk (x := "InvalidMarks") (n := 5) (ex := G.exOf mg) KX GN (fun C h => by show (mg "InvalidMarks").getD .none = _; rw [h]; rfl) F.excBase_ValueError ?ra ?rq ?rk ?rs ?rt) (fun r_InvalidMarks => ?_); (case ra => k_is); (case rq => k_exc); (case rk => k_is); (case rs => k_is); (case rt => k_is)
    refine' MI.wth (MI.rsV_mk (P := PySem.Challenge.rw_tangentrows_k00_whole_errors.prog) (x := "InvalidNumber") (n := 13) (f := "given") (ex := G.exOf mg) KX GN (fun C h => by show (mg "InvalidNumber").getD .none = _; rw [h]; rfl) b_super F.excBase_IndexError PySem.W.kxs_IndexError PySem.F.store_IndexError ?a1 ?a2 ?a3 ?a4 ?a5 ?a6 ?a7 ?a8 ?a9 ?a10 ?a11 ?a12 ?a13 ?a14 ?b1 ?b2 ?b3 ?b4 ?b5 ?b6 ?b7 ?b8 ?b9 ?b10 ?b11 ?b12 ?b13 ?b14 ?b15 ?b16 ?b17 ?b18 ?b19 ?b20 ?b21) (fun r_InvalidNumber => ?_); (case a1 => k_is); (case a2 => kx_is); (case a3 => kx_is); (case a4 => k_is); (case a5 => k_is); (case a6 => k_is); (case a7 => k_is); (case a8 => k_is); (case a9 => k_is); (case a10 => k_is); (case a11 => k_is); (case a12 => ks_is); (case a13 => k_is); (case a14 => rfl); (case b1 => k_is); (case b2 => k_is); (case b3 => k_is); (case b4 => k_is); (case b5 => k_is); (case b6 => rfl); (case b7 => rfl); (case b8 => k_is); (case b9 => rfl); (case b10 => rfl); (case b11 => exact fun _ _ _ _ _ _ _ _ _ => rfl); (case b12 => rfl); (case b13 => rfl); (case b14 => rfl); (case b15 => rfl); (case b16 => rfl); (case b17 => rfl); (case b18 => rfl); (case b19 => decide +kernel); (case b20 => exact ⟨rfl, rfl⟩); (case b21 => exact fun _ => ⟨_, rfl⟩)
    refine' MI.wth (MI.rsT_mk (x := "InvalidOperation") (n := 11) (ex := G.exOf mg) KX GN (fun C h => by show (mg "InvalidOperation").getD .none = _; rw [h]; rfl) F.excBase_ValueError ?ra ?rq ?rk ?rs ?rt) (fun r_InvalidOperation => ?_); (case ra => k_is); (case rq => k_exc); (case rk => k_is); (case rs => k_is); (case rt => k_is)
    refine' MI.wth (MI.rsT_mk (x := "InvalidPair") (n := 6) (ex := G.exOf mg) KX GN (fun C h => by show (mg "InvalidPair").getD .none = _; rw [h]; rfl) F.excBase_ValueError ?ra ?rq ?rk ?rs ?rt) (fun r_InvalidPair => ?_); (case ra => k_is); (case rq => k_exc); (case rk => k_is); (case rs => k_is); (case rt => k_is)
    refine' MI.wth (MI.rsT_mk (x := "InvalidPoint") (n := 3) (ex := G.exOf mg) KX GN (fun C h => by show (mg "InvalidPoint").getD .none = _; rw [h]; rfl) F.excBase_ValueError ?ra ?rq ?rk ?rs ?rt) (fun r_InvalidPoint => ?_); (case ra => k_is); (case rq => k_exc); (case rk => k_is); (case rs => k_is); (case rt => k_is)
    refine' MI.wth (MI.rsT_mk (x := "InvalidPromise") (n := 10) (ex := G.exOf mg) KX GN (fun C h => by show (mg "InvalidPromise").getD .none = _; rw [h]; rfl) F.excBase_ValueError ?ra ?rq ?rk ?rs ?rt) (fun r_InvalidPromise => ?_); (case ra => k_is); (case rq => k_exc); (case rk => k_is); (case rs => k_is); (case rt => k_is)
    refine' MI.wth (MI.rsT_mk (x := "InvalidRow") (n := 7) (ex := G.exOf mg) KX GN (fun C h => by show (mg "InvalidRow").getD .none = _; rw [h]; rfl) F.excBase_ValueError ?ra ?rq ?rk ?rs ?rt) (fun r_InvalidRow => ?_); (case ra => k_is); (case rq => k_exc); (case rk => k_is); (case rs => k_is); (case rt => k_is)
    refine' MI.wth (MI.rsT_mk (x := "InvalidTable") (n := 8) (ex := G.exOf mg) KX GN (fun C h => by show (mg "InvalidTable").getD .none = _; rw [h]; rfl) F.excBase_ValueError ?ra ?rq ?rk ?rs ?rt) (fun r_InvalidTable => ?_); (case ra => k_is); (case rq => k_exc); (case rk => k_is); (case rs => k_is); (case rt => k_is)
    refine' MI.wth (MI.rsT_mk (x := "InvalidWeb") (n := 9) (ex := G.exOf mg) KX GN (fun C h => by show (mg "InvalidWeb").getD .none = _; rw [h]; rfl) F.excBase_ValueError ?ra ?rq ?rk ?rs ?rt) (fun r_InvalidWeb => ?_); (case ra => k_is); (case rq => k_exc); (case rk => k_is); (case rs => k_is); (case rt => k_is)
    refine' MI.wth (MI.rsV_mk (P := PySem.Challenge.rw_tangentrows_k00_whole_errors.prog) (x := "NothingToUndo") (n := 17) (f := "steps") (ex := G.exOf mg) KX GN (fun C h => by show (mg "NothingToUndo").getD .none = _; rw [h]; rfl) b_super F.excBase_LookupError PySem.W.kxs_LookupError PySem.F.store_LookupError ?a1 ?a2 ?a3 ?a4 ?a5 ?a6 ?a7 ?a8 ?a9 ?a10 ?a11 ?a12 ?a13 ?a14 ?b1 ?b2 ?b3 ?b4 ?b5 ?b6 ?b7 ?b8 ?b9 ?b10 ?b11 ?b12 ?b13 ?b14 ?b15 ?b16 ?b17 ?b18 ?b19 ?b20 ?b21) (fun r_NothingToUndo => ?_); (case a1 => k_is); (case a2 => kx_is); (case a3 => kx_is); (case a4 => k_is); (case a5 => k_is); (case a6 => k_is); (case a7 => k_is); (case a8 => k_is); (case a9 => k_is); (case a10 => k_is); (case a11 => k_is); (case a12 => ks_is); (case a13 => k_is); (case a14 => rfl); (case b1 => k_is); (case b2 => k_is); (case b3 => k_is); (case b4 => k_is); (case b5 => k_is); (case b6 => rfl); (case b7 => rfl); (case b8 => k_is); (case b9 => rfl); (case b10 => rfl); (case b11 => exact fun _ _ _ _ _ _ _ _ _ => rfl); (case b12 => rfl); (case b13 => rfl); (case b14 => rfl); (case b15 => rfl); (case b16 => rfl); (case b17 => rfl); (case b18 => rfl); (case b19 => decide +kernel); (case b20 => exact ⟨rfl, rfl⟩); (case b21 => exact fun _ => ⟨_, rfl⟩)
    refine' MI.wth (MI.rsV_mk (P := PySem.Challenge.rw_tangentrows_k00_whole_errors.prog) (x := "ParseError") (n := 12) (f := "index") (ex := G.exOf mg) KX GN (fun C h => by show (mg "ParseError").getD .none = _; rw [h]; rfl) b_super F.excBase_ValueError PySem.W.kxs_ValueError PySem.F.store_ValueError ?a1 ?a2 ?a3 ?a4 ?a5 ?a6 ?a7 ?a8 ?a9 ?a10 ?a11 ?a12 ?a13 ?a14 ?b1 ?b2 ?b3 ?b4 ?b5 ?b6 ?b7 ?b8 ?b9 ?b10 ?b11 ?b12 ?b13 ?b14 ?b15 ?b16 ?b17 ?b18 ?b19 ?b20 ?b21) (fun r_ParseError => ?_); (case a1 => k_is); (case a2 => kx_is); (case a3 => kx_is); (case a4 => k_is); (case a5 => k_is); (case a6 => k_is); (case a7 => k_is); (case a8 => k_is); (case a9 => k_is); (case a10 => k_is); (case a11 => k_is); (case a12 => ks_is); (case a13 => k_is); (case a14 => rfl); (case b1 => k_is); (case b2 => k_is); (case b3 => k_is); (case b4 => k_is); (case b5 => k_is); (case b6 => rfl); (case b7 => rfl); (case b8 => k_is); (case b9 => rfl); (case b10 => rfl); (case b11 => exact fun _ _ _ _ _ _ _ _ _ => rfl); (case b12 => rfl); (case b13 => rfl); (case b14 => rfl); (case b15 => rfl); (case b16 => rfl); (case b17 => rfl); (case b18 => rfl); (case b19 => decide +kernel); (case b20 => exact ⟨rfl, rfl⟩); (case b21 => exact fun _ => ⟨_, rfl⟩)
    refine' MI.wth (MI.rsV_mk (P := PySem.Challenge.rw_tangentrows_k00_whole_errors.prog) (x := "Refused") (n := 16) (f := "reason") (ex := G.exOf mg) KX GN (fun C h => by show (mg "Refused").getD .none = _; rw [h]; rfl) b_super F.excBase_ArithmeticError PySem.W.kxs_ArithmeticError PySem.F.store_ArithmeticError ?a1 ?a2 ?a3 ?a4 ?a5 ?a6 ?a7 ?a8 ?a9 ?a10 ?a11 ?a12 ?a13 ?a14 ?b1 ?b2 ?b3 ?b4 ?b5 ?b6 ?b7 ?b8 ?b9 ?b10 ?b11 ?b12 ?b13 ?b14 ?b15 ?b16 ?b17 ?b18 ?b19 ?b20 ?b21) (fun r_Refused => ?_); (case a1 => k_is); (case a2 => kx_is); (case a3 => kx_is); (case a4 => k_is); (case a5 => k_is); (case a6 => k_is); (case a7 => k_is); (case a8 => k_is); (case a9 => k_is); (case a10 => k_is); (case a11 => k_is); (case a12 => ks_is); (case a13 => k_is); (case a14 => rfl); (case b1 => k_is); (case b2 => k_is); (case b3 => k_is); (case b4 => k_is); (case b5 => k_is); (case b6 => rfl); (case b7 => rfl); (case b8 => k_is); (case b9 => rfl); (case b10 => rfl); (case b11 => exact fun _ _ _ _ _ _ _ _ _ => rfl); (case b12 => rfl); (case b13 => rfl); (case b14 => rfl); (case b15 => rfl); (case b16 => rfl); (case b17 => rfl); (case b18 => rfl); (case b19 => decide +kernel); (case b20 => exact ⟨rfl, rfl⟩); (case b21 => exact fun _ => ⟨_, rfl⟩)
    refine' MI.wth (MI.rsT_mk (x := "TangentError") (n := 0) (ex := G.exOf mg) KX GN (fun C h => by show (mg "TangentError").getD .none = _; rw [h]; rfl) F.excBase_ValueError ?ra ?rq ?rk ?rs ?rt) (fun r_TangentError => ?_); (case ra => k_is); (case rq => k_exc); (case rk => k_is); (case rs => k_is); (case rt => k_is)
    refine' MI.wth (MI.rsV_mk (P := PySem.Challenge.rw_tangentrows_k00_whole_errors.prog) (x := "TooMany") (n := 15) (f := "most") (ex := G.exOf mg) KX GN (fun C h => by show (mg "TooMany").getD .none = _; rw [h]; rfl) b_super F.excBase_OverflowError PySem.W.kxs_OverflowError PySem.F.store_OverflowError ?a1 ?a2 ?a3 ?a4 ?a5 ?a6 ?a7 ?a8 ?a9 ?a10 ?a11 ?a12 ?a13 ?a14 ?b1 ?b2 ?b3 ?b4 ?b5 ?b6 ?b7 ?b8 ?b9 ?b10 ?b11 ?b12 ?b13 ?b14 ?b15 ?b16 ?b17 ?b18 ?b19 ?b20 ?b21) (fun r_TooMany => ?_); (case a1 => k_is); (case a2 => kx_is); (case a3 => kx_is); (case a4 => k_is); (case a5 => k_is); (case a6 => k_is); (case a7 => k_is); (case a8 => k_is); (case a9 => k_is); (case a10 => k_is); (case a11 => k_is); (case a12 => ks_is); (case a13 => k_is); (case a14 => rfl); (case b1 => k_is); (case b2 => k_is); (case b3 => k_is); (case b4 => k_is); (case b5 => k_is); (case b6 => rfl); (case b7 => rfl); (case b8 => k_is); (case b9 => rfl); (case b10 => rfl); (case b11 => exact fun _ _ _ _ _ _ _ _ _ => rfl); (case b12 => rfl); (case b13 => rfl); (case b14 => rfl); (case b15 => rfl); (case b16 => rfl); (case b17 => rfl); (case b18 => rfl); (case b19 => decide +kernel); (case b20 => exact ⟨rfl, rfl⟩); (case b21 => exact fun _ => ⟨_, rfl⟩)
    refine' MI.wth (MI.rsK_mk (P := PySem.Challenge.rw_tangentrows_k00_whole_errors.prog) (x := "UnknownName") (n := 14) (f := "wanted") (ex := G.exOf mg) KX GN (fun C h => by show (mg "UnknownName").getD .none = _; rw [h]; rfl) b_super ?a1 ?a2 ?a3 ?a4 ?a5 ?a6 ?a7 ?a8 ?a9 ?a10 ?a11 ?a12 ?a13 ?a14 ?b1 ?b2 ?b3 ?b4 ?b5 ?b6 ?b7 ?b8 ?b9 ?b10 ?b11 ?b12 ?b13 ?b14 ?b15 ?b16 ?b17 ?b18 ?b19 ?b20 ?b21) (fun r_UnknownName => ?_); (case a1 => k_is); (case a2 => kernel_rfl); (case a3 => kernel_rfl); (case a4 => k_is); (case a5 => k_is); (case a6 => k_is); (case a7 => k_is); (case a8 => k_is); (case a9 => k_is); (case a10 => k_is); (case a11 => k_is); (case a12 => ks_is); (case a13 => k_is); (case a14 => rfl); (case b1 => k_is); (case b2 => k_is); (case b3 => k_is); (case b4 => k_is); (case b5 => k_is); (case b6 => rfl); (case b7 => rfl); (case b8 => k_is); (case b9 => rfl); (case b10 => rfl); (case b11 => exact fun _ _ _ _ _ _ _ _ _ => rfl); (case b12 => rfl); (case b13 => rfl); (case b14 => rfl); (case b15 => rfl); (case b16 => rfl); (case b17 => rfl); (case b18 => rfl); (case b19 => decide +kernel); (case b20 => exact ⟨rfl, rfl⟩); (case b21 => exact fun _ => ⟨_, rfl⟩)
    refine' MI.wth (MI.nm_mk (x := "InvalidForm") (n := 1) (ex := G.exOf mg) KX GN (fun C h => by show (mg "InvalidForm").getD .none = _; rw [h]; rfl) ?ra) (fun n_InvalidForm => ?_); (case ra => k_is)
    refine' MI.wth (MI.nm_mk (x := "InvalidLine") (n := 2) (ex := G.exOf mg) KX GN (fun C h => by show (mg "InvalidLine").getD .none = _; rw [h]; rfl) ?ra) (fun n_InvalidLine => ?_); (case ra => k_is)
    refine' MI.wth (MI.nm_mk (x := "InvalidLot") (n := 4) (ex := G.exOf mg) KX GN (fun C h => by show (mg "InvalidLot").getD .none = _; rw [h]; rfl) ?ra) (fun n_InvalidLot => ?_); (case ra => k_is)
    refine' MI.wth (MI.nm_mk (x := "InvalidMarks") (n := 5) (ex := G.exOf mg) KX GN (fun C h => by show (mg "InvalidMarks").getD .none = _; rw [h]; rfl) ?ra) (fun n_InvalidMarks => ?_); (case ra => k_is)
    refine' MI.wth (MI.nm_mk (x := "InvalidNumber") (n := 13) (ex := G.exOf mg) KX GN (fun C h => by show (mg "InvalidNumber").getD .none = _; rw [h]; rfl) ?ra) (fun n_InvalidNumber => ?_); (case ra => k_is)
    refine' MI.wth (MI.nm_mk (x := "InvalidOperation") (n := 11) (ex := G.exOf mg) KX GN (fun C h => by show (mg "InvalidOperation").getD .none = _; rw [h]; rfl) ?ra) (fun n_InvalidOperation => ?_); (case ra => k_is)
    refine' MI.wth (MI.nm_mk (x := "InvalidPair") (n := 6) (ex := G.exOf mg) KX GN (fun C h => by show (mg "InvalidPair").getD .none = _; rw [h]; rfl) ?ra) (fun n_InvalidPair => ?_); (case ra => k_is)
    refine' MI.wth (MI.nm_mk (x := "InvalidPoint") (n := 3) (ex := G.exOf mg) KX GN (fun C h => by show (mg "InvalidPoint").getD .none = _; rw [h]; rfl) ?ra) (fun n_InvalidPoint => ?_); (case ra => k_is)
    refine' MI.wth (MI.nm_mk (x := "InvalidPromise") (n := 10) (ex := G.exOf mg) KX GN (fun C h => by show (mg "InvalidPromise").getD .none = _; rw [h]; rfl) ?ra) (fun n_InvalidPromise => ?_); (case ra => k_is)
    refine' MI.wth (MI.nm_mk (x := "InvalidRow") (n := 7) (ex := G.exOf mg) KX GN (fun C h => by show (mg "InvalidRow").getD .none = _; rw [h]; rfl) ?ra) (fun n_InvalidRow => ?_); (case ra => k_is)
    refine' MI.wth (MI.nm_mk (x := "InvalidTable") (n := 8) (ex := G.exOf mg) KX GN (fun C h => by show (mg "InvalidTable").getD .none = _; rw [h]; rfl) ?ra) (fun n_InvalidTable => ?_); (case ra => k_is)
    refine' MI.wth (MI.nm_mk (x := "InvalidWeb") (n := 9) (ex := G.exOf mg) KX GN (fun C h => by show (mg "InvalidWeb").getD .none = _; rw [h]; rfl) ?ra) (fun n_InvalidWeb => ?_); (case ra => k_is)
    refine' MI.wth (MI.nm_mk (x := "NothingToUndo") (n := 17) (ex := G.exOf mg) KX GN (fun C h => by show (mg "NothingToUndo").getD .none = _; rw [h]; rfl) ?ra) (fun n_NothingToUndo => ?_); (case ra => k_is)
    refine' MI.wth (MI.nm_mk (x := "ParseError") (n := 12) (ex := G.exOf mg) KX GN (fun C h => by show (mg "ParseError").getD .none = _; rw [h]; rfl) ?ra) (fun n_ParseError => ?_); (case ra => k_is)
    refine' MI.wth (MI.nm_mk (x := "Refused") (n := 16) (ex := G.exOf mg) KX GN (fun C h => by show (mg "Refused").getD .none = _; rw [h]; rfl) ?ra) (fun n_Refused => ?_); (case ra => k_is)
    refine' MI.wth (MI.nm_mk (x := "TangentError") (n := 0) (ex := G.exOf mg) KX GN (fun C h => by show (mg "TangentError").getD .none = _; rw [h]; rfl) ?ra) (fun n_TangentError => ?_); (case ra => k_is)
    refine' MI.wth (MI.nm_mk (x := "TooMany") (n := 15) (ex := G.exOf mg) KX GN (fun C h => by show (mg "TooMany").getD .none = _; rw [h]; rfl) ?ra) (fun n_TooMany => ?_); (case ra => k_is)
    refine' MI.wth (MI.nm_mk (x := "UnknownName") (n := 14) (ex := G.exOf mg) KX GN (fun C h => by show (mg "UnknownName").getD .none = _; rw [h]; rfl) ?ra) (fun n_UnknownName => ?_); (case ra => k_is)
    refine' MI.wth (MI.xfT_mk (x := "InvalidNumber") (n := 13) (f := "given") (ex := G.exOf mg) KX GN (fun C h => by show (mg "InvalidNumber").getD .none = _; rw [h]; rfl) ?ra ?rb ?rc ?rd ?re ?rf) (fun x_InvalidNumber => ?_); (case ra => k_is); (case rb => k_is); (case rc => k_is); (case rd => k_is); (case re => k_is); (case rf => k_is)
    refine' MI.wth (MI.xfT_mk (x := "NothingToUndo") (n := 17) (f := "steps") (ex := G.exOf mg) KX GN (fun C h => by show (mg "NothingToUndo").getD .none = _; rw [h]; rfl) ?ra ?rb ?rc ?rd ?re ?rf) (fun x_NothingToUndo => ?_); (case ra => k_is); (case rb => k_is); (case rc => k_is); (case rd => k_is); (case re => k_is); (case rf => k_is)
    refine' MI.wth (MI.xfT_mk (x := "ParseError") (n := 12) (f := "index") (ex := G.exOf mg) KX GN (fun C h => by show (mg "ParseError").getD .none = _; rw [h]; rfl) ?ra ?rb ?rc ?rd ?re ?rf) (fun x_ParseError => ?_); (case ra => k_is); (case rb => k_is); (case rc => k_is); (case rd => k_is); (case re => k_is); (case rf => k_is)
    refine' MI.wth (MI.xfT_mk (x := "Refused") (n := 16) (f := "reason") (ex := G.exOf mg) KX GN (fun C h => by show (mg "Refused").getD .none = _; rw [h]; rfl) ?ra ?rb ?rc ?rd ?re ?rf) (fun x_Refused => ?_); (case ra => k_is); (case rb => k_is); (case rc => k_is); (case rd => k_is); (case re => k_is); (case rf => k_is)
    refine' MI.wth (MI.xfT_mk (x := "TooMany") (n := 15) (f := "most") (ex := G.exOf mg) KX GN (fun C h => by show (mg "TooMany").getD .none = _; rw [h]; rfl) ?ra ?rb ?rc ?rd ?re ?rf) (fun x_TooMany => ?_); (case ra => k_is); (case rb => k_is); (case rc => k_is); (case rd => k_is); (case re => k_is); (case rf => k_is)
    refine' MI.wth (MI.xfT_mk (x := "UnknownName") (n := 14) (f := "wanted") (ex := G.exOf mg) KX GN (fun C h => by show (mg "UnknownName").getD .none = _; rw [h]; rfl) ?ra ?rb ?rc ?rd ?re ?rf) (fun x_UnknownName => ?_); (case ra => k_is); (case rb => k_is); (case rc => k_is); (case rd => k_is); (case re => k_is); (case rf => k_is)
    refine' MI.wth (MI.exe_mk (x := "TangentError") (n := 0) (ex := G.exOf mg) KX GN (fun C h => by show (mg "TangentError").getD .none = _; rw [h]; rfl) ?ra) (fun q_0 => ?_); (case ra => k_is)
    refine' MI.wth (MI.exe_mk (x := "InvalidForm") (n := 1) (ex := G.exOf mg) KX GN (fun C h => by show (mg "InvalidForm").getD .none = _; rw [h]; rfl) ?ra) (fun q_1 => ?_); (case ra => k_is)
    refine' MI.wth (MI.exe_mk (x := "InvalidLine") (n := 2) (ex := G.exOf mg) KX GN (fun C h => by show (mg "InvalidLine").getD .none = _; rw [h]; rfl) ?ra) (fun q_2 => ?_); (case ra => k_is)
    refine' MI.wth (MI.exe_mk (x := "InvalidPoint") (n := 3) (ex := G.exOf mg) KX GN (fun C h => by show (mg "InvalidPoint").getD .none = _; rw [h]; rfl) ?ra) (fun q_3 => ?_); (case ra => k_is)
    refine' MI.wth (MI.exe_mk (x := "InvalidLot") (n := 4) (ex := G.exOf mg) KX GN (fun C h => by show (mg "InvalidLot").getD .none = _; rw [h]; rfl) ?ra) (fun q_4 => ?_); (case ra => k_is)
    refine' MI.wth (MI.exe_mk (x := "InvalidMarks") (n := 5) (ex := G.exOf mg) KX GN (fun C h => by show (mg "InvalidMarks").getD .none = _; rw [h]; rfl) ?ra) (fun q_5 => ?_); (case ra => k_is)
    refine' MI.wth (MI.exe_mk (x := "InvalidPair") (n := 6) (ex := G.exOf mg) KX GN (fun C h => by show (mg "InvalidPair").getD .none = _; rw [h]; rfl) ?ra) (fun q_6 => ?_); (case ra => k_is)
    refine' MI.wth (MI.exe_mk (x := "InvalidRow") (n := 7) (ex := G.exOf mg) KX GN (fun C h => by show (mg "InvalidRow").getD .none = _; rw [h]; rfl) ?ra) (fun q_7 => ?_); (case ra => k_is)
    refine' MI.wth (MI.exe_mk (x := "InvalidTable") (n := 8) (ex := G.exOf mg) KX GN (fun C h => by show (mg "InvalidTable").getD .none = _; rw [h]; rfl) ?ra) (fun q_8 => ?_); (case ra => k_is)
    refine' MI.wth (MI.exe_mk (x := "InvalidWeb") (n := 9) (ex := G.exOf mg) KX GN (fun C h => by show (mg "InvalidWeb").getD .none = _; rw [h]; rfl) ?ra) (fun q_9 => ?_); (case ra => k_is)
    refine' MI.wth (MI.exe_mk (x := "InvalidPromise") (n := 10) (ex := G.exOf mg) KX GN (fun C h => by show (mg "InvalidPromise").getD .none = _; rw [h]; rfl) ?ra) (fun q_10 => ?_); (case ra => k_is)
    refine' MI.wth (MI.exe_mk (x := "InvalidOperation") (n := 11) (ex := G.exOf mg) KX GN (fun C h => by show (mg "InvalidOperation").getD .none = _; rw [h]; rfl) ?ra) (fun q_11 => ?_); (case ra => k_is)
    refine' MI.wth (MI.exe_mk (x := "ParseError") (n := 12) (ex := G.exOf mg) KX GN (fun C h => by show (mg "ParseError").getD .none = _; rw [h]; rfl) ?ra) (fun q_12 => ?_); (case ra => k_is)
    refine' MI.wth (MI.exe_mk (x := "InvalidNumber") (n := 13) (ex := G.exOf mg) KX GN (fun C h => by show (mg "InvalidNumber").getD .none = _; rw [h]; rfl) ?ra) (fun q_13 => ?_); (case ra => k_is)
    refine' MI.wth (MI.exe_mk (x := "UnknownName") (n := 14) (ex := G.exOf mg) KX GN (fun C h => by show (mg "UnknownName").getD .none = _; rw [h]; rfl) ?ra) (fun q_14 => ?_); (case ra => k_is)
    refine' MI.wth (MI.exe_mk (x := "TooMany") (n := 15) (ex := G.exOf mg) KX GN (fun C h => by show (mg "TooMany").getD .none = _; rw [h]; rfl) ?ra) (fun q_15 => ?_); (case ra => k_is)
    refine' MI.wth (MI.exe_mk (x := "Refused") (n := 16) (ex := G.exOf mg) KX GN (fun C h => by show (mg "Refused").getD .none = _; rw [h]; rfl) ?ra) (fun q_16 => ?_); (case ra => k_is)
    refine' MI.wth (MI.exe_mk (x := "NothingToUndo") (n := 17) (ex := G.exOf mg) KX GN (fun C h => by show (mg "NothingToUndo").getD .none = _; rw [h]; rfl) ?ra) (fun q_17 => ?_); (case ra => k_is)
    refine' MI.wth (MI.xkC_mk (x := "TangentError") (n := 0) (ex := G.exOf mg) (us := G.usX (G.exOf mg)) (bs := G.isaX 0) KX GN (fun C h => by show (mg "TangentError").getD .none = _; rw [h]; rfl) ?ra ?c0 ?c1 ?c2 ?c3 ?c4 ?c5 ?c6 ?c7 ?hu) (fun k_0 => ?_); (case ra => k_is); (case c0 => kernel_rfl); (case c1 => k_is); (case c2 => k_is); (case c3 => k_is); (case c4 => k_is); (case c5 => k_is); (case c6 => k_is); (case c7 => k_is); (case hu => unfold G.usX; rw [q_0, q_1, q_2, q_3, q_4, q_5, q_6, q_7, q_8, q_9, q_10, q_11, q_12, q_13, q_14, q_15, q_16, q_17]; kernel_rfl)
    refine' MI.wth (MI.xkC_mk (x := "InvalidForm") (n := 1) (ex := G.exOf mg) (us := G.usX (G.exOf mg)) (bs := G.isaX 1) KX GN (fun C h => by show (mg "InvalidForm").getD .none = _; rw [h]; rfl) ?ra ?c0 ?c1 ?c2 ?c3 ?c4 ?c5 ?c6 ?c7 ?hu) (fun k_1 => ?_); (case ra => k_is); (case c0 => kernel_rfl); (case c1 => k_is); (case c2 => k_is); (case c3 => k_is); (case c4 => k_is); (case c5 => k_is); (case c6 => k_is); (case c7 => k_is); (case hu => unfold G.usX; rw [q_0, q_1, q_2, q_3, q_4, q_5, q_6, q_7, q_8, q_9, q_10, q_11, q_12, q_13, q_14, q_15, q_16, q_17]; kernel_rfl)
    refine' MI.wth (MI.xkC_mk (x := "InvalidLine") (n := 2) (ex := G.exOf mg) (us := G.usX (G.exOf mg)) (bs := G.isaX 2) KX GN (fun C h => by show (mg "InvalidLine").getD .none = _; rw [h]; rfl) ?ra ?c0 ?c1 ?c2 ?c3 ?c4 ?c5 ?c6 ?c7 ?hu) (fun k_2 => ?_); (case ra => k_is); (case c0 => kernel_rfl); (case c1 => k_is); (case c2 => k_is); (case c3 => k_is); (case c4 => k_is); (case c5 => k_is); (case c6 => k_is); (case c7 => k_is); (case hu => unfold G.usX; rw [q_0, q_1, q_2, q_3, q_4, q_5, q_6, q_7, q_8, q_9, q_10, q_11, q_12, q_13, q_14, q_15, q_16, q_17]; kernel_rfl)
    refine' MI.wth (MI.xkC_mk (x := "InvalidPoint") (n := 3) (ex := G.exOf mg) (us := G.usX (G.exOf mg)) (bs := G.isaX 3) KX GN (fun C h => by show (mg "InvalidPoint").getD .none = _; rw [h]; rfl) ?ra ?c0 ?c1 ?c2 ?c3 ?c4 ?c5 ?c6 ?c7 ?hu) (fun k_3 => ?_); (case ra => k_is); (case c0 => kernel_rfl); (case c1 => k_is); (case c2 => k_is); (case c3 => k_is); (case c4 => k_is); (case c5 => k_is); (case c6 => k_is); (case c7 => k_is); (case hu => unfold G.usX; rw [q_0, q_1, q_2, q_3, q_4, q_5, q_6, q_7, q_8, q_9, q_10, q_11, q_12, q_13, q_14, q_15, q_16, q_17]; kernel_rfl)
    refine' MI.wth (MI.xkC_mk (x := "InvalidLot") (n := 4) (ex := G.exOf mg) (us := G.usX (G.exOf mg)) (bs := G.isaX 4) KX GN (fun C h => by show (mg "InvalidLot").getD .none = _; rw [h]; rfl) ?ra ?c0 ?c1 ?c2 ?c3 ?c4 ?c5 ?c6 ?c7 ?hu) (fun k_4 => ?_); (case ra => k_is); (case c0 => kernel_rfl); (case c1 => k_is); (case c2 => k_is); (case c3 => k_is); (case c4 => k_is); (case c5 => k_is); (case c6 => k_is); (case c7 => k_is); (case hu => unfold G.usX; rw [q_0, q_1, q_2, q_3, q_4, q_5, q_6, q_7, q_8, q_9, q_10, q_11, q_12, q_13, q_14, q_15, q_16, q_17]; kernel_rfl)
    refine' MI.wth (MI.xkC_mk (x := "InvalidMarks") (n := 5) (ex := G.exOf mg) (us := G.usX (G.exOf mg)) (bs := G.isaX 5) KX GN (fun C h => by show (mg "InvalidMarks").getD .none = _; rw [h]; rfl) ?ra ?c0 ?c1 ?c2 ?c3 ?c4 ?c5 ?c6 ?c7 ?hu) (fun k_5 => ?_); (case ra => k_is); (case c0 => kernel_rfl); (case c1 => k_is); (case c2 => k_is); (case c3 => k_is); (case c4 => k_is); (case c5 => k_is); (case c6 => k_is); (case c7 => k_is); (case hu => unfold G.usX; rw [q_0, q_1, q_2, q_3, q_4, q_5, q_6, q_7, q_8, q_9, q_10, q_11, q_12, q_13, q_14, q_15, q_16, q_17]; kernel_rfl)
    refine' MI.wth (MI.xkC_mk (x := "InvalidPair") (n := 6) (ex := G.exOf mg) (us := G.usX (G.exOf mg)) (bs := G.isaX 6) KX GN (fun C h => by show (mg "InvalidPair").getD .none = _; rw [h]; rfl) ?ra ?c0 ?c1 ?c2 ?c3 ?c4 ?c5 ?c6 ?c7 ?hu) (fun k_6 => ?_); (case ra => k_is); (case c0 => kernel_rfl); (case c1 => k_is); (case c2 => k_is); (case c3 => k_is); (case c4 => k_is); (case c5 => k_is); (case c6 => k_is); (case c7 => k_is); (case hu => unfold G.usX; rw [q_0, q_1, q_2, q_3, q_4, q_5, q_6, q_7, q_8, q_9, q_10, q_11, q_12, q_13, q_14, q_15, q_16, q_17]; kernel_rfl)
    refine' MI.wth (MI.xkC_mk (x := "InvalidRow") (n := 7) (ex := G.exOf mg) (us := G.usX (G.exOf mg)) (bs := G.isaX 7) KX GN (fun C h => by show (mg "InvalidRow").getD .none = _; rw [h]; rfl) ?ra ?c0 ?c1 ?c2 ?c3 ?c4 ?c5 ?c6 ?c7 ?hu) (fun k_7 => ?_); (case ra => k_is); (case c0 => kernel_rfl); (case c1 => k_is); (case c2 => k_is); (case c3 => k_is); (case c4 => k_is); (case c5 => k_is); (case c6 => k_is); (case c7 => k_is); (case hu => unfold G.usX; rw [q_0, q_1, q_2, q_3, q_4, q_5, q_6, q_7, q_8, q_9, q_10, q_11, q_12, q_13, q_14, q_15, q_16, q_17]; kernel_rfl)
    refine' MI.wth (MI.xkC_mk (x := "InvalidTable") (n := 8) (ex := G.exOf mg) (us := G.usX (G.exOf mg)) (bs := G.isaX 8) KX GN (fun C h => by show (mg "InvalidTable").getD .none = _; rw [h]; rfl) ?ra ?c0 ?c1 ?c2 ?c3 ?c4 ?c5 ?c6 ?c7 ?hu) (fun k_8 => ?_); (case ra => k_is); (case c0 => kernel_rfl); (case c1 => k_is); (case c2 => k_is); (case c3 => k_is); (case c4 => k_is); (case c5 => k_is); (case c6 => k_is); (case c7 => k_is); (case hu => unfold G.usX; rw [q_0, q_1, q_2, q_3, q_4, q_5, q_6, q_7, q_8, q_9, q_10, q_11, q_12, q_13, q_14, q_15, q_16, q_17]; kernel_rfl)
    refine' MI.wth (MI.xkC_mk (x := "InvalidWeb") (n := 9) (ex := G.exOf mg) (us := G.usX (G.exOf mg)) (bs := G.isaX 9) KX GN (fun C h => by show (mg "InvalidWeb").getD .none = _; rw [h]; rfl) ?ra ?c0 ?c1 ?c2 ?c3 ?c4 ?c5 ?c6 ?c7 ?hu) (fun k_9 => ?_); (case ra => k_is); (case c0 => kernel_rfl); (case c1 => k_is); (case c2 => k_is); (case c3 => k_is); (case c4 => k_is); (case c5 => k_is); (case c6 => k_is); (case c7 => k_is); (case hu => unfold G.usX; rw [q_0, q_1, q_2, q_3, q_4, q_5, q_6, q_7, q_8, q_9, q_10, q_11, q_12, q_13, q_14, q_15, q_16, q_17]; kernel_rfl)
    refine' MI.wth (MI.xkC_mk (x := "InvalidPromise") (n := 10) (ex := G.exOf mg) (us := G.usX (G.exOf mg)) (bs := G.isaX 10) KX GN (fun C h => by show (mg "InvalidPromise").getD .none = _; rw [h]; rfl) ?ra ?c0 ?c1 ?c2 ?c3 ?c4 ?c5 ?c6 ?c7 ?hu) (fun k_10 => ?_); (case ra => k_is); (case c0 => kernel_rfl); (case c1 => k_is); (case c2 => k_is); (case c3 => k_is); (case c4 => k_is); (case c5 => k_is); (case c6 => k_is); (case c7 => k_is); (case hu => unfold G.usX; rw [q_0, q_1, q_2, q_3, q_4, q_5, q_6, q_7, q_8, q_9, q_10, q_11, q_12, q_13, q_14, q_15, q_16, q_17]; kernel_rfl)
    refine' MI.wth (MI.xkC_mk (x := "InvalidOperation") (n := 11) (ex := G.exOf mg) (us := G.usX (G.exOf mg)) (bs := G.isaX 11) KX GN (fun C h => by show (mg "InvalidOperation").getD .none = _; rw [h]; rfl) ?ra ?c0 ?c1 ?c2 ?c3 ?c4 ?c5 ?c6 ?c7 ?hu) (fun k_11 => ?_); (case ra => k_is); (case c0 => kernel_rfl); (case c1 => k_is); (case c2 => k_is); (case c3 => k_is); (case c4 => k_is); (case c5 => k_is); (case c6 => k_is); (case c7 => k_is); (case hu => unfold G.usX; rw [q_0, q_1, q_2, q_3, q_4, q_5, q_6, q_7, q_8, q_9, q_10, q_11, q_12, q_13, q_14, q_15, q_16, q_17]; kernel_rfl)
    refine' MI.wth (MI.xkC_mk (x := "ParseError") (n := 12) (ex := G.exOf mg) (us := G.usX (G.exOf mg)) (bs := G.isaX 12) KX GN (fun C h => by show (mg "ParseError").getD .none = _; rw [h]; rfl) ?ra ?c0 ?c1 ?c2 ?c3 ?c4 ?c5 ?c6 ?c7 ?hu) (fun k_12 => ?_); (case ra => k_is); (case c0 => kernel_rfl); (case c1 => k_is); (case c2 => k_is); (case c3 => k_is); (case c4 => k_is); (case c5 => k_is); (case c6 => k_is); (case c7 => k_is); (case hu => unfold G.usX; rw [q_0, q_1, q_2, q_3, q_4, q_5, q_6, q_7, q_8, q_9, q_10, q_11, q_12, q_13, q_14, q_15, q_16, q_17]; kernel_rfl)
    refine' MI.wth (MI.xkC_mk (x := "InvalidNumber") (n := 13) (ex := G.exOf mg) (us := G.usX (G.exOf mg)) (bs := G.isaX 13) KX GN (fun C h => by show (mg "InvalidNumber").getD .none = _; rw [h]; rfl) ?ra ?c0 ?c1 ?c2 ?c3 ?c4 ?c5 ?c6 ?c7 ?hu) (fun k_13 => ?_); (case ra => k_is); (case c0 => kernel_rfl); (case c1 => k_is); (case c2 => k_is); (case c3 => k_is); (case c4 => k_is); (case c5 => k_is); (case c6 => k_is); (case c7 => k_is); (case hu => unfold G.usX; rw [q_0, q_1, q_2, q_3, q_4, q_5, q_6, q_7, q_8, q_9, q_10, q_11, q_12, q_13, q_14, q_15, q_16, q_17]; kernel_rfl)
    refine' MI.wth (MI.xkC_mk (x := "UnknownName") (n := 14) (ex := G.exOf mg) (us := G.usX (G.exOf mg)) (bs := G.isaX 14) KX GN (fun C h => by show (mg "UnknownName").getD .none = _; rw [h]; rfl) ?ra ?c0 ?c1 ?c2 ?c3 ?c4 ?c5 ?c6 ?c7 ?hu) (fun k_14 => ?_); (case ra => k_is); (case c0 => kernel_rfl); (case c1 => k_is); (case c2 => k_is); (case c3 => k_is); (case c4 => k_is); (case c5 => k_is); (case c6 => k_is); (case c7 => k_is); (case hu => unfold G.usX; rw [q_0, q_1, q_2, q_3, q_4, q_5, q_6, q_7, q_8, q_9, q_10, q_11, q_12, q_13, q_14, q_15, q_16, q_17]; kernel_rfl)
    refine' MI.wth (MI.xkC_mk (x := "TooMany") (n := 15) (ex := G.exOf mg) (us := G.usX (G.exOf mg)) (bs := G.isaX 15) KX GN (fun C h => by show (mg "TooMany").getD .none = _; rw [h]; rfl) ?ra ?c0 ?c1 ?c2 ?c3 ?c4 ?c5 ?c6 ?c7 ?hu) (fun k_15 => ?_); (case ra => k_is); (case c0 => kernel_rfl); (case c1 => k_is); (case c2 => k_is); (case c3 => k_is); (case c4 => k_is); (case c5 => k_is); (case c6 => k_is); (case c7 => k_is); (case hu => unfold G.usX; rw [q_0, q_1, q_2, q_3, q_4, q_5, q_6, q_7, q_8, q_9, q_10, q_11, q_12, q_13, q_14, q_15, q_16, q_17]; kernel_rfl)
    refine' MI.wth (MI.xkC_mk (x := "Refused") (n := 16) (ex := G.exOf mg) (us := G.usX (G.exOf mg)) (bs := G.isaX 16) KX GN (fun C h => by show (mg "Refused").getD .none = _; rw [h]; rfl) ?ra ?c0 ?c1 ?c2 ?c3 ?c4 ?c5 ?c6 ?c7 ?hu) (fun k_16 => ?_); (case ra => k_is); (case c0 => kernel_rfl); (case c1 => k_is); (case c2 => k_is); (case c3 => k_is); (case c4 => k_is); (case c5 => k_is); (case c6 => k_is); (case c7 => k_is); (case hu => unfold G.usX; rw [q_0, q_1, q_2, q_3, q_4, q_5, q_6, q_7, q_8, q_9, q_10, q_11, q_12, q_13, q_14, q_15, q_16, q_17]; kernel_rfl)
    refine' MI.wth (MI.xkC_mk (x := "NothingToUndo") (n := 17) (ex := G.exOf mg) (us := G.usX (G.exOf mg)) (bs := G.isaX 17) KX GN (fun C h => by show (mg "NothingToUndo").getD .none = _; rw [h]; rfl) ?ra ?c0 ?c1 ?c2 ?c3 ?c4 ?c5 ?c6 ?c7 ?hu) (fun k_17 => ?_); (case ra => k_is); (case c0 => kernel_rfl); (case c1 => k_is); (case c2 => k_is); (case c3 => k_is); (case c4 => k_is); (case c5 => k_is); (case c6 => k_is); (case c7 => k_is); (case hu => unfold G.usX; rw [q_0, q_1, q_2, q_3, q_4, q_5, q_6, q_7, q_8, q_9, q_10, q_11, q_12, q_13, q_14, q_15, q_16, q_17]; kernel_rfl)
    have isa : ∀ c < 18, MI.XkC _ (G.exOf mg c) (G.usX (G.exOf mg)) (G.isaX c) := fun c hc => by
      match c, hc with
      | 0, _ => exact k_0
      | 1, _ => exact k_1
      | 2, _ => exact k_2
      | 3, _ => exact k_3
      | 4, _ => exact k_4
      | 5, _ => exact k_5
      | 6, _ => exact k_6
      | 7, _ => exact k_7
      | 8, _ => exact k_8
      | 9, _ => exact k_9
      | 10, _ => exact k_10
      | 11, _ => exact k_11
      | 12, _ => exact k_12
      | 13, _ => exact k_13
      | 14, _ => exact k_14
      | 15, _ => exact k_15
      | 16, _ => exact k_16
      | 17, _ => exact k_17
      | n + 18, h => exact absurd h (by omega)
    refine' MI.wth (MI.exm_mk (x := "TangentError") (y := "ParseError") (i := 0) (j := 12) (b := false) (ex := G.exOf mg) KX GN (fun C h => by show (mg "TangentError").getD .none = _; rw [h]; rfl) (fun C h => by show (mg "ParseError").getD .none = _; rw [h]; rfl) ?ra ?rb ?re) (fun e_0_12 => ?_); (case ra => k_is); (case rb => k_is); (case re => kts_exm)
    refine' MI.wth (MI.exm_mk (x := "TangentError") (y := "TangentError") (i := 0) (j := 0) (b := true) (ex := G.exOf mg) KX GN (fun C h => by show (mg "TangentError").getD .none = _; rw [h]; rfl) (fun C h => by show (mg "TangentError").getD .none = _; rw [h]; rfl) ?ra ?rb ?re) (fun e_0_0 => ?_); (case ra => k_is); (case rb => k_is); (case re => kts_exm)
    refine' MI.wth (MI.exm_mk (x := "InvalidForm") (y := "ParseError") (i := 1) (j := 12) (b := false) (ex := G.exOf mg) KX GN (fun C h => by show (mg "InvalidForm").getD .none = _; rw [h]; rfl) (fun C h => by show (mg "ParseError").getD .none = _; rw [h]; rfl) ?ra ?rb ?re) (fun e_1_12 => ?_); (case ra => k_is); (case rb => k_is); (case re => kts_exm)
    refine' MI.wth (MI.exm_mk (x := "InvalidForm") (y := "TangentError") (i := 1) (j := 0) (b := true) (ex := G.exOf mg) KX GN (fun C h => by show (mg "InvalidForm").getD .none = _; rw [h]; rfl) (fun C h => by show (mg "TangentError").getD .none = _; rw [h]; rfl) ?ra ?rb ?re) (fun e_1_0 => ?_); (case ra => k_is); (case rb => k_is); (case re => kts_exm)
    refine' MI.wth (MI.exm_mk (x := "InvalidLine") (y := "ParseError") (i := 2) (j := 12) (b := false) (ex := G.exOf mg) KX GN (fun C h => by show (mg "InvalidLine").getD .none = _; rw [h]; rfl) (fun C h => by show (mg "ParseError").getD .none = _; rw [h]; rfl) ?ra ?rb ?re) (fun e_2_12 => ?_); (case ra => k_is); (case rb => k_is); (case re => kts_exm)
    refine' MI.wth (MI.exm_mk (x := "InvalidLine") (y := "TangentError") (i := 2) (j := 0) (b := true) (ex := G.exOf mg) KX GN (fun C h => by show (mg "InvalidLine").getD .none = _; rw [h]; rfl) (fun C h => by show (mg "TangentError").getD .none = _; rw [h]; rfl) ?ra ?rb ?re) (fun e_2_0 => ?_); (case ra => k_is); (case rb => k_is); (case re => kts_exm)
    refine' MI.wth (MI.exm_mk (x := "InvalidPoint") (y := "ParseError") (i := 3) (j := 12) (b := false) (ex := G.exOf mg) KX GN (fun C h => by show (mg "InvalidPoint").getD .none = _; rw [h]; rfl) (fun C h => by show (mg "ParseError").getD .none = _; rw [h]; rfl) ?ra ?rb ?re) (fun e_3_12 => ?_); (case ra => k_is); (case rb => k_is); (case re => kts_exm)
    refine' MI.wth (MI.exm_mk (x := "InvalidPoint") (y := "TangentError") (i := 3) (j := 0) (b := true) (ex := G.exOf mg) KX GN (fun C h => by show (mg "InvalidPoint").getD .none = _; rw [h]; rfl) (fun C h => by show (mg "TangentError").getD .none = _; rw [h]; rfl) ?ra ?rb ?re) (fun e_3_0 => ?_); (case ra => k_is); (case rb => k_is); (case re => kts_exm)
    refine' MI.wth (MI.exm_mk (x := "InvalidLot") (y := "ParseError") (i := 4) (j := 12) (b := false) (ex := G.exOf mg) KX GN (fun C h => by show (mg "InvalidLot").getD .none = _; rw [h]; rfl) (fun C h => by show (mg "ParseError").getD .none = _; rw [h]; rfl) ?ra ?rb ?re) (fun e_4_12 => ?_); (case ra => k_is); (case rb => k_is); (case re => kts_exm)
    refine' MI.wth (MI.exm_mk (x := "InvalidLot") (y := "TangentError") (i := 4) (j := 0) (b := true) (ex := G.exOf mg) KX GN (fun C h => by show (mg "InvalidLot").getD .none = _; rw [h]; rfl) (fun C h => by show (mg "TangentError").getD .none = _; rw [h]; rfl) ?ra ?rb ?re) (fun e_4_0 => ?_); (case ra => k_is); (case rb => k_is); (case re => kts_exm)
    refine' MI.wth (MI.exm_mk (x := "InvalidMarks") (y := "ParseError") (i := 5) (j := 12) (b := false) (ex := G.exOf mg) KX GN (fun C h => by show (mg "InvalidMarks").getD .none = _; rw [h]; rfl) (fun C h => by show (mg "ParseError").getD .none = _; rw [h]; rfl) ?ra ?rb ?re) (fun e_5_12 => ?_); (case ra => k_is); (case rb => k_is); (case re => kts_exm)
    refine' MI.wth (MI.exm_mk (x := "InvalidMarks") (y := "TangentError") (i := 5) (j := 0) (b := true) (ex := G.exOf mg) KX GN (fun C h => by show (mg "InvalidMarks").getD .none = _; rw [h]; rfl) (fun C h => by show (mg "TangentError").getD .none = _; rw [h]; rfl) ?ra ?rb ?re) (fun e_5_0 => ?_); (case ra => k_is); (case rb => k_is); (case re => kts_exm)
    refine' MI.wth (MI.exm_mk (x := "InvalidPair") (y := "ParseError") (i := 6) (j := 12) (b := false) (ex := G.exOf mg) KX GN (fun C h => by show (mg "InvalidPair").getD .none = _; rw [h]; rfl) (fun C h => by show (mg "ParseError").getD .none = _; rw [h]; rfl) ?ra ?rb ?re) (fun e_6_12 => ?_); (case ra => k_is); (case rb => k_is); (case re => kts_exm)
    refine' MI.wth (MI.exm_mk (x := "InvalidPair") (y := "TangentError") (i := 6) (j := 0) (b := true) (ex := G.exOf mg) KX GN (fun C h => by show (mg "InvalidPair").getD .none = _; rw [h]; rfl) (fun C h => by show (mg "TangentError").getD .none = _; rw [h]; rfl) ?ra ?rb ?re) (fun e_6_0 => ?_); (case ra => k_is); (case rb => k_is); (case re => kts_exm)
    refine' MI.wth (MI.exm_mk (x := "InvalidRow") (y := "ParseError") (i := 7) (j := 12) (b := false) (ex := G.exOf mg) KX GN (fun C h => by show (mg "InvalidRow").getD .none = _; rw [h]; rfl) (fun C h => by show (mg "ParseError").getD .none = _; rw [h]; rfl) ?ra ?rb ?re) (fun e_7_12 => ?_); (case ra => k_is); (case rb => k_is); (case re => kts_exm)
    refine' MI.wth (MI.exm_mk (x := "InvalidRow") (y := "TangentError") (i := 7) (j := 0) (b := true) (ex := G.exOf mg) KX GN (fun C h => by show (mg "InvalidRow").getD .none = _; rw [h]; rfl) (fun C h => by show (mg "TangentError").getD .none = _; rw [h]; rfl) ?ra ?rb ?re) (fun e_7_0 => ?_); (case ra => k_is); (case rb => k_is); (case re => kts_exm)
    refine' MI.wth (MI.exm_mk (x := "InvalidTable") (y := "ParseError") (i := 8) (j := 12) (b := false) (ex := G.exOf mg) KX GN (fun C h => by show (mg "InvalidTable").getD .none = _; rw [h]; rfl) (fun C h => by show (mg "ParseError").getD .none = _; rw [h]; rfl) ?ra ?rb ?re) (fun e_8_12 => ?_); (case ra => k_is); (case rb => k_is); (case re => kts_exm)
    refine' MI.wth (MI.exm_mk (x := "InvalidTable") (y := "TangentError") (i := 8) (j := 0) (b := true) (ex := G.exOf mg) KX GN (fun C h => by show (mg "InvalidTable").getD .none = _; rw [h]; rfl) (fun C h => by show (mg "TangentError").getD .none = _; rw [h]; rfl) ?ra ?rb ?re) (fun e_8_0 => ?_); (case ra => k_is); (case rb => k_is); (case re => kts_exm)
    refine' MI.wth (MI.exm_mk (x := "InvalidWeb") (y := "ParseError") (i := 9) (j := 12) (b := false) (ex := G.exOf mg) KX GN (fun C h => by show (mg "InvalidWeb").getD .none = _; rw [h]; rfl) (fun C h => by show (mg "ParseError").getD .none = _; rw [h]; rfl) ?ra ?rb ?re) (fun e_9_12 => ?_); (case ra => k_is); (case rb => k_is); (case re => kts_exm)
    refine' MI.wth (MI.exm_mk (x := "InvalidWeb") (y := "TangentError") (i := 9) (j := 0) (b := true) (ex := G.exOf mg) KX GN (fun C h => by show (mg "InvalidWeb").getD .none = _; rw [h]; rfl) (fun C h => by show (mg "TangentError").getD .none = _; rw [h]; rfl) ?ra ?rb ?re) (fun e_9_0 => ?_); (case ra => k_is); (case rb => k_is); (case re => kts_exm)
    refine' MI.wth (MI.exm_mk (x := "InvalidPromise") (y := "ParseError") (i := 10) (j := 12) (b := false) (ex := G.exOf mg) KX GN (fun C h => by show (mg "InvalidPromise").getD .none = _; rw [h]; rfl) (fun C h => by show (mg "ParseError").getD .none = _; rw [h]; rfl) ?ra ?rb ?re) (fun e_10_12 => ?_); (case ra => k_is); (case rb => k_is); (case re => kts_exm)
    refine' MI.wth (MI.exm_mk (x := "InvalidPromise") (y := "TangentError") (i := 10) (j := 0) (b := true) (ex := G.exOf mg) KX GN (fun C h => by show (mg "InvalidPromise").getD .none = _; rw [h]; rfl) (fun C h => by show (mg "TangentError").getD .none = _; rw [h]; rfl) ?ra ?rb ?re) (fun e_10_0 => ?_); (case ra => k_is); (case rb => k_is); (case re => kts_exm)
    refine' MI.wth (MI.exm_mk (x := "InvalidOperation") (y := "ParseError") (i := 11) (j := 12) (b := false) (ex := G.exOf mg) KX GN (fun C h => by show (mg "InvalidOperation").getD .none = _; rw [h]; rfl) (fun C h => by show (mg "ParseError").getD .none = _; rw [h]; rfl) ?ra ?rb ?re) (fun e_11_12 => ?_); (case ra => k_is); (case rb => k_is); (case re => kts_exm)
    refine' MI.wth (MI.exm_mk (x := "InvalidOperation") (y := "TangentError") (i := 11) (j := 0) (b := true) (ex := G.exOf mg) KX GN (fun C h => by show (mg "InvalidOperation").getD .none = _; rw [h]; rfl) (fun C h => by show (mg "TangentError").getD .none = _; rw [h]; rfl) ?ra ?rb ?re) (fun e_11_0 => ?_); (case ra => k_is); (case rb => k_is); (case re => kts_exm)
    refine' MI.wth (MI.exm_mk (x := "ParseError") (y := "ParseError") (i := 12) (j := 12) (b := true) (ex := G.exOf mg) KX GN (fun C h => by show (mg "ParseError").getD .none = _; rw [h]; rfl) (fun C h => by show (mg "ParseError").getD .none = _; rw [h]; rfl) ?ra ?rb ?re) (fun e_12_12 => ?_); (case ra => k_is); (case rb => k_is); (case re => kts_exm)
    refine' MI.wth (MI.exm_mk (x := "InvalidNumber") (y := "ParseError") (i := 13) (j := 12) (b := false) (ex := G.exOf mg) KX GN (fun C h => by show (mg "InvalidNumber").getD .none = _; rw [h]; rfl) (fun C h => by show (mg "ParseError").getD .none = _; rw [h]; rfl) ?ra ?rb ?re) (fun e_13_12 => ?_); (case ra => k_is); (case rb => k_is); (case re => kts_exm)
    refine' MI.wth (MI.exm_mk (x := "InvalidNumber") (y := "TangentError") (i := 13) (j := 0) (b := false) (ex := G.exOf mg) KX GN (fun C h => by show (mg "InvalidNumber").getD .none = _; rw [h]; rfl) (fun C h => by show (mg "TangentError").getD .none = _; rw [h]; rfl) ?ra ?rb ?re) (fun e_13_0 => ?_); (case ra => k_is); (case rb => k_is); (case re => kts_exm)
    refine' MI.wth (MI.exm_mk (x := "InvalidNumber") (y := "InvalidNumber") (i := 13) (j := 13) (b := true) (ex := G.exOf mg) KX GN (fun C h => by show (mg "InvalidNumber").getD .none = _; rw [h]; rfl) (fun C h => by show (mg "InvalidNumber").getD .none = _; rw [h]; rfl) ?ra ?rb ?re) (fun e_13_13 => ?_); (case ra => k_is); (case rb => k_is); (case re => kts_exm)
    refine' MI.wth (MI.exm_mk (x := "UnknownName") (y := "ParseError") (i := 14) (j := 12) (b := false) (ex := G.exOf mg) KX GN (fun C h => by show (mg "UnknownName").getD .none = _; rw [h]; rfl) (fun C h => by show (mg "ParseError").getD .none = _; rw [h]; rfl) ?ra ?rb ?re) (fun e_14_12 => ?_); (case ra => k_is); (case rb => k_is); (case re => kts_exm)
    refine' MI.wth (MI.exm_mk (x := "UnknownName") (y := "TangentError") (i := 14) (j := 0) (b := false) (ex := G.exOf mg) KX GN (fun C h => by show (mg "UnknownName").getD .none = _; rw [h]; rfl) (fun C h => by show (mg "TangentError").getD .none = _; rw [h]; rfl) ?ra ?rb ?re) (fun e_14_0 => ?_); (case ra => k_is); (case rb => k_is); (case re => kts_exm)
    refine' MI.wth (MI.exm_mk (x := "UnknownName") (y := "InvalidNumber") (i := 14) (j := 13) (b := false) (ex := G.exOf mg) KX GN (fun C h => by show (mg "UnknownName").getD .none = _; rw [h]; rfl) (fun C h => by show (mg "InvalidNumber").getD .none = _; rw [h]; rfl) ?ra ?rb ?re) (fun e_14_13 => ?_); (case ra => k_is); (case rb => k_is); (case re => kts_exm)
    refine' MI.wth (MI.exm_mk (x := "UnknownName") (y := "UnknownName") (i := 14) (j := 14) (b := true) (ex := G.exOf mg) KX GN (fun C h => by show (mg "UnknownName").getD .none = _; rw [h]; rfl) (fun C h => by show (mg "UnknownName").getD .none = _; rw [h]; rfl) ?ra ?rb ?re) (fun e_14_14 => ?_); (case ra => k_is); (case rb => k_is); (case re => kts_exm)
    refine' MI.wth (MI.exm_mk (x := "TooMany") (y := "ParseError") (i := 15) (j := 12) (b := false) (ex := G.exOf mg) KX GN (fun C h => by show (mg "TooMany").getD .none = _; rw [h]; rfl) (fun C h => by show (mg "ParseError").getD .none = _; rw [h]; rfl) ?ra ?rb ?re) (fun e_15_12 => ?_); (case ra => k_is); (case rb => k_is); (case re => kts_exm)
    refine' MI.wth (MI.exm_mk (x := "TooMany") (y := "TangentError") (i := 15) (j := 0) (b := false) (ex := G.exOf mg) KX GN (fun C h => by show (mg "TooMany").getD .none = _; rw [h]; rfl) (fun C h => by show (mg "TangentError").getD .none = _; rw [h]; rfl) ?ra ?rb ?re) (fun e_15_0 => ?_); (case ra => k_is); (case rb => k_is); (case re => kts_exm)
    refine' MI.wth (MI.exm_mk (x := "TooMany") (y := "InvalidNumber") (i := 15) (j := 13) (b := false) (ex := G.exOf mg) KX GN (fun C h => by show (mg "TooMany").getD .none = _; rw [h]; rfl) (fun C h => by show (mg "InvalidNumber").getD .none = _; rw [h]; rfl) ?ra ?rb ?re) (fun e_15_13 => ?_); (case ra => k_is); (case rb => k_is); (case re => kts_exm)
    refine' MI.wth (MI.exm_mk (x := "TooMany") (y := "UnknownName") (i := 15) (j := 14) (b := false) (ex := G.exOf mg) KX GN (fun C h => by show (mg "TooMany").getD .none = _; rw [h]; rfl) (fun C h => by show (mg "UnknownName").getD .none = _; rw [h]; rfl) ?ra ?rb ?re) (fun e_15_14 => ?_); (case ra => k_is); (case rb => k_is); (case re => kts_exm)
    refine' MI.wth (MI.exm_mk (x := "TooMany") (y := "TooMany") (i := 15) (j := 15) (b := true) (ex := G.exOf mg) KX GN (fun C h => by show (mg "TooMany").getD .none = _; rw [h]; rfl) (fun C h => by show (mg "TooMany").getD .none = _; rw [h]; rfl) ?ra ?rb ?re) (fun e_15_15 => ?_); (case ra => k_is); (case rb => k_is); (case re => kts_exm)
    refine' MI.wth (MI.exm_mk (x := "Refused") (y := "ParseError") (i := 16) (j := 12) (b := false) (ex := G.exOf mg) KX GN (fun C h => by show (mg "Refused").getD .none = _; rw [h]; rfl) (fun C h => by show (mg "ParseError").getD .none = _; rw [h]; rfl) ?ra ?rb ?re) (fun e_16_12 => ?_); (case ra => k_is); (case rb => k_is); (case re => kts_exm)
    refine' MI.wth (MI.exm_mk (x := "Refused") (y := "TangentError") (i := 16) (j := 0) (b := false) (ex := G.exOf mg) KX GN (fun C h => by show (mg "Refused").getD .none = _; rw [h]; rfl) (fun C h => by show (mg "TangentError").getD .none = _; rw [h]; rfl) ?ra ?rb ?re) (fun e_16_0 => ?_); (case ra => k_is); (case rb => k_is); (case re => kts_exm)
    refine' MI.wth (MI.exm_mk (x := "Refused") (y := "InvalidNumber") (i := 16) (j := 13) (b := false) (ex := G.exOf mg) KX GN (fun C h => by show (mg "Refused").getD .none = _; rw [h]; rfl) (fun C h => by show (mg "InvalidNumber").getD .none = _; rw [h]; rfl) ?ra ?rb ?re) (fun e_16_13 => ?_); (case ra => k_is); (case rb => k_is); (case re => kts_exm)
    refine' MI.wth (MI.exm_mk (x := "Refused") (y := "UnknownName") (i := 16) (j := 14) (b := false) (ex := G.exOf mg) KX GN (fun C h => by show (mg "Refused").getD .none = _; rw [h]; rfl) (fun C h => by show (mg "UnknownName").getD .none = _; rw [h]; rfl) ?ra ?rb ?re) (fun e_16_14 => ?_); (case ra => k_is); (case rb => k_is); (case re => kts_exm)
    refine' MI.wth (MI.exm_mk (x := "Refused") (y := "TooMany") (i := 16) (j := 15) (b := false) (ex := G.exOf mg) KX GN (fun C h => by show (mg "Refused").getD .none = _; rw [h]; rfl) (fun C h => by show (mg "TooMany").getD .none = _; rw [h]; rfl) ?ra ?rb ?re) (fun e_16_15 => ?_); (case ra => k_is); (case rb => k_is); (case re => kts_exm)
    refine' MI.wth (MI.exm_mk (x := "Refused") (y := "Refused") (i := 16) (j := 16) (b := true) (ex := G.exOf mg) KX GN (fun C h => by show (mg "Refused").getD .none = _; rw [h]; rfl) (fun C h => by show (mg "Refused").getD .none = _; rw [h]; rfl) ?ra ?rb ?re) (fun e_16_16 => ?_); (case ra => k_is); (case rb => k_is); (case re => kts_exm)
    refine' MI.wth (MI.exm_mk (x := "NothingToUndo") (y := "ParseError") (i := 17) (j := 12) (b := false) (ex := G.exOf mg) KX GN (fun C h => by show (mg "NothingToUndo").getD .none = _; rw [h]; rfl) (fun C h => by show (mg "ParseError").getD .none = _; rw [h]; rfl) ?ra ?rb ?re) (fun e_17_12 => ?_); (case ra => k_is); (case rb => k_is); (case re => kts_exm)
    refine' MI.wth (MI.exm_mk (x := "NothingToUndo") (y := "TangentError") (i := 17) (j := 0) (b := false) (ex := G.exOf mg) KX GN (fun C h => by show (mg "NothingToUndo").getD .none = _; rw [h]; rfl) (fun C h => by show (mg "TangentError").getD .none = _; rw [h]; rfl) ?ra ?rb ?re) (fun e_17_0 => ?_); (case ra => k_is); (case rb => k_is); (case re => kts_exm)
    refine' MI.wth (MI.exm_mk (x := "NothingToUndo") (y := "InvalidNumber") (i := 17) (j := 13) (b := false) (ex := G.exOf mg) KX GN (fun C h => by show (mg "NothingToUndo").getD .none = _; rw [h]; rfl) (fun C h => by show (mg "InvalidNumber").getD .none = _; rw [h]; rfl) ?ra ?rb ?re) (fun e_17_13 => ?_); (case ra => k_is); (case rb => k_is); (case re => kts_exm)
    refine' MI.wth (MI.exm_mk (x := "NothingToUndo") (y := "UnknownName") (i := 17) (j := 14) (b := false) (ex := G.exOf mg) KX GN (fun C h => by show (mg "NothingToUndo").getD .none = _; rw [h]; rfl) (fun C h => by show (mg "UnknownName").getD .none = _; rw [h]; rfl) ?ra ?rb ?re) (fun e_17_14 => ?_); (case ra => k_is); (case rb => k_is); (case re => kts_exm)
    refine' MI.wth (MI.exm_mk (x := "NothingToUndo") (y := "TooMany") (i := 17) (j := 15) (b := false) (ex := G.exOf mg) KX GN (fun C h => by show (mg "NothingToUndo").getD .none = _; rw [h]; rfl) (fun C h => by show (mg "TooMany").getD .none = _; rw [h]; rfl) ?ra ?rb ?re) (fun e_17_15 => ?_); (case ra => k_is); (case rb => k_is); (case re => kts_exm)
    refine' MI.wth (MI.exm_mk (x := "NothingToUndo") (y := "Refused") (i := 17) (j := 16) (b := false) (ex := G.exOf mg) KX GN (fun C h => by show (mg "NothingToUndo").getD .none = _; rw [h]; rfl) (fun C h => by show (mg "Refused").getD .none = _; rw [h]; rfl) ?ra ?rb ?re) (fun e_17_16 => ?_); (case ra => k_is); (case rb => k_is); (case re => kts_exm)
    refine' MI.wth (MI.exm_mk (x := "NothingToUndo") (y := "NothingToUndo") (i := 17) (j := 17) (b := true) (ex := G.exOf mg) KX GN (fun C h => by show (mg "NothingToUndo").getD .none = _; rw [h]; rfl) (fun C h => by show (mg "NothingToUndo").getD .none = _; rw [h]; rfl) ?ra ?rb ?re) (fun e_17_17 => ?_); (case ra => k_is); (case rb => k_is); (case re => kts_exm)
    have sub := G.sub_mk e_0_12 e_0_0 e_1_12 e_1_0 e_2_12 e_2_0 e_3_12 e_3_0 e_4_12 e_4_0 e_5_12 e_5_0 e_6_12 e_6_0 e_7_12 e_7_0 e_8_12 e_8_0 e_9_12 e_9_0 e_10_12 e_10_0 e_11_12 e_11_0 e_12_12 e_13_12 e_13_0 e_13_13 e_14_12 e_14_0 e_14_13 e_14_14 e_15_12 e_15_0 e_15_13 e_15_14 e_15_15 e_16_12 e_16_0 e_16_13 e_16_14 e_16_15 e_16_16 e_17_12 e_17_0 e_17_13 e_17_14 e_17_15 e_17_16 e_17_17
    refine' MI.wth (MI.at_mk (x := "_law_bag") (st := G.st_law_bag) (ps := ["_law_script", "_law_spot"]) KX GN ?a ?l ?c ?k (fun _ _ _ _ _ _ us hl => match us, hl with | [_, _], _ => rfl)) (fun A_law_bag => ?_); (case a => k_is); (case l => k_is); (case c => k_is); (case k => k_is)
    refine' MI.wth (MI.at_mk (x := "_law_grab") (st := G.st_law_grab) (ps := ["_law_bag_here", "_law_total"]) KX GN ?a ?l ?c ?k (fun _ _ _ _ _ _ us hl => match us, hl with | [_, _], _ => rfl)) (fun A_law_grab => ?_); (case a => k_is); (case l => k_is); (case c => k_is); (case k => k_is)
    refine' MI.wth (MI.at_mk (x := "_law_one_of") (st := G.st_law_one_of) (ps := ["_law_bag_here", "_law_items"]) KX GN ?a ?l ?c ?k (fun _ _ _ _ _ _ us hl => match us, hl with | [_, _], _ => rfl)) (fun A_law_one_of => ?_); (case a => k_is); (case l => k_is); (case c => k_is); (case k => k_is)
    refine' MI.wth (MI.at_mk (x := "_law_kept_raised") (st := G.st_law_kept_raised) (ps := ["_law_which", "_law_value"]) KX GN ?a ?l ?c ?k (fun _ _ _ _ _ _ us hl => match us, hl with | [_, _], _ => rfl)) (fun A_law_kept_raised => ?_); (case a => k_is); (case l => k_is); (case c => k_is); (case k => k_is)
    refine' MI.wth (MI.at_mk (x := "_law_raised") (st := G.st_law_raised) (ps := ["_law_which", "_law_text", "_law_value"]) KX GN ?a ?l ?c ?k (fun _ _ _ _ _ _ us hl => match us, hl with | [_, _, _], _ => rfl)) (fun A_law_raised => ?_); (case a => k_is); (case l => k_is); (case c => k_is); (case k => k_is)
    refine' MI.wth (MI.at_mk (x := "_law_flags") (st := G.st_law_flags) (ps := ["_law_error"]) KX GN ?a ?l ?c ?k (fun _ _ _ _ _ _ us hl => match us, hl with | [_], _ => rfl)) (fun A_law_flags => ?_); (case a => k_is); (case l => k_is); (case c => k_is); (case k => k_is)
    refine' MI.wth (MI.at_mk (x := "_law_told") (st := G.st_law_told) (ps := ["_law_which", "_law_text", "_law_value"]) KX GN ?a ?l ?c ?k (fun _ _ _ _ _ _ us hl => match us, hl with | [_, _, _], _ => rfl)) (fun A_law_told => ?_); (case a => k_is); (case l => k_is); (case c => k_is); (case k => k_is)
    refine' MI.wth (MI.at_mk (x := "_law_due") (st := G.st_law_due) (ps := ["_law_which"]) KX GN ?a ?l ?c ?k (fun _ _ _ _ _ _ us hl => match us, hl with | [_], _ => rfl)) (fun A_law_due => ?_); (case a => k_is); (case l => k_is); (case c => k_is); (case k => k_is)
    refine' MI.wth (MI.atC_mk (x := "law") (st := G.st_law) (ps := ["_law_script"]) KX GN ?a ?l ?c ?k (fun _ _ _ _ _ _ us hl => match us, hl with | [_], _ => rfl)) (fun A_law => ?_); (case a => k_is); (case l => k_is); (case c => k_is); (case k => k_is)
    refine' ⟨⟨⟨_, fun _ => 0⟩, G.exOf mg, [], fun _ _ => True, fun _ _ _ _ _ _ => trivial⟩, [], rfl, rfl, ?tc, ?hT, ?nT, ?hC, ?hF⟩
    case hT => exact MI.all_n
    case nT => exact MI.all_n
    case hC => exact MI.all_n
    case tc => exact MI.all_n
    case hF =>
      refine MI.law_fnG (g := ⟨⟨_, fun _ => 0⟩, G.exOf mg, [], fun _ _ => True, fun _ _ _ _ _ _ => trivial⟩) A_law hmg (fun _ _ _ _ _ _ _ => rfl) G.sc_law fun base hK hN hT => ?_
      exact G.fin (P := PySem.Challenge.rw_tangentrows_k00_whole_errors.prog) (w := w) (base := base) ⟨b_ArithmeticError, b_IndexError, b_KeyError, b_LookupError, b_OverflowError, b_ValueError, b_abs, b_int, b_isinstance, b_len, b_max, b_min, b_range, b_repr, b_sum, r_InvalidForm, r_InvalidLine, r_InvalidLot, r_InvalidMarks, r_InvalidNumber, r_InvalidOperation, r_InvalidPair, r_InvalidPoint, r_InvalidPromise, r_InvalidRow, r_InvalidTable, r_InvalidWeb, r_NothingToUndo, r_ParseError, r_Refused, r_TangentError, r_TooMany, r_UnknownName, n_InvalidForm, n_InvalidLine, n_InvalidLot, n_InvalidMarks, n_InvalidNumber, n_InvalidOperation, n_InvalidPair, n_InvalidPoint, n_InvalidPromise, n_InvalidRow, n_InvalidTable, n_InvalidWeb, n_NothingToUndo, n_ParseError, n_Refused, n_TangentError, n_TooMany, n_UnknownName, x_InvalidNumber, x_NothingToUndo, x_ParseError, x_Refused, x_TooMany, x_UnknownName, isa, sub⟩ A_law_bag A_law_grab A_law_one_of A_law_kept_raised A_law_raised A_law_flags A_law_told A_law_due A_law
    all_goals exact Value.none
