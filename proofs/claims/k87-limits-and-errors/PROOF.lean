import PyProof.Rows.All
import Wide.All
import OpenK.AllK
import Wide.FinOn
import PyProof.ReprReads
import PyProof.EqLayable
import HandS.ForMost
import HandS.ForExc
import HandS.TupAny
import HandS.Deep
import HandS.Walk
import HandS.HeadHook1
import HandS.Flow
import HandS.Style
import HandS.Small
import KE.DataMinMax
import KE.SortData
import HandS.TupMul
import HandS.IsInst
import HandS.Wide
import HandS.Text
import HandS.WideBits
import HandS.Conv
import HandS.TupLe
import PyProof.P3In
import KE.GoesEnum
import HandS.SetFor
import HandS.DictComp
import KE.SortKeyHeap
import HandS.SortKw
import HandS.Zip
import HandS.More
import HandS.FStr
import KE.KRevSl
import HandS.Ends
import HandS.Defaults
import HandS.Head0
import HandS.Head1
import HandS.Head2
import HandS.HeadEnd
import HandS.HeadHook2
import HandS.ExcInit
import HandS.ExcOwn
import HandS.ExcIs
import HandS.ExcField
import KE.KExcInit
import PyProof.ExcBaseAll.LookupError
import PyProof.ExcBaseAll.ArithmeticError
import KE.KTryMore
import HandS.TryOnly
import KE.KExcIs
import HandS.HotCalls
import PyProof.ReprBulk
import PyProof.ReprText
import HandS.MakeKw
import HandS.ExcValue
import PySem.Challenge.RW_frontmeets_k87_limits_and_errors
set_option Elab.async false
set_option linter.all false
set_option maxRecDepth 100000
/-! FmA: the plain semantics. Data, slots, what expressions, statements and loops yield. -/
namespace Fm
open PySem

abbrev D := PyData
/-- the keys of a dict: numbers and texts -/
abbrev Ky := Sum Int Str
/-- what an object that may still change holds -/
inductive Ob where
  | lst (xs : List D)
  | dct (ds : List (D × D))
  | dtt (ds : List (List Ky × D))
  /-- an instance of the class c, and what its fields hold -/
  | ins (c : Str) (fs : List (Str × D))
def kyOf : D → Option Ky
  | .int i => some (.inl i)
  | .str s => some (.inr s)
  | _ => none
def dGet (ds : List (D × D)) (k : Ky) : Option D := (ds.find? fun p => decide (kyOf p.1 = some k)).map (·.2)
/-- dicts by tuples of ints, by pairs of texts -/
def numsD : List D → Option (List Int)
  | [] => some []
  | .int i :: r => (numsD r).map fun is => i :: is
  | _ => none
def keyL : List D → Option (List Ky)
  | [.str a, .str b] => some [.inr a, .inr b]
  | xs => (numsD xs).map fun is => is.map Sum.inl
def keyT : D → Option (List Ky)
  | .tuple xs => keyL xs
  | _ => none
def tGet (ds : List (List Ky × D)) (k : List Ky) : Option D := (ds.find? fun p => decide (p.1 = k)).map (·.2)
/-- a slot: frozen data, or an object that only this slot holds -/
inductive SV where
  | d (x : D)
  | live (o : Ob)
/-- a value in flight: frozen data, the object of slot i, a fresh object -/
inductive RV where
  | d (x : D)
  | br (i : Nat)
  | fr (o : Ob)
abbrev Sl := List (Option SV)
structure Exn where
  cls : Str
  fs : List (Str × D)
inductive Res (α : Type) where
  | ok (a : α) (S : Sl)
  | exc (x : Exn) (S : Sl)
  | bad
inductive Out where
  | nx (S : Sl)
  | rt (v : RV) (S : Sl)
  | bk (S : Sl)
  | ct (S : Sl)
  | exc (x : Exn) (S : Sl)
  | bad
abbrev Ex := Sl → Res RV
abbrev Tx := Sl → Res Bool
abbrev Ax := Sl → Res (List RV)
abbrev Sx := Sl → Out

def Res.bind {α β : Type} (r : Res α) (f : α → Sl → Res β) : Res β := match r with
  | .ok a S => f a S
  | .exc x S => .exc x S
  | .bad => .bad
/-- as data; a dict by tuples is never read so -/
def Ob.dat : Ob → Option D
  | .lst xs => some (.list xs)
  | .dct ds => some (.dict ds)
  | .dtt _ => none
  | .ins _ _ => none
def SV.dat : SV → Option D
  | .d x => some x
  | .live o => o.dat
/-- slot i -/
def at? (S : Sl) (i : Nat) : Option SV := (S[i]?).join
/-- a value as it is to be read now -/
def view (S : Sl) : RV → Option D
  | .d x => some x
  | .fr o => o.dat
  | .br i => (at? S i).bind SV.dat
/-- a value as it is stored: it is frozen -/
def frz (S : Sl) : RV → Option (D × Sl)
  | .d x => some (x, S)
  | .fr o => o.dat.map fun x => (x, S)
  | .br i => (at? S i).bind fun v => v.dat.map fun x => (x, S.set i (some (.d x)))
/-! ### expressions -/
/-- a value that is frozen at once -/
abbrev Dx := Sl → Res D
abbrev Lx := Sl → Res (List D)
/-! ### tests -/
/-! ### statements -/
def Res.out {α : Type} (r : Res α) (f : α → Sl → Out) : Out := match r with
  | .ok a S => f a S
  | .exc x S => .exc x S
  | .bad => .bad
/-- a target takes frozen data -/
abbrev Tg := D → Sl → Option Sl
/-! ### loops -/
/-- a turn's end: on with f -/
def Out.turn (o : Out) (f : Sl → Out) : Out := match o with
  | .nx S => f S
  | .ct S => f S
  | .bk S => .nx S
  | .rt v S => .rt v S
  | .exc e S => .exc e S
  | .bad => .bad
/-- what is walked: its items -/
abbrev Wx := Sl → Res (List D)
def signs (z : Str) : List D := z.cps.toList.map fun c => .str ⟨#[c]⟩
def isErrD : D → Bool
  | .dict ((.none, _) :: _) => true
  | _ => false
def items : D → Option (List D)
  | .dict ((.none, _) :: _) => none
  | .str z => some (signs z)
  | .list xs => some xs
  | .tuple xs => some xs
  | .dict ds => some (ds.map (·.1))
  | _ => none
/-! ### comprehensions: the block's own slots are empty at each turn, and as they were behind it -/
/-- a comprehension's target: a name, or names in a tuple -/
inductive Tt where
  | nm (i : Nat)
  | tp (is : List Nat)
def setD : List Nat → List D → Sl → Option Sl
  | [], [], S => some S
  | i :: is, x :: xs, S => setD is xs (S.set i (some (.d x)))
  | _, _, _ => none
def Tt.run : Tt → Tg
  | .nm i => fun x S => some (S.set i (some (.d x)))
  | .tp is => fun x S => match x with
    | .tuple xs => setD is xs S
    | _ => none
def Tt.slots : Tt → List Nat
  | .nm i => [i]
  | .tp is => is
/-- no error leaves the block -/
def Res.calm {α β : Type} (r : Res α) (f : α → Sl → Res β) : Res β := match r with
  | .ok a S => f a S
  | .exc _ _ => .bad
  | .bad => .bad
/-! ### calls -/
inductive CRes where
  | ok (v : SV) (outs : List (Option SV))
  | exc (x : Exn) (outs : List (Option SV))
  | bad
abbrev Fn := List SV → CRes
/-- the arguments as they are handed over -/
def hand (S : Sl) : List RV → Option (List SV)
  | [] => some []
  | v :: vs => (match v with
    | .d x => some (SV.d x)
    | .fr o => some (SV.live o)
    | .br i => at? S i).bind fun a => (hand S vs).map fun as => a :: as
def SV.rv : SV → RV
  | .d x => .d x
  | .live o => .fr o
/-- f(x, .., k = y, ..), all arguments frozen: n by position first, then m by name; π: the parameters' order -/
def CRes.plain (r : CRes) (S : Sl) : Res RV := match r with
  | .ok v _ => .ok v.rv S
  | .exc x _ => .exc x S
  | .bad => .bad
end Fm

/-! FmB: how slots and data lie in the abstract heap; the judgements. -/
namespace Fm
open PySem L2

/-! ### data in the heap -/
def isNum : D → Bool
  | .int _ => true
  | _ => false
/-- a tuple that may be a key -/
def isKyL : List D → Bool
  | [.str _, .str _] => true
  | xs => xs.all isNum
/-- a tuple at a; one of ints alone and a pair of texts are tracked -/
def TupA (K : PySem.W.Frag) (H : Hp) (a : Addr) (xs : List V) (ds : List D) : Prop := SqT K H a xs ∧ (isKyL ds = true → H a = some (.tup xs))
theorem TupA.new {K : PySem.W.Frag} {H : Hp} {a : Addr} {xs : List V} {ds : List D} (h : H a = some (.tup xs)) : TupA K H a xs ds := ⟨.inl (.inl h), fun _ => h⟩
mutual
/-- v is the data x, all of it frozen -/
inductive FD (K : PySem.W.Frag) (H : Hp) : V → D → Prop
  | non : FD K H .non .none
  | bl (b : Bool) : FD K H (.bl b) (.bool b)
  | int (i : Int) : FD K H (.int i) (.int i)
  | str (x : Str) : FD K H (.str x) (.str x)
  | tup {a : Addr} {xs : List V} {ds : List D} : TupA K H a xs ds → FDs K H xs ds → FD K H (.ref a) (.tuple ds)
  | lst {a : Addr} {o : Obj} {xs : List V} {ds : List D} : H a = some (.frz o (.lst xs)) → FDs K H xs ds → FD K H (.ref a) (.list ds)
  | dct {a : Addr} {o : Obj} {vs : List (L2.Key × V)} {ds : List (D × D)} : H a = some (.frz o (.dK vs)) → FKs K H vs ds → FD K H (.ref a) (.dict ds)
  | err {a d : Addr} {oe : Obj} {u : HO} {us : Array Value} {c : Str} {vs : List (Str × V)} {ds : List (D × D)} : H a = some (.frz oe u) → L2.Zc (.ref (He.ga K c)) (some d) oe → oe.data = .fields us → H d = some (.xd vs) → FXs K H vs ds → FD K H (.ref a) (.dict ((.none, .str c) :: ds))
  | err0 {a : Addr} {oe : Obj} {u : HO} {us : Array Value} {c : Str} : H a = some (.frz oe u) → L2.Zc (.ref (He.ga K c)) none oe → oe.data = .fields us → FD K H (.ref a) (.dict [(.none, .str c)])
inductive FXs (K : PySem.W.Frag) (H : Hp) : List (Str × V) → List (D × D) → Prop
  | nil : FXs K H [] []
  | cons {k : Str} {v : V} {x : D} {vs : List (Str × V)} {ds : List (D × D)} : FD K H v x → FXs K H vs ds → FXs K H ((k, v) :: vs) ((.str k, x) :: ds)
inductive FKs (K : PySem.W.Frag) (H : Hp) : List (L2.Key × V) → List (D × D) → Prop
  | nil : FKs K H [] []
  | cons {k : L2.Key} {d : D} {v : V} {x : D} {vs : List (L2.Key × V)} {ds : List (D × D)} : kyOf d = some k → FD K H v x → FKs K H vs ds → FKs K H ((k, v) :: vs) ((d, x) :: ds)
inductive FDs (K : PySem.W.Frag) (H : Hp) : List V → List D → Prop
  | nil : FDs K H [] []
  | cons {v : V} {vs : List V} {x : D} {xs : List D} : FD K H v x → FDs K H vs xs → FDs K H (v :: vs) (x :: xs)
end
/-- tuples and frozen things stay -/
structure Keeps (H H' : Hp) : Prop where
  tup : ∀ b xs, H b = some (.tup xs) → H' b = some (.tup xs)
  frz : ∀ b o u, H b = some (.frz o u) → H' b = some (.frz o u)
  xd : ∀ b vs, H b = some (.xd vs) → H' b = some (.xd vs)
theorem Keeps.refl (H : Hp) : Keeps H H := ⟨fun _ _ h => h, fun _ _ _ h => h, fun _ _ h => h⟩
theorem Keeps.trans {H H1 H2 : Hp} (a : Keeps H H1) (b : Keeps H1 H2) : Keeps H H2 :=
  ⟨fun c xs h => b.tup c xs (a.tup c xs h), fun c o u h => b.frz c o u (a.frz c o u h), fun c xs h => b.xd c xs (a.xd c xs h)⟩
theorem Keeps.sqT {K : PySem.W.Frag} {H H' : Hp} {a : Addr} {xs : List V} (k : Keeps H H') (h : SqT K H a xs) : SqT K H' a xs := by
  rcases h with (h | ⟨o, h⟩) | h
  · exact .inl (.inl (k.tup _ _ h))
  · exact .inl (.inr ⟨o, k.frz _ _ _ h⟩)
  · exact .inr h
mutual
theorem FD.mono {K : PySem.W.Frag} {H H' : Hp} (k : Keeps H H') : ∀ {v : V} {x : D}, FD K H v x → FD K H' v x
  | _, _, .non => .non
  | _, _, .bl b => .bl b
  | _, _, .int i => .int i
  | _, _, .str x => .str x
  | _, _, .tup h hs => .tup ⟨k.sqT h.1, fun z => k.tup _ _ (h.2 z)⟩ (FDs.mono k hs)
  | _, _, .lst h hs => .lst (k.frz _ _ _ h) (FDs.mono k hs)
  | _, _, .dct h hs => .dct (k.frz _ _ _ h) (FKs.mono k hs)
  | _, _, .err h z d q hs => .err (k.frz _ _ _ h) z d (k.xd _ _ q) (FXs.mono k hs)
  | _, _, .err0 h z d => .err0 (k.frz _ _ _ h) z d
theorem FXs.mono {K : PySem.W.Frag} {H H' : Hp} (k : Keeps H H') : ∀ {vs : List (Str × V)} {ds : List (D × D)}, FXs K H vs ds → FXs K H' vs ds
  | _, _, .nil => .nil
  | _, _, .cons h hs => .cons (FD.mono k h) (FXs.mono k hs)
theorem FKs.mono {K : PySem.W.Frag} {H H' : Hp} (k : Keeps H H') : ∀ {vs : List (L2.Key × V)} {ds : List (D × D)}, FKs K H vs ds → FKs K H' vs ds
  | _, _, .nil => .nil
  | _, _, .cons e h hs => .cons e (FD.mono k h) (FKs.mono k hs)
theorem FDs.mono {K : PySem.W.Frag} {H H' : Hp} (k : Keeps H H') : ∀ {vs : List V} {xs : List D}, FDs K H vs xs → FDs K H' vs xs
  | _, _, .nil => .nil
  | _, _, .cons h hs => .cons (FD.mono k h) (FDs.mono k hs)
end
section
variable {K : PySem.W.Frag} {H : Hp}
theorem FDs.length : ∀ {vs : List V} {xs : List D}, FDs K H vs xs → vs.length = xs.length
  | _, _, .nil => rfl
  | _, _, .cons _ t => by rw [List.length_cons, List.length_cons, FDs.length t]
theorem FDs.append : ∀ {vs ws : List V} {xs ys : List D}, FDs K H vs xs → FDs K H ws ys → FDs K H (vs ++ ws) (xs ++ ys)
  | _, _, _, _, .nil, s => s
  | _, _, _, _, .cons h t, s => .cons h (FDs.append t s)
theorem FDs.get : ∀ {vs : List V} {xs : List D} {i : Nat} {v : V}, FDs K H vs xs → vs[i]? = some v → ∃ x, xs[i]? = some x ∧ FD K H v x
  | _, _, i, v, .nil, e => by simp at e
  | _, _, 0, v, .cons h t, e => by
    simp at e
    subst e
    exact ⟨_, rfl, h⟩
  | _, _, i + 1, v, .cons h t, e => FDs.get (i := i) t (by simpa using e)
theorem FDs.take : ∀ {vs : List V} {xs : List D} (n : Nat), FDs K H vs xs → FDs K H (vs.take n) (xs.take n)
  | _, _, 0, _ => .nil
  | _, _, n + 1, .nil => .nil
  | _, _, n + 1, .cons h t => .cons h (FDs.take n t)
theorem FDs.set {v : V} {x : D} (h0 : FD K H v x) : ∀ {vs : List V} {xs : List D} (n : Nat), FDs K H vs xs → FDs K H (vs.set n v) (xs.set n x)
  | _, _, _, .nil => .nil
  | _, _, 0, .cons h t => .cons h0 t
  | _, _, n + 1, .cons h t => .cons h (FDs.set h0 n t)
theorem FDs.snoc {vs : List V} {xs : List D} {v : V} {x : D} (h : FDs K H vs xs) (hv : FD K H v x) : FDs K H (vs ++ [v]) (xs ++ [x]) := h.append (.cons hv .nil)
end

def Grow (H H' : Hp) : Prop := ∀ b o, H b = some o → H' b = some o
theorem Grow.refl (H : Hp) : Grow H H := fun _ _ h => h
theorem Grow.new {H : Hp} {p : Addr} {o : HO} (h : H p = none) : Grow H (upd H p o) := fun b u e => by
  rw [upd_ne (fun z => by rw [z, h] at e; cases e)]
  exact e
theorem Grow.keeps {H H' : Hp} (h : Grow H H') : Keeps H H' := ⟨fun b xs e => h b _ e, fun b o u e => h b _ e, fun b xs e => h b _ e⟩
theorem Grow.trk {H H' : Hp} (h : Grow H H') (b : Addr) (e : H' b = none) : H b = none := by
  cases q : H b with
  | none => rfl
  | some u => rw [h b u q] at e; cases e

/-! ### slots -/
/-- the entries of a dict by tuples of ints -/
def FTs (K : PySem.W.Frag) (H : Hp) (kvs : List (List L2.Key × V)) (ds : List (List Ky × D)) : Prop := Paired (fun (p : List L2.Key × V) (q : List Ky × D) => p.1 = q.1 ∧ FD K H p.2 q.2) kvs ds
theorem FTs.mono {K : PySem.W.Frag} {H H' : Hp} (k : Keeps H H') {kvs : List (List L2.Key × V)} {ds : List (List Ky × D)} (h : FTs K H kvs ds) : FTs K H' kvs ds := by
  induction h with
  | nil => exact .nil
  | cons h _ ih => exact .cons ⟨h.1, FD.mono k h.2⟩ ih
/-- the fields of an instance -/
def FFs (K : PySem.W.Frag) (H : Hp) (vs : List (Str × V)) (fs : List (Str × D)) : Prop := Paired (fun (p : Str × V) (q : Str × D) => p.1 = q.1 ∧ FD K H p.2 q.2) vs fs
theorem FFs.mono {K : PySem.W.Frag} {H H' : Hp} (k : Keeps H H') {vs : List (Str × V)} {fs : List (Str × D)} (h : FFs K H vs fs) : FFs K H' vs fs := by
  induction h with
  | nil => exact .nil
  | cons h _ ih => exact .cons ⟨h.1, FD.mono k h.2⟩ ih
def ObAt (K : PySem.W.Frag) (H : Hp) (a : Addr) : Ob → Prop
  | .lst ds => ∃ vs, H a = some (.lst vs) ∧ FDs K H vs ds
  | .dct ds => ∃ vs, H a = some (.dK vs) ∧ FKs K H vs ds
  | .dtt ds => ∃ kvs, H a = some (.dT kvs) ∧ FTs K H kvs ds
  | .ins c fs => ∃ dx vs, H a = some (.ins (He.ga K c) dx vs) ∧ FFs K H vs fs
def SVr (K : PySem.W.Frag) (H : Hp) (v : V) : SV → Prop
  | .d x => FD K H v x
  | .live o => ∃ a, v = .ref a ∧ ObAt K H a o
/-- a is the object of a slot -/
def Live (σ : St) (S : Sl) (a : Addr) : Prop := ∃ i o, at? S i = some (.live o) ∧ σ[i]? = some (some (.ref a))
/-- the entry: the heap there, the arguments, the slots that are never stored, the classes of the errors -/
structure Gh where
  H0 : Hp
  ps : List V
  fx : Nat → Bool
  cl : Str → Option Addr
  inv : Hp → Prop
  mono : ∀ H H' : Hp, Keeps H H' → inv H → inv H'
/-- nothing is said of the heap -/
abbrev Gh.mk0 (H0 : Hp) (ps : List V) (fx : Nat → Bool) (cl : Str → Option Addr) : Gh := ⟨H0, ps, fx, cl, fun _ => True, fun _ _ _ h => h⟩
structure Rel (K : PySem.W.Frag) (g : Gh) (σ : St) (H : Hp) (S : Sl) : Prop where
  len : σ.length = S.length
  rel : ∀ i v, at? S i = some v → ∃ u, σ[i]? = some (some u) ∧ SVr K H u v
  inj : ∀ i j a o o', at? S i = some (.live o) → at? S j = some (.live o') → σ[i]? = some (some (.ref a)) → σ[j]? = some (some (.ref a)) → i = j
  fresh : ∀ i o a, at? S i = some (.live o) → g.fx i = false → σ[i]? = some (some (.ref a)) → g.H0 a = none
  par : ∀ i, g.fx i = true → ∃ v, σ[i]? = some (some v) ∧ g.ps[i]? = some v
  trk : ∀ b, H b = none → g.H0 b = none
  inv : g.inv H
structure Step (σ : St) (S : Sl) (H : Hp) (σ' : St) (S' : Sl) (H' : Hp) : Prop where
  keep : ∀ b o, H b = some o → ¬ Live σ S b → H' b = some o
  trk : ∀ b, H' b = none → H b = none
  sub : ∀ a, Live σ' S' a → Live σ S a ∨ H a = none
theorem Step.refl (σ : St) (S : Sl) (H : Hp) : Step σ S H σ S H := ⟨fun _ _ h _ => h, fun _ h => h, fun _ h => .inl h⟩
theorem Step.trans {σ σ1 σ2 : St} {S S1 S2 : Sl} {H H1 H2 : Hp} (a : Step σ S H σ1 S1 H1) (b : Step σ1 S1 H1 σ2 S2 H2) : Step σ S H σ2 S2 H2 where
  keep := fun c o h n => b.keep c o (a.keep c o h n) fun l => (a.sub c l).elim n fun z => by rw [h] at z; cases z
  trk := fun c h => a.trk c (b.trk c h)
  sub := fun c l => (b.sub c l).elim (fun l1 => a.sub c l1) fun z => .inr (a.trk c z)
theorem ObAt.lst_of {K : PySem.W.Frag} {H : Hp} {a : Addr} {o : Ob} (h : ObAt K H a o) : ∃ u, H a = some u ∧ Mut (some u) := by
  cases o with
  | lst ds =>
    obtain ⟨vs, e, _⟩ := h
    exact ⟨_, e, trivial⟩
  | dct ds =>
    obtain ⟨vs, e, _⟩ := h
    exact ⟨_, e, trivial⟩
  | dtt ds =>
    obtain ⟨vs, e, _⟩ := h
    exact ⟨_, e, trivial⟩
  | ins c fs =>
    obtain ⟨dx, vs, e, _⟩ := h
    exact ⟨_, e, trivial⟩
section
variable {K : PySem.W.Frag} {g : Gh} {σ σ' : St} {H H' : Hp} {S S' : Sl}
theorem Rel.live (R : Rel K g σ H S) {a : Addr} (l : Live σ S a) : ∃ u, H a = some u ∧ Mut (some u) := by
  obtain ⟨i, o, e, q⟩ := l
  obtain ⟨u, q', r⟩ := R.rel i _ e
  rw [q] at q'
  cases q'
  obtain ⟨b, e', h⟩ := r
  cases e'
  exact h.lst_of
theorem Rel.keeps (R : Rel K g σ H S) (st : Step σ S H σ' S' H') : Keeps H H' :=
  ⟨fun b xs h => st.keep b _ h fun l => by
      obtain ⟨u, e, m⟩ := R.live l
      rw [h] at e
      cases e
      exact m,
    fun b o u h => st.keep b _ h fun l => by
      obtain ⟨w, e, m⟩ := R.live l
      rw [h] at e
      cases e
      exact m,
    fun b xs h => st.keep b _ h fun l => by
      obtain ⟨u, e, m⟩ := R.live l
      rw [h] at e
      cases e
      exact m⟩
end
/-- a value in flight -/
def VRel (K : PySem.W.Frag) (g : Gh) (σ : St) (H : Hp) (S : Sl) (v : V) : RV → Prop
  | .d x => FD K H v x
  | .br i => σ[i]? = some (some v)
  | .fr o => ∃ a, v = .ref a ∧ ObAt K H a o ∧ ¬ Live σ S a ∧ g.H0 a = none
/-- a fresh one was not there ahead -/
def New (H : Hp) (v : V) : RV → Prop
  | .fr _ => ∃ a, v = .ref a ∧ H a = none
  | _ => True
theorem ObAt.mono {K : PySem.W.Frag} {H H' : Hp} {a : Addr} {o : Ob} (k : Keeps H H') (e : ∀ u, H a = some u → H' a = some u) (h : ObAt K H a o) : ObAt K H' a o := by
  cases o with
  | lst ds =>
    obtain ⟨vs, q, f⟩ := h
    exact ⟨vs, e _ q, f.mono k⟩
  | dct ds =>
    obtain ⟨vs, q, f⟩ := h
    exact ⟨vs, e _ q, f.mono k⟩
  | dtt ds =>
    obtain ⟨vs, q, f⟩ := h
    exact ⟨vs, e _ q, f.mono k⟩
  | ins c fs =>
    obtain ⟨dx, vs, q, f⟩ := h
    exact ⟨dx, vs, e _ q, f.mono k⟩
theorem New.mono {H H1 : Hp} {v : V} {rv : RV} (t : ∀ b, H1 b = none → H b = none) (n : New H1 v rv) : New H v rv := by
  cases rv with
  | d x => exact trivial
  | br i => exact trivial
  | fr o =>
    obtain ⟨a, e, z⟩ := n
    exact ⟨a, e, t a z⟩
theorem VRel.mono {K : PySem.W.Frag} {g : Gh} {σ : St} {H H' : Hp} {S S' : Sl} {v : V} {rv : RV} (R : Rel K g σ H S) (st : Step σ S H σ S' H') (h : VRel K g σ H S v rv) : VRel K g σ H' S' v rv := by
  cases rv with
  | d x => exact FD.mono (R.keeps st) h
  | br i => exact h
  | fr o =>
    obtain ⟨a, e, ob, nl, z⟩ := h
    obtain ⟨u, hu, _⟩ := ob.lst_of
    refine ⟨a, e, ob.mono (R.keeps st) fun u' q => st.keep a u' q nl, fun l => ?_, z⟩
    rcases st.sub a l with l | l
    · exact nl l
    · rw [hu] at l; cases l

/-! ### what is wanted behind a result -/
structure After (K : PySem.W.Frag) (g : Gh) (σ : St) (S : Sl) (H : Hp) (S' : Sl) (H' : Hp) : Prop where
  step : Step σ S H σ S' H'
  rel : Rel K g σ H' S'
theorem After.refl {K : PySem.W.Frag} {g : Gh} {σ : St} {S : Sl} {H : Hp} (R : Rel K g σ H S) : After K g σ S H S H := ⟨.refl _ _ _, R⟩
theorem After.trans {K : PySem.W.Frag} {g : Gh} {σ : St} {S S1 S2 : Sl} {H H1 H2 : Hp} (a : After K g σ S H S1 H1) (b : After K g σ S1 H1 S2 H2) : After K g σ S H S2 H2 := ⟨a.step.trans b.step, b.rel⟩
/-- an error in flight -/
def XRel (K : PySem.W.Frag) (g : Gh) (H : Hp) (x : Exn) (cls : Value) (d : Option Addr) : Prop :=
  ∃ C, g.cl x.cls = some C ∧ cls = .ref C ∧ ((x.fs = [] ∧ d = none) ∨ ∃ dd vs, d = some dd ∧ H dd = some (.xd vs) ∧ Paired (fun (p : Str × V) (q : Str × D) => p.1 = q.1 ∧ FD K H p.2 q.2) vs x.fs)
section
variable {α β γ δ : Type}
/-- r, reached at S, H: what follows. H0: the heap ahead of the whole -/
def Wants (K : PySem.W.Frag) (g : Gh) (W : WX) (vr : St → Hp → Hp → Sl → β → α → Prop) (H0 : Hp) (σ : St) (S : Sl) (H : Hp) (r : Res α) (Q : β → Hp → Prop) : Prop := match r with
  | .ok a S' => ∀ b H', After K g σ S H S' H' → vr σ H0 H' S' b a → Q b H'
  | .exc x S' => ∀ cls d H', After K g σ S H S' H' → XRel K g H' x cls d → W cls d σ H'
  | .bad => False
/-- the reading of a semantic function -/
def tG (K : PySem.W.Frag) (g : Gh) (W : WX) (vr : St → Hp → Hp → Sl → β → α → Prop) (F : Sl → Res α) : St → Hp → (β → Hp → Prop) → Prop := fun σ H Q => ∃ S, Rel K g σ H S ∧ Wants K g W vr H σ S H (F S) Q
variable {K : PySem.W.Frag} {g : Gh} {W : WX} {vr : St → Hp → Hp → Sl → β → α → Prop} {vr' : St → Hp → Hp → Sl → δ → γ → Prop} {σ : St} {H H0 : Hp} {S : Sl}
theorem Wants.mono {r : Res α} {Q Q' : β → Hp → Prop} (h : Wants K g W vr H0 σ S H r Q) (hq : ∀ b H', Q b H' → Q' b H') : Wants K g W vr H0 σ S H r Q' := by
  cases r with
  | ok a S' => exact fun b H' A r => hq _ _ (h b H' A r)
  | exc x S' => exact h
  | bad => exact h
theorem tG.mono {F : Sl → Res α} {Q Q' : β → Hp → Prop} (h : tG K g W vr F σ H Q) (hq : ∀ b H', Q b H' → Q' b H') : tG K g W vr F σ H Q' := by
  obtain ⟨S, R, h⟩ := h
  exact ⟨S, R, h.mono hq⟩
/-- the part Fa is run at S; then k goes on -/
theorem Wants.step {Fa : Sl → Res α} {k : α → Sl → Res γ} {Q : δ → Hp → Prop} (R : Rel K g σ H S) (h : Wants K g W vr' H0 σ S H ((Fa S).bind k) Q) :
    tG K g W vr Fa σ H fun b H1 => ∃ a S1, After K g σ S H S1 H1 ∧ vr σ H H1 S1 b a ∧ Wants K g W vr' H0 σ S1 H1 (k a S1) Q := by
  refine ⟨S, R, ?_⟩
  cases e : Fa S with
  | bad => rw [e] at h; exact h
  | exc x S' => rw [e] at h; exact h
  | ok a S1 =>
    rw [e] at h
    intro b H1 A r
    refine ⟨a, S1, A, r, ?_⟩
    have h' : Wants K g W vr' H0 σ S H (k a S1) Q := h
    cases e2 : k a S1 with
    | bad => rw [e2] at h'; exact h'
    | exc x S2 => rw [e2] at h'; exact fun cls d H2 A2 xr => h' cls d H2 (A.trans A2) xr
    | ok c S2 => rw [e2] at h'; exact fun b2 H2 A2 r2 => h' b2 H2 (A.trans A2) r2
/-- the same, the state ahead kept -/
theorem Wants.at {Fa : Sl → Res α} {k : α → Sl → Res γ} {Q : δ → Hp → Prop} (R : Rel K g σ H S) (h : Wants K g W vr' H0 σ S H ((Fa S).bind k) Q) :
    tG K g W vr Fa σ H fun b H1 => ∃ a S1, After K g σ S H S1 H1 ∧ vr σ H H1 S1 b a ∧ Wants K g W vr' H0 σ S H (k a S1) Q := by
  refine ⟨S, R, ?_⟩
  cases e : Fa S with
  | bad => rw [e] at h; exact h
  | exc x S' => rw [e] at h; exact h
  | ok a S1 =>
    rw [e] at h
    exact fun b H1 A r => ⟨a, S1, A, r, h⟩
end
section
variable (K : PySem.W.Frag) (g : Gh) (W : WX)
/-- a statement's end, reached from σ, S, H -/
def Ends (E : L2.Ends) (σ : St) (S : Sl) (H : Hp) : Out → Prop
  | .nx S' => ∀ σ' H', Step σ S H σ' S' H' → Rel K g σ' H' S' → E.nx σ' H'
  | .bk S' => ∀ σ' H', Step σ S H σ' S' H' → Rel K g σ' H' S' → E.bk σ' H'
  | .ct S' => ∀ σ' H', Step σ S H σ' S' H' → Rel K g σ' H' S' → E.ct σ' H'
  | .rt v S' => ∀ σ' H' u, Step σ S H σ' S' H' → Rel K g σ' H' S' → VRel K g σ' H' S' u v → E.rt u H'
  | .exc x S' => ∀ σ' H' cls d, Step σ S H σ' S' H' → Rel K g σ' H' S' → XRel K g H' x cls d → W cls d σ' H'
  | .bad => False
end
section
variable (X : Cx) (g : Gh) (W : WX)
end
section
variable {X : Cx}
/-- a ghost step: a list is frozen -/
theorem frozen {pins : List (Addr × Obj)} {σ : St} {H : Hp} {s : Shared} {a : Addr} {vs : List V} (I : Inv X pins σ H s) (h : H a = some (.lst vs)) : ∃ o, Inv X pins σ (upd H a (.frz o (.lst vs))) s := by
  obtain ⟨z, its, n, r, e⟩ := I.hok a _ h
  refine ⟨{ cls := .type "list", data := .seq its.toArray n }, I.un (H' := upd H a (.frz { cls := .type "list", data := .seq its.toArray n } (.lst vs))) (h' := s.heap) (t' := s.toks) ⟨fun b o q _ _ _ => q, fun b o q _ _ _ => ⟨o.slots, q⟩, fun b o _ q _ => ?_, fun b o q _ => ⟨o, q⟩, fun b xs q => ?_, fun b o u q => ?_, fun b ps q => ?_⟩ fun b o q => ?_⟩
  · rw [upd_ne fun z => by rw [z, h] at q; cases q]; exact q
  · rw [upd_ne fun z => by rw [z, h] at q; cases q]; exact q
  · rw [upd_ne fun z => by rw [z, h] at q; cases q]; exact q
  · exact ⟨#[], by rw [upd_ne (fun z => by rw [z, h] at q; cases q), q]; simp⟩
  · by_cases hb : b = a
    · subst hb
      rw [upd_same] at q
      cases q
      exact ⟨e, z, its, n, r, e⟩
    · rw [upd_ne hb] at q
      exact (I.hok b o q).stay (fun _ _ _ k => k) (fun c k => by rw [upd_ne fun z => by rw [z, h] at k; cases k]; exact k) fun c xs k => by rw [upd_ne fun z => by rw [z, h] at k; cases k]; exact k
end
end Fm

/-! FmC: expressions: names, constants, operators, tests. -/
namespace Fm
open PySem L2

/-! ### reading values -/
/-- v is to be read as x now: frozen data, or a list of frozen data -/
def TD (K : PySem.W.Frag) (H : Hp) (v : V) (x : D) : Prop := FD K H v x ∨ (∃ a vs ds, v = .ref a ∧ x = .list ds ∧ H a = some (.lst vs) ∧ FDs K H vs ds) ∨ ∃ a vs ds, v = .ref a ∧ x = .dict ds ∧ H a = some (.dK vs) ∧ FKs K H vs ds
section
variable {K : PySem.W.Frag} {g : Gh} {σ : St} {H H' : Hp} {S : Sl} {v : V}
theorem TD.lst {ds : List D} (h : TD K H v (.list ds)) : ∃ a vs, v = .ref a ∧ Rd H a (.lst vs) ∧ FDs K H vs ds := by
  rcases h with h | ⟨a, vs, ds', rfl, e, h, f⟩ | ⟨a, vs, ds', rfl, e, h, f⟩
  · cases h with
    | lst h f => exact ⟨_, _, rfl, .inr ⟨_, h⟩, f⟩
  · cases e
    exact ⟨a, vs, rfl, .inl h, f⟩
  · cases e
theorem TD.dct {ds : List (D × D)} (h : TD K H v (.dict ds)) (hne : isErrD (.dict ds) = false) : ∃ a vs, v = .ref a ∧ Rd H a (.dK vs) ∧ FKs K H vs ds := by
  rcases h with h | ⟨a, vs, ds', rfl, e, h, f⟩ | ⟨a, vs, ds', rfl, e, h, f⟩
  · cases h with
    | dct h f => exact ⟨_, _, rfl, .inr ⟨_, h⟩, f⟩
    | err _ _ _ _ _ => cases hne
    | err0 _ _ _ => cases hne
  · cases e
  · cases e
    exact ⟨a, vs, rfl, .inl h, f⟩
theorem TD.tupA {ds : List D} (h : TD K H v (.tuple ds)) : ∃ a vs, v = .ref a ∧ TupA K H a vs ds ∧ FDs K H vs ds := by
  rcases h with h | ⟨a, vs, ds', rfl, e, h, f⟩ | ⟨a, vs, ds', rfl, e, h, f⟩
  · cases h with
    | tup h f => exact ⟨_, _, rfl, h, f⟩
  · cases e
  · cases e
theorem TD.tup {ds : List D} (h : TD K H v (.tuple ds)) : ∃ a vs, v = .ref a ∧ SqT K H a vs ∧ FDs K H vs ds := by
  obtain ⟨a, vs, e, h, f⟩ := h.tupA
  exact ⟨a, vs, e, h.1, f⟩
theorem TD.int {i : Int} (h : TD K H v (.int i)) : v = .int i := by
  rcases h with h | ⟨a, vs, ds', rfl, e, h, f⟩ | ⟨a, vs, ds', rfl, e, h, f⟩
  · cases h; rfl
  · cases e
  · cases e
theorem TD.bl {b : Bool} (h : TD K H v (.bool b)) : v = .bl b := by
  rcases h with h | ⟨a, vs, ds', rfl, e, h, f⟩ | ⟨a, vs, ds', rfl, e, h, f⟩
  · cases h; rfl
  · cases e
  · cases e
theorem TD.str {x : Str} (h : TD K H v (.str x)) : v = .str x := by
  rcases h with h | ⟨a, vs, ds', rfl, e, h, f⟩ | ⟨a, vs, ds', rfl, e, h, f⟩
  · cases h; rfl
  · cases e
  · cases e
theorem TD.non (h : TD K H v .none) : v = .non := by
  rcases h with h | ⟨a, vs, ds', rfl, e, h, f⟩ | ⟨a, vs, ds', rfl, e, h, f⟩
  · cases h; rfl
  · cases e
  · cases e
mutual
theorem FD.dp : ∀ {v : V} {x : D}, FD K H v x → x.canLay0 = true → Dp K H v x
  | _, _, .non, _ => .non
  | _, _, .bl b, _ => .bl b
  | _, _, .int i, _ => .int i
  | _, _, .str x, _ => .str x
  | _, _, .tup h hs, c => .tup h.1 (FDs.dp hs (by simpa [PyData.canLay0] using c))
  | _, _, .lst h hs, c => .lst (.inl (.inr ⟨_, h⟩)) (FDs.dp hs (by simpa [PyData.canLay0] using c))
  | _, _, .dct h _, c => by simp [PyData.canLay0] at c
  | _, _, .err .., c => by simp [PyData.canLay0] at c
  | _, _, .err0 .., c => by simp [PyData.canLay0] at c
theorem FDs.dp : ∀ {vs : List V} {xs : List D}, FDs K H vs xs → PyData.canLayAll0 xs = true → DpAll K H vs xs
  | _, _, .nil, _ => .nil
  | _, _, .cons h hs, c => by
    have c' := c
    simp only [PyData.canLayAll0, Bool.and_eq_true] at c'
    exact .cons (FD.dp h c'.1) (FDs.dp hs c'.2)
end
theorem TD.dp {x : D} (h : TD K H v x) (c : x.canLay0 = true) : Dp K H v x := by
  rcases h with h | ⟨a, vs, ds', rfl, rfl, h, f⟩ | ⟨a, vs, ds', rfl, rfl, h, f⟩
  · exact h.dp c
  · exact .lst (.inl (.inl h)) (f.dp (by simpa [PyData.canLay0] using c))
  · simp [PyData.canLay0] at c
end

/-! ### heaps that grow -/
section
variable {K : PySem.W.Frag} {g : Gh} {σ : St} {H H' : Hp} {S : Sl}
theorem SVr.grow {v : V} {s : SV} (G : Grow H H') (h : SVr K H v s) : SVr K H' v s := by
  cases s with
  | d x => exact FD.mono G.keeps h
  | live o =>
    obtain ⟨a, e, h⟩ := h
    exact ⟨a, e, h.mono G.keeps fun u q => G a u q⟩
theorem Rel.grow (R : Rel K g σ H S) (G : Grow H H') : Rel K g σ H' S :=
  ⟨R.len, fun i v e => let ⟨u, h1, h2⟩ := R.rel i v e; ⟨u, h1, h2.grow G⟩, R.inj, R.fresh, R.par, fun b e => R.trk b (G.trk b e), g.mono _ _ G.keeps R.inv⟩
theorem After.grow (R : Rel K g σ H S) (G : Grow H H') : After K g σ S H S H' := ⟨⟨fun b o h _ => G b o h, fun b h => G.trk b h, fun a h => .inl h⟩, R.grow G⟩
end
/-- a result of a reading operation -/
def RAt (K : PySem.W.Frag) (H H' : Hp) (v : V) : RV → Prop
  | .d x => FD K H' v x
  | .fr o => ∃ a, v = .ref a ∧ H a = none ∧ ObAt K H' a o
  | .br _ => False
def Yields (K : PySem.W.Frag) (H : Hp) (rv : RV) (Q : VK) : Prop := ∀ v H', Grow H H' → RAt K H H' v rv → Q v H'
section
variable {K : PySem.W.Frag} {g : Gh} {W : WX} {σ : St} {H H0 : Hp} {S : Sl} {Q : VK}
theorem Yields.same {x : D} {v : V} (y : Yields K H (.d x) Q) (h : FD K H v x) : Q v H := y v H (.refl H) h
theorem Yields.tup {ds : List D} {vs : List V} {p : Addr} (y : Yields K H (.d (.tuple ds)) Q) (hp : H p = none) (h : FDs K H vs ds) : Q (.ref p) (upd H p (.tup vs)) :=
  y _ _ (.new hp) (.tup (.new upd_same) (h.mono (Grow.new hp).keeps))
theorem Yields.lst {ds : List D} {vs : List V} {p : Addr} (y : Yields K H (.fr (.lst ds)) Q) (hp : H p = none) (h : FDs K H vs ds) : Q (.ref p) (upd H p (.lst vs)) :=
  y _ _ (.new hp) ⟨p, rfl, hp, vs, upd_same, h.mono (Grow.new hp).keeps⟩
theorem Yields.dct {ds : List (D × D)} {vs : List (L2.Key × V)} {p : Addr} (y : Yields K H (.fr (.dct ds)) Q) (hp : H p = none) (h : FKs K H vs ds) : Q (.ref p) (upd H p (.dK vs)) :=
  y _ _ (.new hp) ⟨p, rfl, hp, vs, upd_same, h.mono (Grow.new hp).keeps⟩
end

/-! ### operations by values -/
def OpD (X : Cx) (f : D → D → Option RV) (r : R2) : Prop := ∀ (x y : V) (dx dy : D) (H : Hp) (rv : RV) (Q : VK), TD X.K H x dx → TD X.K H y dy → f dx dy = some rv → Yields X.K H rv Q → r x y H Q
/-- an operator: the model's operation does what f says -/
def OpOk (X : Cx) (op : Value → Value → Sem Value) (f : D → D → Option RV) : Prop := OpR X op fun x y H Q => ∃ dx dy rv, TD X.K H x dx ∧ TD X.K H y dy ∧ f dx dy = some rv ∧ Yields X.K H rv Q
theorem OpOk.of {X : Cx} {op : Value → Value → Sem Value} {f : D → D → Option RV} {r : R2} (h : OpR X op r) (d : OpD X f r) : OpOk X op f := by
  intro pins s σ H x y v u Q I rx ry q
  obtain ⟨dx, dy, rv, h1, h2, h3, h4⟩ := q
  exact h pins s σ H x y v u Q I rx ry (d x y dx dy H rv Q h1 h2 h3 h4)
/-- one of two -/
def orF (f f' : D → D → Option RV) : D → D → Option RV := fun x y => (f x y).or (f' x y)
theorem OpOk.or {X : Cx} {op : Value → Value → Sem Value} {f f' : D → D → Option RV} (h : OpOk X op f) (h' : OpOk X op f') : OpOk X op (orF f f') := by
  intro pins s σ H x y v u Q I rx ry q
  obtain ⟨dx, dy, rv, h1, h2, h3, h4⟩ := q
  unfold orF at h3
  cases e : f dx dy with
  | some z =>
    rw [e] at h3
    cases h3
    exact h pins s σ H x y v u Q I rx ry ⟨dx, dy, _, h1, h2, e, h4⟩
  | none =>
    rw [e] at h3
    exact h' pins s σ H x y v u Q I rx ry ⟨dx, dy, rv, h1, h2, h3, h4⟩
section
variable {X : Cx} {g : Gh} {W : WX} {a b : Expr} {Fa Fb : Ex} {pos : Pos}
/-! ### names and constants -/
/-! ### argument lists -/
/-! ### freezing -/
theorem at_set_ne {S : Sl} {i j : Nat} {s : Option SV} (h : i ≠ j) : at? (S.set i s) j = at? S j := by
  unfold at?
  rw [List.getElem?_set_ne h]
theorem at_lt {S : Sl} {i : Nat} {s : SV} (h : at? S i = some s) : i < S.length := by
  unfold at? at h
  by_cases hl : i < S.length
  · exact hl
  · rw [List.getElem?_eq_none (by simpa using hl)] at h; cases h
theorem at_set_self {S : Sl} {i : Nat} {s : Option SV} (h : i < S.length) : at? (S.set i s) i = s := by
  unfold at?
  rw [List.getElem?_set_self h]
  rfl
/-! ### tests -/
/-! ### and, or, not, if as values -/
/-! ### a op b op' c -/
end
end Fm

/-! FmD: statements, loops, comprehensions. -/
namespace Fm
open PySem L2

section
variable {K : PySem.W.Frag} {g : Gh} {W : WX} {σ σ1 : St} {S S1 : Sl} {H H1 : Hp} {E : L2.Ends}
theorem Ends.rebase {o : Out} (st : Step σ S H σ1 S1 H1) (h : Ends K g W E σ S H o) : Ends K g W E σ1 S1 H1 o := by
  cases o with
  | nx S' => exact fun σ' H' q => h σ' H' (st.trans q)
  | bk S' => exact fun σ' H' q => h σ' H' (st.trans q)
  | ct S' => exact fun σ' H' q => h σ' H' (st.trans q)
  | rt v S' => exact fun σ' H' u q => h σ' H' u (st.trans q)
  | exc x S' => exact fun σ' H' cls d q => h σ' H' cls d (st.trans q)
  | bad => exact h
/-- an expression within a statement; the state ahead kept -/
theorem Ends.at {α β : Type} {vr : St → Hp → Hp → Sl → β → α → Prop} {Fa : Sl → Res α} {k : α → Sl → Out} (R : Rel K g σ H S) (h : Ends K g W E σ S H ((Fa S).out k)) :
    tG K g W vr Fa σ H fun b H1 => ∃ a S1, After K g σ S H S1 H1 ∧ vr σ H H1 S1 b a ∧ Ends K g W E σ S H (k a S1) := by
  refine ⟨S, R, ?_⟩
  cases e : Fa S with
  | bad => rw [e] at h; exact h
  | exc x S' => rw [e] at h; exact fun cls d H' A xr => h σ H' cls d A.step A.rel xr
  | ok a S1 => rw [e] at h; exact fun b H1 A r => ⟨a, S1, A, r, h⟩
theorem Ends.step {α β : Type} {vr : St → Hp → Hp → Sl → β → α → Prop} {Fa : Sl → Res α} {k : α → Sl → Out} (R : Rel K g σ H S) (h : Ends K g W E σ S H ((Fa S).out k)) :
    tG K g W vr Fa σ H fun b H1 => ∃ a S1, After K g σ S H S1 H1 ∧ vr σ H H1 S1 b a ∧ Ends K g W E σ S1 H1 (k a S1) :=
  (Ends.at R h).mono fun _ _ ⟨a, S1, A, r, h1⟩ => ⟨a, S1, A, r, h1.rebase A.step⟩

/-! ### a slot is stored -/
theorem at_set {S : Sl} {i j : Nat} {s : Option SV} {t : SV} (h : at? (S.set i s) j = some t) : (i = j ∧ s = some t) ∨ (at? S j = some t ∧ (i ≠ j ∨ S.length ≤ i)) := by
  by_cases hj : i = j
  · subst hj
    by_cases hi : i < S.length
    · rw [at_set_self hi] at h
      exact .inl ⟨rfl, h⟩
    · refine .inr ⟨?_, .inr (by omega)⟩
      rwa [List.set_eq_of_length_le (by omega)] at h
  · rw [at_set_ne hj] at h
    exact .inr ⟨h, .inl hj⟩
theorem st_set_ne {σ : St} {i j : Nat} {v : Option V} (h : i ≠ j ∨ σ.length ≤ i) : (σ.set i v)[j]? = σ[j]? := by
  rcases h with h | h
  · exact List.getElem?_set_ne h
  · rw [List.set_eq_of_length_le h]
theorem Live.set {σ : St} {S : Sl} {i : Nat} {s : Option SV} {v : Option V} {a : Addr} (hl : σ.length = S.length) (l : Live (σ.set i v) (S.set i s) a) : Live σ S a ∨ ((∃ o, s = some (.live o)) ∧ v = some (.ref a)) := by
  obtain ⟨j, o, e, q⟩ := l
  rcases at_set e with ⟨rfl, e'⟩ | ⟨e', hj⟩
  · have hi : i < σ.length := by
      by_cases hi : i < σ.length
      · exact hi
      · rw [List.getElem?_eq_none (by simpa using hi)] at q; cases q
    rw [List.getElem?_set_self hi] at q
    exact .inr ⟨⟨o, e'⟩, Option.some.inj q⟩
  · rw [st_set_ne (by rw [hl]; exact hj)] at q
    exact .inl ⟨j, o, e', q⟩
/-- what may stand in a slot -/
def Fits (K : PySem.W.Frag) (g : Gh) (σ : St) (S : Sl) (H : Hp) (v : V) (s : SV) : Prop := SVr K H v s ∧ ∀ o a, s = .live o → v = .ref a → ¬ Live σ S a ∧ g.H0 a = none
theorem Rel.set {i : Nat} {v : V} {s : SV} (R : Rel K g σ H S) (hf : g.fx i = false) (h : Fits K g σ S H v s) : Rel K g (σ.set i (some v)) H (S.set i (some s)) := by
  have hl := R.len
  refine ⟨by rw [List.length_set, List.length_set]; exact hl, fun j w e => ?_, fun j j' a o o' e e' q q' => ?_, fun j o a e f q => ?_, fun j f => ?_, R.trk, R.inv⟩
  · rcases at_set e with ⟨rfl, e'⟩ | ⟨e', hj⟩
    · cases e'
      have hi : i < σ.length := by rw [hl]; simpa using at_lt e
      exact ⟨v, by rw [List.getElem?_set_self hi], h.1⟩
    · obtain ⟨u, h1, h2⟩ := R.rel j w e'
      exact ⟨u, by rw [st_set_ne (by rw [hl]; exact hj)]; exact h1, h2⟩
  · -- two live slots
    have key : ∀ {j : Nat} {o : Ob}, at? (S.set i (some s)) j = some (.live o) → (σ.set i (some v))[j]? = some (some (.ref a)) → (i = j ∧ s = .live o ∧ v = .ref a) ∨ (at? S j = some (.live o) ∧ σ[j]? = some (some (.ref a)) ∧ (i ≠ j ∨ S.length ≤ i)) := fun {j o} e q => by
      rcases at_set e with ⟨rfl, e'⟩ | ⟨e', hj⟩
      · cases e'
        have hi : i < σ.length := by rw [hl]; simpa using at_lt e
        rw [List.getElem?_set_self hi] at q
        cases q
        exact .inl ⟨rfl, rfl, rfl⟩
      · rw [st_set_ne (by rw [hl]; exact hj)] at q
        exact .inr ⟨e', q, hj⟩
    rcases key e q with ⟨rfl, h1, h2⟩ | ⟨h1, h2, h3⟩
    · rcases key e' q' with ⟨rfl, _, _⟩ | ⟨k1, k2, _⟩
      · rfl
      · exact absurd ⟨j', o', k1, k2⟩ (h.2 o a h1 h2).1
    · rcases key e' q' with ⟨rfl, k1, k2⟩ | ⟨k1, k2, _⟩
      · exact absurd ⟨j, o, h1, h2⟩ (h.2 o' a k1 k2).1
      · exact R.inj j j' a o o' h1 k1 h2 k2
  · rcases at_set e with ⟨rfl, e'⟩ | ⟨e', hj⟩
    · cases e'
      have hi : i < σ.length := by rw [hl]; simpa using at_lt e
      rw [List.getElem?_set_self hi] at q
      cases q
      exact (h.2 o a rfl rfl).2
    · rw [st_set_ne (by rw [hl]; exact hj)] at q
      exact R.fresh j o a e' f q
  · obtain ⟨u, h1, h2⟩ := R.par j f
    have hj : i ≠ j := fun z => by rw [← z, hf] at f; cases f
    exact ⟨u, by rw [List.getElem?_set_ne hj]; exact h1, h2⟩
theorem VRel.fits {v : V} {rv : RV} {x : SV} (h : VRel K g σ H S v rv) (e : rv = x.rv) : Fits K g σ S H v x := by
  cases x with
  | d y =>
    cases e
    exact ⟨h, fun o a e => nomatch e⟩
  | live o =>
    cases e
    obtain ⟨a, rfl, ob, nl, z⟩ := h
    exact ⟨⟨a, rfl, ob⟩, fun _ _ _ e2 => by cases e2; exact ⟨nl, z⟩⟩
end

section
variable {X : Cx} {g : Gh} {W : WX} {e : Expr} {F : Ex} {pos : Pos} {st : Stmt} {rest : List Stmt} {A B : Sx}
/-! ### targets that take data -/
theorem FKs.snoc {K : PySem.W.Frag} {H : Hp} {vs : List (L2.Key × V)} {ds : List (D × D)} (f : FKs K H vs ds) {k : L2.Key} {key x : D} {v : V} (e : kyOf key = some k) (h : FD K H v x) : FKs K H (vs ++ [(k, v)]) (ds ++ [(key, x)]) := by
  induction vs generalizing ds with
  | nil => cases f; exact .cons e h .nil
  | cons w vs ih =>
    cases f with
    | cons e1 h1 f => exact .cons e1 h1 (ih f)
theorem FKs.length {K : PySem.W.Frag} {H : Hp} {vs : List (L2.Key × V)} {ds : List (D × D)} (f : FKs K H vs ds) : vs.length = ds.length := by
  induction vs generalizing ds with
  | nil => cases f; rfl
  | cons w vs ih =>
    cases f with
    | cons e1 h1 f => rw [List.length_cons, List.length_cons, ih f]
theorem FTs.length {K : PySem.W.Frag} {H : Hp} {kvs : List (List L2.Key × V)} {ds : List (List Ky × D)} (f : FTs K H kvs ds) : kvs.length = ds.length := by
  induction f with
  | nil => rfl
  | cons _ _ ih => rw [List.length_cons, List.length_cons, ih]
theorem FTs.any {K : PySem.W.Frag} {H : Hp} {kvs : List (List L2.Key × V)} {ds : List (List Ky × D)} (f : FTs K H kvs ds) (q : List Ky) : (kvs.any fun kv => decide (kv.1 = q)) = ds.any fun p => decide (p.1 = q) := by
  induction f with
  | nil => rfl
  | cons h _ ih =>
    rw [List.any_cons, List.any_cons, ih]
    congr 1
    rw [h.1]
theorem FTs.snoc {K : PySem.W.Frag} {H : Hp} {q : List Ky} {v : V} {x : D} (h : FD K H v x) : ∀ {kvs : List (List L2.Key × V)} {ds : List (List Ky × D)}, FTs K H kvs ds → FTs K H (kvs ++ [(q, v)]) (ds ++ [(q, x)])
  | _, _, .nil => .cons ⟨rfl, h⟩ .nil
  | _ :: _, _ :: _, .cons h1 t => .cons h1 (FTs.snoc h t)
theorem FTs.get {K : PySem.W.Frag} {H : Hp} {q : List Ky} : ∀ {kvs : List (List L2.Key × V)} {ds : List (List Ky × D)}, FTs K H kvs ds → (valV kvs (q) = none ∧ tGet ds q = none) ∨ ∃ v x, valV kvs (q) = some v ∧ tGet ds q = some x ∧ FD K H v x
  | _, _, .nil => .inl ⟨rfl, rfl⟩
  | k :: kvs, d :: ds, .cons h1 t => by
    by_cases e : d.1 = q
    · refine .inr ⟨k.2, d.2, valV_pos (by rw [h1.1, e]), ?_, h1.2⟩
      unfold tGet
      rw [List.find?_cons, decide_eq_true e]
      rfl
    · have e1 : tGet (d :: ds) q = tGet ds q := by
        unfold tGet
        rw [List.find?_cons, decide_eq_false e]
      rw [valV_neg (by rw [h1.1]; exact e), e1]
      exact FTs.get t
/-! ### a, b = x, y -/
/-! ### for, while -/
theorem Ends.turn {K : PySem.W.Frag} {E : L2.Ends} {σ : St} {S : Sl} {H : Hp} {o : Out} {f : Sl → Out} {N : St → Hp → Prop} (h : Ends K g W E σ S H (o.turn f))
    (hN : ∀ S1 σ1 H1, Step σ S H σ1 S1 H1 → Rel K g σ1 H1 S1 → Ends K g W E σ1 S1 H1 (f S1) → N σ1 H1) : Ends K g W { E with nx := N, ct := N, bk := E.nx } σ S H o := by
  cases o with
  | nx S1 => exact fun σ1 H1 st R => hN S1 σ1 H1 st R (Ends.rebase st h)
  | ct S1 => exact fun σ1 H1 st R => hN S1 σ1 H1 st R (Ends.rebase st h)
  | bk S1 => exact h
  | rt v S1 => exact h
  | exc x S1 => exact h
  | bad => exact h
end
end Fm

/-! FmE: what is walked; comprehensions. -/
namespace Fm
open PySem L2
section
variable {X : Cx} {g : Gh} {W : WX} {tg e : Expr} {pos : Pos}
theorem PI.or {it : Expr} {t t' : TI} (p : PI X tg it t) (p' : PI X tg it t') : PI X tg it (fun σ H R => t σ H R ∨ t' σ H R) :=
  ⟨fun pins s σ H R I q => q.elim (p.run pins s σ H R I) (p'.run pins s σ H R I)⟩
theorem FKs.at {K : PySem.W.Frag} {H : Hp} : ∀ {vs : List (L2.Key × V)} {ds : List (D × D)} {i : Nat} {k : L2.Key} {v : V}, FKs K H vs ds → vs[i]? = some (k, v) → ∃ d x, ds[i]? = some (d, x) ∧ kyOf d = some k ∧ FD K H v x
  | _, _, i, k, v, .nil, e => by simp at e
  | _, _, 0, k, v, .cons e1 h t, e => by
    simp at e
    obtain ⟨rfl, rfl⟩ := e
    exact ⟨_, _, rfl, e1, h⟩
  | _, _, i + 1, k, v, .cons e1 h t, e => FKs.at (i := i) t (by simpa using e)
/-! ### comprehensions -/
/-- no error leaves a block -/
abbrev W0 : WX := fun _ _ _ _ => False
theorem Step.upd_new {σ σ' : St} {S S' : Sl} {H H' : Hp} {d : Addr} {u : HO} (st : Step σ S H σ' S' H') (n : H d = none) : Step σ S H σ' S' (upd H' d u) :=
  ⟨fun b o h l => by rw [upd_ne fun z => by rw [z, n] at h; cases h]; exact st.keep b o h l, fun b h => by
    by_cases hb : b = d
    · rw [hb, upd_same] at h; cases h
    · rw [upd_ne hb] at h; exact st.trk b h, st.sub⟩
theorem keeps_upd {H : Hp} {d : Addr} {u0 u : HO} (h : H d = some u0) (m : Mut (some u0)) : Keeps H (upd H d u) :=
  ⟨fun b xs e => by rw [upd_ne fun z => by rw [z, h] at e; cases e; exact m]; exact e, fun b o xs e => by rw [upd_ne fun z => by rw [z, h] at e; cases e; exact m]; exact e, fun b xs e => by rw [upd_ne fun z => by rw [z, h] at e; cases e; exact m]; exact e⟩
theorem Rel.upd_other {K : PySem.W.Frag} {σ : St} {S : Sl} {H : Hp} {d : Addr} {u0 u : HO} (R : Rel K g σ H S) (h : H d = some u0) (m : Mut (some u0)) (nl : ¬ Live σ S d) : Rel K g σ (upd H d u) S := by
  refine ⟨R.len, fun i v e => ?_, R.inj, R.fresh, R.par, fun b e => ?_, g.mono _ _ (keeps_upd h m) R.inv⟩
  · obtain ⟨w, h1, h2⟩ := R.rel i v e
    refine ⟨w, h1, ?_⟩
    cases v with
    | d x => exact FD.mono (keeps_upd h m) h2
    | live o =>
      obtain ⟨b, rfl, ob⟩ := h2
      exact ⟨b, rfl, ob.mono (keeps_upd h m) fun u' q => by rw [upd_ne (show b ≠ d from fun z => nl ⟨i, o, e, by rw [← z]; exact h1⟩)]; exact q⟩
  · by_cases hb : b = d
    · rw [hb, upd_same] at e; cases e
    · rw [upd_ne hb] at e; exact R.trk b e
end
end Fm

/-! FmF: calls of the program's own defs; a def by its body. -/
namespace Fm
open PySem L2

def XR (K : PySem.W.Frag) (cl : Str → Option Addr) (H : Hp) (x : Exn) (cls : Value) (d : Option Addr) : Prop := XRel K (.mk0 (fun _ => none) [] (fun _ => false) cl) H x cls d
theorem XR.of {K : PySem.W.Frag} {g : Gh} {H : Hp} {x : Exn} {cls : Value} {d : Option Addr} (h : XRel K g H x cls d) : XR K g.cl H x cls d := h
theorem XR.to {K : PySem.W.Frag} {g : Gh} {H : Hp} {x : Exn} {cls : Value} {d : Option Addr} (h : XR K g.cl H x cls d) : XRel K g H x cls d := h
/-- the standing facts of a context -/
structure Ok (X : Cx) (W : WX) (n : Nat) : Prop where
  room : Room n X.A
  gd : X.A.guards = some []
  tk : Takes X W
  calm : X.calm = true
  nd : X.N.Nodup
/-- what holds in an except suite, too -/
structure Okh (X : Cx) (n : Nat) : Prop where
  dp : X.A.depth + 3 * n + 5 < recursionLimit
  un : X.A.units + 16 * n + 200 < cLine
  gd : X.A.guards = some []
  nd : X.N.Nodup
theorem Ok.h {X : Cx} {W : WX} {n : Nat} (ok : Ok X W n) : Okh X n := ⟨by have := ok.room.dp; omega, by have := ok.room.un; omega, ok.gd, ok.nd⟩
theorem Okh.h {X : Cx} {n : Nat} (ok : Okh X n) : Okh X n := ok
theorem Ok.blk {X : Cx} {W : WX} {n : Nat} (h : Ok X W n) (s : Shared) (H : Hp) (scope : Scope) (cenv : Env) (fp : List Addr) : Ok (X.blk s H scope cenv fp) W0 n := ⟨h.room, h.gd, takes0, h.calm, h.nd⟩

/-! ### arguments handed over -/
section
variable {K : PySem.W.Frag} {g : Gh} {σ : St} {H H0 : Hp} {S : Sl}
end
section
variable {X : Cx} {g : Gh} {W : WX} {k n : Nat} {x : Str} {st : Stmt} {ps : List Str} {F : Fn} {p pos : Pos} {e : Expr} {es : List Expr} {Fa : Ax}
/-! ### with keywords: all arguments are frozen -/
end

/-! ### a def by its body -/
section
variable {P : Program} {w : World} {K : PySem.W.Frag} {mg : Str → Option Value} {base : Heap} {cl : Str → Option Addr}
end
end Fm

/-! FmP: operators and built-ins on data. -/
namespace Fm
open PySem

def fits (n : Nat) : Bool := decide (n ≤ sizeLine)
/-! built-in functions -/
mutual
def okR : D → Bool
  | .list xs => okRs xs
  | .tuple xs => okRs xs
  | .dict kvs => kvs.isEmpty
  | .none | .bool _ | .int _ | .str _ => true
def okRs : List D → Bool
  | [] => true
  | x :: xs => okR x && okRs xs
end
mutual
theorem okR_lay : ∀ {x : D}, x.canLay0 = true → okR x = true
  | .list xs, h => by rw [okR]; exact okRs_lay (by simpa [PyData.canLay0] using h)
  | .tuple xs, h => by rw [okR]; exact okRs_lay (by simpa [PyData.canLay0] using h)
  | .dict _, h => by simp [PyData.canLay0] at h
  | .none, _ => by rw [okR]
  | .bool _, _ => by rw [okR]
  | .int _, _ => by rw [okR]
  | .str _, _ => by rw [okR]
theorem okRs_lay : ∀ {xs : List D}, PyData.canLayAll0 xs = true → okRs xs = true
  | [], _ => by rw [okRs]
  | x :: xs, h => by
    have h' : x.canLay0 = true ∧ PyData.canLayAll0 xs = true := by simpa [PyData.canLayAll0] using h
    rw [okRs, okR_lay h'.1, okRs_lay h'.2]
    rfl
end
def reprOk (x : D) : Bool := x.showable && fits x.shown.length && decide (x.depth ≤ 64) && okR x
def reprD (x : D) : Option RV := if reprOk x = true then some (.d (.str x.shown)) else none
/-! methods that change the list of a slot -/
/-! dicts -/
/-! ### zip of two lists, of two tuples; insert -/
end Fm

/-! FmO: operators and built-ins do what FmP says. -/
namespace Fm
open PySem L2
section
variable {X : Cx}
section
open PySem.SeqAt PySem.MeetsSeq
open PySem.AutoSeq1 (wpAny_loadPart')
end
/-! ### comparisons -/
/-! ### subscripts, slices -/
variable {g : Gh} {W : WX} {a b : Expr} {Fa Fb : Ex} {pos : Pos}
theorem FKs.get {K : PySem.W.Frag} {H : Hp} {vs : List (L2.Key × V)} {ds : List (D × D)} (f : FKs K H vs ds) (k : L2.Key) : (valV vs k = none ∧ dGet ds k = none) ∨ ∃ v x, valV vs k = some v ∧ dGet ds k = some x ∧ FD K H v x := by
  induction vs generalizing ds with
  | nil => cases f; exact .inl ⟨rfl, rfl⟩
  | cons w vs ih =>
    cases f with
    | cons e1 h1 f =>
      rename_i k1 d1 v1 x1 ds1
      by_cases hk : k1 = k
      · subst hk
        refine .inr ⟨v1, x1, valV_pos rfl, ?_, h1⟩
        unfold dGet
        rw [List.find?_cons, decide_eq_true e1]
        rfl
      · have : dGet ((d1, x1) :: ds1) k = dGet ds1 k := by
          unfold dGet
          rw [List.find?_cons, decide_eq_false (fun z => hk (by rw [e1] at z; exact Option.some.inj z))]
        rw [valV_neg hk, this]
        exact ih f
/-! ### built-in functions -/
/-! repr -/
/-! isinstance -/
end
end Fm

/-! FmQ: order: comparisons, min, max, sorted over data. -/
namespace PySem.SeqAt
open AutoSeq1 (wpAny_loadPart')
open MeetsSeq MeetsSeq2 MeetsSeq3 SeqRoads2
section
variable {A : Around} {s : Shared}
variable {prog : Program} {w : World} {E : Value → Shared → Prop} {c : Value} {xs : List PyData} {b : Int} {u : Tok} {as : List Addr} {Q : Value → Shared → Prop}
section
variable {u : Value} {ds : List (PyData × PyData)} {bs : List Addr}
end
end
end PySem.SeqAt
namespace Fm
open PySem L2 PySem.W
section
variable {X : Cx} {W : WX} {n : Nat}
end
end Fm

/-! FmG: enumerate, list(range), methods that change a list, constants of the module. -/
namespace Fm
open PySem L2

/-! ### enumerate(tuple) -/
section
variable {X : Cx} {g : Gh} {W : WX} {e : Expr} {pos p tpos : Pos} {elts : List Expr} {kk : Nat}
/-! ### list(range(..)), tuple(range(..)) -/
/-! ### methods that change the list of a slot -/
section
variable {o e' : Expr} {es : List Expr} {i : Nat} {Fl : Lx} {apos cpos : Pos}
end
/-! ### the module's constants -/
end
end Fm

/-! FmS: comprehensions with two clauses. -/
namespace Fm
open PySem L2
section
variable {X : Cx} {g : Gh} {W : WX}
/-- within a comprehension: the new list at d holds acc; the state is τ, S' -/
def In2 (K : PySem.W.Frag) (g : Gh) (σ0 : L2.St) (S0 : Sl) (H1 : Hp) (d : Addr) (τ : L2.St) (S' : Sl) (acc : List D) (H' : Hp) : Prop :=
  ∃ av, H' d = some (.lst av) ∧ FDs K H' av acc ∧ Step σ0 S0 H1 τ S' H' ∧ Rel K g τ H' S' ∧ ¬ Live τ S' d
section
variable {K : PySem.W.Frag} {σ0 τ : L2.St} {S0 S' S2 : Sl} {H1 H' H2 : Hp} {d : Addr} {acc : List D}
theorem In2.step {τ2 : L2.St} (I : In2 K g σ0 S0 H1 d τ S' acc H') (st : Step τ S' H' τ2 S2 H2) (R : Rel K g τ2 H2 S2) : In2 K g σ0 S0 H1 d τ2 S2 acc H2 := by
  obtain ⟨av, h1, h2, h3, h4, h5⟩ := I
  refine ⟨av, st.keep _ _ h1 h5, h2.mono (h4.keeps st), h3.trans st, R, fun l => ?_⟩
  rcases st.sub _ l with l | l
  · exact h5 l
  · rw [h1] at l; cases l
theorem In2.rel (I : In2 K g σ0 S0 H1 d τ S' acc H') : Rel K g τ H' S' := I.choose_spec.2.2.2.1
theorem In2.push (I : In2 K g σ0 S0 H1 d τ S' acc H') (hd : H1 d = none) {v : V} {x : D} (f : FD K H' v x) (hl : acc.length < sizeLine) : ∃ av, H' d = some (.lst av) ∧ av.length < sizeLine ∧ In2 K g σ0 S0 H1 d τ S' (acc ++ [x]) (upd H' d (.lst (av ++ [v]))) := by
  obtain ⟨av, h1, h2, h3, h4, h5⟩ := I
  have ln := h2.length
  exact ⟨av, h1, by rw [ln]; exact hl, av ++ [v], upd_same, (h2.snoc f).mono (keeps_upd h1 trivial), h3.upd_new hd, h4.upd_other h1 trivial h5, h5⟩
end
variable {tg tg1 iter iter1 : Expr} {pos : Pos}
end
end Fm

/-! FmR: more methods of lists and texts. -/
namespace Fm
open PySem L2
section
open PySem.SeqAt
open PySem.AutoSeq1 (wpAny_loadPart' idx_int sub_tuple_tuple sub_list_list sub_tuple_list sub_list_tuple)
open PySem.MeetsSeq PySem.MeetsSeq2 PySem.MeetsSeq3
end
section
variable {X : Cx}
end
section
variable {X : Cx} {g : Gh} {W : WX}
variable {o e' : Expr} {es : List Expr} {i : Nat} {Fl : Lx} {apos cpos : Pos}
end
/-! ### methods that read: o.m(x) -/
section
variable {X : Cx} {g : Gh} {W : WX}
variable {o e' : Expr} {Fo Fa : Ex} {apos cpos : Pos} {name : Str} {T id : String} {f : D → D → Option RV}
end
/-! count, join -/
section
variable {X : Cx} {g : Gh} {W : WX}
end
end Fm

/-! FmT: dicts: {}, get, comprehensions. -/
namespace Fm
open PySem L2
section
variable {X : Cx} {g : Gh} {W : WX} {pos apos cpos : Pos} {o e f : Expr} {Fo : Ex} {Dk Df : Dx}
end
/-! ### comprehensions -/
section
variable {X : Cx} {g : Gh} {W : WX}
/-- within a dict's comprehension -/
def In3 (K : PySem.W.Frag) (g : Gh) (σ0 : L2.St) (S0 : Sl) (H1 : Hp) (d : Addr) (τ : L2.St) (S' : Sl) (acc : List (D × D)) (H' : Hp) : Prop :=
  ∃ av, H' d = some (.dK av) ∧ FKs K H' av acc ∧ Step σ0 S0 H1 τ S' H' ∧ Rel K g τ H' S' ∧ ¬ Live τ S' d
section
variable {K : PySem.W.Frag} {σ0 τ : L2.St} {S0 S' S2 : Sl} {H1 H' H2 : Hp} {d : Addr} {acc : List (D × D)}
theorem In3.step {τ2 : L2.St} (I : In3 K g σ0 S0 H1 d τ S' acc H') (st : Step τ S' H' τ2 S2 H2) (R : Rel K g τ2 H2 S2) : In3 K g σ0 S0 H1 d τ2 S2 acc H2 := by
  obtain ⟨av, h1, h2, h3, h4, h5⟩ := I
  refine ⟨av, st.keep _ _ h1 h5, h2.mono (h4.keeps st), h3.trans st, R, fun l => ?_⟩
  rcases st.sub _ l with l | l
  · exact h5 l
  · rw [h1] at l; cases l
theorem In3.rel (I : In3 K g σ0 S0 H1 d τ S' acc H') : Rel K g τ H' S' := I.choose_spec.2.2.2.1
end
variable {tg iter kx vx : Expr} {pos : Pos}
end
end Fm
namespace Fm
open PySem L2
end Fm

/-! FmU: sorted(xs, key=f), f a def of the program. -/
namespace Fm
open PySem L2 PySem.W
open PyProof.Rows (seqObj)
section
variable {X : Cx} {pins : List (Addr × Obj)} {σ : L2.St} {H : Hp} {s : Shared} {h' : Heap}
end
theorem Grow.trans {H H1 H2 : Hp} (a : Grow H H1) (b : Grow H1 H2) : Grow H H2 := fun c o e => b c o (a c o e)
section
variable {X : Cx} {g : Gh} {W : WX} {k n : Nat} {x : Str} {st : Stmt} {ps : List Str} {F : Fn}
variable {e : Expr} {Fa : Ex} {p pos kpos fpos : Pos}
end
end Fm

/-! FmV: zip, insert. -/
namespace Fm
open PySem L2 PySem.W
/-! ### zip of two lists, of two tuples -/
section
variable {X : Cx} {g : Gh} {W : WX} {e e2 : Expr} {pos p tpos : Pos} {elts : List Expr} {kk : Nat}
end
/-! ### xs.insert(i, y) -/
section
variable {X : Cx} {g : Gh} {W : WX}
variable {o e' : Expr} {es : List Expr} {i : Nat} {Fl : Lx} {apos cpos : Pos}
end
end Fm

/-! FmW: more constructs, plainly: len(set(xs)) of equal ints, tuple(range(i, j, c)) of constants, x += c, f-strings of texts. -/
namespace Fm
open PySem
/-! dicts by tuples of ints -/
def getT (ds : List (List Ky × D)) (y z : D) : Option RV := (keyT y).map fun q => .d ((tGet ds q).getD z)
/-! dict comprehensions of two clauses -/
end Fm

/-! FmX: the rules for FmW. -/
namespace HTR
open PySem PyProof.Rows
section
variable {prog : Program} {w : World} {A : Around} {E : Value → Shared → Prop} {s : Shared}
end
end HTR
namespace Fm
open PySem L2 PySem.W
section
variable {X : Cx} {g : Gh} {W : WX} {a : Expr} {Fa : Ex} {pos p p2 q : Pos}
/-! ### len(set(xs)), xs a tuple or a list of ints -/
/-! ### str(t) of a tuple -/
/-! ### s.upper() -/
/-! ### tuple(range(i, j, c)) -/
/-! ### t[::-1] of a tuple -/
/-! ### x += c -/
/-! ### f-strings of texts -/
end
end Fm

/-! FmH: the law's end. What the top leaves, told by a part of the heap without lists; the script is frozen data. -/
namespace Fm
open PySem L2 PySem.Spec PyProof.Rows

/-! ### small things -/
/-! ### what the top leaves -/
def notLst (g : Addr → Option Obj) (a : Addr) : Bool := match g a with
  | some ⟨.type c, _, _, _⟩ => c != "list"
  | _ => true
/-- the module's name x is a tuple of texts -/
abbrev TupF := Str × List Str
def tupF (K : PySem.W.Frag) (p : TupF) : Bool := He.tupB K p.1 (p.2.map He.Dv.str)
abbrev AlF : Type := Bool × He.AlD
def obsK (fa : List He.Fa) (fn : List He.DefD) (tf : PySem.W.Frag → Bool) (K : PySem.W.Frag) : AlF := (tf K, He.obsD fa fn K)
/-- what the module's names reach: the defs' codes; of the classes cs their own dicts, too -/
def asE1 (cs : List Str) (g : Addr → Option Obj) (a : Addr) : List Addr := match g a with
  | some ⟨_, _, .func fd, _⟩ => He.refV fd.code ++ He.refV fd.kwdefaults ++ (match fd.kwdefaults with
      | .ref D => (match g D with
        | some ⟨_, _, .dict es _, _⟩ => es.toList.flatMap fun e => He.refV e.val
        | _ => [])
      | _ => [])
  | some ⟨_, _, .cls cd, _⟩ => if cs.contains cd.name then cd.ns :: (match g cd.ns with
      | some ⟨_, _, .dict es _, _⟩ => es.toList.flatMap fun e => He.refV e.val ++ (match e.val with
        | .ref f => (match g f with
          | some ⟨_, _, .func fd, _⟩ => He.refV fd.code ++ He.refV fd.kwdefaults
          | _ => [])
        | _ => [])
      | _ => []) else []
  | _ => []
def asE (cs : List Str) (g : Addr → Option Obj) : List Addr := match g mainGlobals with
  | some ⟨_, _, .dict es _, _⟩ => let vs := es.toList.flatMap fun e => He.refV e.val; mainGlobals :: (vs ++ vs.flatMap (asE1 cs g))
  | _ => [mainGlobals]
abbrev Reach := (Addr → Option Obj) → List Addr
def obsF (n : Reach) (fa : List He.Fa) (fn : List He.DefD) (tf : PySem.W.Frag → Bool) (g : Addr → Option Obj) : AlF := obsK fa fn tf (He.frG g ((n g).filter (notLst g)))
def NoLists (K : PySem.W.Frag) : Prop := ∀ a o, K.lookup a = some o → o.cls ≠ .type "list"
theorem frG_mem {g : Addr → Option Obj} {a : Addr} {o : Obj} : ∀ as : List Addr, (He.frG g as).lookup a = some o → a ∈ as
  | [], e => nomatch (show (none : Option Obj) = some o from e)
  | b :: r, e => by
    unfold He.frG at e
    cases hb : g b with
    | none =>
      rw [List.filterMap_cons, hb] at e
      exact List.mem_cons_of_mem _ (frG_mem r e)
    | some ob =>
      rw [List.filterMap_cons, hb] at e
      have e2 : (match a == b with | true => some ob | false => (He.frG g r).lookup a) = some o := e
      cases q : (a == b) with
      | true => rw [beq_iff_eq.mp q]; exact List.mem_cons_self ..
      | false =>
        rw [q] at e2
        exact List.mem_cons_of_mem _ (frG_mem r e2)
theorem noLists {g : Addr → Option Obj} {as : List Addr} : NoLists (He.frG g (as.filter (notLst g))) := fun a o e z => by
  have m := (List.mem_filter.mp (frG_mem _ e)).2
  have q := He.frG_at _ e
  unfold notLst at m
  rw [q] at m
  obtain ⟨c, d, dt, sl⟩ := o
  cases (show c = .type "list" from z)
  simp at m
def hookF (n : Reach) (fa : List He.Fa) (fn : List He.DefD) (tf : PySem.W.Frag → Bool) : PySem.W.Hook where
  α := AlF
  obs := fun s => obsF n fa fn tf s.heap.get?
  val := fun _ => (true, He.valD fn)
  says := fun _ h => ∃ K : PySem.W.Frag, K.In h ∧ (He.SaysD fa fn K ∧ tf K = true) ∧ NoLists K
  of := fun _ _ e => ⟨_, He.frG_in, ⟨congrArg Prod.snd e, congrArg Prod.fst e⟩, noLists⟩
  keeps := fun _ _ _ ⟨K, hK, c⟩ k => ⟨K, PySem.W.Frag.In.keeps hK k, c⟩
theorem obsF_eq {n : Reach} {fa : List He.Fa} {fn : List He.DefD} {tf : PySem.W.Frag → Bool} {g : Addr → Option Obj} {s : Shared} (h : ∀ a, g a = s.heap.get? a) : obsF n fa fn tf g = (hookF n fa fn tf).obs s := by
  rw [show g = s.heap.get? from funext h] <;> rfl

/-! ### a def from the facts -/
/-! ### a def that calls itself: no fuel, no meaning -/
/-! ### the call of the law -/
end Fm

/-! FmWe: errors, plainly: raise, try, what an except suite asks of the error that it holds. -/
namespace Fm
open PySem
abbrev ep (a b : Str) : Str × Str := (a, b)
/-- the error classes by their bases -/
def errTbl : List (Str × Str) := [ep "InvalidRow" "MeetError", ep "InvalidKind" "MeetError", ep "InvalidRows" "MeetError", ep "InvalidNumber" "MeetError", ep "InvalidPlan" "MeetError", ep "InvalidNames" "MeetError", ep "InvalidText" "MeetError", ep "InvalidStep" "MeetError", ep "InvalidSize" "MeetError", ep "InvalidTable" "MeetError",
  ep "InvalidCrowd" "MeetError", ep "InvalidHeight" "MeetError", ep "InvalidSources" "MeetError", ep "InvalidKnown" "MeetError", ep "InvalidRecord" "MeetError", ep "InvalidRun" "MeetError", ep "InvalidShare" "MeetError", ep "InvalidLine" "MeetError", ep "InvalidDeed" "MeetError", ep "InvalidCommand" "MeetError",
  ep "UnknownLine" "FindError", ep "UnknownHeight" "FindError", ep "UnknownName" "FindError", ep "OtherLines" "FindError", ep "OtherPeople" "FindError", ep "NotSame" "FindError", ep "NoOrder" "FindError", ep "LineTaken" "FindError", ep "HeightTaken" "FindError", ep "LineInUse" "FindError", ep "LastLine" "FindError", ep "NobodyWaits" "FindError", ep "NothingToUndo" "FindError",
  ep "TooManyPeople" "LimitError", ep "TooManyLines" "LimitError", ep "TooManyDeeds" "LimitError", ep "MeetError" "ValueError", ep "FindError" "LookupError", ep "LimitError" "ArithmeticError"]
def eBaseOf (x : Str) : Option Str := (errTbl.find? fun p => decide (p.1 = x)).map (·.2)
/-- the class x is c or under it -/
def subX (x c : Str) : Bool := decide (x = c) || decide (eBaseOf x = some c) || decide ((eBaseOf x).bind eBaseOf = some c)
end Fm

/-! FmWf: more constructs, plainly: len(set(t)) of a tuple of texts. -/
namespace Fm
open PySem
end Fm

set_option maxHeartbeats 4000000
/-! FmJ: defs with parameters by name alone, called with all of them written. -/
namespace Fm
open PySem PySem.W L2
section
variable {X : Cx} {g : Gh} {W : WX} {k n : Nat} {x : Str} {st : Stmt} {ps : List Str} {F : Fn} {p pos : Pos} {e : Expr} {es : List Expr} {Fa : Ax}
end
section
variable {X : Cx}
end
end Fm

set_option maxHeartbeats 4000000
/-! FmEa: errors of own classes over any built-in base: made by a def __init__ that stores its arguments, raised. -/
namespace Fm
open PySem L2 PySem.Spec PyProof.Rows

/-- a built-in base of own error classes -/
structure EBase where
  name : String
  newId : String
  initId : String
  mro : List Value
def mroB (t : String) : List Value := [.type t, .type "Exception", .type "BaseException", .type "object"]
abbrev eBase (t : String) : EBase := ⟨t, t ++ ".__new__", t ++ ".__init__", mroB t⟩
/-! ### self.f = v on an error that has no dict yet, one that has -/
section
open Builtin Builtin.ObjectAttr PySem.W PySem.Calls
variable {prog : Program} {w : World} {A : Around} {E : Value → Shared → Prop} {R : Result → Shared → Prop} {hp : Heap} {g : Array GenState} {d : Drawn} {t : Nat} {os : OsState}
variable {K : Frag} {name : Str} {tk : Tok} {v : Value} {x C : Addr} {fv : Array Value} {b : EBase}
end
/-! ### the same over what is tracked -/
section
variable {X : Cx} {pins : List (Addr × Obj)} {σ : L2.St} {H : Hp} {s : Shared} {a C dx : Addr} {f : Str} {y : V} {u : Value} {fs : List (Str × V)} {Q : Unit → Shared → Prop} {E : Value → Shared → Prop} {A : Around} {b : EBase}
end
end Fm

set_option maxHeartbeats 4000000
/-! FmEb: raise C(e, ..). -/
namespace Fm
open PySem L2 PySem.Spec PyProof.Rows

section
variable {P : Program} {w : World} {K : PySem.W.Frag} {mg : Str → Option Value} {base : Heap} {C : Addr} {b : EBase} {st : Stmt} {f : Addr} {fd : FuncData} {qual f1 f2 : Str}
end
/-! ### the call of the class -/
section
variable {X : Cx} {b : EBase} {x : Str} {C fI : Addr} {k : Nat} {fd : FuncData} {ps : List Str} {p pos : Pos} {fs : List Str}
end
/-! ### raise -/
section
variable {X : Cx} {g : Gh} {W : WX} {n : Nat} {x : Str} {fs : List Str} {p pos p2 : Pos}
end
end Fm

set_option maxHeartbeats 4000000
/-! FmEc: try: .. except (A, B, C) as e: .. -/
namespace Fm
open PySem L2 PySem.Spec PyProof.Rows

section
variable {X : Cx} {x1 x2 x3 n : Str} {c1 c2 c3 : Addr} {i : Nat} {body suite : List Stmt} {b₀ : Stmt} {p1 p2 p3 tp pos pos' : Pos} {tb : WX → TS} {ts : Addr → Value → Option Addr → TS} {Wout : WX} {kk : Nat}
end
end Fm

set_option maxHeartbeats 4000000
/-! FmEd: try over slots; an except suite's questions about its error. -/
namespace Fm
open PySem L2 PySem.Spec PyProof.Rows

theorem XRel.mono {K : PySem.W.Frag} {g : Gh} {H H' : Hp} {x : Exn} {cls : Value} {d : Option Addr} (k : Keeps H H') (h : XRel K g H x cls d) : XRel K g H' x cls d := by
  obtain ⟨C, hc, e, h⟩ := h
  refine ⟨C, hc, e, h.elim .inl fun ⟨dd, vs, e1, e2, p⟩ => .inr ⟨dd, vs, e1, k.xd _ _ e2, ?_⟩⟩
  clear e2
  revert p
  generalize x.fs = l
  intro p
  induction p with
  | nil => exact .nil
  | cons h _ ih => exact .cons ⟨h.1, FD.mono k h.2⟩ ih
/-! ### what the written part says of the error classes -/
def errFs : List Str := ["index", "kind", "number", "value", "text", "step", "size", "height", "share", "line", "command", "name", "one", "other", "count"]
def errB3 : List String := ["ValueError", "LookupError", "ArithmeticError"]
/-! ### the ghost of a suite: slot i is the error's -/
section
variable {K : PySem.W.Frag} {g : Gh} {σ : L2.St} {H : Hp} {S : Sl} {i : Nat} {a : Addr} {J : Hp → Prop} {m : ∀ H H' : Hp, Keeps H H' → J H → J H'}
end
/-! ### try -/
theorem PSs.on {X : Cx} {st : List Stmt} {t : TS} {p : Prop} (h : p → PSs X st t) : PSs X st (fun D σ H => p ∧ t D σ H) := ⟨fun pins s σ H D I ⟨y, q⟩ => (h y).run pins s σ H D I q⟩
section
variable {X : Cx} {g : Gh} {W : WX} {n i : Nat} {body sts : List Stmt} {b₀ : Stmt} {B : Sx} {h : Exn → Sx} {rs ts : List Str} {x1 x2 x3 nm : Str} {p1 p2 p3 tp pos pos' : Pos} {kk : Nat}
end
end Fm

set_option maxHeartbeats 4000000
/-! FmEe: isinstance(e, C), e.f, f(e) in an except suite and in defs that it calls; xs.index(y). -/
namespace Fm
open PySem L2 PySem.Spec PyProof.Rows

/-! ### xs.index(y) -/
/-! ### questions about the error at hand -/
section
variable {X : Cx} {g : Gh} {W : WX} {i : Nat} {x : Exn} {rs ts : List Str} {nm c f : Str} {p np cp pos : Pos}
end
end Fm

set_option maxHeartbeats 4000000
/-! FmEf: e.f; defs of an error; the facts about the classes. -/
namespace Fm
open PySem L2 PySem.Spec PyProof.Rows
section
variable {X : Cx} {g : Gh} {W : WX} {i : Nat} {x : Exn} {rs ts : List Str} {nm c f : Str} {p np cp pos : Pos}
end
/-! ### a def of an error -/
section
variable {P : Program} {w : World} {K : PySem.W.Frag} {mg : Str → Option Value} {base : Heap} {cl : Str → Option Addr}
end
section
variable {X : Cx} {g : Gh} {W : WX} {i n k : Nat} {x : Exn} {rs ts : List Str} {nm c f : Str} {p np cp pos : Pos} {F : Exn → CRes} {st : Stmt}
end
/-! ### try without a name -/
section
variable {X : Cx} {g : Gh} {W : WX} {n : Nat} {body sts : List Stmt} {b₀ : Stmt} {B h : Sx} {rs ts : List Str} {x1 : Str} {p1 pos pos' : Pos}
end
end Fm

set_option maxHeartbeats 4000000
/-! FmEg: the facts about the error classes, asked of the written part. -/
namespace Fm
open PySem L2 PySem.Spec PyProof.Rows
/-- a class's own statements -/
def clsBody : Stmt → List Stmt
  | .ClassDef _ _ _ b _ _ _ _ _ _ _ => b
  | _ => []
def errX (K : PySem.W.Frag) (ts : List Str) (x : Str) : Bool :=
  (ts.all fun c => decide (PySem.W.exmOne K (.ref (He.ga K x)) (.ref (He.ga K c)) = some (subX x c)) && decide (PySem.W.kitOne K (.ref (He.ga K x)) (.ref (He.ga K c)) = some (subX x c))) &&
  ((errB3.all fun T => decide (PySem.W.kitOne K (.ref (He.ga K x)) (.type T) = some (subX x (Str.ofString T)))) &&
  ((errFs.all fun f => decide (PySem.W.findIn K (.ref (He.ga K x)) f = some none)) &&
  (decide (PySem.W.findIn K (.ref (He.ga K x)) "__getattribute__" = some (some (.builtin "BaseException.__getattribute__"))) &&
  (decide (PySem.W.findIn K (.ref (He.ga K x)) "__getattr__" = some none) &&
  (decide (PySem.W.subIn K (.ref (He.ga K x)) (.type "BaseException") = some true) &&
  (PySem.W.hasDictIn K (He.ga K x) &&
  (decide (PySem.W.findIn K (.ref (He.ga K x)) "__class__" = some (some (.builtin "object.__class__"))) &&
  decide (PySem.W.mroIn K (He.ga K x) (.type "object") = some true))))))))
def errsB (K : PySem.W.Frag) (rs ts : List Str) : Bool :=
  (decide (PySem.W.specialIn K (.builtin "object.__class__") "__get__" = some (some (.builtin "getset_descriptor.__get__"))) && decide (PySem.W.takesIn K (.builtin "object.__class__") = some true)) && rs.all (errX K ts)
/-! ### one class -/
def errD (K : PySem.W.Frag) (x : Str) (b : EBase) : Bool :=
  decide (PySem.W.subIn K (.ref (He.ga K x)) (.type "BaseException") = some true) && (decide (PySem.W.typeIn K (.ref (He.ga K x)) = some (.type "type")) && PySem.W.keepIn K (.ref (He.ga K x)))
def errD0 (K : PySem.W.Frag) (x : Str) (b : EBase) : Bool := errD K x b && PySem.W.excIn K (He.ga K x) b.mro b.newId
def errD1 (K : PySem.W.Frag) (x : Str) (fs : List Str) (b : EBase) : Bool :=
  errD K x b && (PySem.W.excInitIn K (He.ga K x) b.mro b.newId && (PySem.W.excOver K (He.ga K x) b.mro && (PySem.W.hasDictIn K (He.ga K x) &&
  (decide (PySem.W.findIn K (.ref (He.ga K x)) "__setattr__" = some (some (.builtin "object.__setattr__"))) &&
  (decide (PySem.W.findIn K (.ref (He.ga K x)) "__init__" = some (some (.ref (He.ma K (He.ga K x) "__init__")))) &&
  (decide (PySem.W.typeIn K (.ref (He.ma K (He.ga K x) "__init__")) = some (.type "function")) &&
  fs.all fun f => decide (PySem.W.findIn K (.ref (He.ga K x)) f = some none)))))))
section
variable {P : Program} {w : World} {K : PySem.W.Frag} {mg : Str → Option Value} {base : Heap} {rs : List Str} {x : Str} {b : EBase}
end
/-! x = y -/
section
variable {X : Cx} {g : Gh} {W : WX} {p spos : Pos}
end
end Fm

/-! FmK: tools for the plain laws. Each combinator applied to slots, step by step (no binder is entered ahead of its value). -/
namespace Fm
open PySem
section
variable {α β : Type} {a x : α} {r q : List α} {n : Nat} {f : α → Option β} {h : α → β} {i : Nat} {vs : List RV} {d : D} {o : Ob}
end
section
variable {α β : Type} {S : Sl} {a b c : Ex} {f f' : D → D → Option RV} {u : D → Option RV} {h : List D → Option RV} {x y z : RV} {T U : Tx} {l : Lx} {A : Ax} {dx : Dx} {sa sb : Sx} {e : Exn}
/-! tests -/
/-! and, or, not, chains as values -/
/-! statements -/
/-! what is walked -/
/-! slices -/
/-! methods -/
variable {m : List D → List D → Option (List D × D)} {i : Nat}
/-! comprehensions -/
/-! calls -/
/-! the def's end -/
end
/-! operations on data -/
section
variable {i j : Int} {a b : Str} {k l : Bool} {xs ys : List D} {x y z w : D} {n : Nat}
section
variable {α : Type} {r : List α} {p q s t u : α}
end
end
/-! loops -/
end Fm

/-! FmL: plain lemmas on data that the laws share: rows of integers, ranges, pops, sorted, repr, equality. -/
namespace Fm
open PySem
theorem sz : sizeLine = 16777216 := rfl
end Fm

/-! FmM: loops and comprehensions in plain form, over typed lists. -/
namespace Fm
open PySem
section
variable {α β : Type} {enc : α → D} {g : Tg} {B : Sx} {S : Sl} {l : List α} {o : Out}
end
/-! comprehensions -/
section
variable {α β : Type} {enc : α → D} {g : Tt} {t : Tx} {e : Dx} {vs : List Nat} {S : Sl} {l : List α} {r : Res (List D)}
end
section
variable {α : Type} {g : Tt} {t : Tx} {e : Dx} {vs : List Nat} {S : Sl} {x y : D} {acc : List D}
end
/-! the step tactic -/
/-! dicts -/
section
variable {S : Sl} {k f : Dx} {x : RV} {y z : D} {ds : List (D × D)}
end
section
variable {S : Sl} {a : Lx} {xs ys : List D}
end
/-! comprehensions whose parts change no slot -/
section
variable {α : Type} {enc : α → D} {t : Tx} {e : Dx} {i j : Nat} {S : Sl}
end
/-! the same with a pair as the target -/
section
variable {α : Type} {a b : α → D} {t : Tx} {e : Dx} {i j : Nat} {S : Sl}
end
/-! two clauses, no slot changed -/
section
variable {α β : Type} {enc : α → D} {enc2 : β → D} {w1 : Wx} {t1 : Tx} {e : Dx} {i j : Nat} {S : Sl}
end
end Fm

/-! FmN: data that can be shown and compared. -/
namespace Fm
open PySem PySem.Builtin PySem.Builtin.Str
/-- a text of characters -/
def SOk (s : Str) : Prop := ∀ c ∈ s.cps.toList, c < 0x110000
theorem SOk.ok {s : Str} (h : SOk s) : PyData.strOk s = true := by
  unfold PyData.strOk
  rw [Array.all_eq_true']
  intro c hc
  exact decide_eq_true (h c (by simpa using hc))
theorem SOk.app {s t : Str} (h : SOk s) (h' : SOk t) : SOk (s ++ t) := fun c hc => by
  have hc' : c ∈ (s.cps ++ t.cps).toList := hc
  simp only [Array.toList_append, List.mem_append] at hc'
  exact hc'.elim (h c) (h' c)
theorem SOk.of (s : String) : SOk (Str.ofString s) := fun c hc => by
  have hc' : c ∈ cpsOfBytes 0 0 s.toByteArray.data.toList := hc
  rw [cpsOfBytes_string] at hc'
  obtain ⟨d, _, rfl⟩ := List.mem_map.mp hc'
  have h := d.valid
  simp only [UInt32.isValidChar, Nat.isValidChar] at h
  show d.val.toNat < 0x110000
  omega
theorem SOk.join {sep : Str} (h : SOk sep) : ∀ {ts : List Str}, (∀ t ∈ ts, SOk t) → SOk (Str.join sep ts)
  | [], _ => fun c hc => by simp [Str.join, Str.empty] at hc
  | [x], h1 => h1 x (by simp)
  | x :: y :: r, h1 => ((h1 x (by simp)).app h).app (SOk.join h fun t ht => h1 t (by simp [ht]))
theorem reprChar_ok {q c : Nat} (hq : q < 0x110000) (hc : c < 0x110000) : ∀ d ∈ reprChar q c, d < 0x110000 := by
  intro d hd
  have hx : ∀ w : Nat, ∀ d ∈ List.replicate w 48 ++ (Nat.toDigits 16 c).map Char.toNat, d < 0x110000 := fun w d hd => by
    rcases List.mem_append.mp hd with h | h
    · rw [(List.mem_replicate.mp h).2]; omega
    · obtain ⟨e, _, rfl⟩ := List.mem_map.mp h
      have h := e.valid
      simp only [UInt32.isValidChar, Nat.isValidChar] at h
      show e.val.toNat < 0x110000
      omega
  have small : ∀ {l : List Nat}, (∀ x ∈ l, x < 0x110000) → d ∈ l → d < 0x110000 := fun h m => h d m
  unfold reprChar at hd
  split at hd
  · exact small (by simp; omega) hd
  · split at hd
    · exact small (by simp) hd
    · split at hd
      · exact small (by simp) hd
      · split at hd
        · exact small (by simp) hd
        · split at hd
          · exact small (by simp; omega) hd
          · split at hd
            · rcases List.mem_append.mp hd with h | h
              · exact small (by simp) h
              · exact hx _ d h
            · split at hd
              · rcases List.mem_append.mp hd with h | h
                · exact small (by simp) h
                · exact hx _ d h
              · rcases List.mem_append.mp hd with h | h
                · exact small (by simp) h
                · exact hx _ d h
theorem SOk.repr {x : Str} (h : SOk x) : SOk (reprText x) := by
  have hq : reprQuote x < 0x110000 := by unfold reprQuote; split <;> omega
  have go : ∀ (l : List Nat) (acc : Array Nat), (∀ c ∈ l, c < 0x110000) → (∀ c ∈ acc.toList, c < 0x110000) → ∀ c ∈ (l.foldl (fun out c => out ++ (reprChar (reprQuote x) c).toArray) acc).toList, c < 0x110000 := by
    intro l
    induction l with
    | nil => intro acc _ h2; exact h2
    | cons a r ih =>
      intro acc h1 h2
      refine ih _ (fun c hc => h1 c (by simp [hc])) fun c hc => ?_
      simp only [Array.toList_append, List.mem_append] at hc
      rcases hc with hc | hc
      · exact h2 c hc
      · exact reprChar_ok hq (h1 a (by simp)) c hc
  intro c hc
  have hc' : c ∈ ((x.cps.foldl (fun out c => out ++ (reprChar (reprQuote x) c).toArray) #[reprQuote x]).push (reprQuote x)).toList := hc
  rw [← Array.foldl_toList, Array.toList_push, List.mem_append] at hc'
  rcases hc' with hc | hc
  · exact go _ _ h (by simpa using hq) c hc
  · rw [List.mem_singleton.mp hc]; exact hq
mutual
theorem shown_ok : ∀ x : D, x.canLay0 = true → SOk x.shown
  | .none, _ => SOk.of _
  | .bool b, _ => by
    rw [PyData.shown_bool]
    cases b <;> exact SOk.of _
  | .int i, _ => SOk.of _
  | .str x, h => by
    rw [PyData.shown_str]
    refine SOk.repr fun c hc => ?_
    have h' : PyData.strOk x = true := by simpa [PyData.canLay0] using h
    unfold PyData.strOk at h'
    rw [Array.all_eq_true'] at h'
    exact of_decide_eq_true (h' c (by simpa using hc))
  | .list xs, h => by
    rw [PyData.shown_list]
    exact ((SOk.of "[").app (SOk.join (SOk.of ", ") (shownAll_ok xs (by simpa [PyData.canLay0] using h)))).app (SOk.of "]")
  | .tuple xs, h => by
    rw [PyData.shown_tuple]
    exact ((SOk.of "(").app (SOk.join (SOk.of ", ") (shownAll_ok xs (by simpa [PyData.canLay0] using h)))).app (SOk.of _)
  | .dict _, h => by simp [PyData.canLay0] at h
theorem shownAll_ok : ∀ xs : List D, PyData.canLayAll0 xs = true → ∀ t ∈ PyData.shownAll xs, SOk t
  | [], _ => fun t ht => by simp [PyData.shownAll] at ht
  | x :: xs, h => fun t ht => by
    have h' : x.canLay0 = true ∧ PyData.canLayAll0 xs = true := by simpa [PyData.canLayAll0] using h
    rw [PyData.shownAll_cons] at ht
    rcases List.mem_cons.mp ht with rfl | ht
    · exact shown_ok x h'.1
    · exact shownAll_ok xs h'.2 t ht
end
/-- nice data: depth at most n, bulk at most b -/
structure Nc (n b : Nat) (x : D) : Prop where
  lay : x.canLay0 = true
  dep : x.depth ≤ n
  blk : x.bulk ≤ b
  shr : x.leavesShort 70 = true
  shw : x.showable = true
theorem Nc.mono {n n' b b' : Nat} {x : D} (h : Nc n b x) (hn : n ≤ n') (hb : b ≤ b') : Nc n' b' x := ⟨h.lay, Nat.le_trans h.dep hn, Nat.le_trans h.blk hb, h.shr, h.shw⟩
theorem Nc.none {n b : Nat} : Nc n b .none := ⟨rfl, Nat.zero_le _, Nat.zero_le _, rfl, rfl⟩
theorem Nc.bool {n b : Nat} (k : Bool) : Nc n b (.bool k) := ⟨rfl, Nat.zero_le _, Nat.zero_le _, rfl, rfl⟩
theorem Nc.int {n b : Nat} {i : Int} (h : i.natAbs < 10 ^ 60) : Nc n b (.int i) := by
  refine ⟨rfl, Nat.zero_le _, Nat.zero_le _, ?_, ?_⟩
  · have e := int_text_length_le10 (k := 60) (by decide) h
    simp only [PyData.leavesShort, decide_eq_true_eq]
    show (Str.ofString (toString i)).length ≤ 70
    rw [ofString_length]
    omega
  · simp only [PyData.showable, decide_eq_true_eq]
    have h2 : i.natAbs < 2 ^ 200 := Nat.lt_of_lt_of_le h (by decide)
    by_cases hz : i.natAbs = 0
    · rw [hz]; decide
    · have := (Nat.log2_lt hz).mpr h2
      omega
theorem Nc.str {n b : Nat} {s : Str} (h : SOk s) (hb : s.cps.size ≤ b) : Nc n b (.str s) :=
  ⟨h.ok, Nat.zero_le _, hb, by
    simp only [PyData.leavesShort, List.all_eq_true, decide_eq_true_eq]
    intro c hc
    have := h c hc
    omega, rfl⟩
theorem ncAll {n b : Nat} : ∀ {xs : List D}, (∀ x ∈ xs, Nc n b x) → PyData.canLayAll0 xs = true ∧ PyData.depthAll xs ≤ n ∧ PyData.bulkAll xs ≤ xs.length * (b + 1) ∧ PyData.leavesShortAll 70 xs = true ∧ PyData.showableAll xs = true
  | [], _ => ⟨rfl, Nat.zero_le _, Nat.zero_le _, rfl, rfl⟩
  | x :: xs, h => by
    obtain ⟨h1, h2, h3, h4, h5⟩ := ncAll (xs := xs) fun y hy => h y (by simp [hy])
    have hx := h x (by simp)
    refine ⟨by simp [PyData.canLayAll0, hx.lay, h1], ?_, ?_, by simp [PyData.leavesShortAll, hx.shr, h4], by simp [PyData.showableAll, hx.shw, h5]⟩
    · simp only [PyData.depthAll]
      exact Nat.max_le.mpr ⟨hx.dep, h2⟩
    · simp only [PyData.bulkAll, List.length_cons, Nat.add_mul]
      have := hx.blk
      omega
theorem Nc.tuple {n b c : Nat} {xs : List D} (h : ∀ x ∈ xs, Nc n c x) (hb : xs.length * (c + 1) ≤ b) : Nc (n + 1) b (.tuple xs) := by
  obtain ⟨h1, h2, h3, h4, h5⟩ := ncAll h
  exact ⟨by simpa [PyData.canLay0] using h1, by simpa [PyData.depth] using h2, by simp only [PyData.bulk]; omega, by simpa [PyData.leavesShort] using h4, by simpa [PyData.showable] using h5⟩
theorem Nc.list {n b c : Nat} {xs : List D} (h : ∀ x ∈ xs, Nc n c x) (hb : xs.length * (c + 1) ≤ b) : Nc (n + 1) b (.list xs) := by
  obtain ⟨h1, h2, h3, h4, h5⟩ := ncAll h
  exact ⟨by simpa [PyData.canLay0] using h1, by simpa [PyData.depth] using h2, by simp only [PyData.bulk]; omega, by simpa [PyData.leavesShort] using h4, by simpa [PyData.showable] using h5⟩
theorem Nc.len {n b : Nat} {x : D} (h : Nc n b x) : x.shown.length ≤ 72 * b + 70 := by
  have := PyData.shown_le_bulk 70 (by decide) x h.shr
  have h2 := h.blk
  have : (70 + 2) * x.bulk ≤ 72 * b := Nat.mul_le_mul_left 72 h2
  omega
theorem Nc.repr {n b : Nat} {x : D} (h : Nc n b x) (hn : n ≤ 64) (hb : b ≤ 200000) : reprD x = some (.d (.str x.shown)) := by
  have h1 := h.len
  have h2 := h.dep
  refine if_pos ?_
  unfold reprOk fits
  rw [h.shw, okR_lay h.lay, decide_eq_true (show x.shown.length ≤ sizeLine by rw [sz]; omega), decide_eq_true (show x.depth ≤ 64 by omega)]
  rfl
theorem Nc.shown {n b m c : Nat} {x : D} (h : Nc n b x) (hb : 72 * b + 70 ≤ c) : Nc m c (.str x.shown) := .str (shown_ok x h.lay) (Nat.le_trans h.len hb)
/-- data that can be compared -/
structure Sh (n : Nat) (x : D) : Prop where
  lay : x.canLay0 = true
  dep : x.depth ≤ n
theorem Sh.mono {n n' : Nat} {x : D} (h : Sh n x) (hn : n ≤ n') : Sh n' x := ⟨h.lay, Nat.le_trans h.dep hn⟩
theorem Sh.none {n : Nat} : Sh n .none := ⟨rfl, Nat.zero_le _⟩
theorem Sh.bool {n : Nat} (k : Bool) : Sh n (.bool k) := ⟨rfl, Nat.zero_le _⟩
theorem Sh.int {n : Nat} (i : Int) : Sh n (.int i) := ⟨rfl, Nat.zero_le _⟩
theorem Sh.str {n : Nat} {s : Str} (h : SOk s) : Sh n (.str s) := ⟨h.ok, Nat.zero_le _⟩
theorem shAll {n : Nat} : ∀ {xs : List D}, (∀ x ∈ xs, Sh n x) → PyData.canLayAll0 xs = true ∧ PyData.depthAll xs ≤ n
  | [], _ => ⟨rfl, Nat.zero_le _⟩
  | x :: xs, h => by
    obtain ⟨h1, h2⟩ := shAll (xs := xs) fun y hy => h y (by simp [hy])
    have hx := h x (by simp)
    refine ⟨by simp [PyData.canLayAll0, hx.lay, h1], ?_⟩
    simp only [PyData.depthAll]
    exact Nat.max_le.mpr ⟨hx.dep, h2⟩
theorem Sh.tuple {n : Nat} {xs : List D} (h : ∀ x ∈ xs, Sh n x) : Sh (n + 1) (.tuple xs) := by
  obtain ⟨h1, h2⟩ := shAll h
  exact ⟨by simpa [PyData.canLay0] using h1, by simpa [PyData.depth] using h2⟩
theorem Sh.list {n : Nat} {xs : List D} (h : ∀ x ∈ xs, Sh n x) : Sh (n + 1) (.list xs) := by
  obtain ⟨h1, h2⟩ := shAll h
  exact ⟨by simpa [PyData.canLay0] using h1, by simpa [PyData.depth] using h2⟩
/-! integers in a row -/
section
variable {l m : List Int} {x : Int} {k : Nat}
end
/-! pairs of a height and a place -/
end Fm

set_option maxHeartbeats 4000000
/-! FmXa: the call of an error class with keywords. -/
namespace PySem
open Sem (wp)
namespace HandSPX
section
variable {M : Model} {prog : Program} {w : World} {A : Around} {E : Value → Shared → Prop} {R : Result → Shared → Prop} {hp : Heap} {gs : Array GenState} {dr : Drawn} {tk : Nat} {oz : OsState}
variable {cn qn : Str} {C N : Addr} {bs mr mB : List Value} {hd : Bool} {sl : List Str} {sb : List Value} {ab : Bool} {co : Option Bool} {de : Option Addr} {y0 y1 y2 y3 y5 : Option Value} {B nI iI : String}
variable {us : List Value} {kw : List (Str × Value)}
end
end HandSPX
end PySem

set_option maxHeartbeats 4000000
/-! FmXb: errors as data: C(e, ..), C(f = e), isinstance(e, C), e.f. -/
namespace Fm
open PySem L2 PySem.Spec PyProof.Rows
/-! ### plain -/
def errN : List Str := (errTbl.map (·.1)).take 36
section
variable {X : Cx} {g : Gh} {W : WX} {e : Expr} {Fe : Ex} {pos : Pos}
/-! ### an expression that makes an error, as a value -/
theorem FXs.snoc {K : PySem.W.Frag} {H : Hp} {f : Str} {v : V} {x : D} (h : FD K H v x) : ∀ {vs : List (Str × V)} {ds : List (D × D)}, FXs K H vs ds → FXs K H (vs ++ [(f, v)]) (ds ++ [(.str f, x)])
  | _, _, .nil => .cons h .nil
  | _, _, .cons h' t => .cons h' (FXs.snoc h t)
/-! ### the classes -/
variable {n : Nat} {x qual : Str} {st : Stmt} {fs : List Str} {p : Pos}
/-! ### by name -/
end
end Fm

set_option maxHeartbeats 4000000
/-! FmXc: isinstance(e, C), e.f of an error that is data; the classes. -/
namespace Fm
open PySem L2 PySem.Spec PyProof.Rows
section
variable {K : PySem.W.Frag} {H : Hp} {v : V}
end
section
variable {X : Cx} {g : Gh} {W : WX} {rs ts : List Str}
variable {e : Expr} {Fe : Ex} {c : Str} {p cp pos : Pos}
/-! ### a field -/
end
end Fm

set_option maxHeartbeats 4000000
/-! FmXd: the error classes that are called for a value: none, one, two fields. -/
namespace Fm
open PySem L2 PySem.Spec PyProof.Rows
section
variable {P : Program} {w : World} {K : PySem.W.Frag} {mg : Str → Option Value} {base : Heap} {x : Str} {b : EBase} {C : Addr} {qual : Str} {st : Stmt} {f : Addr} {fd : FuncData} {f1 f2 : Str}
end
end Fm

namespace F
end F
namespace L87
open PySem L2 Fm F
/-! each def keeps its meaning -/
def top (i : Nat) : Stmt := PySem.Challenge.pw_frontmeets_k87_limits_and_errors.main.body.getD i (.Pass ⟨0, 0, 0, 0⟩)
structure Fc (K : PySem.W.Frag) (mg : Str → Option Value) : Prop where
  b_ArithmeticError : mg "ArithmeticError" = none
  b_LookupError : mg "LookupError" = none
  b_ValueError : mg "ValueError" = none
  b_abs : mg "abs" = none
  b_all : mg "all" = none
  b_divmod : mg "divmod" = none
  b_isinstance : mg "isinstance" = none
  b_len : mg "len" = none
  b_max : mg "max" = none
  b_min : mg "min" = none
  b_range : mg "range" = none
  b_repr : mg "repr" = none
  c_MOST_DEEDS : ∃ t, mg "MOST_DEEDS" = some (.int 1000 t)
  c_MOST_HEIGHT : ∃ t, mg "MOST_HEIGHT" = some (.int 999 t)
  c_MOST_LINES : ∃ t, mg "MOST_LINES" = some (.int 8 t)
  c_MOST_PEOPLE : ∃ t, mg "MOST_PEOPLE" = some (.int 40 t)
  c_SMALL : ∃ t, mg "SMALL" = some (.int 12 t)
  g_FindError : mg "FindError" = some (.ref (He.ga K "FindError"))
  g_HeightTaken : mg "HeightTaken" = some (.ref (He.ga K "HeightTaken"))
  g_InvalidCommand : mg "InvalidCommand" = some (.ref (He.ga K "InvalidCommand"))
  g_InvalidCrowd : mg "InvalidCrowd" = some (.ref (He.ga K "InvalidCrowd"))
  g_InvalidDeed : mg "InvalidDeed" = some (.ref (He.ga K "InvalidDeed"))
  g_InvalidHeight : mg "InvalidHeight" = some (.ref (He.ga K "InvalidHeight"))
  g_InvalidKind : mg "InvalidKind" = some (.ref (He.ga K "InvalidKind"))
  g_InvalidKnown : mg "InvalidKnown" = some (.ref (He.ga K "InvalidKnown"))
  g_InvalidLine : mg "InvalidLine" = some (.ref (He.ga K "InvalidLine"))
  g_InvalidNames : mg "InvalidNames" = some (.ref (He.ga K "InvalidNames"))
  g_InvalidNumber : mg "InvalidNumber" = some (.ref (He.ga K "InvalidNumber"))
  g_InvalidPlan : mg "InvalidPlan" = some (.ref (He.ga K "InvalidPlan"))
  g_InvalidRecord : mg "InvalidRecord" = some (.ref (He.ga K "InvalidRecord"))
  g_InvalidRow : mg "InvalidRow" = some (.ref (He.ga K "InvalidRow"))
  g_InvalidRows : mg "InvalidRows" = some (.ref (He.ga K "InvalidRows"))
  g_InvalidRun : mg "InvalidRun" = some (.ref (He.ga K "InvalidRun"))
  g_InvalidShare : mg "InvalidShare" = some (.ref (He.ga K "InvalidShare"))
  g_InvalidSize : mg "InvalidSize" = some (.ref (He.ga K "InvalidSize"))
  g_InvalidSources : mg "InvalidSources" = some (.ref (He.ga K "InvalidSources"))
  g_InvalidStep : mg "InvalidStep" = some (.ref (He.ga K "InvalidStep"))
  g_InvalidTable : mg "InvalidTable" = some (.ref (He.ga K "InvalidTable"))
  g_InvalidText : mg "InvalidText" = some (.ref (He.ga K "InvalidText"))
  g_LastLine : mg "LastLine" = some (.ref (He.ga K "LastLine"))
  g_LimitError : mg "LimitError" = some (.ref (He.ga K "LimitError"))
  g_LineInUse : mg "LineInUse" = some (.ref (He.ga K "LineInUse"))
  g_LineTaken : mg "LineTaken" = some (.ref (He.ga K "LineTaken"))
  g_MeetError : mg "MeetError" = some (.ref (He.ga K "MeetError"))
  g_NoOrder : mg "NoOrder" = some (.ref (He.ga K "NoOrder"))
  g_NobodyWaits : mg "NobodyWaits" = some (.ref (He.ga K "NobodyWaits"))
  g_NotSame : mg "NotSame" = some (.ref (He.ga K "NotSame"))
  g_NothingToUndo : mg "NothingToUndo" = some (.ref (He.ga K "NothingToUndo"))
  g_OtherLines : mg "OtherLines" = some (.ref (He.ga K "OtherLines"))
  g_OtherPeople : mg "OtherPeople" = some (.ref (He.ga K "OtherPeople"))
  g_TooManyDeeds : mg "TooManyDeeds" = some (.ref (He.ga K "TooManyDeeds"))
  g_TooManyLines : mg "TooManyLines" = some (.ref (He.ga K "TooManyLines"))
  g_TooManyPeople : mg "TooManyPeople" = some (.ref (He.ga K "TooManyPeople"))
  g_UnknownHeight : mg "UnknownHeight" = some (.ref (He.ga K "UnknownHeight"))
  g_UnknownLine : mg "UnknownLine" = some (.ref (He.ga K "UnknownLine"))
  g_UnknownName : mg "UnknownName" = some (.ref (He.ga K "UnknownName"))
  sm : (List.lookup sysModules K).isSome = true
abbrev rs : List Str := [("HeightTaken" : Str), ("InvalidCommand" : Str), ("InvalidCrowd" : Str), ("InvalidDeed" : Str), ("InvalidHeight" : Str), ("InvalidKind" : Str), ("InvalidKnown" : Str), ("InvalidLine" : Str), ("InvalidNames" : Str), ("InvalidNumber" : Str), ("InvalidPlan" : Str), ("InvalidRecord" : Str), ("InvalidRow" : Str), ("InvalidRows" : Str), ("InvalidRun" : Str), ("InvalidShare" : Str), ("InvalidSize" : Str), ("InvalidSources" : Str), ("InvalidStep" : Str), ("InvalidTable" : Str), ("InvalidText" : Str), ("LastLine" : Str), ("LineInUse" : Str), ("LineTaken" : Str), ("NoOrder" : Str), ("NobodyWaits" : Str), ("NotSame" : Str), ("NothingToUndo" : Str), ("OtherLines" : Str), ("OtherPeople" : Str), ("TooManyDeeds" : Str), ("TooManyLines" : Str), ("TooManyPeople" : Str), ("UnknownHeight" : Str), ("UnknownLine" : Str), ("UnknownName" : Str)]
abbrev ts : List Str := [("FindError" : Str), ("HeightTaken" : Str), ("InvalidCommand" : Str), ("InvalidCrowd" : Str), ("InvalidDeed" : Str), ("InvalidHeight" : Str), ("InvalidKind" : Str), ("InvalidKnown" : Str), ("InvalidLine" : Str), ("InvalidNames" : Str), ("InvalidNumber" : Str), ("InvalidPlan" : Str), ("InvalidRecord" : Str), ("InvalidRow" : Str), ("InvalidRows" : Str), ("InvalidRun" : Str), ("InvalidShare" : Str), ("InvalidSize" : Str), ("InvalidSources" : Str), ("InvalidStep" : Str), ("InvalidTable" : Str), ("InvalidText" : Str), ("LastLine" : Str), ("LimitError" : Str), ("LineInUse" : Str), ("LineTaken" : Str), ("MeetError" : Str), ("NoOrder" : Str), ("NobodyWaits" : Str), ("NotSame" : Str), ("NothingToUndo" : Str), ("OtherLines" : Str), ("OtherPeople" : Str), ("TooManyDeeds" : Str), ("TooManyLines" : Str), ("TooManyPeople" : Str), ("UnknownHeight" : Str), ("UnknownLine" : Str), ("UnknownName" : Str)]
theorem tm_FindError : ("FindError" : Str) ∈ ts := List.mem_of_getElem? (i := 0) rfl
theorem tm_HeightTaken : ("HeightTaken" : Str) ∈ ts := List.mem_of_getElem? (i := 1) rfl
theorem tm_InvalidCommand : ("InvalidCommand" : Str) ∈ ts := List.mem_of_getElem? (i := 2) rfl
theorem tm_InvalidCrowd : ("InvalidCrowd" : Str) ∈ ts := List.mem_of_getElem? (i := 3) rfl
theorem tm_InvalidDeed : ("InvalidDeed" : Str) ∈ ts := List.mem_of_getElem? (i := 4) rfl
theorem tm_InvalidHeight : ("InvalidHeight" : Str) ∈ ts := List.mem_of_getElem? (i := 5) rfl
theorem tm_InvalidKind : ("InvalidKind" : Str) ∈ ts := List.mem_of_getElem? (i := 6) rfl
theorem tm_InvalidKnown : ("InvalidKnown" : Str) ∈ ts := List.mem_of_getElem? (i := 7) rfl
theorem tm_InvalidLine : ("InvalidLine" : Str) ∈ ts := List.mem_of_getElem? (i := 8) rfl
theorem tm_InvalidNames : ("InvalidNames" : Str) ∈ ts := List.mem_of_getElem? (i := 9) rfl
theorem tm_InvalidNumber : ("InvalidNumber" : Str) ∈ ts := List.mem_of_getElem? (i := 10) rfl
theorem tm_InvalidPlan : ("InvalidPlan" : Str) ∈ ts := List.mem_of_getElem? (i := 11) rfl
theorem tm_InvalidRecord : ("InvalidRecord" : Str) ∈ ts := List.mem_of_getElem? (i := 12) rfl
theorem tm_InvalidRow : ("InvalidRow" : Str) ∈ ts := List.mem_of_getElem? (i := 13) rfl
theorem tm_InvalidRows : ("InvalidRows" : Str) ∈ ts := List.mem_of_getElem? (i := 14) rfl
theorem tm_InvalidRun : ("InvalidRun" : Str) ∈ ts := List.mem_of_getElem? (i := 15) rfl
theorem tm_InvalidShare : ("InvalidShare" : Str) ∈ ts := List.mem_of_getElem? (i := 16) rfl
theorem tm_InvalidSize : ("InvalidSize" : Str) ∈ ts := List.mem_of_getElem? (i := 17) rfl
theorem tm_InvalidSources : ("InvalidSources" : Str) ∈ ts := List.mem_of_getElem? (i := 18) rfl
theorem tm_InvalidStep : ("InvalidStep" : Str) ∈ ts := List.mem_of_getElem? (i := 19) rfl
theorem tm_InvalidTable : ("InvalidTable" : Str) ∈ ts := List.mem_of_getElem? (i := 20) rfl
theorem tm_InvalidText : ("InvalidText" : Str) ∈ ts := List.mem_of_getElem? (i := 21) rfl
theorem tm_LastLine : ("LastLine" : Str) ∈ ts := List.mem_of_getElem? (i := 22) rfl
theorem tm_LimitError : ("LimitError" : Str) ∈ ts := List.mem_of_getElem? (i := 23) rfl
theorem tm_LineInUse : ("LineInUse" : Str) ∈ ts := List.mem_of_getElem? (i := 24) rfl
theorem tm_LineTaken : ("LineTaken" : Str) ∈ ts := List.mem_of_getElem? (i := 25) rfl
theorem tm_MeetError : ("MeetError" : Str) ∈ ts := List.mem_of_getElem? (i := 26) rfl
theorem tm_NoOrder : ("NoOrder" : Str) ∈ ts := List.mem_of_getElem? (i := 27) rfl
theorem tm_NobodyWaits : ("NobodyWaits" : Str) ∈ ts := List.mem_of_getElem? (i := 28) rfl
theorem tm_NotSame : ("NotSame" : Str) ∈ ts := List.mem_of_getElem? (i := 29) rfl
theorem tm_NothingToUndo : ("NothingToUndo" : Str) ∈ ts := List.mem_of_getElem? (i := 30) rfl
theorem tm_OtherLines : ("OtherLines" : Str) ∈ ts := List.mem_of_getElem? (i := 31) rfl
theorem tm_OtherPeople : ("OtherPeople" : Str) ∈ ts := List.mem_of_getElem? (i := 32) rfl
theorem tm_TooManyDeeds : ("TooManyDeeds" : Str) ∈ ts := List.mem_of_getElem? (i := 33) rfl
theorem tm_TooManyLines : ("TooManyLines" : Str) ∈ ts := List.mem_of_getElem? (i := 34) rfl
theorem tm_TooManyPeople : ("TooManyPeople" : Str) ∈ ts := List.mem_of_getElem? (i := 35) rfl
theorem tm_UnknownHeight : ("UnknownHeight" : Str) ∈ ts := List.mem_of_getElem? (i := 36) rfl
theorem tm_UnknownLine : ("UnknownLine" : Str) ∈ ts := List.mem_of_getElem? (i := 37) rfl
theorem tm_UnknownName : ("UnknownName" : Str) ∈ ts := List.mem_of_getElem? (i := 38) rfl
abbrev st_HeightTaken : Stmt := (Fm.clsBody (top 31)).getD 0 (.Pass ⟨0, 0, 0, 0⟩)
theorem sc_HeightTaken : FnScope ["self", "height"] ["self", "height"] (defScope st_HeightTaken) := ⟨rfl, rfl, rfl, by decide +kernel, rfl, by decide +kernel, by decide +kernel⟩
abbrev st_InvalidCommand : Stmt := (Fm.clsBody (top 21)).getD 0 (.Pass ⟨0, 0, 0, 0⟩)
theorem sc_InvalidCommand : FnScope ["self", "command"] ["self", "command"] (defScope st_InvalidCommand) := ⟨rfl, rfl, rfl, by decide +kernel, rfl, by decide +kernel, by decide +kernel⟩
abbrev st_InvalidCrowd : Stmt := (Fm.clsBody (top 12)).getD 0 (.Pass ⟨0, 0, 0, 0⟩)
theorem sc_InvalidCrowd : FnScope ["self", "index"] ["self", "index"] (defScope st_InvalidCrowd) := ⟨rfl, rfl, rfl, by decide +kernel, rfl, by decide +kernel, by decide +kernel⟩
abbrev st_InvalidDeed : Stmt := (Fm.clsBody (top 20)).getD 0 (.Pass ⟨0, 0, 0, 0⟩)
theorem sc_InvalidDeed : FnScope ["self", "index"] ["self", "index"] (defScope st_InvalidDeed) := ⟨rfl, rfl, rfl, by decide +kernel, rfl, by decide +kernel, by decide +kernel⟩
abbrev st_InvalidHeight : Stmt := (Fm.clsBody (top 13)).getD 0 (.Pass ⟨0, 0, 0, 0⟩)
theorem sc_InvalidHeight : FnScope ["self", "height"] ["self", "height"] (defScope st_InvalidHeight) := ⟨rfl, rfl, rfl, by decide +kernel, rfl, by decide +kernel, by decide +kernel⟩
abbrev st_InvalidKind : Stmt := (Fm.clsBody (top 3)).getD 0 (.Pass ⟨0, 0, 0, 0⟩)
theorem sc_InvalidKind : FnScope ["self", "kind"] ["self", "kind"] (defScope st_InvalidKind) := ⟨rfl, rfl, rfl, by decide +kernel, rfl, by decide +kernel, by decide +kernel⟩
abbrev st_InvalidKnown : Stmt := (Fm.clsBody (top 15)).getD 0 (.Pass ⟨0, 0, 0, 0⟩)
theorem sc_InvalidKnown : FnScope ["self", "index"] ["self", "index"] (defScope st_InvalidKnown) := ⟨rfl, rfl, rfl, by decide +kernel, rfl, by decide +kernel, by decide +kernel⟩
abbrev st_InvalidLine : Stmt := (Fm.clsBody (top 19)).getD 0 (.Pass ⟨0, 0, 0, 0⟩)
theorem sc_InvalidLine : FnScope ["self", "line"] ["self", "line"] (defScope st_InvalidLine) := ⟨rfl, rfl, rfl, by decide +kernel, rfl, by decide +kernel, by decide +kernel⟩
abbrev st_InvalidNames : Stmt := (Fm.clsBody (top 7)).getD 0 (.Pass ⟨0, 0, 0, 0⟩)
theorem sc_InvalidNames : FnScope ["self", "index"] ["self", "index"] (defScope st_InvalidNames) := ⟨rfl, rfl, rfl, by decide +kernel, rfl, by decide +kernel, by decide +kernel⟩
abbrev st_InvalidNumber : Stmt := (Fm.clsBody (top 5)).getD 0 (.Pass ⟨0, 0, 0, 0⟩)
theorem sc_InvalidNumber : FnScope ["self", "number"] ["self", "number"] (defScope st_InvalidNumber) := ⟨rfl, rfl, rfl, by decide +kernel, rfl, by decide +kernel, by decide +kernel⟩
abbrev st_InvalidPlan : Stmt := (Fm.clsBody (top 6)).getD 0 (.Pass ⟨0, 0, 0, 0⟩)
theorem sc_InvalidPlan : FnScope ["self", "value"] ["self", "value"] (defScope st_InvalidPlan) := ⟨rfl, rfl, rfl, by decide +kernel, rfl, by decide +kernel, by decide +kernel⟩
abbrev st_InvalidRecord : Stmt := (Fm.clsBody (top 16)).getD 0 (.Pass ⟨0, 0, 0, 0⟩)
theorem sc_InvalidRecord : FnScope ["self", "index"] ["self", "index"] (defScope st_InvalidRecord) := ⟨rfl, rfl, rfl, by decide +kernel, rfl, by decide +kernel, by decide +kernel⟩
abbrev st_InvalidRow : Stmt := (Fm.clsBody (top 2)).getD 0 (.Pass ⟨0, 0, 0, 0⟩)
theorem sc_InvalidRow : FnScope ["self", "index"] ["self", "index"] (defScope st_InvalidRow) := ⟨rfl, rfl, rfl, by decide +kernel, rfl, by decide +kernel, by decide +kernel⟩
abbrev st_InvalidRows : Stmt := (Fm.clsBody (top 4)).getD 0 (.Pass ⟨0, 0, 0, 0⟩)
theorem sc_InvalidRows : FnScope ["self", "index"] ["self", "index"] (defScope st_InvalidRows) := ⟨rfl, rfl, rfl, by decide +kernel, rfl, by decide +kernel, by decide +kernel⟩
abbrev st_InvalidRun : Stmt := (Fm.clsBody (top 17)).getD 0 (.Pass ⟨0, 0, 0, 0⟩)
theorem sc_InvalidRun : FnScope ["self", "index"] ["self", "index"] (defScope st_InvalidRun) := ⟨rfl, rfl, rfl, by decide +kernel, rfl, by decide +kernel, by decide +kernel⟩
abbrev st_InvalidShare : Stmt := (Fm.clsBody (top 18)).getD 0 (.Pass ⟨0, 0, 0, 0⟩)
theorem sc_InvalidShare : FnScope ["self", "share"] ["self", "share"] (defScope st_InvalidShare) := ⟨rfl, rfl, rfl, by decide +kernel, rfl, by decide +kernel, by decide +kernel⟩
abbrev st_InvalidSize : Stmt := (Fm.clsBody (top 10)).getD 0 (.Pass ⟨0, 0, 0, 0⟩)
theorem sc_InvalidSize : FnScope ["self", "size"] ["self", "size"] (defScope st_InvalidSize) := ⟨rfl, rfl, rfl, by decide +kernel, rfl, by decide +kernel, by decide +kernel⟩
abbrev st_InvalidSources : Stmt := (Fm.clsBody (top 14)).getD 0 (.Pass ⟨0, 0, 0, 0⟩)
theorem sc_InvalidSources : FnScope ["self", "index"] ["self", "index"] (defScope st_InvalidSources) := ⟨rfl, rfl, rfl, by decide +kernel, rfl, by decide +kernel, by decide +kernel⟩
abbrev st_InvalidStep : Stmt := (Fm.clsBody (top 9)).getD 0 (.Pass ⟨0, 0, 0, 0⟩)
theorem sc_InvalidStep : FnScope ["self", "step"] ["self", "step"] (defScope st_InvalidStep) := ⟨rfl, rfl, rfl, by decide +kernel, rfl, by decide +kernel, by decide +kernel⟩
abbrev st_InvalidTable : Stmt := (Fm.clsBody (top 11)).getD 0 (.Pass ⟨0, 0, 0, 0⟩)
theorem sc_InvalidTable : FnScope ["self", "index"] ["self", "index"] (defScope st_InvalidTable) := ⟨rfl, rfl, rfl, by decide +kernel, rfl, by decide +kernel, by decide +kernel⟩
abbrev st_InvalidText : Stmt := (Fm.clsBody (top 8)).getD 0 (.Pass ⟨0, 0, 0, 0⟩)
theorem sc_InvalidText : FnScope ["self", "text"] ["self", "text"] (defScope st_InvalidText) := ⟨rfl, rfl, rfl, by decide +kernel, rfl, by decide +kernel, by decide +kernel⟩
abbrev st_LastLine : Stmt := .Pass ⟨0, 0, 0, 0⟩
abbrev st_LineInUse : Stmt := (Fm.clsBody (top 32)).getD 0 (.Pass ⟨0, 0, 0, 0⟩)
theorem sc_LineInUse : FnScope ["self", "line"] ["self", "line"] (defScope st_LineInUse) := ⟨rfl, rfl, rfl, by decide +kernel, rfl, by decide +kernel, by decide +kernel⟩
abbrev st_LineTaken : Stmt := (Fm.clsBody (top 30)).getD 0 (.Pass ⟨0, 0, 0, 0⟩)
theorem sc_LineTaken : FnScope ["self", "line"] ["self", "line"] (defScope st_LineTaken) := ⟨rfl, rfl, rfl, by decide +kernel, rfl, by decide +kernel, by decide +kernel⟩
abbrev st_NoOrder : Stmt := .Pass ⟨0, 0, 0, 0⟩
abbrev st_NobodyWaits : Stmt := .Pass ⟨0, 0, 0, 0⟩
abbrev st_NotSame : Stmt := (Fm.clsBody (top 28)).getD 0 (.Pass ⟨0, 0, 0, 0⟩)
theorem sc_NotSame : FnScope ["self", "one", "other"] ["self", "one", "other"] (defScope st_NotSame) := ⟨rfl, rfl, rfl, by decide +kernel, rfl, by decide +kernel, by decide +kernel⟩
abbrev st_NothingToUndo : Stmt := .Pass ⟨0, 0, 0, 0⟩
abbrev st_OtherLines : Stmt := .Pass ⟨0, 0, 0, 0⟩
abbrev st_OtherPeople : Stmt := .Pass ⟨0, 0, 0, 0⟩
abbrev st_TooManyDeeds : Stmt := (Fm.clsBody (top 39)).getD 0 (.Pass ⟨0, 0, 0, 0⟩)
theorem sc_TooManyDeeds : FnScope ["self", "count"] ["self", "count"] (defScope st_TooManyDeeds) := ⟨rfl, rfl, rfl, by decide +kernel, rfl, by decide +kernel, by decide +kernel⟩
abbrev st_TooManyLines : Stmt := (Fm.clsBody (top 38)).getD 0 (.Pass ⟨0, 0, 0, 0⟩)
theorem sc_TooManyLines : FnScope ["self", "count"] ["self", "count"] (defScope st_TooManyLines) := ⟨rfl, rfl, rfl, by decide +kernel, rfl, by decide +kernel, by decide +kernel⟩
abbrev st_TooManyPeople : Stmt := (Fm.clsBody (top 37)).getD 0 (.Pass ⟨0, 0, 0, 0⟩)
theorem sc_TooManyPeople : FnScope ["self", "count"] ["self", "count"] (defScope st_TooManyPeople) := ⟨rfl, rfl, rfl, by decide +kernel, rfl, by decide +kernel, by decide +kernel⟩
abbrev st_UnknownHeight : Stmt := (Fm.clsBody (top 24)).getD 0 (.Pass ⟨0, 0, 0, 0⟩)
theorem sc_UnknownHeight : FnScope ["self", "height"] ["self", "height"] (defScope st_UnknownHeight) := ⟨rfl, rfl, rfl, by decide +kernel, rfl, by decide +kernel, by decide +kernel⟩
abbrev st_UnknownLine : Stmt := (Fm.clsBody (top 23)).getD 0 (.Pass ⟨0, 0, 0, 0⟩)
theorem sc_UnknownLine : FnScope ["self", "line"] ["self", "line"] (defScope st_UnknownLine) := ⟨rfl, rfl, rfl, by decide +kernel, rfl, by decide +kernel, by decide +kernel⟩
abbrev st_UnknownName : Stmt := (Fm.clsBody (top 25)).getD 0 (.Pass ⟨0, 0, 0, 0⟩)
theorem sc_UnknownName : FnScope ["self", "name"] ["self", "name"] (defScope st_UnknownName) := ⟨rfl, rfl, rfl, by decide +kernel, rfl, by decide +kernel, by decide +kernel⟩
theorem errN_rs : ∀ c ∈ errN, c ∈ rs := by decide +kernel
abbrev st_cell : Stmt := top 46
abbrev st_pool : Stmt := top 47
abbrev st_draw : Stmt := top 48
abbrev st_error_87 : Stmt := top 49
abbrev st_made_4 : Stmt := top 50
abbrev st_attributes : Stmt := top 51
abbrev st_right_87 : Stmt := top 52
abbrev st_law_87 : Stmt := top 53
def fa : List He.Fa := [.free "ArithmeticError", .free "LookupError", .free "ValueError", .free "abs", .free "all", .free "divmod", .free "isinstance", .free "len", .free "max", .free "min", .free "range", .free "repr", .int "MOST_DEEDS" 1000, .int "MOST_HEIGHT" 999, .int "MOST_LINES" 8, .int "MOST_PEOPLE" 40, .int "SMALL" 12, .glo "FindError", .glo "HeightTaken", .glo "InvalidCommand", .glo "InvalidCrowd", .glo "InvalidDeed", .glo "InvalidHeight", .glo "InvalidKind", .glo "InvalidKnown", .glo "InvalidLine", .glo "InvalidNames", .glo "InvalidNumber", .glo "InvalidPlan", .glo "InvalidRecord", .glo "InvalidRow", .glo "InvalidRows", .glo "InvalidRun", .glo "InvalidShare", .glo "InvalidSize", .glo "InvalidSources", .glo "InvalidStep", .glo "InvalidTable", .glo "InvalidText", .glo "LastLine", .glo "LimitError", .glo "LineInUse", .glo "LineTaken", .glo "MeetError", .glo "NoOrder", .glo "NobodyWaits", .glo "NotSame", .glo "NothingToUndo", .glo "OtherLines", .glo "OtherPeople", .glo "TooManyDeeds", .glo "TooManyLines", .glo "TooManyPeople", .glo "UnknownHeight", .glo "UnknownLine", .glo "UnknownName", .glo "_law_cell", .glo "_law_pool", .glo "_law_draw", .glo "_law_error", .glo "_law_made", .glo "_law_attributes", .glo "_law_right", .glo "law"]
def tf : List TupF := []
def dd (x : Str) (st : Stmt) : He.DefD := ⟨(x, none), x, x, defArgs st, defBody st, defScope st, [], []⟩
def de (x : Str) (q : Str) (st : Stmt) : He.DefD := ⟨(x, some "__init__"), "__init__", q, defArgs st, defBody st, defScope st, [], []⟩
def fn : List He.DefD := [dd "_law_cell" st_cell, dd "_law_pool" st_pool, dd "_law_draw" st_draw, dd "_law_error" st_error_87, dd "_law_made" st_made_4, dd "_law_attributes" st_attributes, dd "_law_right" st_right_87, dd "law" st_law_87, de "HeightTaken" "HeightTaken.__init__" st_HeightTaken, de "InvalidCommand" "InvalidCommand.__init__" st_InvalidCommand, de "InvalidCrowd" "InvalidCrowd.__init__" st_InvalidCrowd, de "InvalidDeed" "InvalidDeed.__init__" st_InvalidDeed, de "InvalidHeight" "InvalidHeight.__init__" st_InvalidHeight, de "InvalidKind" "InvalidKind.__init__" st_InvalidKind, de "InvalidKnown" "InvalidKnown.__init__" st_InvalidKnown, de "InvalidLine" "InvalidLine.__init__" st_InvalidLine, de "InvalidNames" "InvalidNames.__init__" st_InvalidNames, de "InvalidNumber" "InvalidNumber.__init__" st_InvalidNumber, de "InvalidPlan" "InvalidPlan.__init__" st_InvalidPlan, de "InvalidRecord" "InvalidRecord.__init__" st_InvalidRecord, de "InvalidRow" "InvalidRow.__init__" st_InvalidRow, de "InvalidRows" "InvalidRows.__init__" st_InvalidRows, de "InvalidRun" "InvalidRun.__init__" st_InvalidRun, de "InvalidShare" "InvalidShare.__init__" st_InvalidShare, de "InvalidSize" "InvalidSize.__init__" st_InvalidSize, de "InvalidSources" "InvalidSources.__init__" st_InvalidSources, de "InvalidStep" "InvalidStep.__init__" st_InvalidStep, de "InvalidTable" "InvalidTable.__init__" st_InvalidTable, de "InvalidText" "InvalidText.__init__" st_InvalidText, de "LineInUse" "LineInUse.__init__" st_LineInUse, de "LineTaken" "LineTaken.__init__" st_LineTaken, de "NotSame" "NotSame.__init__" st_NotSame, de "TooManyDeeds" "TooManyDeeds.__init__" st_TooManyDeeds, de "TooManyLines" "TooManyLines.__init__" st_TooManyLines, de "TooManyPeople" "TooManyPeople.__init__" st_TooManyPeople, de "UnknownHeight" "UnknownHeight.__init__" st_UnknownHeight, de "UnknownLine" "UnknownLine.__init__" st_UnknownLine, de "UnknownName" "UnknownName.__init__" st_UnknownName]
def tb (K : PySem.W.Frag) : Bool := ((List.lookup sysModules K).isSome) && (tf.all (tupF K) && (errsB K rs ts && (errD1 K "HeightTaken" ["height"] (eBase "LookupError") && (errD1 K "InvalidCommand" ["command"] (eBase "ValueError") && (errD1 K "InvalidCrowd" ["index"] (eBase "ValueError") && (errD1 K "InvalidDeed" ["index"] (eBase "ValueError") && (errD1 K "InvalidHeight" ["height"] (eBase "ValueError") && (errD1 K "InvalidKind" ["kind"] (eBase "ValueError") && (errD1 K "InvalidKnown" ["index"] (eBase "ValueError") && (errD1 K "InvalidLine" ["line"] (eBase "ValueError") && (errD1 K "InvalidNames" ["index"] (eBase "ValueError") && (errD1 K "InvalidNumber" ["number"] (eBase "ValueError") && (errD1 K "InvalidPlan" ["value"] (eBase "ValueError") && (errD1 K "InvalidRecord" ["index"] (eBase "ValueError") && (errD1 K "InvalidRow" ["index"] (eBase "ValueError") && (errD1 K "InvalidRows" ["index"] (eBase "ValueError") && (errD1 K "InvalidRun" ["index"] (eBase "ValueError") && (errD1 K "InvalidShare" ["share"] (eBase "ValueError") && (errD1 K "InvalidSize" ["size"] (eBase "ValueError") && (errD1 K "InvalidSources" ["index"] (eBase "ValueError") && (errD1 K "InvalidStep" ["step"] (eBase "ValueError") && (errD1 K "InvalidTable" ["index"] (eBase "ValueError") && (errD1 K "InvalidText" ["text"] (eBase "ValueError") && (errD0 K "LastLine" (eBase "LookupError") && (errD1 K "LineInUse" ["line"] (eBase "LookupError") && (errD1 K "LineTaken" ["line"] (eBase "LookupError") && (errD0 K "NoOrder" (eBase "LookupError") && (errD0 K "NobodyWaits" (eBase "LookupError") && (errD1 K "NotSame" ["one", "other"] (eBase "LookupError") && (errD0 K "NothingToUndo" (eBase "LookupError") && (errD0 K "OtherLines" (eBase "LookupError") && (errD0 K "OtherPeople" (eBase "LookupError") && (errD1 K "TooManyDeeds" ["count"] (eBase "ArithmeticError") && (errD1 K "TooManyLines" ["count"] (eBase "ArithmeticError") && (errD1 K "TooManyPeople" ["count"] (eBase "ArithmeticError") && (errD1 K "UnknownHeight" ["height"] (eBase "LookupError") && (errD1 K "UnknownLine" ["line"] (eBase "LookupError") && (errD1 K "UnknownName" ["name"] (eBase "LookupError")))))))))))))))))))))))))))))))))))))))
abbrev R : PySem.W.OpenRow := PySem.W.OpenLaw.row PySem.Challenge.rw_frontmeets_k87_limits_and_errors
def rch : Reach := fun g => asE [("FindError" : Str), ("HeightTaken" : Str), ("InvalidCommand" : Str), ("InvalidCrowd" : Str), ("InvalidDeed" : Str), ("InvalidHeight" : Str), ("InvalidKind" : Str), ("InvalidKnown" : Str), ("InvalidLine" : Str), ("InvalidNames" : Str), ("InvalidNumber" : Str), ("InvalidPlan" : Str), ("InvalidRecord" : Str), ("InvalidRow" : Str), ("InvalidRows" : Str), ("InvalidRun" : Str), ("InvalidShare" : Str), ("InvalidSize" : Str), ("InvalidSources" : Str), ("InvalidStep" : Str), ("InvalidTable" : Str), ("InvalidText" : Str), ("LastLine" : Str), ("LimitError" : Str), ("LineInUse" : Str), ("LineTaken" : Str), ("MeetError" : Str), ("NoOrder" : Str), ("NobodyWaits" : Str), ("NotSame" : Str), ("NothingToUndo" : Str), ("OtherLines" : Str), ("OtherPeople" : Str), ("TooManyDeeds" : Str), ("TooManyLines" : Str), ("TooManyPeople" : Str), ("UnknownHeight" : Str), ("UnknownLine" : Str), ("UnknownName" : Str)] g ++ [sysModules]
abbrev hk : PySem.W.Hook := hookF rch fa fn tb
def ob (s : PySem.W.SharedT) : AlF := obsF rch fa fn tb (HandSHeadRun.getT s)
theorem ob_eq (s : PySem.W.SharedT) : ob s = hk.obs s.abs := obsF_eq (HandSHeadRun.getT_eq s)
def nms0 : List PySem.Str := ["MeetError", "InvalidRow", "InvalidKind", "InvalidRows", "InvalidNumber", "InvalidPlan", "InvalidNames", "InvalidText", "InvalidStep", "InvalidSize", "InvalidTable", "InvalidCrowd", "InvalidHeight", "InvalidSources", "InvalidKnown", "InvalidRecord", "InvalidRun", "InvalidShare", "InvalidLine", "InvalidDeed"]
def nms1 : List PySem.Str := ["InvalidCommand", "FindError", "UnknownLine", "UnknownHeight", "UnknownName", "OtherLines", "OtherPeople", "NotSame", "NoOrder", "LineTaken", "HeightTaken", "LineInUse", "LastLine", "NobodyWaits", "NothingToUndo", "LimitError", "TooManyPeople", "TooManyLines", "TooManyDeeds", "MOST_HEIGHT"]
def nms2 : List PySem.Str := ["MOST_PEOPLE", "MOST_LINES", "SMALL", "MOST_DEEDS", "_law_cell", "_law_pool", "_law_draw", "_law_error", "_law_made", "_law_attributes", "_law_right"]
def nms : List PySem.Str := nms0 ++ nms1 ++ nms2
set_option maxHeartbeats 0 in
theorem run (w : World) : HandSHeadRun.RunEq R (PySem.W.view R.prog [53]) hk ob 66400 nms w := by
  intro os
  kernel_rfl
end L87
/-! FmA: the plain semantics. Data, slots, what expressions, statements and loops yield. -/
namespace Fm
open PySem

/-- a step that simp takes as a rewrite, not as a reduction -/
theorem nr {α : Sort u} {a b : α} (h : a = b) : a = b := h
def dPut (ds : List (D × D)) (k : D) (x : D) : List (D × D) :=
  if (ds.any fun p => decide (kyOf p.1 = kyOf k)) = true then ds.map fun p => if kyOf p.1 = kyOf k then (p.1, x) else p else ds ++ [(k, x)]
def tPut (ds : List (List Ky × D)) (k : List Ky) (x : D) : List (List Ky × D) :=
  if (ds.any fun p => decide (p.1 = k)) = true then ds.map fun p => if p.1 = k then (p.1, x) else p else ds ++ [(k, x)]
@[simp] theorem bind_ok {α β : Type} (a : α) (S : Sl) (f : α → Sl → Res β) : Res.bind (.ok a S) f = f a S := nr rfl
@[simp] theorem bind_exc {α β : Type} (x : Exn) (S : Sl) (f : α → Sl → Res β) : Res.bind (.exc x S) f = .exc x S := nr rfl
@[simp] theorem bind_bad {α β : Type} (f : α → Sl → Res β) : Res.bind .bad f = .bad := nr rfl

@[simp] theorem dat_lst (xs : List D) : (Ob.lst xs).dat = some (.list xs) := nr rfl
@[simp] theorem dat_dct (ds : List (D × D)) : (Ob.dct ds).dat = some (.dict ds) := nr rfl
@[simp] theorem sv_d (x : D) : (SV.d x).dat = some x := nr rfl
@[simp] theorem sv_live (o : Ob) : (SV.live o).dat = o.dat := nr rfl
@[simp] theorem view_d (S : Sl) (x : D) : view S (.d x) = some x := nr rfl
@[simp] theorem view_fr (S : Sl) (o : Ob) : view S (.fr o) = o.dat := nr rfl
theorem view_br (S : Sl) (i : Nat) : view S (.br i) = (at? S i).bind SV.dat := rfl
@[simp] theorem frz_d (S : Sl) (x : D) : frz S (.d x) = some (x, S) := nr rfl
@[simp] theorem frz_fr (S : Sl) (o : Ob) : frz S (.fr o) = o.dat.map fun x => (x, S) := nr rfl
def views (S : Sl) : List RV → Option (List D)
  | [] => some []
  | v :: vs => (view S v).bind fun x => (views S vs).map fun xs => x :: xs

/-! ### expressions -/
def eC (x : D) : Ex := fun S => .ok (.d x) S
def eVar (i : Nat) : Ex := fun S => match at? S i with
  | some (.d x) => .ok (.d x) S
  | some (.live _) => .ok (.br i) S
  | none => .bad
/-- a value that may be lacking -/
def onO {α β : Type} (o : Option α) (f : α → Res β) : Res β := match o with
  | some a => f a
  | none => .bad
@[simp] theorem onO_some {α β : Type} (a : α) (f : α → Res β) : onO (some a) f = f a := nr rfl
@[simp] theorem onO_none {α β : Type} (f : α → Res β) : onO (none : Option α) f = .bad := nr rfl
/-- what a reading operation yields -/
def give (S : Sl) (o : Option RV) : Res RV := onO o fun r => .ok r S
@[simp] theorem give_some (S : Sl) (r : RV) : give S (some r) = .ok r S := nr rfl
@[simp] theorem give_none (S : Sl) : give S none = .bad := nr rfl
/-- an operation that reads two values -/
def eOp (f : D → D → Option RV) (a b : Ex) : Ex := fun S => (a S).bind fun x S1 => (b S1).bind fun y S2 => give S2 ((view S2 x).bind fun dx => (view S2 y).bind fun dy => f dx dy)
/-- .. one value -/
def eUn (f : D → Option RV) (a : Ex) : Ex := fun S => (a S).bind fun x S1 => give S1 ((view S1 x).bind f)
/-- .. a list of values -/
def eFn (f : List D → Option RV) (a : Ax) : Ex := fun S => (a S).bind fun xs S1 => give S1 ((views S1 xs).bind f)
def aNil : Ax := fun S => .ok [] S
def aCons (a : Ex) (r : Ax) : Ax := fun S => (a S).bind fun x S1 => (r S1).bind fun xs S2 => .ok (x :: xs) S2
def eIf (t : Tx) (a b : Ex) : Ex := fun S => (t S).bind fun c S1 => if c = true then a S1 else b S1
def eFrz (a : Ex) : Dx := fun S => (a S).bind fun v S1 => onO (frz S1 v) fun p => .ok p.1 p.2
def lNil : Lx := fun S => .ok [] S
def lCons (a : Dx) (r : Lx) : Lx := fun S => (a S).bind fun x S1 => (r S1).bind fun xs S2 => .ok (x :: xs) S2
/-- a display: its items are frozen -/
def eTup (a : Lx) : Ex := fun S => (a S).bind fun ds S1 => if ds.length ≤ sizeLine then .ok (.d (.tuple ds)) S1 else .bad
def eLst (a : Lx) : Ex := fun S => (a S).bind fun ds S1 => if ds.length ≤ sizeLine then .ok (.fr (.lst ds)) S1 else .bad
/-- what is handed on as it is, frozen -/
def eDat (a : Dx) : Ex := fun S => (a S).bind fun x S1 => .ok (.d x) S1

/-! ### tests -/
def truth : D → Option Bool
  | .none => some false
  | .bool b => some b
  | .int i => some (i != 0)
  | .str s => if s.length ≤ sizeLine then some (s.length != 0) else none
  | .list xs => some (!xs.isEmpty)
  | .tuple xs => some (!xs.isEmpty)
  | .dict _ => none
def tTru (a : Ex) : Tx := fun S => (a S).bind fun x S1 => onO ((view S1 x).bind truth) fun b => .ok b S1
def tAnd (t u : Tx) : Tx := fun S => (t S).bind fun c S1 => if c = true then u S1 else .ok false S1
def tOr (t u : Tx) : Tx := fun S => (t S).bind fun c S1 => if c = true then .ok true S1 else u S1
def tNot (t : Tx) : Tx := fun S => (t S).bind fun c S1 => .ok (!c) S1
/-- a and b, a or b, not a as values -/
def eAnd (a b : Ex) : Ex := fun S => (a S).bind fun x S1 => onO ((view S1 x).bind truth) fun k => if k = true then b S1 else .ok x S1
def eOr (a b : Ex) : Ex := fun S => (a S).bind fun x S1 => onO ((view S1 x).bind truth) fun k => if k = true then .ok x S1 else b S1
def eNot (a : Ex) : Ex := fun S => (a S).bind fun x S1 => onO ((view S1 x).bind truth) fun k => .ok (.d (.bool (!k))) S1
/-- a op b op' c -/
def isBl : RV → Option Bool
  | .d (.bool b) => some b
  | _ => none
def eChain (f f' : D → D → Option RV) (a b c : Ex) : Ex := fun S => (a S).bind fun x S1 => (b S1).bind fun y S2 => onO (((view S2 x).bind fun dx => (view S2 y).bind fun dy => f dx dy).bind isBl) fun k =>
  if k = true then (c S2).bind fun z S3 => give S3 ((view S3 y).bind fun dy => (view S3 z).bind fun dz => f' dy dz) else .ok (.d (.bool false)) S2

def tBl (a : Ex) : Tx := fun S => (a S).bind fun x S1 => onO (isBl x) fun k => .ok k S1

/-! ### statements -/
def sNext : Sx := fun S => .nx S
def Out.next (o : Out) (f : Sl → Out) : Out := match o with
  | .nx S => f S
  | o => o
@[simp] theorem next_nx (S : Sl) (f : Sl → Out) : Out.next (.nx S) f = f S := nr rfl
@[simp] theorem next_rt (v : RV) (S : Sl) (f : Sl → Out) : Out.next (.rt v S) f = .rt v S := nr rfl
@[simp] theorem next_bk (S : Sl) (f : Sl → Out) : Out.next (.bk S) f = .bk S := nr rfl
@[simp] theorem next_ct (S : Sl) (f : Sl → Out) : Out.next (.ct S) f = .ct S := nr rfl
@[simp] theorem next_exc (x : Exn) (S : Sl) (f : Sl → Out) : Out.next (.exc x S) f = .exc x S := nr rfl
@[simp] theorem next_bad (f : Sl → Out) : Out.next .bad f = .bad := nr rfl
def sSeq (a b : Sx) : Sx := fun S => (a S).next b
@[simp] theorem out_ok {α : Type} (a : α) (S : Sl) (f : α → Sl → Out) : Res.out (.ok a S) f = f a S := nr rfl
@[simp] theorem out_exc {α : Type} (x : Exn) (S : Sl) (f : α → Sl → Out) : Res.out (.exc x S) f = .exc x S := nr rfl
@[simp] theorem out_bad {α : Type} (f : α → Sl → Out) : Res.out .bad f = .bad := nr rfl
def sExpr (a : Ex) : Sx := fun S => (a S).out fun _ S1 => .nx S1
def sRet (a : Ex) : Sx := fun S => (a S).out fun v S1 => .rt v S1
def sIf (t : Tx) (a b : Sx) : Sx := fun S => (t S).out fun c S1 => if c = true then a S1 else b S1
def sBad : Sx := fun _ => .bad
/-- what a name takes: a fresh object stays live there -/
def put (S : Sl) (i : Nat) : RV → Option Sl
  | .d x => some (S.set i (some (.d x)))
  | .fr o => some (S.set i (some (.live o)))
  | .br _ => none
@[simp] theorem put_d (S : Sl) (i : Nat) (x : D) : put S i (.d x) = some (S.set i (some (.d x))) := nr rfl
@[simp] theorem put_fr (S : Sl) (i : Nat) (o : Ob) : put S i (.fr o) = some (S.set i (some (.live o))) := nr rfl
def ofO : Option Sl → Out
  | some S => .nx S
  | none => .bad
@[simp] theorem ofO_some (S : Sl) : ofO (some S) = .nx S := nr rfl
@[simp] theorem ofO_none : ofO none = .bad := nr rfl
def sSet (i : Nat) (a : Ex) : Sx := fun S => (a S).out fun v S1 => ofO (put S1 i v)
/-- a, b, .. = x, y, .. -/
def putAll : List Nat → List RV → Sl → Option Sl
  | [], [], S => some S
  | i :: is, v :: vs, S => (put S i v).bind (putAll is vs)
  | _, _, _ => none
def sPar (is : List Nat) (a : Ax) : Sx := fun S => (a S).out fun vs S1 => ofO (putAll is vs S1)
def sAsg (G : Tg) (a : Dx) : Sx := fun S => (a S).out fun x S1 => ofO (G x S1)
def gName (i : Nat) : Tg := fun x S => some (S.set i (some (.d x)))
def gAll : List Tg → List D → Sl → Option Sl
  | [], [], S => some S
  | g :: gs, x :: xs, S => (g x S).bind (gAll gs xs)
  | _, _, _ => none
def gTup (gs : List Tg) : Tg := fun x S => match x with
  | .tuple xs => gAll gs xs S
  | _ => none
/-- the place that an index means -/
def ixD (n : Nat) (i : Int) : Option Nat := if 0 ≤ i then (if i < n then some i.toNat else none) else if -(n : Int) ≤ i then some (i + n).toNat else none
def setOb (key x : D) : Ob → Option Ob
  | .lst xs => (match key with
    | .int j => (ixD xs.length j).map fun n => .lst (xs.set n x)
    | _ => none)
  | .dct ds => if (kyOf key).isSome = true ∧ ds.length < sizeLine then some (.dct (dPut ds key x)) else none
  | .dtt ds => (match keyT key with
    | some q => if ds.length < sizeLine then some (.dtt (tPut ds q x)) else none
    | none => none)
  | .ins _ _ => none
def setAt (S : Sl) (k : Nat) (key : D) (x : D) : Option Sl := match at? S k with
  | some (.live o) => (setOb key x o).map fun o' => S.set k (some (.live o'))
  | _ => none
/-- o[i] as a target -/
def gSub (o ix : Ex) : Tg := fun x S => match o S with
  | .ok (.br k) S1 => (match ix S1 with
    | .ok (.d key) S2 => setAt S2 k key x
    | _ => none)
  | _ => none

/-! ### loops -/
@[simp] theorem turn_nx (S : Sl) (f : Sl → Out) : Out.turn (.nx S) f = f S := nr rfl
@[simp] theorem turn_ct (S : Sl) (f : Sl → Out) : Out.turn (.ct S) f = f S := nr rfl
@[simp] theorem turn_bk (S : Sl) (f : Sl → Out) : Out.turn (.bk S) f = .nx S := nr rfl
@[simp] theorem turn_rt (v : RV) (S : Sl) (f : Sl → Out) : Out.turn (.rt v S) f = .rt v S := nr rfl
@[simp] theorem turn_exc (x : Exn) (S : Sl) (f : Sl → Out) : Out.turn (.exc x S) f = .exc x S := nr rfl
@[simp] theorem turn_bad (f : Sl → Out) : Out.turn .bad f = .bad := nr rfl
def onU {α : Type} (o : Option α) (f : α → Out) : Out := match o with
  | some a => f a
  | none => .bad
@[simp] theorem onU_some {α : Type} (a : α) (f : α → Out) : onU (some a) f = f a := nr rfl
@[simp] theorem onU_none {α : Type} (f : α → Out) : onU (none : Option α) f = .bad := nr rfl
def forL (g : Tg) (body : Sx) : List D → Sl → Out
  | [], S => .nx S
  | x :: xs, S => onU (g x S) fun S1 => (body S1).turn (forL g body xs)
def whileL (t : Tx) (body : Sx) : Nat → Sl → Out
  | 0, _ => .bad
  | n + 1, S => (t S).out fun c S1 => if c = true then (body S1).turn (whileL t body n) else .nx S1
def wSeq (a : Dx) : Wx := fun S => (a S).bind fun x S1 => onO (items x) fun xs => .ok xs S1
/-- d.values(), d.items() -/
def asDct : D → Option (List (D × D))
  | .dict ((.none, _) :: _) => none
  | .dict ds => some ds
  | _ => none
theorem isErr_cases {ds : List (D × D)} (h : isErrD (.dict ds) = true) : ∃ w r, ds = (.none, w) :: r := by
  cases ds with
  | nil => cases h
  | cons p r =>
    obtain ⟨k, w⟩ := p
    cases k with
    | none => exact ⟨w, r, rfl⟩
    | _ => cases h
theorem asDct_of {ds : List (D × D)} (h : isErrD (.dict ds) = false) : asDct (.dict ds) = some ds := by
  cases ds with
  | nil => rfl
  | cons p r =>
    obtain ⟨k, w⟩ := p
    cases k with
    | none => cases h
    | _ => rfl
theorem items_of {ds : List (D × D)} (h : isErrD (.dict ds) = false) : items (.dict ds) = some (ds.map (·.1)) := by
  cases ds with
  | nil => rfl
  | cons p r =>
    obtain ⟨k, w⟩ := p
    cases k with
    | none => cases h
    | _ => rfl
def wVals (a : Dx) : Wx := fun S => (a S).bind fun x S1 => onO (asDct x) fun ds => .ok (ds.map (·.2)) S1
def wItems (a : Dx) : Wx := fun S => (a S).bind fun x S1 => onO (asDct x) fun ds => .ok (ds.map fun p => .tuple [p.1, p.2]) S1
def rangeL (lo hi : Int) : List D := (List.range (hi - lo).toNat).map fun k => .int (lo + (k : Nat))
def inR (i : Int) : Bool := decide (-(2 ^ 62) ≤ i) && decide (i < 2 ^ 62)
def range1 : List D → Option (List D)
  | [.int j] => if inR j = true then some (rangeL 0 j) else none
  | _ => none
def range2 : List D → Option (List D)
  | [.int i, .int j] => if (inR i && inR j) = true then some (rangeL i j) else none
  | _ => none
/-- range(..), by its arguments -/
def wRange (f : List D → Option (List D)) (a : Ax) : Wx := fun S => (a S).bind fun vs S1 => onO ((views S1 vs).bind f) fun xs => .ok xs S1
def enumL : Nat → List D → List D
  | _, [] => []
  | n, x :: xs => .tuple [.int (n : Nat), x] :: enumL (n + 1) xs
def seqs : D → Option (List D)
  | .list xs => some xs
  | .tuple xs => some xs
  | _ => none
def wEnum (a : Dx) : Wx := fun S => (a S).bind fun x S1 => onO (seqs x) fun xs => .ok (enumL 0 xs) S1
def sFor (w : Wx) (g : Tg) (body : Sx) : Sx := fun S => (w S).out fun xs S1 => forL g body xs S1
def sWhile (n : Nat) (t : Tx) (body : Sx) : Sx := fun S => whileL t body n S

/-! ### comprehensions: the block's own slots are empty at each turn, and as they were behind it -/
def wipeL (vs : List Nat) (S : Sl) : Sl := vs.foldr (fun i S => S.set i none) S
/-- the slots vs as in S0 -/
def backL (S0 : Sl) (vs : List Nat) (S : Sl) : Sl := vs.foldr (fun i S => S.set i ((S0[i]?).getD none)) S
def isD (S : Sl) (i : Nat) : Bool := match at? S i with
  | some (.live _) => false
  | _ => true
@[simp] theorem calm_ok {α β : Type} (a : α) (S : Sl) (f : α → Sl → Res β) : Res.calm (.ok a S) f = f a S := nr rfl
@[simp] theorem calm_exc {α β : Type} (x : Exn) (S : Sl) (f : α → Sl → Res β) : Res.calm (.exc x S) f = .bad := nr rfl
@[simp] theorem calm_bad {α β : Type} (f : α → Sl → Res β) : Res.calm .bad f = .bad := nr rfl
def lcL (g : Tt) (t : Tx) (e : Dx) (vs : List Nat) : List D → List D → Sl → Res (List D)
  | [], acc, S => .ok acc S
  | x :: xs, acc, S => onO (g.run x (wipeL vs S)) fun S1 => (t S1).calm fun c S2 => if c = true then
      (e S2).calm fun y S3 => if acc.length < sizeLine then lcL g t e vs xs (acc ++ [y]) S3 else .bad
    else lcL g t e vs xs acc S2
def tYes : Tx := fun S => .ok true S
def eLc (w : Wx) (g : Tt) (t : Tx) (e : Dx) (vs : List Nat) : Ex := fun S => (w S).bind fun xs S1 =>
  if vs.all (isD S1) then (lcL g t e vs xs [] S1).bind fun ys S2 => .ok (.fr (.lst ys)) (backL S1 vs S2) else .bad

def lcL2 (g : Tt) (t : Tx) (w1 : Wx) (g1 : Tt) (t1 : Tx) (e : Dx) (vs vs1 : List Nat) : List D → List D → Sl → Res (List D)
  | [], acc, S => .ok acc S
  | x :: xs, acc, S => onO (g.run x (wipeL vs S)) fun S1 => (t S1).calm fun c S2 => if c = true then
      (w1 S2).calm fun ys S3 => (lcL g1 t1 e vs1 ys acc S3).calm fun acc2 S4 => lcL2 g t w1 g1 t1 e vs vs1 xs acc2 S4
    else lcL2 g t w1 g1 t1 e vs vs1 xs acc S2
def eLc2 (w : Wx) (g : Tt) (t : Tx) (w1 : Wx) (g1 : Tt) (t1 : Tx) (e : Dx) (vs vs1 : List Nat) : Ex := fun S => (w S).bind fun xs S1 =>
  if vs.all (isD S1) then (lcL2 g t w1 g1 t1 e vs vs1 xs [] S1).bind fun ys S2 => .ok (.fr (.lst ys)) (backL S1 vs S2) else .bad
/-! ### calls -/
def brs : List RV → List Nat
  | [] => []
  | .br i :: vs => i :: brs vs
  | _ :: vs => brs vs
/-- what the callee left of the slots' objects -/
def takeBack (S : Sl) : List RV → List SV → List (Option SV) → Option Sl
  | [], _, _ => some S
  | v :: vs, a :: as, o :: os => (match v, a with
    | .br i, .live _ => o.bind fun w => (takeBack S vs as os).map fun S1 => S1.set i (some w)
    | _, _ => takeBack S vs as os)
  | _ :: _, _, _ => none
@[simp] theorem rv_d (x : D) : (SV.d x).rv = .d x := nr rfl
@[simp] theorem rv_live (o : Ob) : (SV.live o).rv = .fr o := nr rfl
def nodup (l : List Nat) : Bool := match l with
  | [] => true
  | i :: r => !r.contains i && nodup r
def CRes.res (r : CRes) (S : Sl) (vs : List RV) (as : List SV) : Res RV := match r with
  | .ok v os => onO (takeBack S vs as os) fun S2 => .ok v.rv S2
  | .exc x os => onO (takeBack S vs as os) fun S2 => .exc x S2
  | .bad => .bad
def eCall (F : Fn) (a : Ax) : Ex := fun S => (a S).bind fun vs S1 => if nodup (brs vs) = true then onO (hand S1 vs) fun as => (F as).res S1 vs as else .bad
/-- what a body leaves, as the def's result -/
def Out.ends (o : Out) (n : Nat) : CRes := match o with
  | .nx S => .ok (.d .none) (S.take n)
  | .rt (.d x) S => .ok (.d x) (S.take n)
  | .rt (.fr o) S => .ok (.live o) (S.take n)
  | .rt (.br i) S => if i < n then .bad else (match at? S i with
    | some v => .ok v (S.take n)
    | none => .bad)
  | .exc x S => .exc x (S.take n)
  | _ => .bad
/-- a def by its body: n parameters, m slots in all; a parameter that the body stores is handed data alone -/
def fnOf (n m : Nat) (fx : Nat → Bool) (body : Sx) : Fn := fun as => if as.length = n ∧ (List.range n).all (fun i => fx i || isD (as.map some) i) = true then
  (body (as.map some ++ List.replicate (m - n) none)).ends n else .bad
def eCallK (F : Fn) (n m : Nat) (π : List Nat) (a b : Lx) : Ex := fun S => (a S).bind fun xs S1 => (b S1).bind fun ys S2 => if xs.length = n ∧ ys.length = m then (F (π.filterMap fun i => ((xs ++ ys)[i]?).map SV.d)).plain S2 else .bad
theorem fnOf_len {n m : Nat} {fx : Nat → Bool} {B : Sx} (as : List SV) (h : as.length ≠ n) : fnOf n m fx B as = .bad := by
  unfold fnOf
  rw [if_neg fun z => h z.1]
end Fm

/-! FmB: how slots and data lie in the abstract heap; the judgements. -/
namespace Fm
open PySem L2

/-! ### data in the heap -/
section
variable {K : PySem.W.Frag} {H : Hp}
theorem FDs.get' : ∀ {vs : List V} {xs : List D} {i : Nat} {x : D}, FDs K H vs xs → xs[i]? = some x → ∃ v, vs[i]? = some v ∧ FD K H v x
  | _, _, i, v, .nil, e => by simp at e
  | _, _, 0, v, .cons h t, e => by
    simp at e
    subst e
    exact ⟨_, rfl, h⟩
  | _, _, i + 1, v, .cons h t, e => FDs.get' (i := i) t (by simpa using e)
theorem FDs.drop : ∀ {vs : List V} {xs : List D} (n : Nat), FDs K H vs xs → FDs K H (vs.drop n) (xs.drop n)
  | _, _, 0, h => h
  | _, _, n + 1, .nil => .nil
  | _, _, n + 1, .cons h t => FDs.drop n t
theorem FDs.eraseIdx : ∀ {vs : List V} {xs : List D} (n : Nat), FDs K H vs xs → FDs K H (vs.eraseIdx n) (xs.eraseIdx n)
  | _, _, _, .nil => .nil
  | _, _, 0, .cons h t => t
  | _, _, n + 1, .cons h t => .cons h (FDs.eraseIdx n t)
theorem FDs.reverse : ∀ {vs : List V} {xs : List D}, FDs K H vs xs → FDs K H vs.reverse xs.reverse
  | _, _, .nil => .nil
  | _, _, .cons h t => by
    rw [List.reverse_cons, List.reverse_cons]
    exact (FDs.reverse t).snoc h
end

/-! ### slots -/
section
variable {K : PySem.W.Frag} {g : Gh} {σ σ' : St} {H H' : Hp} {S S' : Sl}
end
/-! ### what is wanted behind a result -/
section
variable {α β γ δ : Type}
variable {K : PySem.W.Frag} {g : Gh} {W : WX} {vr : St → Hp → Hp → Sl → β → α → Prop} {vr' : St → Hp → Hp → Sl → δ → γ → Prop} {σ : St} {H H0 : Hp} {S : Sl}
end
/-- the addresses of the fresh ones -/
def frA : V → RV → List Addr
  | .ref a, .fr _ => [a]
  | _, _ => []
def frL : List V → List RV → List Addr
  | v :: vs, r :: rs => frA v r ++ frL vs rs
  | _, _ => []
section
variable (K : PySem.W.Frag) (g : Gh) (W : WX)
def vrE : St → Hp → Hp → Sl → V → RV → Prop := fun σ H H' S' v rv => VRel K g σ H' S' v rv ∧ New H v rv
def vrT : St → Hp → Hp → Sl → Bool → Bool → Prop := fun _ _ _ _ b c => b = c
def vrA : St → Hp → Hp → Sl → List V → List RV → Prop := fun σ H H' S' vs rvs => Paired (fun v rv => VRel K g σ H' S' v rv ∧ New H v rv) vs rvs ∧ (frL vs rvs).Nodup
def vrD : St → Hp → Hp → Sl → V → D → Prop := fun _ _ H' _ v x => FD K H' v x
def vrL : St → Hp → Hp → Sl → List V → List D → Prop := fun _ _ H' _ vs xs => FDs K H' vs xs
abbrev rE (F : Ex) : TE := tG K g W (vrE K g) F
abbrev rT (F : Tx) : TT := tG K g W vrT F
abbrev rA (F : Ax) : TA := tG K g W (vrA K g) F
abbrev rD (F : Dx) : TE := tG K g W (vrD K) F
abbrev rL (F : Lx) : TA := tG K g W (vrL K) F
def rS (F : Sx) : TS := fun E σ H => ∃ S, Rel K g σ H S ∧ Ends K g W E σ S H (F S)
/-- a target's -/
def rG (G : Tg) : TG := fun v σ H Q => ∃ S x, Rel K g σ H S ∧ FD K H v x ∧ ∃ S', G x S = some S' ∧ ∀ σ' H', Step σ S H σ' S' H' → Rel K g σ' H' S' → Q σ' H'
def rGs (gs : List Tg) : TGs := fun vs σ H Q => ∃ S xs, Rel K g σ H S ∧ FDs K H vs xs ∧ ∃ S', gAll gs xs S = some S' ∧ ∀ σ' H', Step σ S H σ' S' H' → Rel K g σ' H' S' → Q σ' H'
/-- what is walked -/
def vrI : St → Hp → Hp → Sl → It → List D → Prop := fun _ _ H' _ J xs => Walk J xs.length (Keeps H') fun i H x H2 => Grow H H2 ∧ ∀ y, xs[i]? = some y → FD K H2 x y
abbrev rI (F : Wx) : TI := tG K g W (vrI K) F
end
section
variable (X : Cx) (g : Gh) (W : WX)
abbrev DE (e : Expr) (F : Ex) : Prop := PE X e (rE X.K g W F)
abbrev DT (e : Expr) (F : Tx) : Prop := PT X e (rT X.K g W F)
abbrev DW (e : Expr) (F : Tx) : Prop := PW X e (rT X.K g W F)
abbrev DA (es : List Expr) (F : Ax) : Prop := PA X es (rA X.K g W F)
abbrev DD (e : Expr) (F : Dx) : Prop := PE X e (rD X.K g W F)
abbrev DL (es : List Expr) (F : Lx) : Prop := PA X es (rL X.K g W F)
abbrev DG (tg : Expr) (G : Tg) : Prop := PG X tg (rG X.K g G)
abbrev DGs (ts : List Expr) (gs : List Tg) : Prop := PGs X ts (rGs X.K g gs)
abbrev DI (tg it : Expr) (F : Wx) : Prop := PI X tg it (rI X.K g W F)
abbrev DS (st : Stmt) (F : Sx) : Prop := PS X st (rS X.K g W F)
abbrev DB (st : List Stmt) (F : Sx) : Prop := PSs X st (rS X.K g W F)
end
section
variable {X : Cx}
theorem PE.imp {e : Expr} {t t' : TE} (p : PE X e t) (h : ∀ σ H Q, t' σ H Q → t σ H Q) : PE X e t' := ⟨fun pins s σ H Q I q => p.run pins s σ H Q I (h σ H Q q)⟩
theorem PT.imp {e : Expr} {t t' : TT} (p : PT X e t) (h : ∀ σ H Q, t' σ H Q → t σ H Q) : PT X e t' := ⟨fun pins s σ H Q I q => p.run pins s σ H Q I (h σ H Q q)⟩
theorem PW.imp {e : Expr} {t t' : TT} (p : PW X e t) (h : ∀ σ H Q, t' σ H Q → t σ H Q) : PW X e t' := ⟨fun wh pins s σ H Q I q => p.run wh pins s σ H Q I (h σ H Q q)⟩
theorem PA.imp {es : List Expr} {t t' : TA} (p : PA X es t) (h : ∀ σ H Q, t' σ H Q → t σ H Q) : PA X es t' := ⟨fun pos pins s σ H Q I q => p.run pos pins s σ H Q I (h σ H Q q)⟩
theorem PS.imp {st : Stmt} {t t' : TS} (p : PS X st t) (h : ∀ E σ H, t' E σ H → t E σ H) : PS X st t' := ⟨fun pins s σ H E I q => p.run pins s σ H E I (h E σ H q)⟩
theorem PSs.imp {st : List Stmt} {t t' : TS} (p : PSs X st t) (h : ∀ E σ H, t' E σ H → t E σ H) : PSs X st t' := ⟨fun pins s σ H E I q => p.run pins s σ H E I (h E σ H q)⟩
/-- .. a dict -/
theorem frozenK {pins : List (Addr × Obj)} {σ : St} {H : Hp} {s : Shared} {a : Addr} {vs : List (L2.Key × V)} (I : Inv X pins σ H s) (h : H a = some (.dK vs)) : ∃ o, Inv X pins σ (upd H a (.frz o (.dK vs))) s := by
  obtain ⟨z, hs, us, r, o, es, ep, e, rest⟩ := I.hok a _ h
  refine ⟨o, I.un (H' := upd H a (.frz o (.dK vs))) (h' := s.heap) (t' := s.toks) ⟨fun b o q _ _ _ => q, fun b o q _ _ _ => ⟨o.slots, q⟩, fun b o _ q _ => ?_, fun b o q _ => ⟨o, q⟩, fun b xs q => ?_, fun b o u q => ?_, fun b ps q => ?_⟩ fun b o q => ?_⟩
  · rw [upd_ne fun z => by rw [z, h] at q; cases q]; exact q
  · rw [upd_ne fun z => by rw [z, h] at q; cases q]; exact q
  · rw [upd_ne fun z => by rw [z, h] at q; cases q]; exact q
  · exact ⟨#[], by rw [upd_ne (fun z => by rw [z, h] at q; cases q), q]; simp⟩
  · by_cases hb : b = a
    · subst hb
      rw [upd_same] at q
      cases q
      exact ⟨e, z, hs, us, r, o, es, ep, e, rest⟩
    · rw [upd_ne hb] at q
      exact (I.hok b o q).stay (fun _ _ _ k => k) (fun c k => by rw [upd_ne fun z => by rw [z, h] at k; cases k]; exact k) fun c xs k => by rw [upd_ne fun z => by rw [z, h] at k; cases k]; exact k
end
end Fm

/-! FmC: expressions: names, constants, operators, tests. -/
namespace Fm
open PySem L2

/-! ### reading values -/
section
variable {K : PySem.W.Frag} {g : Gh} {σ : St} {H H' : Hp} {S : Sl} {v : V}
theorem ObAt.td {a : Addr} {o : Ob} {x : D} (h : ObAt K H a o) (e0 : o.dat = some x) : TD K H (.ref a) x := by
  cases o with
  | lst ds =>
    obtain ⟨vs, e, f⟩ := h
    cases e0
    exact .inr (.inl ⟨a, vs, ds, rfl, rfl, e, f⟩)
  | dct ds =>
    obtain ⟨vs, e, f⟩ := h
    cases e0
    exact .inr (.inr ⟨a, vs, ds, rfl, rfl, e, f⟩)
  | dtt ds => cases e0
  | ins c fs => cases e0
theorem SVr.td {s : SV} {x : D} (h : SVr K H v s) (e0 : s.dat = some x) : TD K H v x := by
  cases s with
  | d x => cases e0; exact .inl h
  | live o =>
    obtain ⟨a, rfl, h⟩ := h
    exact h.td e0
theorem VRel.td {rv : RV} {x : D} (R : Rel K g σ H S) (h : VRel K g σ H S v rv) (e : view S rv = some x) : TD K H v x := by
  cases rv with
  | d y =>
    cases e
    exact .inl h
  | fr o =>
    obtain ⟨a, rfl, ob, _⟩ := h
    exact ob.td e
  | br i =>
    rw [view_br] at e
    cases q : at? S i with
    | none => rw [q] at e; cases e
    | some s =>
      rw [q] at e
      obtain ⟨u, h1, h2⟩ := R.rel i s q
      have h' : σ[i]? = some (some v) := h
      rw [h'] at h1
      cases h1
      exact h2.td e
theorem TD.dref {ds : List (D × D)} (h : TD K H v (.dict ds)) : ∃ a, v = .ref a := by
  rcases h with h | ⟨a, vs, ds', rfl, e, h, f⟩ | ⟨a, vs, ds', rfl, e, h, f⟩
  · cases h with
    | dct h f => exact ⟨_, rfl⟩
    | err _ _ _ _ _ => exact ⟨_, rfl⟩
    | err0 _ _ _ => exact ⟨_, rfl⟩
  · exact ⟨_, rfl⟩
  · exact ⟨_, rfl⟩
theorem rdL {a : Addr} {vs : List V} (h : Rd H a (.lst vs)) : SqL K H a vs := .inl h
end

/-! ### heaps that grow -/
section
variable {K : PySem.W.Frag} {g : Gh} {σ : St} {H H' : Hp} {S : Sl}
end
section
variable {K : PySem.W.Frag} {g : Gh} {W : WX} {σ : St} {H H0 : Hp} {S : Sl} {Q : VK}
/-- what is wanted of give, as Yields -/
theorem Wants.yields {rv : RV} (R : Rel K g σ H S) (t : ∀ b, H b = none → H0 b = none) (h : Wants K g W (vrE K g) H0 σ S H (.ok rv S) Q) : Yields K H rv Q := by
  intro v H' G r
  refine h v H' (After.grow R G) ?_
  cases rv with
  | d x => exact ⟨r, trivial⟩
  | br i => exact r.elim
  | fr o =>
    obtain ⟨a, rfl, n, ob⟩ := r
    refine ⟨⟨a, rfl, ob, fun l => ?_, R.trk a n⟩, a, rfl, t a n⟩
    obtain ⟨u, e, _⟩ := R.live l
    rw [n] at e
    cases e
end

/-! ### operations by values -/
def UnD (X : Cx) (f : D → Option RV) (r : V → Hp → VK → Prop) : Prop := ∀ (x : V) (dx : D) (H : Hp) (rv : RV) (Q : VK), TD X.K H x dx → f dx = some rv → Yields X.K H rv Q → r x H Q
section
variable {X : Cx} {g : Gh} {W : WX} {a b : Expr} {Fa Fb : Ex} {pos : Pos}
/-- the end of a reading operation with two values -/
theorem op_read {f : D → D → Option RV} {σ : St} {H0 H1 H2 : Hp} {S1 S2 : Sl} {x y : V} {vx vy : RV} {Q : VK} (R1 : Rel X.K g σ H1 S1) (A2 : After X.K g σ S1 H1 S2 H2) (t : ∀ b, H2 b = none → H0 b = none)
    (r1 : VRel X.K g σ H1 S1 x vx) (r2 : VRel X.K g σ H2 S2 y vy) (h : Wants X.K g W (vrE X.K g) H0 σ S2 H2 (give S2 ((view S2 vx).bind fun dx => (view S2 vy).bind fun dy => f dx dy)) Q) :
    ∃ dx dy rv, TD X.K H2 x dx ∧ TD X.K H2 y dy ∧ f dx dy = some rv ∧ Yields X.K H2 rv Q := by
  cases e1 : view S2 vx with
  | none => rw [e1] at h; exact h.elim
  | some dx =>
    cases e2 : view S2 vy with
    | none => rw [e1, e2] at h; exact h.elim
    | some dy =>
      cases e3 : f dx dy with
      | none =>
        rw [e1, e2] at h
        have h' : Wants X.K g W (vrE X.K g) H0 σ S2 H2 (give S2 (f dx dy)) Q := h
        rw [e3] at h'
        exact h'.elim
      | some rv =>
        rw [e1, e2] at h
        have h' : Wants X.K g W (vrE X.K g) H0 σ S2 H2 (give S2 (f dx dy)) Q := h
        rw [e3] at h'
        exact ⟨dx, dy, rv, (r1.mono R1 A2.step).td A2.rel e1, r2.td A2.rel e2, e3, h'.yields A2.rel t⟩
theorem de_bin {f : D → D → Option RV} {op : Operator} (ho : OpOk X (binaryOp op) f) (ha : DE X g W a Fa) (hb : DE X g W b Fb) : DE X g W (.BinOp a op b pos) (eOp f Fa Fb) := by
  refine PE.imp (pe_op ho ha hb) ?_
  rintro σ H Q ⟨S, R, h⟩
  refine (Wants.step R h).mono fun x H1 ⟨vx, S1, A1, r1, h1⟩ => (Wants.step A1.rel h1).mono fun y H2 ⟨vy, S2, A2, r2, h2⟩ => ?_
  exact op_read A1.rel A2 (fun b e => A1.step.trk b (A2.step.trk b e)) r1.1 r2.1 h2
theorem de_cmp {f : D → D → Option RV} {op : CmpOp} (ho : OpOk X (compareOp op) f) (ha : DE X g W a Fa) (hb : DE X g W b Fb) (hm : behindInMarks op b = false := by rfl) : DE X g W (.Compare a [op] [b] pos) (eOp f Fa Fb) := by
  refine PE.imp (pe_cmpR ho ha hb hm) ?_
  rintro σ H Q ⟨S, R, h⟩
  refine (Wants.step R h).mono fun x H1 ⟨vx, S1, A1, r1, h1⟩ => (Wants.step A1.rel h1).mono fun y H2 ⟨vy, S2, A2, r2, h2⟩ => ?_
  exact op_read A1.rel A2 (fun b e => A1.step.trk b (A2.step.trk b e)) r1.1 r2.1 h2

/-! ### names and constants -/
theorem de_c {e : Expr} {v : V} {x : D} (h : PE X e (tC v)) (hx : ∀ H, FD X.K H v x) : DE X g W e (eC x) := by
  refine PE.imp h ?_
  rintro σ H Q ⟨S, R, h⟩
  exact h v H (.refl R) ⟨hx H, trivial⟩
theorem de_int {i j} : DE X g W (.Constant (.int i) j pos) (eC (.int i)) := de_c pe_int fun _ => .int i
theorem de_bl {c j} : DE X g W (.Constant (.bool c) j pos) (eC (.bool c)) := de_c pe_bl fun _ => .bl c
theorem de_non {j} : DE X g W (.Constant .none j pos) (eC .none) := de_c pe_non fun _ => .non
theorem de_str {x j} : DE X g W (.Constant (.str x) j pos) (eC (.str x)) := de_c pe_str fun _ => .str x
theorem de_var (i : Nat) {x : Str} (hN : X.N[i]? = some x := by rfl) (hv : Vis X.env.scope x := by first | exact Or.inl rfl | exact Or.inr (Or.inl rfl) | exact Or.inr (Or.inr rfl)) (hd : (x == ("__debug__" : Str)) = false := by decide)
    (hcd : (x == ("__classdict__" : Str)) = false := by decide) : DE X g W (.Name x pos) (eVar i) := by
  refine PE.imp (pe_var hN hv hd hcd) ?_
  rintro σ H Q ⟨S, R, h⟩
  unfold eVar at h
  cases e : at? S i with
  | none => rw [e] at h; exact h.elim
  | some s =>
    obtain ⟨u, h1, h2⟩ := R.rel i s e
    rw [e] at h
    cases s with
    | d x => exact ⟨u, h1, h u H (.refl R) ⟨h2, trivial⟩⟩
    | live o => exact ⟨u, h1, h u H (.refl R) ⟨h1, trivial⟩⟩

/-! ### argument lists -/
theorem da_nil : DA X g W [] aNil := by
  refine PA.imp pa_nil ?_
  rintro σ H Q ⟨S, R, h⟩
  exact h [] H (.refl R) ⟨.nil, List.nodup_nil⟩
theorem paired_mono {σ : St} {H H1 H2 : Hp} {S1 S2 : Sl} (R : Rel X.K g σ H1 S1) (A : After X.K g σ S1 H1 S2 H2) : ∀ {vs : List V} {rvs : List RV}, Paired (fun v rv => VRel X.K g σ H1 S1 v rv ∧ New H v rv) vs rvs → Paired (fun v rv => VRel X.K g σ H2 S2 v rv ∧ New H v rv) vs rvs
  | _, _, .nil => .nil
  | _, _, .cons h t => .cons ⟨h.1.mono R A.step, h.2⟩ (paired_mono R A t)
theorem paired_new {σ : St} {H H1 H2 : Hp} {S2 : Sl} (t : ∀ b, H1 b = none → H b = none) : ∀ {vs : List V} {rvs : List RV}, Paired (fun v rv => VRel X.K g σ H2 S2 v rv ∧ New H1 v rv) vs rvs → Paired (fun v rv => VRel X.K g σ H2 S2 v rv ∧ New H v rv) vs rvs
  | _, _, .nil => .nil
  | _, _, .cons h r => .cons ⟨h.1, h.2.mono t⟩ (paired_new t r)
theorem new_of {σ : St} {H1 H2 : Hp} {S2 : Sl} : ∀ {vs : List V} {rvs : List RV}, Paired (fun v rv => VRel X.K g σ H2 S2 v rv ∧ New H1 v rv) vs rvs → ∀ c, c ∈ frL vs rvs → H1 c = none
  | _, _, .nil, c, h => by cases h
  | v :: vs, r :: rs, .cons h t, c, hm => by
    rcases List.mem_append.mp (show c ∈ frA v r ++ frL vs rs from hm) with hm | hm
    · cases r with
      | d y => cases v <;> cases hm
      | br i => cases v <;> cases hm
      | fr o =>
        obtain ⟨a, rfl, n⟩ := h.2
        have : c = a := by simpa [frA] using hm
        rw [this]
        exact n
    · exact new_of t c hm
theorem da_cons {es : List Expr} {Fr : Ax} (ha : DE X g W a Fa) (hr : DA X g W es Fr) (hs : starEach (a :: es) X.env = (false, eval a X.env) :: starEach es X.env := by rfl) : DA X g W (a :: es) (aCons Fa Fr) := by
  refine PA.imp (pa_cons ha hr hs) ?_
  rintro σ H Q ⟨S, R, h⟩
  refine (Wants.step R h).mono fun x H1 ⟨vx, S1, A1, r1, h1⟩ => (Wants.step (vr := vrA X.K g) A1.rel h1).mono fun xs H2 ⟨vs, S2, A2, r2, h2⟩ => ?_
  refine h2 (x :: xs) H2 (.refl A2.rel) ⟨.cons ⟨r1.1.mono A1.rel A2.step, r1.2⟩ (paired_new A1.step.trk r2.1), ?_⟩
  show (frA x vx ++ frL xs vs).Nodup
  cases vx with
  | d y => cases x <;> exact r2.2
  | br i => cases x <;> exact r2.2
  | fr o =>
    obtain ⟨c, rfl, ob, _⟩ := r1.1
    obtain ⟨u, eu, _⟩ := ob.lst_of
    refine List.nodup_cons.mpr ⟨fun hm => ?_, r2.2⟩
    have := new_of r2.1 c hm
    rw [eu] at this
    cases this
theorem dl_nil : DL X g W [] lNil := by
  refine PA.imp pa_nil ?_
  rintro σ H Q ⟨S, R, h⟩
  exact h [] H (.refl R) .nil
theorem dl_cons {es : List Expr} {Da : Dx} {Fr : Lx} (ha : DD X g W a Da) (hr : DL X g W es Fr) (hs : starEach (a :: es) X.env = (false, eval a X.env) :: starEach es X.env := by rfl) : DL X g W (a :: es) (lCons Da Fr) := by
  refine PA.imp (pa_cons ha hr hs) ?_
  rintro σ H Q ⟨S, R, h⟩
  refine (Wants.step (vr := vrD X.K) R h).mono fun x H1 ⟨vx, S1, A1, r1, h1⟩ => (Wants.step (vr := vrL X.K) A1.rel h1).mono fun xs H2 ⟨vs, S2, A2, r2, h2⟩ => ?_
  exact h2 (x :: xs) H2 (.refl A2.rel) (.cons (FD.mono (A1.rel.keeps A2.step) r1) r2)

/-! ### freezing -/
theorem Live.set_d {σ : St} {S : Sl} {i : Nat} {x : D} {c : Addr} (l : Live σ (S.set i (some (.d x))) c) : Live σ S c := by
  obtain ⟨j, o, e, q⟩ := l
  refine ⟨j, o, ?_, q⟩
  unfold at? at e ⊢
  by_cases hj : i = j
  · subst hj
    by_cases hl : i < S.length
    · rw [List.getElem?_set_self hl] at e; cases e
    · rw [List.getElem?_eq_none (by simpa using hl)] at e; cases e
  · rwa [List.getElem?_set_ne hj] at e
/-- a value in flight is frozen -/
theorem freeze {pins : List (Addr × Obj)} {σ : St} {H0 H : Hp} {s : Shared} {S0 S S' : Sl} {v : V} {rv : RV} {x : D} (I : Inv X pins σ H s) (A : After X.K g σ S0 H0 S H) (r : VRel X.K g σ H S v rv) (n : New H0 v rv) (e : frz S rv = some (x, S')) :
    ∃ H', Inv X pins σ H' s ∧ After X.K g σ S0 H0 S' H' ∧ FD X.K H' v x := by
  have R := A.rel
  -- the ghost step at c
  have core : ∀ {c : Addr} {o : Ob}, ObAt X.K H c o → o.dat = some x → ∃ u, Inv X pins σ (upd H c u) s ∧ Keeps H (upd H c u) ∧ FD X.K (upd H c u) (.ref c) x := fun {c o} ob e0 => by
    cases o with
    | lst ds =>
      cases e0
      obtain ⟨vs, h, f⟩ := ob
      obtain ⟨o, J⟩ := frozen I h
      have k : Keeps H (upd H c (.frz o (.lst vs))) := ⟨fun b xs q => by rw [upd_ne fun z => by rw [z, h] at q; cases q]; exact q, fun b o u q => by rw [upd_ne fun z => by rw [z, h] at q; cases q]; exact q, fun b xs q => by rw [upd_ne fun z => by rw [z, h] at q; cases q]; exact q⟩
      exact ⟨_, J, k, .lst upd_same (f.mono k)⟩
    | dtt ds => cases e0
    | ins c fs => cases e0
    | dct ds =>
      cases e0
      obtain ⟨vs, h, f⟩ := ob
      obtain ⟨o, J⟩ := frozenK I h
      have k : Keeps H (upd H c (.frz o (.dK vs))) := ⟨fun b xs q => by rw [upd_ne fun z => by rw [z, h] at q; cases q]; exact q, fun b o u q => by rw [upd_ne fun z => by rw [z, h] at q; cases q]; exact q, fun b xs q => by rw [upd_ne fun z => by rw [z, h] at q; cases q]; exact q⟩
      exact ⟨_, J, k, .dct upd_same (f.mono k)⟩
  cases rv with
  | d y =>
    cases e
    exact ⟨H, I, A, r⟩
  | fr o =>
    obtain ⟨c, rfl, ob, nl, z⟩ := r
    obtain ⟨c', ec, n0⟩ := n
    cases ec
    have e : o.dat.map (fun x => (x, S)) = some (x, S') := e
    cases e0 : o.dat with
    | none => rw [e0] at e; cases e
    | some x0 =>
      rw [e0] at e
      cases e
      obtain ⟨uu, J, k, fd⟩ := core ob e0
      have oth : ∀ b, b ≠ c → upd H c uu b = H b := fun b hb => upd_ne hb
      refine ⟨_, J, ⟨⟨fun b u q l => ?_, fun b q => ?_, A.step.sub⟩, ⟨R.len, fun i w q => ?_, R.inj, R.fresh, R.par, fun b q => ?_, g.mono _ _ k R.inv⟩⟩, fd⟩
      · have hb : b ≠ c := fun z => by rw [z, n0] at q; cases q
        rw [oth b hb]
        exact A.step.keep b u q l
      · by_cases hb : b = c
        · rw [hb, upd_same] at q; cases q
        · rw [oth b hb] at q; exact A.step.trk b q
      · obtain ⟨u, h1, h2⟩ := R.rel i w q
        refine ⟨u, h1, ?_⟩
        cases w with
        | d y => exact FD.mono k h2
        | live o' =>
          obtain ⟨b, rfl, ob'⟩ := h2
          exact ⟨b, rfl, ob'.mono k fun u' q' => by rw [oth b fun z => nl ⟨i, o', q, z ▸ h1⟩]; exact q'⟩
      · by_cases hb : b = c
        · rw [hb, upd_same] at q; cases q
        · rw [oth b hb] at q; exact R.trk b q
  | br i =>
    have e : (at? S i).bind (fun v => v.dat.map fun x => (x, S.set i (some (.d x)))) = some (x, S') := e
    cases q : at? S i with
    | none => rw [q] at e; cases e
    | some w =>
      rw [q] at e
      have e : w.dat.map (fun x => (x, S.set i (some (.d x)))) = some (x, S') := e
      obtain ⟨u, h1, h2⟩ := R.rel i w q
      have r' : σ[i]? = some (some v) := r
      rw [r'] at h1
      cases h1
      have hi := at_lt q
      cases w with
      | d y =>
        have e : some (y, S.set i (some (.d y))) = some (x, S') := e
        cases e
        have e' : S.set i (some (.d x)) = S := by
          apply List.ext_getElem?
          intro j
          by_cases hj : i = j
          · subst hj
            rw [List.getElem?_set_self hi]
            unfold at? at q
            cases q2 : S[i]? with
            | none => rw [q2] at q; cases q
            | some z => rw [q2] at q; exact congrArg some q.symm
          · rw [List.getElem?_set_ne hj]
        rw [e']
        exact ⟨H, I, A, h2⟩
      | live o =>
        obtain ⟨c, rfl, ob⟩ := h2
        have e : o.dat.map (fun x => (x, S.set i (some (.d x)))) = some (x, S') := e
        cases e0 : o.dat with
        | none => rw [e0] at e; cases e
        | some x0 =>
          rw [e0] at e
          cases e
          obtain ⟨uu, J, k, fd⟩ := core ob e0
          have oth : ∀ b, b ≠ c → upd H c uu b = H b := fun b hb => upd_ne hb
          have lc : Live σ S c := ⟨i, _, q, r'⟩
          refine ⟨_, J, ⟨⟨fun b u qb l => ?_, fun b qb => ?_, fun b l => A.step.sub b l.set_d⟩, ⟨by rw [List.length_set]; exact R.len, fun j w' qj => ?_, fun j j' b o1 o2 q1 q2 => ?_, fun j o1 b q1 => ?_, R.par, fun b qb => ?_, g.mono _ _ k R.inv⟩⟩, fd⟩
          · have hb : b ≠ c := fun z => by
              subst z
              rcases A.step.sub b lc with l' | l'
              · exact l l'
              · rw [qb] at l'; cases l'
            rw [oth b hb]
            exact A.step.keep b u qb l
          · by_cases hb : b = c
            · rw [hb, upd_same] at qb; cases qb
            · rw [oth b hb] at qb; exact A.step.trk b qb
          · by_cases hj : i = j
            · subst hj
              rw [at_set_self hi] at qj
              cases qj
              exact ⟨_, r', fd⟩
            · rw [at_set_ne hj] at qj
              obtain ⟨u, g1, g2⟩ := R.rel j w' qj
              refine ⟨u, g1, ?_⟩
              cases w' with
              | d y => exact FD.mono k g2
              | live o' =>
                obtain ⟨b, rfl, ob'⟩ := g2
                refine ⟨b, rfl, ob'.mono k fun u' q' => ?_⟩
                rw [oth b fun z => hj (R.inj i j b _ _ q qj (z ▸ r') g1)]
                exact q'
          · have n1 : i ≠ j := fun z => by subst z; rw [at_set_self hi] at q1; cases q1
            have n2 : i ≠ j' := fun z => by subst z; rw [at_set_self hi] at q2; cases q2
            rw [at_set_ne n1] at q1
            rw [at_set_ne n2] at q2
            exact R.inj j j' b o1 o2 q1 q2
          · have n1 : i ≠ j := fun z => by subst z; rw [at_set_self hi] at q1; cases q1
            rw [at_set_ne n1] at q1
            exact R.fresh j o1 b q1
          · by_cases hb : b = c
            · rw [hb, upd_same] at qb; cases qb
            · rw [oth b hb] at qb; exact R.trk b qb
theorem dd_of (h : DE X g W a Fa) : DD X g W a (eFrz Fa) := by
  refine ⟨fun pins s σ H Q I hq => ?_⟩
  obtain ⟨S, R, hq⟩ := hq
  refine thn (h.run pins s σ H _ I (Wants.at R hq)) fun u s1 ⟨v, H1, I1, ru, rv, S1, A1, r1, h1⟩ => ?_
  cases e : frz S1 rv with
  | none => rw [e] at h1; exact h1.elim
  | some p =>
    obtain ⟨x, S2⟩ := p
    rw [e] at h1
    have h1 : Wants X.K g W (vrD X.K) H σ S H (.ok x S2) Q := h1
    obtain ⟨H2, I2, A2, fd⟩ := freeze I1 A1 r1.1 r1.2 e
    exact ⟨v, H2, I2, ru, h1 v H2 A2 fd⟩
/-- data as a value -/
theorem de_dat {Da : Dx} (h : DD X g W a Da) : DE X g W a (eDat Da) := by
  refine PE.imp h ?_
  rintro σ H Q ⟨S, R, h⟩
  exact (Wants.step (vr := vrD X.K) R h).mono fun x H1 ⟨vx, S1, A1, r1, h1⟩ => h1 x H1 (.refl A1.rel) ⟨r1, trivial⟩
theorem de_tup {es : List Expr} {Fl : Lx} {k : Nat} (h : DL X g W es Fl) : DE X g W (.Tuple es k pos) (eTup Fl) := by
  refine PE.imp (pe_tup h) ?_
  rintro σ H Q ⟨S, R, h⟩
  refine (Wants.step (vr := vrL X.K) R h).mono fun vs H1 ⟨ds, S1, A1, r1, h1⟩ => ?_
  have r1 : FDs X.K H1 vs ds := r1
  by_cases hl : ds.length ≤ sizeLine
  · rw [if_pos hl] at h1
    refine ⟨by rw [r1.length]; exact hl, fun p hp => ?_⟩
    exact (h1.yields A1.rel A1.step.trk).tup hp r1
  · rw [if_neg hl] at h1
    exact h1.elim
theorem de_lst {es : List Expr} {Fl : Lx} (h : DL X g W es Fl) : DE X g W (.List es pos) (eLst Fl) := by
  refine PE.imp (pe_lst h) ?_
  rintro σ H Q ⟨S, R, h⟩
  refine (Wants.step (vr := vrL X.K) R h).mono fun vs H1 ⟨ds, S1, A1, r1, h1⟩ => ?_
  have r1 : FDs X.K H1 vs ds := r1
  by_cases hl : ds.length ≤ sizeLine
  · rw [if_pos hl] at h1
    refine ⟨by rw [r1.length]; exact hl, fun p hp => ?_⟩
    exact (h1.yields A1.rel A1.step.trk).lst hp r1
  · rw [if_neg hl] at h1
    exact h1.elim

/-! ### tests -/
theorem tru_td {K : PySem.W.Frag} {H : Hp} {v : V} {x : D} {c : Bool} (h : TD K H v x) (e : truth x = some c) : TruV K v H c := by
  cases x with
  | none => rw [h.non]; cases e; rfl
  | bool b => rw [h.bl]; cases e; rfl
  | int i => rw [h.int]; cases e; rfl
  | str z =>
    rw [h.str]
    have e : (if z.length ≤ sizeLine then some (z.length != 0) else none) = some c := e
    by_cases hz : z.length ≤ sizeLine
    · rw [if_pos hz] at e
      cases e
      refine ⟨hz, ?_⟩
      show (z.length != 0) = ((z.length : Int) != 0)
      cases z.length <;> rfl
    · rw [if_neg hz] at e; cases e
  | list xs =>
    obtain ⟨a, vs, rfl, r, f⟩ := h.lst
    cases e
    refine .inl ⟨vs, .inl r, ?_⟩
    have := f.length
    cases vs <;> cases xs <;> simp_all
  | tuple xs =>
    obtain ⟨a, vs, rfl, r, f⟩ := h.tup
    cases e
    refine .inr (.inl ⟨vs, r, ?_⟩)
    have := f.length
    cases vs <;> cases xs <;> simp_all
  | dict kvs => cases e
/-- the end of a test by a value's truth -/
theorem tru_read {σ : St} {H0 H1 : Hp} {S1 : Sl} {x : V} {vx : RV} (R1 : Rel X.K g σ H1 S1) (r1 : VRel X.K g σ H1 S1 x vx) {α β : Type} {vr : St → Hp → Hp → Sl → β → α → Prop} {Q : β → Hp → Prop} {f : Bool → Res α}
    (h : Wants X.K g W vr H0 σ S1 H1 (onO ((view S1 vx).bind truth) f) Q) : ∃ k, TruV X.K x H1 k ∧ Wants X.K g W vr H0 σ S1 H1 (f k) Q := by
  cases e1 : view S1 vx with
  | none => rw [e1] at h; exact h.elim
  | some dx =>
    cases e2 : truth dx with
    | none =>
      rw [e1] at h
      have h' : Wants X.K g W vr H0 σ S1 H1 (onO (truth dx) f) Q := h
      rw [e2] at h'
      exact h'.elim
    | some c =>
      rw [e1] at h
      have h' : Wants X.K g W vr H0 σ S1 H1 (onO (truth dx) f) Q := h
      rw [e2] at h'
      exact ⟨c, tru_td (r1.td R1 e1) e2, h'⟩
theorem dt_val (ha : DE X g W a Fa) (he : ∀ whole, isTrue a X.env whole = (do let v ← whole; standAt a.pos; holding [v] (truthy v)) := by intro _; rfl) : DT X g W a (tTru Fa) := by
  refine PT.imp (pt_truth ha he) ?_
  rintro σ H Q ⟨S, R, h⟩
  refine (Wants.step R h).mono fun x H1 ⟨vx, S1, A1, r1, h1⟩ => ?_
  obtain ⟨k, t, h2⟩ := tru_read A1.rel r1.1 h1
  exact ⟨k, t, h2 k H1 (.refl A1.rel) rfl⟩
/-- a test by a comparison -/
theorem dw_and1 {T : Tx} (h : DT X g W a T) : DW X g W (.BoolOp .And [a] pos) T := pw_and1 h
theorem dw_or1 {T : Tx} (h : DT X g W a T) : DW X g W (.BoolOp .Or [a] pos) T := pw_or1 h
/-- on with the second part at what the first has left -/
theorem rest_of {α β : Type} {vr : St → Hp → Hp → Sl → β → α → Prop} {F : Sl → Res α} {σ : St} {H0 H1 : Hp} {S1 : Sl} {Q : β → Hp → Prop} (R1 : Rel X.K g σ H1 S1) (m : ∀ b H' S' a, vr σ H1 H' S' b a → vr σ H0 H' S' b a) (h : Wants X.K g W vr H0 σ S1 H1 (F S1) Q) : tG X.K g W vr F σ H1 Q := by
  refine ⟨S1, R1, ?_⟩
  cases e : F S1 with
  | bad => rw [e] at h; exact h
  | exc x S2 => rw [e] at h; exact h
  | ok c S2 => rw [e] at h; exact fun b H' A r => h b H' A (m b H' S2 c r)
theorem vrE_mono {K : PySem.W.Frag} {g : Gh} {σ : St} {H0 H1 : Hp} (t : ∀ b, H1 b = none → H0 b = none) (v : V) (H' : Hp) (S' : Sl) (rv : RV) (h : vrE K g σ H1 H' S' v rv) : vrE K g σ H0 H' S' v rv := ⟨h.1, h.2.mono t⟩
theorem dw_and {b : Expr} {rest : List Expr} {T U : Tx} (ha : DT X g W a T) (hb : DW X g W (.BoolOp .And (b :: rest) pos) U) : DW X g W (.BoolOp .And (a :: b :: rest) pos) (tAnd T U) := by
  refine PW.imp (pw_and ha hb) ?_
  rintro σ H Q ⟨S, R, h⟩
  refine (Wants.step (vr := vrT) R h).mono fun c H1 ⟨c', S1, A1, r1, h1⟩ => ?_
  cases (show c = c' from r1)
  cases c with
  | true => exact rest_of A1.rel (fun _ _ _ _ h => h) h1
  | false => exact h1 false H1 (.refl A1.rel) rfl
theorem dw_or {b : Expr} {rest : List Expr} {T U : Tx} (ha : DT X g W a T) (hb : DW X g W (.BoolOp .Or (b :: rest) pos) U) : DW X g W (.BoolOp .Or (a :: b :: rest) pos) (tOr T U) := by
  refine PW.imp (pw_or ha hb) ?_
  rintro σ H Q ⟨S, R, h⟩
  refine (Wants.step (vr := vrT) R h).mono fun c H1 ⟨c', S1, A1, r1, h1⟩ => ?_
  cases (show c = c' from r1)
  cases c with
  | false => exact rest_of A1.rel (fun _ _ _ _ h => h) h1
  | true => exact h1 true H1 (.refl A1.rel) rfl
theorem dt_bool {T : Tx} {e : Expr} (h : DW X g W e T) : DT X g W e T := h.pt
theorem dt_not {T : Tx} (ha : DT X g W a T) : DT X g W (.UnaryOp .Not a pos) (tNot T) := by
  refine PT.imp (pt_not ha) ?_
  rintro σ H Q ⟨S, R, h⟩
  refine (Wants.step (vr := vrT) R h).mono fun c H1 ⟨c', S1, A1, r1, h1⟩ => ?_
  cases (show c = c' from r1)
  exact h1 (!c) H1 (.refl A1.rel) rfl

/-! ### and, or, not, if as values -/
theorem de_one {op} (h : DE X g W a Fa) : DE X g W (.BoolOp op [a] pos) Fa := pe_one h
theorem de_and {b : Expr} {rest : List Expr} {Fb : Ex} (ha : DE X g W a Fa) (hb : DE X g W (.BoolOp .And (b :: rest) pos) Fb) : DE X g W (.BoolOp .And (a :: b :: rest) pos) (eAnd Fa Fb) := by
  refine PE.imp (pe_andT ha hb) ?_
  rintro σ H Q ⟨S, R, h⟩
  refine (Wants.step R h).mono fun x H1 ⟨vx, S1, A1, r1, h1⟩ => ?_
  obtain ⟨k, t, h2⟩ := tru_read A1.rel r1.1 h1
  refine ⟨k, t, ?_⟩
  cases k with
  | true => exact rest_of A1.rel (vrE_mono A1.step.trk) h2
  | false => exact h2 x H1 (.refl A1.rel) r1
theorem de_or {b : Expr} {rest : List Expr} {Fb : Ex} (ha : DE X g W a Fa) (hb : DE X g W (.BoolOp .Or (b :: rest) pos) Fb) : DE X g W (.BoolOp .Or (a :: b :: rest) pos) (eOr Fa Fb) := by
  refine PE.imp (pe_orT ha hb) ?_
  rintro σ H Q ⟨S, R, h⟩
  refine (Wants.step R h).mono fun x H1 ⟨vx, S1, A1, r1, h1⟩ => ?_
  obtain ⟨k, t, h2⟩ := tru_read A1.rel r1.1 h1
  refine ⟨k, t, ?_⟩
  cases k with
  | false => exact rest_of A1.rel (vrE_mono A1.step.trk) h2
  | true => exact h2 x H1 (.refl A1.rel) r1
theorem de_not (ha : DE X g W a Fa) : DE X g W (.UnaryOp .Not a pos) (eNot Fa) := by
  refine PE.imp (pe_notT ha) ?_
  rintro σ H Q ⟨S, R, h⟩
  refine (Wants.step R h).mono fun x H1 ⟨vx, S1, A1, r1, h1⟩ => ?_
  obtain ⟨k, t, h2⟩ := tru_read A1.rel r1.1 h1
  exact ⟨k, t, h2 _ H1 (.refl A1.rel) ⟨.bl _, trivial⟩⟩
theorem de_if {c : Expr} {T : Tx} {b : Expr} {Fb : Ex} (hc : DT X g W c T) (ha : DE X g W a Fa) (hb : DE X g W b Fb) : DE X g W (.IfExp c a b pos) (eIf T Fa Fb) := by
  refine PE.imp (pe_ifExp hc ha hb) ?_
  rintro σ H Q ⟨S, R, h⟩
  refine (Wants.step (vr := vrT) R h).mono fun k H1 ⟨k', S1, A1, r1, h1⟩ => ?_
  cases (show k = k' from r1)
  cases k with
  | true => exact rest_of A1.rel (vrE_mono A1.step.trk) h1
  | false => exact rest_of A1.rel (vrE_mono A1.step.trk) h1

/-! ### a op b op' c -/
theorem chain_read {f f' : D → D → Option RV} {op op' : CmpOp} {b c : Expr} {Fb Fc : Ex} {σ : St} {H : Hp} {Q : VK} (h : rE X.K g W (eChain f f' Fa Fb Fc) σ H Q) :
    tChain (fun x y H Q => ∃ dx dy rv, TD X.K H x dx ∧ TD X.K H y dy ∧ f dx dy = some rv ∧ Yields X.K H rv Q) (fun x y H Q => ∃ dx dy rv, TD X.K H x dx ∧ TD X.K H y dy ∧ f' dx dy = some rv ∧ Yields X.K H rv Q) (rE X.K g W Fa) (rE X.K g W Fb) (rE X.K g W Fc) σ H Q := by
  obtain ⟨S, R, h⟩ := h
  refine (Wants.step R h).mono fun x H1 ⟨vx, S1, A1, r1, h1⟩ => (Wants.step A1.rel h1).mono fun y H2 ⟨vy, S2, A2, r2, h2⟩ => ?_
  have r1' := r1.1.mono A1.rel A2.step
  cases e1 : view S2 vx with
  | none => rw [e1] at h2; exact h2.elim
  | some dx =>
    cases e2 : view S2 vy with
    | none => rw [e1, e2] at h2; exact h2.elim
    | some dy =>
      cases e3 : f dx dy with
      | none => rw [e1, e2] at h2; simp only [Option.bind_some, e3, Option.bind_none] at h2; exact h2.elim
      | some rv =>
        rw [e1, e2] at h2
        simp only [Option.bind_some, e3] at h2
        refine ⟨dx, dy, rv, r1'.td A2.rel e1, r2.1.td A2.rel e2, e3, fun z H3 G rz => ?_⟩
        cases e4 : isBl rv with
        | none => rw [e4] at h2; exact h2.elim
        | some k =>
          rw [e4] at h2
          have h3 : Wants X.K g W (vrE X.K g) H σ S2 H2 (if k = true then (Fc S2).bind fun z S3 => give S3 ((view S3 vy).bind fun dy => (view S3 z).bind fun dz => f' dy dz) else .ok (.d (.bool false)) S2) Q := h2
          cases rv with
          | br i => exact rz.elim
          | fr o => cases e4
          | d y =>
            cases y with
            | bool b' =>
              cases e4
              cases (show FD X.K H3 z (.bool k) from rz)
              have A3 : After X.K g σ S2 H2 S2 H3 := After.grow A2.rel G
              refine ⟨k, rfl, ?_⟩
              cases k with
              | false =>
                rw [if_neg Bool.false_ne_true] at h3 ⊢
                exact h3 _ H3 A3 ⟨.bl _, trivial⟩
              | true =>
                rw [if_pos rfl] at h3 ⊢
                have h4 : Wants X.K g W (vrE X.K g) H σ S2 H3 ((Fc S2).bind fun z S3 => give S3 ((view S3 vy).bind fun dy => (view S3 z).bind fun dz => f' dy dz)) Q := by
                  revert h3
                  cases (Fc S2).bind (fun z S3 => give S3 ((view S3 vy).bind fun dy => (view S3 z).bind fun dz => f' dy dz)) with
                  | bad => exact fun h => h
                  | exc x S' => exact fun h cls d H' A => h cls d H' (A3.trans A)
                  | ok a S' => exact fun h b H' A => h b H' (A3.trans A)
                refine (Wants.step A3.rel h4).mono fun w H4 ⟨vw, S4, A4, r4, h5⟩ => ?_
                exact op_read A3.rel A4 (fun b e => A1.step.trk b (A2.step.trk b (A3.step.trk b (A4.step.trk b e)))) (r2.1.mono A2.rel A3.step) r4.1 h5
            | _ => cases e4
theorem de_chain {f f' : D → D → Option RV} {op op' : CmpOp} {b c : Expr} {Fb Fc : Ex} (ho : OpOk X (compareOp op) f) (ho' : OpOk X (compareOp op') f') (ha : DE X g W a Fa) (hb : DE X g W b Fb) (hc : DE X g W c Fc)
    (hm : lastMarks [op, op'] [b, c] = false := by with_unfolding_all rfl) : DE X g W (.Compare a [op, op'] [b, c] pos) (eChain f f' Fa Fb Fc) :=
  PE.imp (pe_chain ho ho' ha hb hc hm) fun _ _ _ h => chain_read (op := op) (op' := op') (b := b) (c := c) h
theorem bl_read {σ : St} {H : Hp} {Q : Bool → Hp → Prop} (h : rT X.K g W (tBl Fa) σ H Q) : tTest (rE X.K g W Fa) σ H Q := by
  obtain ⟨S, R, h⟩ := h
  refine (Wants.step R h).mono fun x H1 ⟨vx, S1, A1, r1, h1⟩ => ?_
  cases e : isBl vx with
  | none => rw [e] at h1; exact h1.elim
  | some k =>
    rw [e] at h1
    cases vx with
    | br i => cases e
    | fr o => cases e
    | d y =>
      cases y with
      | bool b' =>
        cases e
        cases (show FD X.K H1 x (.bool k) from r1.1)
        exact ⟨k, rfl, h1 k H1 (.refl A1.rel) rfl⟩
      | _ => cases e
theorem dt_cmp {f : D → D → Option RV} {op : CmpOp} {b : Expr} {Fb : Ex} (ho : OpOk X (compareOp op) f) (ha : DE X g W a Fa) (hb : DE X g W b Fb) (hm : behindInMarks op b = false := by rfl) : DT X g W (.Compare a [op] [b] pos) (tBl (eOp f Fa Fb)) := by
  refine PT.imp (pt_cmpR ho ha hb hm) fun σ H Q h => ?_
  have h' := bl_read h
  obtain ⟨S, R, h'⟩ := h'
  exact (Wants.step (vr := vrE X.K g) R h').mono fun x H1 ⟨vx, S1, A1, r1, h1⟩ => (Wants.step (vr := vrE X.K g) A1.rel h1).mono fun y H2 ⟨vy, S2, A2, r2, h2⟩ => op_read A1.rel A2 (fun b e => A1.step.trk b (A2.step.trk b e)) r1.1 r2.1 h2
theorem dt_chain {f f' : D → D → Option RV} {op op' : CmpOp} {b c : Expr} {Fb Fc : Ex} (ho : OpOk X (compareOp op) f) (ho' : OpOk X (compareOp op') f') (ha : DE X g W a Fa) (hb : DE X g W b Fb) (hc : DE X g W c Fc)
    (hm : lastMarks [op, op'] [b, c] = false := by with_unfolding_all rfl) : DT X g W (.Compare a [op, op'] [b, c] pos) (tBl (eChain f f' Fa Fb Fc)) := by
  refine PT.imp (pt_chain ho ho' ha hb hc hm) fun σ H Q h => ?_
  refine chain_read (op := op) (op' := op') (b := b) (c := c) (bl_read h)
end
end Fm

/-! FmD: statements, loops, comprehensions. -/
namespace Fm
open PySem L2

section
variable {K : PySem.W.Frag} {g : Gh} {W : WX} {σ σ1 : St} {S S1 : Sl} {H H1 : Hp} {E : L2.Ends}
/-! ### a slot is stored -/
/-- a store behind an expression that started at S0, H0 -/
theorem put_step {i : Nat} {v : V} {rv : RV} {σ0 : St} {S0 S' : Sl} {H0 : Hp} (st : Step σ0 S0 H0 σ S H) (R : Rel K g σ H S) (hf : g.fx i = false) (r : VRel K g σ H S v rv) (n : New H0 v rv) (e : put S i rv = some S') :
    Step σ0 S0 H0 (σ.set i (some v)) S' H ∧ Rel K g (σ.set i (some v)) H S' := by
  have core : ∀ x : SV, rv = x.rv → S' = S.set i (some x) → Step σ0 S0 H0 (σ.set i (some v)) S' H ∧ Rel K g (σ.set i (some v)) H S' := fun x ex es => by
    subst es
    refine ⟨⟨st.keep, st.trk, fun a l => ?_⟩, R.set hf (r.fits ex)⟩
    rcases l.set R.len with l | ⟨⟨o, eo⟩, ev⟩
    · exact st.sub a l
    · cases eo
      subst ex
      cases ev
      obtain ⟨b, eb, z⟩ := n
      cases eb
      exact .inr z
  cases rv with
  | d y => exact core (.d y) rfl (Option.some.inj e).symm
  | fr o => exact core (.live o) rfl (Option.some.inj e).symm
  | br j => cases e
end

section
variable {X : Cx} {g : Gh} {W : WX} {e : Expr} {F : Ex} {pos : Pos} {st : Stmt} {rest : List Stmt} {A B : Sx}
theorem db_nil : DB X g W [] sNext := by
  refine PSs.imp pss_nil ?_
  rintro E σ H ⟨S, R, h⟩
  exact h σ H (.refl _ _ _) R
theorem db_cons (h1 : DS X g W st A) (h2 : DB X g W rest B) : DB X g W (st :: rest) (sSeq A B) := by
  refine PSs.imp (pss_cons h1 h2) ?_
  rintro E σ H ⟨S, R, h⟩
  refine ⟨S, R, ?_⟩
  unfold sSeq at h
  cases q : A S with
  | nx S1 =>
    rw [q] at h
    exact fun σ' H' st R' => ⟨S1, R', h.rebase st⟩
  | bk S1 => rw [q] at h; exact h
  | ct S1 => rw [q] at h; exact h
  | rt v S1 => rw [q] at h; exact h
  | exc x S1 => rw [q] at h; exact h
  | bad => rw [q] at h; exact h
theorem db_one (h1 : DS X g W st A) : DB X g W [st] A := pss_one h1
theorem ds_bad : DS X g W st sBad := PS.imp ps_never fun _ _ _ ⟨_, _, h⟩ => h
theorem db_bad {sts : List Stmt} : DB X g W sts sBad := PSs.imp pss_never fun _ _ _ ⟨_, _, h⟩ => h
theorem ds_pass : DS X g W (.Pass pos) sNext := by
  refine PS.imp ps_pass ?_
  rintro E σ H ⟨S, R, h⟩
  exact h σ H (.refl _ _ _) R
def sBreak : Sx := fun S => .bk S
def sCont : Sx := fun S => .ct S
theorem ds_break : DS X g W (.Break pos) sBreak := by
  refine PS.imp ps_break ?_
  rintro E σ H ⟨S, R, h⟩
  exact h σ H (.refl _ _ _) R
theorem ds_cont : DS X g W (.Continue pos) sCont := by
  refine PS.imp ps_continue ?_
  rintro E σ H ⟨S, R, h⟩
  exact h σ H (.refl _ _ _) R
theorem ds_expr (he : DE X g W e F) (hs : swapsWith e none pos.line X.env = pure false := by rfl) : DS X g W (.Expr e pos) (sExpr F) := by
  refine PS.imp (ps_expr he hs) ?_
  rintro E σ H ⟨S, R, h⟩
  exact (Ends.at R h).mono fun x H1 ⟨vx, S1, A1, r1, h1⟩ => h1 σ H1 A1.step A1.rel
theorem ds_ret (he : DE X g W e F) : DS X g W (.Return (some e) pos) (sRet F) := by
  refine PS.imp (ps_ret he) ?_
  rintro E σ H ⟨S, R, h⟩
  exact (Ends.at R h).mono fun x H1 ⟨vx, S1, A1, r1, h1⟩ => h1 σ H1 x A1.step A1.rel r1.1
theorem ds_retN : DS X g W (.Return none pos) (sRet (eC .none)) := by
  refine PS.imp ps_retN ?_
  rintro E σ H ⟨S, R, h⟩
  exact h σ H .non (.refl _ _ _) R .non
theorem ds_if {c : Expr} {a b : List Stmt} {T : Tx} (hc : DT X g W c T) (ha : DB X g W a A) (hb : DB X g W b B) : DS X g W (.If c a b pos) (sIf T A B) := by
  refine PS.imp (ps_if hc ha hb) ?_
  rintro E σ H ⟨S, R, h⟩
  refine (Ends.step (vr := vrT) R h).mono fun k H1 ⟨k', S1, A1, r1, h1⟩ => ?_
  cases (show k = k' from r1)
  cases k with
  | true => exact ⟨S1, A1.rel, h1⟩
  | false => exact ⟨S1, A1.rel, h1⟩
/-- x = e -/
theorem set_end {i : Nat} {E : L2.Ends} {σ : St} {H H1 : Hp} {S S1 : Sl} {v : V} {rv : RV} (hf : g.fx i = false) (A1 : After X.K g σ S H S1 H1) (r : vrE X.K g σ H H1 S1 v rv) (h : Ends X.K g W E σ S H (ofO (put S1 i rv))) : E.nx (σ.set i (some v)) H1 := by
  cases q : put S1 i rv with
  | none => rw [q] at h; exact h.elim
  | some S' =>
    rw [q] at h
    obtain ⟨s', R'⟩ := put_step A1.step A1.rel hf r.1 r.2 q
    exact h _ _ s' R'
theorem ds_set (i : Nat) {x : Str} {pos' : Pos} (hf : g.fx i = false) (hN : X.N.Nodup) (he : DE X g W e F) (hi : X.N[i]? = some x := by rfl) (hx : Loc X.env.scope x := by first | exact Or.inl rfl | exact Or.inr rfl) (hs : swapsWith e (some (.Name x pos')) pos.line X.env = pure false := by rfl) (hfn : X.fn x = true ∨ X.env.scope.names.lookup x = some .local := by first | exact .inl rfl | exact .inr rfl) :
    DS X g W (.Assign [.Name x pos'] e pos) (sSet i F) := by
  refine PS.imp (ps_set hN hi hx he hs hfn) ?_
  rintro E σ H ⟨S, R, h⟩
  exact (Ends.at R h).mono fun v H1 ⟨rv, S1, A1, r1, h1⟩ => set_end hf A1 r1 h1

/-! ### targets that take data -/
theorem dg_name (i : Nat) {x : Str} (hf : g.fx i = false) (hN : X.N.Nodup) (hi : X.N[i]? = some x := by rfl) (hx : Loc X.env.scope x := by first | exact Or.inl rfl | exact Or.inr rfl) (hfn : X.fn x = true ∨ X.env.scope.names.lookup x = some .local := by first | exact .inl rfl | exact .inr rfl) :
    DG X g (.Name x pos) (gName i) := by
  refine ⟨fun pins s σ H v u Q I r h => (pg_name hN hi hx hfn).run pins s σ H v u Q I r ?_⟩
  obtain ⟨S, y, R, fd, S', e, h⟩ := h
  cases e
  have q := put_step (rv := .d y) (.refl σ S H) R hf fd trivial rfl
  exact h _ _ q.1 q.2
theorem dgs_nil : DGs X g [] [] := by
  refine ⟨fun pins s σ H vs us Q I r h => pgs_nil.run pins s σ H vs us Q I r ?_⟩
  obtain ⟨S, xs, R, fd, S', e, h⟩ := h
  cases fd with
  | cons _ _ => cases e
  | nil =>
    cases e
    exact ⟨rfl, h _ _ (.refl _ _ _) R⟩
theorem dgs_cons {t : Expr} {ts : List Expr} {G : Tg} {gs : List Tg} (h1 : DG X g t G) (h2 : DGs X g ts gs) (hs : (assignEach (t :: ts) X.env).map (·.2) = assign t X.env :: (assignEach ts X.env).map (·.2) := by rfl) : DGs X g (t :: ts) (G :: gs) := by
  refine ⟨fun pins s σ H vs us Q I r h => (pgs_cons h1 h2 hs).run pins s σ H vs us Q I r ?_⟩
  obtain ⟨S, xs, R, fd, S', e, h⟩ := h
  cases fd with
  | nil => cases e
  | cons f fs =>
    rename_i v vs' x xs'
    refine ⟨v, vs', rfl, S, x, R, f, ?_⟩
    have e' : (G x S).bind (gAll gs xs') = some S' := e
    cases q : G x S with
    | none => rw [q] at e'; cases e'
    | some S1 =>
      rw [q] at e'
      exact ⟨S1, rfl, fun σ1 H1 st R1 => ⟨S1, xs', R1, fs.mono (R.keeps st), S', e', fun σ2 H2 st2 R2 => h σ2 H2 (st.trans st2) R2⟩⟩
theorem gAll_len : ∀ {gs : List Tg} {xs : List D} {S S' : Sl}, gAll gs xs S = some S' → xs.length = gs.length
  | [], [], _, _, _ => rfl
  | [], _ :: _, _, _, e => by cases e
  | _ :: _, [], _, _, e => by cases e
  | G :: gs, x :: xs, S, S', e => by
    have e' : (G x S).bind (gAll gs xs) = some S' := e
    cases q : G x S with
    | none => rw [q] at e'; cases e'
    | some S1 =>
      rw [q] at e'
      rw [List.length_cons, List.length_cons, gAll_len e']
theorem dg_tup {ts : List Expr} {gs : List Tg} {k : Nat} (hc : X.calm = true) (h : DGs X g ts gs) (hn : (assignEach ts X.env).length = gs.length := by rfl) (hst : (assignEach ts X.env).findIdx? (·.1) = none := by rfl) : DG X g (.Tuple ts k pos) (gTup gs) := by
  refine ⟨fun pins s σ H v u Q I r hq => (pg_tup hc h hn hst).run pins s σ H v u Q I r ?_⟩
  obtain ⟨S, x, R, fd, S', e, hq⟩ := hq
  cases x with
  | tuple xs =>
    cases fd with
    | tup sq f => exact ⟨_, _, rfl, sq.1, by rw [f.length, gAll_len e], S, xs, R, f, S', e, hq⟩
  | _ => cases e
theorem ixD_eq : ixD = ixN := rfl
/-- the object of slot k is changed -/
theorem live_set {K : PySem.W.Frag} {σ : St} {S : Sl} {H : Hp} {k : Nat} {c : Addr} {o o' : Ob} {u : HO} (R : Rel K g σ H S) (e : at? S k = some (.live o)) (q : σ[k]? = some (some (.ref c))) (m : Mut (some u)) (ob : ObAt K (upd H c u) c o') :
    After K g σ S H (S.set k (some (.live o'))) (upd H c u) := by
  have hk := at_lt e
  have lc : Live σ S c := ⟨k, o, e, q⟩
  obtain ⟨u0, hu0, m0⟩ := R.live lc
  have oth : ∀ b, b ≠ c → upd H c u b = H b := fun b hb => upd_ne hb
  have ks : Keeps H (upd H c u) := ⟨fun b xs h => by rw [oth b fun z => by rw [z, hu0] at h; cases h; exact m0]; exact h, fun b ob xs h => by rw [oth b fun z => by rw [z, hu0] at h; cases h; exact m0]; exact h, fun b xs h => by rw [oth b fun z => by rw [z, hu0] at h; cases h; exact m0]; exact h⟩
  have lv : ∀ {j : Nat} {w : Ob}, at? (S.set k (some (.live o'))) j = some (.live w) → ∃ w', at? S j = some (.live w') := fun {j w} h => by
    rcases at_set h with ⟨rfl, _⟩ | ⟨h, _⟩
    · exact ⟨o, e⟩
    · exact ⟨w, h⟩
  refine ⟨⟨fun b ob h l => ?_, fun b h => ?_, fun b l => ?_⟩, ⟨by rw [List.length_set]; exact R.len, fun j w h => ?_, fun j j' b w w' h h' => ?_, fun j w b h => ?_, R.par, fun b h => ?_, g.mono _ _ ks R.inv⟩⟩
  · rw [oth b fun z => l (z ▸ lc)]; exact h
  · by_cases hb : b = c
    · rw [hb, upd_same] at h; cases h
    · rw [oth b hb] at h; exact h
  · obtain ⟨j, w, h, hq⟩ := l
    obtain ⟨w', h'⟩ := lv h
    exact .inl ⟨j, w', h', hq⟩
  · rcases at_set h with ⟨rfl, h'⟩ | ⟨h', hj⟩
    · cases h'
      exact ⟨_, q, c, rfl, ob⟩
    · obtain ⟨v, h1, h2⟩ := R.rel j w h'
      refine ⟨v, h1, ?_⟩
      cases w with
      | d y => exact FD.mono ks h2
      | live w' =>
        obtain ⟨b, rfl, ob'⟩ := h2
        refine ⟨b, rfl, ob'.mono ks fun u' hu' => ?_⟩
        have hkj : k ≠ j := by
          rcases hj with hj | hj
          · exact hj
          · omega
        rw [oth b fun z => hkj (R.inj k j b _ _ e h' (z ▸ q) h1)]
        exact hu'
  · obtain ⟨_, h1⟩ := lv h
    obtain ⟨_, h2⟩ := lv h'
    exact R.inj j j' b _ _ h1 h2
  · obtain ⟨_, h1⟩ := lv h
    exact R.fresh j _ b h1
  · by_cases hb : b = c
    · rw [hb, upd_same] at h; cases h
    · rw [oth b hb] at h; exact R.trk b h
theorem FKs.keyed {K : PySem.W.Frag} {H : Hp} {vs : List (L2.Key × V)} {ds : List (D × D)} (f : FKs K H vs ds) {k : L2.Key} {key : D} (e : kyOf key = some k) : (vs.any fun kv => decide (kv.1 = k)) = ds.any fun p => decide (kyOf p.1 = kyOf key) := by
  induction vs generalizing ds with
  | nil => cases f; rfl
  | cons v vs ih =>
    cases f with
    | cons e1 h f =>
      rw [List.any_cons, List.any_cons, ih f, e1, e]
      simp
theorem FKs.repl {K : PySem.W.Frag} {H : Hp} {vs : List (L2.Key × V)} {ds : List (D × D)} (f : FKs K H vs ds) {k : L2.Key} {key x : D} {v : V} (e : kyOf key = some k) (h : FD K H v x) :
    FKs K H (vs.map fun kv => if kv.1 = k then (kv.1, v) else kv) (ds.map fun p => if kyOf p.1 = kyOf key then (p.1, x) else p) := by
  induction vs generalizing ds with
  | nil => cases f; exact .nil
  | cons w vs ih =>
    cases f with
    | cons e1 h1 f =>
      rename_i k1 d1 v1 x1 ds1
      rw [List.map_cons, List.map_cons]
      by_cases hk : k1 = k
      · subst hk
        rw [if_pos rfl, if_pos (e1.trans e.symm)]
        exact .cons e1 h (ih f)
      · rw [if_neg hk, if_neg (fun z => hk (by rw [e1, e] at z; exact Option.some.inj z))]
        exact .cons e1 h1 (ih f)
theorem FKs.put {K : PySem.W.Frag} {H : Hp} {vs : List (L2.Key × V)} {ds : List (D × D)} (f : FKs K H vs ds) {k : L2.Key} {key x : D} {v : V} (e : kyOf key = some k) (h : FD K H v x) : FKs K H (putK vs k v) (dPut ds key x) := by
  unfold putK dPut
  rw [← f.keyed e]
  split
  · exact f.repl e h
  · exact f.snoc e h
theorem ky_fd {K : PySem.W.Frag} {H : Hp} {v : V} {d : D} {k : L2.Key} (h : FD K H v d) (e : kyOf d = some k) : v = kV k := by
  cases h <;> cases e <;> rfl
def rSetB : TSet := fun o i v H Q => rSetL o i v H Q ∨ rSetD o i v H Q
theorem set_both {X : Cx} (hu : X.A.units + 1 < cLine) : PSet X rSetB := by
  intro pins s σ H o i v ov iv u Q I ro ri rv h
  rcases h with h | h
  · exact set_list pins s σ H o i v ov iv u Q I ro ri rv h
  · exact set_dict hu pins s σ H o i v ov iv u Q I ro ri rv h
theorem nums_fds {K : PySem.W.Frag} {H : Hp} : ∀ {xs : List D} {is : List Int} {vs : List V}, numsD xs = some is → FDs K H vs xs → vs = (is.map Sum.inl : List L2.Key).map kV ∧ xs.all isNum = true
  | [], is, _, h, .nil => by cases h; exact ⟨rfl, rfl⟩
  | x :: xs, is, _, h, .cons f fs => by
    cases x with
    | int j =>
      have h : (numsD xs).map (fun is => j :: is) = some is := h
      cases q : numsD xs with
      | none => rw [q] at h; cases h
      | some js =>
        rw [q] at h
        cases h
        cases f
        obtain ⟨h1, h2⟩ := nums_fds q fs
        exact ⟨by rw [h1]; rfl, by rw [List.all_cons, h2]; rfl⟩
    | _ => cases h
theorem keyL_fds {K : PySem.W.Frag} {H : Hp} {xs : List D} {q : List Ky} {vs : List V} (e : keyL xs = some q) (f : FDs K H vs xs) : vs = (q : List L2.Key).map kV ∧ isKyL xs = true := by
  by_cases h2 : ∃ a b, xs = [.str a, .str b]
  · obtain ⟨a, b, rfl⟩ := h2
    cases e
    match vs, f with
    | [_, _], .cons (.str _) (.cons (.str _) .nil) => exact ⟨rfl, rfl⟩
  · have e1 : keyL xs = (numsD xs).map fun is => is.map Sum.inl := by
      unfold keyL
      split
      · exact absurd ⟨_, _, rfl⟩ h2
      · rfl
    have e2 : isKyL xs = xs.all isNum := by
      unfold isKyL
      split
      · exact absurd ⟨_, _, rfl⟩ h2
      · rfl
    rw [e1] at e
    cases hn : numsD xs with
    | none => rw [hn] at e; cases e
    | some is =>
      rw [hn] at e
      cases e
      obtain ⟨h1, h2⟩ := nums_fds hn f
      exact ⟨h1, by rw [e2]; exact h2⟩
theorem key_fd {K : PySem.W.Frag} {H : Hp} {v : V} {d : D} {q : List Ky} (h : FD K H v d) (e : keyT d = some q) : ∃ b, v = .ref b ∧ H b = some (.tup ((q : List L2.Key).map kV)) := by
  cases h with
  | tup t f =>
    obtain ⟨h1, h2⟩ := keyL_fds e f
    exact ⟨_, rfl, by rw [← h1]; exact t.2 h2⟩
  | _ => cases e
theorem FTs.repl {K : PySem.W.Frag} {H : Hp} {q : List Ky} {v : V} {x : D} (h : FD K H v x) : ∀ {kvs : List (List L2.Key × V)} {ds : List (List Ky × D)}, FTs K H kvs ds → FTs K H (kvs.map fun kv => if kv.1 = q then (kv.1, v) else kv) (ds.map fun p => if p.1 = q then (p.1, x) else p)
  | _, _, .nil => .nil
  | k :: kvs, d :: ds, .cons h1 t => by
    rw [List.map_cons, List.map_cons]
    refine .cons ?_ (FTs.repl h t)
    by_cases e : d.1 = q
    · rw [if_pos e, if_pos (by rw [h1.1, e])]
      exact ⟨h1.1, h⟩
    · rw [if_neg e, if_neg (by rw [h1.1]; exact e)]
      exact h1
theorem FTs.put {K : PySem.W.Frag} {H : Hp} {kvs : List (List L2.Key × V)} {ds : List (List Ky × D)} (f : FTs K H kvs ds) {q : List Ky} {v : V} {x : D} (h : FD K H v x) : FTs K H (putK kvs (q) v) (tPut ds q x) := by
  unfold putK tPut
  rw [f.any q]
  split
  · exact FTs.repl h f
  · exact FTs.snoc h f
theorem setOb_ok {K : PySem.W.Frag} {H : Hp} {c : Addr} {o o' : Ob} {key x : D} {iv v : V} (ob : ObAt K H c o) (fk : FD K H iv key) (fx : FD K H v x) (e : setOb key x o = some o') :
    ∃ u, Mut (some u) ∧ ObAt K (upd H c u) c o' ∧ ∀ Q : Hp → Prop, Q (upd H c u) → rSetB (.ref c) iv v H Q := by
  cases o with
  | lst xs =>
    obtain ⟨vs, hvs, fs⟩ := ob
    cases key with
    | int j =>
      have e : (ixD xs.length j).map (fun n => Ob.lst (xs.set n x)) = some o' := e
      cases q4 : ixD xs.length j with
      | none => rw [q4] at e; cases e
      | some n =>
        rw [q4] at e
        cases e
        cases fk
        have ks : Keeps H (upd H c (.lst (vs.set n v))) := ⟨fun b ys h => by rw [upd_ne fun z => by rw [z, hvs] at h; cases h]; exact h, fun b ob ys h => by rw [upd_ne fun z => by rw [z, hvs] at h; cases h]; exact h, fun b ys h => by rw [upd_ne fun z => by rw [z, hvs] at h; cases h]; exact h⟩
        refine ⟨.lst (vs.set n v), trivial, ⟨_, upd_same, (FDs.set fx n fs).mono ks⟩, fun Q q => .inl ⟨c, vs, j, n, rfl, rfl, hvs, ?_, q⟩⟩
        rw [fs.length]
        exact q4
    | _ => cases e
  | dct ds =>
    obtain ⟨vs, hvs, fs⟩ := ob
    have e : (if (kyOf key).isSome = true ∧ ds.length < sizeLine then some (Ob.dct (dPut ds key x)) else none) = some o' := e
    by_cases hc : (kyOf key).isSome = true ∧ ds.length < sizeLine
    · rw [if_pos hc] at e
      cases e
      obtain ⟨k, hk⟩ := Option.isSome_iff_exists.mp hc.1
      have ek := ky_fd fk hk
      subst ek
      have ks : Keeps H (upd H c (.dK (putK vs k v))) := ⟨fun b ys h => by rw [upd_ne fun z => by rw [z, hvs] at h; cases h]; exact h, fun b ob ys h => by rw [upd_ne fun z => by rw [z, hvs] at h; cases h]; exact h, fun b ys h => by rw [upd_ne fun z => by rw [z, hvs] at h; cases h]; exact h⟩
      exact ⟨.dK (putK vs k v), trivial, ⟨_, upd_same, (fs.put hk fx).mono ks⟩, fun Q q => .inr ⟨c, _, rfl, DPut.k hvs (by rw [fs.length]; exact hc.2), q⟩⟩
    · rw [if_neg hc] at e
      cases e
  | ins c fs => cases e
  | dtt ds =>
    obtain ⟨kvs, hvs, fs⟩ := ob
    have e : (match keyT key with | some q => if ds.length < sizeLine then some (Ob.dtt (tPut ds q x)) else none | none => none) = some o' := e
    cases hq : keyT key with
    | none => rw [hq] at e; cases e
    | some q =>
      rw [hq] at e
      have e : (if ds.length < sizeLine then some (Ob.dtt (tPut ds q x)) else none) = some o' := e
      by_cases hc : ds.length < sizeLine
      · rw [if_pos hc] at e
        cases e
        obtain ⟨b, rfl, hb⟩ := key_fd fk hq
        have hcb : c ≠ b := fun z => by rw [← z, hvs] at hb; cases hb
        have ks : Keeps H (upd H c (.dT (putK kvs (q) v))) := ⟨fun b ys h => by rw [upd_ne fun z => by rw [z, hvs] at h; cases h]; exact h, fun b ob ys h => by rw [upd_ne fun z => by rw [z, hvs] at h; cases h]; exact h, fun b ys h => by rw [upd_ne fun z => by rw [z, hvs] at h; cases h]; exact h⟩
        exact ⟨.dT (putK kvs (q) v), trivial, ⟨_, upd_same, (fs.put fx).mono ks⟩, fun Q q' => .inr ⟨c, _, rfl, DPut.t hvs hb (by rw [fs.length]; exact hc), q'⟩⟩
      · rw [if_neg hc] at e
        cases e
theorem dg_sub {o i : Expr} {Fo Fi : Ex} (hu : X.A.units + 1 < cLine) (ho : DE X g W o Fo) (hi : DE X g W i Fi)
    (ha : ∀ v, assign (.Subscript o i pos) X.env v = (do
      let ov ← holding [v] (eval o X.env)
      let iv ← holding [v, ov] (eval i X.env)
      standAt pos
      holding [v, ov, iv] (setItem ov iv v)
      release [v, ov, iv] []) := by intro _; rfl) : DG X g (.Subscript o i pos) (gSub Fo Fi) := by
  refine ⟨fun pins s σ H v u Q I r h => (pg_sub ho hi (set_both hu) ha).run pins s σ H v u Q I r ?_⟩
  obtain ⟨S, x, R, fd, S', e, h⟩ := h
  unfold gSub at e
  cases q1 : Fo S with
  | bad => rw [q1] at e; cases e
  | exc _ _ => rw [q1] at e; cases e
  | ok rv S1 =>
    rw [q1] at e
    cases rv with
    | d y => cases e
    | fr o => cases e
    | br k =>
      have e : (match Fi S1 with | .ok (.d key) S2 => setAt S2 k key x | _ => none) = some S' := e
      cases q2 : Fi S1 with
      | bad => rw [q2] at e; cases e
      | exc _ _ => rw [q2] at e; cases e
      | ok ri S2 =>
        rw [q2] at e
        cases ri with
        | br _ => cases e
        | fr _ => cases e
        | d key =>
          have e : setAt S2 k key x = some S' := e
          refine ⟨S, R, ?_⟩
          rw [q1]
          intro ov H1 A1 r1
          refine ⟨S1, A1.rel, ?_⟩
          rw [q2]
          intro iv H2 A2 r2
          unfold setAt at e
          cases q3 : at? S2 k with
          | none => rw [q3] at e; cases e
          | some w =>
            rw [q3] at e
            cases w with
            | d _ => cases e
            | live w =>
              have e : (setOb key x w).map (fun o' => S2.set k (some (.live o'))) = some S' := e
              cases q4 : setOb key x w with
              | none => rw [q4] at e; cases e
              | some o' =>
                rw [q4] at e
                cases e
                obtain ⟨c, hc, ob⟩ := A2.rel.rel k _ q3
                have ov' : σ[k]? = some (some ov) := r1.1
                rw [ov'] at hc
                cases hc
                obtain ⟨c, rfl, ob⟩ := ob
                have fd2 : FD X.K H2 v x := FD.mono ((R.keeps A1.step).trans (A1.rel.keeps A2.step)) fd
                obtain ⟨u, mu, ob', fin⟩ := setOb_ok ob r2.1 fd2 q4
                have AA := live_set A2.rel q3 ov' mu ob'
                exact fin _ (h _ _ ((A1.step.trans A2.step).trans AA.step) AA.rel)
/-- target = e, e frozen -/
theorem ds_asg {tg : Expr} {G : Tg} {Dv : Dx} (he : DD X g W e Dv) (hg : DG X g tg G) (hs : swapsWithSole [tg] e pos.line X.env = pure false := by rfl) (hw : swappedStores [tg] e X.env = pure none := by rfl)
    (h1 : (assignEach [tg] X.env).map (·.2) = [assign tg X.env] := by rfl) : DS X g W (.Assign [tg] e pos) (sAsg G Dv) := by
  refine PS.imp (ps_asg he hg hs hw h1) ?_
  rintro E σ H ⟨S, R, h⟩
  refine (Ends.step (vr := vrD X.K) R h).mono fun v H1 ⟨x, S1, A1, r1, h2⟩ => ?_
  cases q : G x S1 with
  | none => rw [q] at h2; exact h2.elim
  | some S' =>
    rw [q] at h2
    exact ⟨S1, x, A1.rel, r1, S', q, h2⟩

/-! ### a, b = x, y -/
/-- a value in flight but for the slots -/
def PV (K : PySem.W.Frag) (g : Gh) (H0 H : Hp) (v : V) (rv : RV) : Prop := New H0 v rv ∧ match rv with
  | .d x => FD K H v x
  | .fr o => ∃ a, v = .ref a ∧ ObAt K H a o ∧ g.H0 a = none
  | .br _ => True
theorem pv_of {K : PySem.W.Frag} {σ : St} {S : Sl} {H0 H : Hp} : ∀ {vs : List V} {rvs : List RV}, Paired (fun v rv => VRel K g σ H S v rv ∧ New H0 v rv) vs rvs → Paired (PV K g H0 H) vs rvs ∧ ∀ c ∈ frL vs rvs, ¬ Live σ S c
  | _, _, .nil => ⟨.nil, fun _ h => nomatch h⟩
  | v :: vs, r :: rs, .cons h t => by
    obtain ⟨t1, t2⟩ := pv_of t
    refine ⟨.cons ⟨h.2, ?_⟩ t1, fun c hm => ?_⟩
    · cases r with
      | d x => exact h.1
      | br i => exact trivial
      | fr o =>
        obtain ⟨a, e, ob, _, z⟩ := h.1
        exact ⟨a, e, ob, z⟩
    · rcases List.mem_append.mp (show c ∈ frA v r ++ frL vs rs from hm) with hm | hm
      · cases r with
        | d y => cases v <;> cases hm
        | br i => cases v <;> cases hm
        | fr o =>
          obtain ⟨a, rfl, _, nl, _⟩ := h.1
          have : c = a := by simpa [frA] using hm
          rw [this]
          exact nl
      · exact t2 c hm
def setsV (is : List Nat) (vs : List V) (σ : St) : St := match is, vs with
  | i :: is, v :: vs => setsV is vs (σ.set i (some v))
  | _, _ => σ
theorem putAll_step {K : PySem.W.Frag} : ∀ {is : List Nat} {rvs : List RV} {vs : List V} {σ0 σ : St} {S0 S S' : Sl} {H0 H : Hp}, Step σ0 S0 H0 σ S H → Rel K g σ H S → (∀ i ∈ is, g.fx i = false) →
    Paired (PV K g H0 H) vs rvs → (∀ c ∈ frL vs rvs, ¬ Live σ S c) → (frL vs rvs).Nodup → putAll is rvs S = some S' → Step σ0 S0 H0 (setsV is vs σ) S' H ∧ Rel K g (setsV is vs σ) H S'
  | [], [], [], σ0, σ, S0, S, S', H0, H, st, R, _, _, _, _, e => by
    cases e
    exact ⟨st, R⟩
  | i :: is, r :: rs, v :: vs, σ0, σ, S0, S, S', H0, H, st, R, hf, .cons h t, nl, nd, e => by
    have e' : (put S i r).bind (putAll is rs) = some S' := e
    cases q : put S i r with
    | none => rw [q] at e'; cases e'
    | some S1 =>
      rw [q] at e'
      have nd' : (frA v r ++ frL vs rs).Nodup := nd
      have vr : VRel K g σ H S v r := by
        cases r with
        | d x => exact h.2
        | br j => cases q
        | fr o =>
          obtain ⟨a, rfl, ob, z⟩ := h.2
          exact ⟨a, rfl, ob, nl a (List.mem_append_left _ (List.mem_singleton_self a)), z⟩
      obtain ⟨st1, R1⟩ := put_step st R (hf i List.mem_cons_self) vr h.1 q
      show Step σ0 S0 H0 (setsV is vs (σ.set i (some v))) S' H ∧ Rel K g (setsV is vs (σ.set i (some v))) H S'
      refine putAll_step st1 R1 (fun j hj => hf j (List.mem_cons_of_mem _ hj)) t (fun c hc l => ?_) (List.nodup_append.mp nd').2.1 e'
      have nc : ¬ Live σ S c := nl c (List.mem_append_right _ hc)
      have key : ∀ x : SV, S1 = S.set i (some x) → r = x.rv → False := fun x es er => by
        subst es
        rcases l.set R.len with l | ⟨⟨o, eo⟩, ev⟩
        · exact nc l
        · cases eo
          subst er
          cases ev
          exact (List.nodup_append.mp nd').2.2 c (List.mem_singleton_self c) c hc rfl
      cases r with
      | d x => exact key (.d x) (Option.some.inj q).symm rfl
      | fr o => exact key (.live o) (Option.some.inj q).symm rfl
      | br j => cases q
  | [], [], _ :: _, _, _, _, _, _, _, _, _, _, _, h, _, _, _ => nomatch h
  | [], _ :: _, _, _, _, _, _, _, _, _, _, _, _, _, _, _, e => by cases e
  | _ :: _, [], _, _, _, _, _, _, _, _, _, _, _, _, _, _, e => by cases e
  | _ :: _, _ :: _, [], _, _, _, _, _, _, _, _, _, _, h, _, _, _ => nomatch h
theorem par_end {is : List Nat} {E : L2.Ends} {σ : St} {H H1 : Hp} {S S1 : Sl} {vs : List V} {rvs : List RV} (hf : ∀ i ∈ is, g.fx i = false) (A1 : After X.K g σ S H S1 H1) (r : vrA X.K g σ H H1 S1 vs rvs) (h : Ends X.K g W E σ S H (ofO (putAll is rvs S1))) :
    vs.length = is.length ∧ E.nx (setsV is vs σ) H1 := by
  cases q : putAll is rvs S1 with
  | none => rw [q] at h; exact h.elim
  | some S' =>
    rw [q] at h
    obtain ⟨p1, p2⟩ := pv_of r.1
    obtain ⟨s', R'⟩ := putAll_step A1.step A1.rel hf p1 p2 r.2 q
    refine ⟨?_, h _ _ s' R'⟩
    have l1 : vs.length = rvs.length := Paired.length r.1
    have l2 : ∀ {is : List Nat} {rvs : List RV} {S S' : Sl}, putAll is rvs S = some S' → rvs.length = is.length := by
      intro is
      induction is with
      | nil => intro rvs S S' e; cases rvs with | nil => rfl | cons _ _ => cases e
      | cons i is ih =>
        intro rvs S S' e
        cases rvs with
        | nil => cases e
        | cons r rs =>
          have e' : (put S i r).bind (putAll is rs) = some S' := e
          cases q : put S i r with
          | none => rw [q] at e'; cases e'
          | some S1 =>
            rw [q] at e'
            rw [List.length_cons, List.length_cons, ih e']
    rw [l1, l2 q]
/-- a, b = x, y with plain local names -/
theorem ds_par (i j : Nat) {x y : Str} {a b : Expr} {Fa : Ax} {px py pt : Pos} {kt k2 pt2} (hf : ∀ k ∈ [i, j], g.fx k = false) (hc : X.calm = true) (hN : X.N.Nodup) (ha : DA X g W [a, b] Fa)
    (hw : swappedStores [.Tuple [.Name x px, .Name y py] kt pt] (.Tuple [a, b] k2 pt2) X.env = pure (some [x, y]) := by rfl) (hi : X.N[i]? = some x := by rfl) (hj : X.N[j]? = some y := by rfl) (hij : i ≠ j := by decide)
    (hx : X.env.scope.names.lookup x = some .local := by rfl) (hy : X.env.scope.names.lookup y = some .local := by rfl)
    (hs : swapsWithSole [.Tuple [.Name x px, .Name y py] kt pt] (.Tuple [a, b] k2 pt2) pos.line X.env = pure false := by rfl) :
    DS X g W (.Assign [.Tuple [.Name x px, .Name y py] kt pt] (.Tuple [a, b] k2 pt2) pos) (sPar [i, j] Fa) := by
  refine PS.imp (ps_par hc hN hi hj hij hx hy ha hw hs) ?_
  rintro E σ H ⟨S, R, h⟩
  refine (Ends.at (vr := vrA X.K g) R h).mono fun vs H1 ⟨rvs, S1, A1, r1, h1⟩ => ?_
  obtain ⟨l, e⟩ := par_end hf A1 r1 h1
  match vs, l with
  | [v, w], _ => exact ⟨v, w, rfl, e⟩
theorem ds_par3 (i j l : Nat) {x y z : Str} {a b c : Expr} {Fa : Ax} {px py pz pt : Pos} {kt k2 pt2} (hf : ∀ k ∈ [i, j, l], g.fx k = false) (hc : X.calm = true) (hN : X.N.Nodup) (ha : DA X g W [a, b, c] Fa)
    (hw : swappedStores [.Tuple [.Name x px, .Name y py, .Name z pz] kt pt] (.Tuple [a, b, c] k2 pt2) X.env = pure (some [x, y, z]) := by rfl) (hi : X.N[i]? = some x := by rfl) (hj : X.N[j]? = some y := by rfl) (hl : X.N[l]? = some z := by rfl)
    (hij : i ≠ j := by decide) (hil : i ≠ l := by decide) (hjl : j ≠ l := by decide)
    (hx : X.env.scope.names.lookup x = some .local := by rfl) (hy : X.env.scope.names.lookup y = some .local := by rfl) (hz : X.env.scope.names.lookup z = some .local := by rfl)
    (hs : swapsWithSole [.Tuple [.Name x px, .Name y py, .Name z pz] kt pt] (.Tuple [a, b, c] k2 pt2) pos.line X.env = pure false := by rfl) :
    DS X g W (.Assign [.Tuple [.Name x px, .Name y py, .Name z pz] kt pt] (.Tuple [a, b, c] k2 pt2) pos) (sPar [i, j, l] Fa) := by
  refine PS.imp (ps_par3 hc hN hi hj hl hij hil hjl hx hy hz ha hw hs) ?_
  rintro E σ H ⟨S, R, h⟩
  refine (Ends.at (vr := vrA X.K g) R h).mono fun vs H1 ⟨rvs, S1, A1, r1, h1⟩ => ?_
  obtain ⟨l, e⟩ := par_end hf A1 r1 h1
  match vs, l with
  | [u, v, w], _ => exact ⟨u, v, w, rfl, e⟩
/-- the same by a tuple that is laid and taken apart (some name is captured); the names' targets as they stand -/
theorem ds_parT {is : List Nat} {es ts : List Expr} {Fa : Ax} {kt k2 : Nat} {pt pt2 : Pos} {tg : TGs} (hf : ∀ k ∈ is, g.fx k = false) (hc : X.calm = true) (ha : DA X g W es Fa) (hg : PGs X ts tg) (hset : ∀ vs σ H Q, vs.length = is.length → Q (setsV is vs σ) H → tg vs σ H Q) (hn : (assignEach ts X.env).length = is.length := by rfl)
    (hsz : is.length ≤ sizeLine := by decide) (hst : (assignEach ts X.env).findIdx? (·.1) = none := by rfl) (hs : swapsWithSole [.Tuple ts kt pt] (.Tuple es k2 pt2) pos.line X.env = pure false := by rfl) (hw : swappedStores [.Tuple ts kt pt] (.Tuple es k2 pt2) X.env = pure none := by rfl)
    (h1 : (assignEach [.Tuple ts kt pt] X.env).map (·.2) = [assign (.Tuple ts kt pt) X.env] := by rfl) :
    DS X g W (.Assign [.Tuple ts kt pt] (.Tuple es k2 pt2) pos) (sPar is Fa) := by
  refine PS.imp (ps_asg (pe_tup ha) (pg_tup hc hg hn hst) hs hw h1) ?_
  rintro E σ H ⟨S, R, h⟩
  refine (Ends.at (vr := vrA X.K g) R h).mono fun vs H1 ⟨rvs, S1, A1, r1, h1⟩ => ?_
  cases q : putAll is rvs S1 with
  | none => rw [q] at h1; exact h1.elim
  | some S' =>
    have h1' := h1
    rw [q] at h1'
    obtain ⟨l, _⟩ := par_end hf A1 r1 h1
    refine ⟨by rw [l]; exact hsz, fun p hp => ⟨p, vs, rfl, .inl (.inl upd_same), l, ?_⟩⟩
    refine hset vs σ _ _ l ?_
    -- the tuple itself is beside
    have G := Grow.new (o := .tup vs) hp
    obtain ⟨p1, p2⟩ := pv_of r1.1
    have p1' : Paired (PV X.K g H (upd H1 p (.tup vs))) vs rvs := by
      have : ∀ {ws : List V} {qs : List RV}, Paired (PV X.K g H H1) ws qs → Paired (PV X.K g H (upd H1 p (.tup vs))) ws qs := by
        intro ws
        induction ws with
        | nil => intro qs h; cases h; exact .nil
        | cons w ws ih =>
          intro qs h
          cases h with
          | cons h t =>
            rename_i r rs
            refine .cons ⟨h.1, ?_⟩ (ih t)
            cases r with
            | d x => exact FD.mono G.keeps h.2
            | br i => exact trivial
            | fr o =>
              obtain ⟨a, e, ob, z⟩ := h.2
              exact ⟨a, e, ob.mono G.keeps fun u q => G a u q, z⟩
      exact this p1
    obtain ⟨s', R'⟩ := putAll_step (A1.step.trans (After.grow A1.rel G).step) (A1.rel.grow G) hf p1' p2 r1.2 q
    exact h1' _ _ s' R'

/-! ### for, while -/
theorem drop_cons {α : Type} {xs : List α} {i : Nat} (h : i < xs.length) : xs.drop i = xs[i] :: xs.drop (i + 1) := by
  rw [List.drop_eq_getElem_cons h]
theorem ds_for {tg iter : Expr} {body : List Stmt} {Fw : Wx} {G : Tg} {B : Sx} (hp : PassesOwn (model X.prog X.w) X.A X.env X.xe) (hc : X.calm = true) (hi : DI X g W tg iter Fw) (hg : DG X g tg G) (hb : DB X g W body B)
    (hs : ∀ x, foldedSetIterable iter X.env x = pure x := by intro _; rfl) : DS X g W (.For tg iter body [] pos) (sFor Fw G B) := by
  refine PS.imp (ps_for hp hc hi hg hb hs) ?_
  rintro E σ H ⟨S, R, h⟩
  refine (Ends.step (vr := vrI X.K) R h).mono fun J H1 ⟨xs, S1, A1, w, h1⟩ => ?_
  refine for_it w (fun i σ' H' => ∃ S', Step σ S1 H1 σ' S' H' ∧ Rel X.K g σ' H' S' ∧ Ends X.K g W E σ' S' H' (forL G B (xs.drop i) S')) ⟨S1, .refl _ _ _, A1.rel, h1⟩ (fun i σ' H' _ ⟨S', st, _, _⟩ => A1.rel.keeps st) ?_ ?_
  · rintro i x σ' H' H2 hi ⟨S', st, R', q⟩ ⟨G2, fd⟩
    rw [drop_cons hi] at q
    have A2 := After.grow R' G2
    have q' : Ends X.K g W E σ' S' H' (onU (G xs[i] S') fun S1 => (B S1).turn (forL G B (xs.drop (i + 1)))) := q
    cases e : G xs[i] S' with
    | none => rw [e] at q'; exact q'.elim
    | some S2 =>
      rw [e] at q'
      refine ⟨S', xs[i], A2.rel, fd _ (by simp [hi]), S2, e, fun σ3 H3 st3 R3 => ⟨S2, R3, ?_⟩⟩
      have q3 : Ends X.K g W E σ3 S2 H3 ((B S2).turn (forL G B (xs.drop (i + 1)))) := Ends.rebase (A2.step.trans st3) q'
      exact q3.turn fun S4 σ4 H4 st4 R4 h4 => ⟨S4, ((st.trans A2.step).trans st3).trans st4, R4, h4⟩
  · rintro σ' H' ⟨S', st, R', q⟩
    rw [List.drop_length] at q
    exact q σ' H' (.refl _ _ _) R'
theorem ds_while (n : Nat) {c : Expr} {body : List Stmt} {T : Tx} {B : Sx} (hp : PassesOwn (model X.prog X.w) X.A X.env X.xe) (hc : DT X g W c T) (hb : DB X g W body B) : DS X g W (.While c body [] pos) (sWhile n T B) := by
  refine PS.imp (ps_while hp hc hb) ?_
  rintro E σ H ⟨S, R, h⟩
  refine ⟨fun m σ' H' => ∃ S', Rel X.K g σ' H' S' ∧ Ends X.K g W E σ' S' H' (whileL T B m S'), ⟨n, S, R, h⟩, ?_⟩
  rintro m σ' H' ⟨S', R', q⟩
  cases m with
  | zero => exact q.elim
  | succ m =>
    refine (Ends.step (vr := vrT) R' q).mono fun k H1 ⟨k', S1, A1, r1, h1⟩ => ?_
    cases (show k = k' from r1)
    cases k with
    | true =>
      refine ⟨fun σ2 H2 => ∃ S2, Rel X.K g σ2 H2 S2 ∧ Ends X.K g W E σ2 S2 H2 (whileL T B m S2), fun σ2 H2 q2 => ⟨m, Nat.lt_succ_self m, q2⟩, S1, A1.rel, ?_⟩
      exact Ends.turn h1 fun S4 σ4 H4 st4 R4 h4 => ⟨S4, R4, h4⟩
    | false => exact h1 σ' H1 (.refl _ _ _) A1.rel
end
end Fm

/-! FmE: what is walked; comprehensions. -/
namespace Fm
open PySem L2
section
variable {X : Cx} {g : Gh} {W : WX} {tg e : Expr} {pos : Pos}
theorem PI.imp {it : Expr} {t t' : TI} (p : PI X tg it t) (h : ∀ σ H R, t' σ H R → t σ H R) : PI X tg it t' := ⟨fun pins s σ H R I q => p.run pins s σ H R I (h σ H R q)⟩
theorem walk_at {K : PySem.W.Frag} {H1 : Hp} {vs : List V} {xs : List D} (f : FDs K H1 vs xs) {i : Nat} {H H2 : Hp} {x : V} (k : Keeps H1 H) (y : YAt vs i H x H2) : Grow H H2 ∧ ∀ y, xs[i]? = some y → FD K H2 x y := by
  obtain ⟨rfl, e⟩ := y
  obtain ⟨z, ez, fz⟩ := f.get e
  refine ⟨.refl _, fun y ey => ?_⟩
  rw [ez] at ey
  cases ey
  exact fz.mono k
theorem vrI_list {K : PySem.W.Frag} {σ : St} {H H1 : Hp} {S : Sl} {a : Addr} {o : Obj} {vs : List V} {xs : List D} (h : H1 a = some (.frz o (.lst vs))) (f : FDs K H1 vs xs) : vrI K σ H H1 S (Itl K a) xs := by
  show Walk _ _ _ _
  rw [← f.length]
  exact walk_list.mono (fun H k => .inl (.inr ⟨o, k.frz _ _ _ h⟩)) fun i H x H' _ k y => walk_at f k y
theorem vrI_tup {K : PySem.W.Frag} {σ : St} {H H1 : Hp} {S : Sl} {a : Addr} {vs : List V} {xs : List D} (h : SqT K H1 a vs) (f : FDs K H1 vs xs) : vrI K σ H H1 S (Itt K a) xs := by
  show Walk _ _ _ _
  rw [← f.length]
  exact walk_tup.mono (fun H k => k.sqT h) fun i H x H' _ k y => walk_at f k y
theorem vrI_str {K : PySem.W.Frag} {σ : St} {H H1 : Hp} {S : Sl} {z : Str} : vrI K σ H H1 S (Its z) (signs z) := by
  have hn : (signs z).length = z.cps.size := by simp [signs]
  unfold vrI
  rw [hn]
  refine walk_str.mono (fun _ _ => trivial) ?_
  rintro i H2 x H3 hi _ ⟨rfl, c, hc, rfl⟩
  refine ⟨.refl _, fun y hy => ?_⟩
  unfold signs at hy
  rw [List.getElem?_map, Array.getElem?_toList, hc] at hy
  cases hy
  exact .str _
theorem fd_ky {K : PySem.W.Frag} {H : Hp} {d : D} {k : L2.Key} (e : kyOf d = some k) : FD K H (kV k) d := by
  cases d <;> cases e
  · exact .int _
  · exact .str _
theorem vrI_keys {K : PySem.W.Frag} {σ : St} {H H1 : Hp} {S : Sl} {a : Addr} {o : Obj} {vs : List (L2.Key × V)} {ds : List (D × D)} (h : H1 a = some (.frz o (.dK vs))) (f : FKs K H1 vs ds) : vrI K σ H H1 S (Itk a o vs) (ds.map (·.1)) := by
  show Walk _ _ _ _
  rw [List.length_map, ← f.length]
  refine walk_keys.mono (fun H k => k.frz _ _ _ h) ?_
  rintro i H2 x H3 hi k ⟨rfl, q, v, e, rfl⟩
  obtain ⟨d, y, e1, e2, e3⟩ := f.at e
  refine ⟨.refl _, fun z hz => ?_⟩
  rw [List.getElem?_map, e1] at hz
  cases hz
  exact fd_ky e2
theorem vrI_vals {K : PySem.W.Frag} {σ : St} {H H1 : Hp} {S : Sl} {a : Addr} {o : Obj} {vs : List (L2.Key × V)} {ds : List (D × D)} (h : H1 a = some (.frz o (.dK vs))) (f : FKs K H1 vs ds) : vrI K σ H H1 S (Itd a o vs) (ds.map (·.2)) := by
  show Walk _ _ _ _
  rw [List.length_map, ← f.length]
  refine walk_values.mono (fun H k => k.frz _ _ _ h) ?_
  rintro i H2 x H3 hi k ⟨rfl, q, e⟩
  obtain ⟨d, y, e1, e2, e3⟩ := f.at e
  refine ⟨.refl _, fun z hz => ?_⟩
  rw [List.getElem?_map, e1] at hz
  cases hz
  exact e3.mono k
theorem vrI_items {K : PySem.W.Frag} {σ : St} {H H1 : Hp} {S : Sl} {a : Addr} {o : Obj} {vs : List (L2.Key × V)} {ds : List (D × D)} (h : H1 a = some (.frz o (.dK vs))) (f : FKs K H1 vs ds) : vrI K σ H H1 S (Iti a o vs) (ds.map fun p => .tuple [p.1, p.2]) := by
  show Walk _ _ _ _
  rw [List.length_map, ← f.length]
  refine walk_items.mono (fun H k => k.frz _ _ _ h) ?_
  rintro i H2 x H3 hi k ⟨T, u, w, rfl, hT, rfl, eu, ew⟩
  refine ⟨.new hT, fun z hz => ?_⟩
  obtain ⟨⟨q, v⟩, e⟩ : ∃ p, vs[i]? = some p := ⟨vs[i], List.getElem?_eq_getElem hi⟩
  have eu : vs[i]?.map (fun kv => kV kv.1) = some u := eu
  have ew : vs[i]?.map Prod.snd = some w := ew
  rw [e] at eu ew
  cases eu
  cases ew
  obtain ⟨d, y, e1, e2, e3⟩ := f.at e
  rw [List.getElem?_map, e1] at hz
  cases hz
  exact .tup (.new upd_same) (.cons (fd_ky e2) (.cons ((e3.mono k).mono (Grow.new hT).keeps) .nil))
theorem di_vals {Dv : Dx} {apos cpos : Pos} (h : DD X g W e Dv) (hbase : attributeBase e "values" X.env (eval e X.env) = eval e X.env := by rfl) (hline : (apos.endLine == cpos.line) = true := by rfl) : DI X g W tg (.Call (.Attribute e "values" apos) [] [] cpos) (wVals Dv) := by
  refine PI.imp (pi_values h hbase hline) ?_
  rintro σ H Q ⟨S, R, hq⟩
  refine (Wants.at (vr := vrD X.K) R hq).mono fun v H1 ⟨x, S1, A1, fd, h1⟩ => ?_
  cases x with
  | dict ds =>
    cases hE : isErrD (.dict ds) with
    | true =>
      obtain ⟨w, r, rfl⟩ := isErr_cases hE
      exact h1.elim
    | false =>
    have h1 : Wants X.K g W (vrI X.K) H σ S H (onO (asDct (.dict ds)) fun ds => .ok (ds.map (·.2)) S1) Q := h1
    rw [asDct_of hE] at h1
    have h1 : Wants X.K g W (vrI X.K) H σ S H (.ok (ds.map (·.2)) S1) Q := h1
    cases (show FD X.K H1 v (.dict ds) from fd) with
    | dct q f => exact ⟨_, _, _, rfl, q, h1 _ _ A1 (vrI_vals q f)⟩
    | err _ _ _ _ _ => cases hE
    | err0 _ _ _ => cases hE
  | _ => exact h1.elim
theorem di_items {Dv : Dx} {apos cpos tpos : Pos} {elts : List Expr} {kk : Nat} (h : DD X g W e Dv) (hbase : attributeBase e "items" X.env (eval e X.env) = eval e X.env := by rfl) (hline : (apos.endLine == cpos.line) = true := by rfl) : DI X g W (.Tuple elts kk tpos) (.Call (.Attribute e "items" apos) [] [] cpos) (wItems Dv) := by
  refine PI.imp (pi_items h hbase hline) ?_
  rintro σ H Q ⟨S, R, hq⟩
  refine (Wants.at (vr := vrD X.K) R hq).mono fun v H1 ⟨x, S1, A1, fd, h1⟩ => ?_
  cases x with
  | dict ds =>
    cases hE : isErrD (.dict ds) with
    | true =>
      obtain ⟨w, r, rfl⟩ := isErr_cases hE
      exact h1.elim
    | false =>
    have h1 : Wants X.K g W (vrI X.K) H σ S H (onO (asDct (.dict ds)) fun ds => .ok (ds.map fun p => .tuple [p.1, p.2]) S1) Q := h1
    rw [asDct_of hE] at h1
    have h1 : Wants X.K g W (vrI X.K) H σ S H (.ok (ds.map fun p => .tuple [p.1, p.2]) S1) Q := h1
    cases (show FD X.K H1 v (.dict ds) from fd) with
    | dct q f => exact ⟨_, _, _, rfl, q, h1 _ _ A1 (vrI_items q f)⟩
    | err _ _ _ _ _ => cases hE
    | err0 _ _ _ => cases hE
  | _ => exact h1.elim
theorem di_seq {Dv : Dx} (h : DD X g W e Dv) : DI X g W tg e (wSeq Dv) := by
  refine PI.imp (PI.or (PI.or (PI.or (pi_list h) (pi_tup h)) (pi_str h)) (pi_keys h)) ?_
  rintro σ H Q ⟨S, R, hq⟩
  unfold wSeq at hq
  cases q : Dv S with
  | bad => rw [q] at hq; exact hq.elim
  | exc x S1 => rw [q] at hq; exact .inl (.inl (.inl ⟨S, R, by rw [q]; exact hq⟩))
  | ok x S1 =>
    rw [q] at hq
    have hq : Wants X.K g W (vrI X.K) H σ S H (onO (items x) fun xs => .ok xs S1) Q := hq
    cases x with
    | list xs =>
      refine .inl (.inl (.inl ⟨S, R, ?_⟩))
      rw [q]
      intro v H1 A1 fd
      cases (show FD X.K H1 v (.list xs) from fd) with
      | lst h f => exact ⟨_, rfl, ⟨_, .inl (.inr ⟨_, h⟩)⟩, hq _ _ A1 (vrI_list h f)⟩
    | tuple xs =>
      refine .inl (.inl (.inr ⟨S, R, ?_⟩))
      rw [q]
      intro v H1 A1 fd
      cases (show FD X.K H1 v (.tuple xs) from fd) with
      | tup h f => exact ⟨_, rfl, ⟨_, h.1⟩, hq _ _ A1 (vrI_tup h.1 f)⟩
    | str z =>
      refine .inl (.inr ⟨S, R, ?_⟩)
      rw [q]
      intro v H1 A1 fd
      cases (show FD X.K H1 v (.str z) from fd)
      exact ⟨z, rfl, hq _ _ A1 vrI_str⟩
    | dict ds =>
      cases hE : isErrD (.dict ds) with
      | true =>
        obtain ⟨w, r, rfl⟩ := isErr_cases hE
        exact hq.elim
      | false =>
      rw [items_of hE] at hq
      refine .inr ⟨S, R, ?_⟩
      rw [q]
      intro v H1 A1 fd
      cases (show FD X.K H1 v (.dict ds) from fd) with
      | dct h f => exact ⟨_, _, rfl, .inl ⟨_, h, hq _ _ A1 (vrI_keys h f)⟩⟩
      | err _ _ _ _ _ => cases hE
      | err0 _ _ _ => cases hE
    | _ => exact hq.elim
theorem rangeL_len (lo hi : Int) : (rangeL lo hi).length = (hi - lo).toNat := by simp [rangeL]
theorem vrI_range {K : PySem.W.Frag} {σ : St} {H H1 : Hp} {S : Sl} {lo hi : Int} : vrI K σ H H1 S (Itr lo (hi - lo).toNat) (rangeL lo hi) := by
  show Walk _ _ _ _
  rw [rangeL_len]
  refine walk_range.mono (fun _ _ => trivial) fun i H x H' hi k y => ?_
  obtain ⟨rfl, rfl⟩ := y
  refine ⟨.refl _, fun y ey => ?_⟩
  simp [rangeL, hi] at ey
  subst ey
  exact .int _
/-- the values, each as it is to be read -/
def TDs (K : PySem.W.Frag) (H : Hp) : List V → List D → Prop := Paired (TD K H)
theorem views_all {K : PySem.W.Frag} {σ : St} {H H0 : Hp} {S : Sl} (R : Rel K g σ H S) : ∀ {vs : List V} {rvs : List RV} {xs : List D}, Paired (fun v rv => VRel K g σ H S v rv ∧ New H0 v rv) vs rvs → views S rvs = some xs → TDs K H vs xs
  | _, _, xs, .nil, e => by
    cases e
    exact .nil
  | v :: vs, r :: rs, xs, .cons h t, e => by
    have e' : ((view S r).bind fun x => (views S rs).map fun xs => x :: xs) = some xs := e
    cases q : view S r with
    | none => rw [q] at e'; cases e'
    | some y =>
      rw [q] at e'
      have e2 : ((views S rs).map fun xs => y :: xs) = some xs := e'
      cases q2 : views S rs with
      | none => rw [q2] at e2; cases e2
      | some ys =>
        rw [q2] at e2
        cases e2
        exact .cons (h.1.td R q) (views_all R t q2)
theorem di_range1 {a : Expr} {Fa : Ax} {p : Pos} (hg : Gl X "range") (hm : X.mg "range" = none) (ha : DA X g W [a] Fa) (hs : starEach [a] X.env = [(false, eval a X.env)] := by rfl) : DI X g W tg (.Call (.Name "range" p) [a] [] pos) (wRange range1 Fa) := by
  refine PI.imp (pi_range1 hg hm ha hs) ?_
  rintro σ H Q ⟨S, R, hq⟩
  refine (Wants.step (vr := vrA X.K g) R hq).mono fun vs H1 ⟨rvs, S1, A1, r1, h1⟩ => ?_
  cases q : views S1 rvs with
  | none => rw [q] at h1; exact h1.elim
  | some xs =>
    rw [q] at h1
    have h1 : Wants X.K g W (vrI X.K) H σ S1 H1 (onO (range1 xs) fun xs => .ok xs S1) Q := h1
    have td := views_all A1.rel r1.1 q
    match xs, td, h1 with
    | [.int j], .cons t .nil, h1 =>
      have h1 : Wants X.K g W (vrI X.K) H σ S1 H1 (onO (if inR j = true then some (rangeL 0 j) else none) fun xs => .ok xs S1) Q := h1
      by_cases hj : inR j = true
      · rw [if_pos hj] at h1
        have b := hj
        simp only [inR, Bool.and_eq_true, decide_eq_true_eq] at b
        cases t.int
        refine ⟨j, rfl, b.1, b.2, ?_⟩
        have e : (Itr 0 j.toNat) = Itr 0 (j - 0).toNat := by rw [Int.sub_zero]
        rw [e]
        exact h1 _ _ (.refl A1.rel) vrI_range
      · rw [if_neg hj] at h1
        exact h1.elim
    | [], _, h1 => exact h1.elim
    | [.none], _, h1 => exact h1.elim
    | [.bool _], _, h1 => exact h1.elim
    | [.str _], _, h1 => exact h1.elim
    | [.list _], _, h1 => exact h1.elim
    | [.tuple _], _, h1 => exact h1.elim
    | [.dict _], _, h1 => exact h1.elim
    | x :: y :: r, _, h1 => cases x <;> exact h1.elim
theorem range2_some {xs ys : List D} (e : range2 xs = some ys) : ∃ i j, xs = [.int i, .int j] ∧ (-(2 ^ 62) ≤ i ∧ i < 2 ^ 62 ∧ -(2 ^ 62) ≤ j ∧ j < 2 ^ 62) ∧ ys = rangeL i j := by
  unfold range2 at e
  split at e
  · rename_i i j
    by_cases hj : (inR i && inR j) = true
    · rw [if_pos hj] at e
      cases e
      simp only [inR, Bool.and_eq_true, decide_eq_true_eq] at hj
      exact ⟨i, j, rfl, ⟨hj.1.1, hj.1.2, hj.2.1, hj.2.2⟩, rfl⟩
    · rw [if_neg hj] at e
      cases e
  · cases e
theorem di_range2 {a b : Expr} {Fa : Ax} {p : Pos} (hg : Gl X "range") (hm : X.mg "range" = none) (ha : DA X g W [a, b] Fa) (hs : starEach [a, b] X.env = [(false, eval a X.env), (false, eval b X.env)] := by rfl) (hs2 : starEach [b] X.env = [(false, eval b X.env)] := by rfl) :
    DI X g W tg (.Call (.Name "range" p) [a, b] [] pos) (wRange range2 Fa) := by
  refine PI.imp (pi_range2 hg hm ha hs hs2) ?_
  rintro σ H Q ⟨S, R, hq⟩
  refine (Wants.step (vr := vrA X.K g) R hq).mono fun vs H1 ⟨rvs, S1, A1, r1, h1⟩ => ?_
  cases q : views S1 rvs with
  | none => rw [q] at h1; exact h1.elim
  | some xs =>
    rw [q] at h1
    have h1 : Wants X.K g W (vrI X.K) H σ S1 H1 (onO (range2 xs) fun xs => .ok xs S1) Q := h1
    have td := views_all A1.rel r1.1 q
    cases e : range2 xs with
    | none => rw [e] at h1; exact h1.elim
    | some ys =>
      rw [e] at h1
      obtain ⟨i, j, rfl, b, rfl⟩ := range2_some e
      cases td with
      | cons t td =>
        cases td with
        | cons t2 td =>
          cases td
          cases t.int
          cases t2.int
          exact ⟨i, j, rfl, b, h1 _ _ (.refl A1.rel) vrI_range⟩

/-! ### comprehensions -/
theorem wipe_len (vs : List Nat) (S : Sl) : (wipeL vs S).length = S.length := by
  induction vs with
  | nil => rfl
  | cons i vs ih => show ((wipeL vs S).set i none).length = _; rw [List.length_set, ih]
theorem at_wipe {vs : List Nat} {S : Sl} {j : Nat} : at? (wipeL vs S) j = if j ∈ vs then none else at? S j := by
  induction vs with
  | nil => rfl
  | cons i vs ih =>
    show at? ((wipeL vs S).set i none) j = _
    by_cases hj : i = j
    · subst hj
      rw [if_pos List.mem_cons_self]
      by_cases hi : i < (wipeL vs S).length
      · rw [at_set_self hi]
      · unfold at?
        rw [List.getElem?_eq_none (by simpa using hi)]
        rfl
    · rw [at_set_ne hj, ih]
      by_cases hm : j ∈ vs
      · rw [if_pos hm, if_pos (List.mem_cons_of_mem _ hm)]
      · rw [if_neg hm, if_neg (by simp [Ne.symm hj, hm])]
theorem back_len (S0 : Sl) (vs : List Nat) (S : Sl) : (backL S0 vs S).length = S.length := by
  induction vs with
  | nil => rfl
  | cons i vs ih => show ((backL S0 vs S).set i _).length = _; rw [List.length_set, ih]
theorem at_back {S0 : Sl} {vs : List Nat} {S : Sl} {j : Nat} (hl : S0.length = S.length) : at? (backL S0 vs S) j = if j ∈ vs then at? S0 j else at? S j := by
  induction vs with
  | nil => rfl
  | cons i vs ih =>
    show at? ((backL S0 vs S).set i ((S0[i]?).getD none)) j = _
    by_cases hj : i = j
    · subst hj
      rw [if_pos List.mem_cons_self]
      by_cases hi : i < (backL S0 vs S).length
      · rw [at_set_self hi]
        unfold at?
        have hi' : i < S0.length := by rw [back_len] at hi; omega
        rw [List.getElem?_eq_getElem hi']
        rfl
      · unfold at?
        rw [back_len] at hi
        rw [List.getElem?_eq_none (by rw [List.length_set, back_len]; omega), List.getElem?_eq_none (by omega)]
    · rw [at_set_ne hj, ih]
      by_cases hm : j ∈ vs
      · rw [if_pos hm, if_pos (List.mem_cons_of_mem _ hm)]
      · rw [if_neg hm, if_neg (by simp [Ne.symm hj, hm])]
theorem wipe_at {σ : St} {vs : List Nat} {j : Nat} (h : j ∉ vs) : (wipe σ vs)[j]? = σ[j]? := wipe_out h
/-- within the block: the own slots empty -/
theorem Rel.wipe {K : PySem.W.Frag} {σ : St} {H : Hp} {S : Sl} {vs : List Nat} (hv : ∀ i ∈ vs, g.fx i = false) (R : Rel K g σ H S) : Rel K g (wipe σ vs) H (wipeL vs S) := by
  have lv : ∀ {j : Nat} {w : SV}, at? (wipeL vs S) j = some w → j ∉ vs ∧ at? S j = some w := fun {j w} h => by
    rw [at_wipe] at h
    by_cases hj : j ∈ vs
    · rw [if_pos hj] at h; cases h
    · rw [if_neg hj] at h; exact ⟨hj, h⟩
  refine ⟨by rw [wipe_length, wipe_len]; exact R.len, fun j w h => ?_, fun j j' a o o' h h' q q' => ?_, fun j o a h f q => ?_, fun j f => ?_, R.trk, R.inv⟩
  · obtain ⟨n, h⟩ := lv h
    rw [wipe_at n]
    exact R.rel j w h
  · obtain ⟨n, h⟩ := lv h
    obtain ⟨n', h'⟩ := lv h'
    rw [wipe_at n] at q
    rw [wipe_at n'] at q'
    exact R.inj j j' a o o' h h' q q'
  · obtain ⟨n, h⟩ := lv h
    rw [wipe_at n] at q
    exact R.fresh j o a h f q
  · have n : j ∉ vs := fun hm => by rw [hv j hm] at f; cases f
    rw [wipe_at n]
    exact R.par j f
theorem Live.wipe {σ : St} {S : Sl} {vs : List Nat} {a : Addr} (l : Live (wipe σ vs) (wipeL vs S) a) : Live σ S a := by
  obtain ⟨j, o, h, q⟩ := l
  rw [at_wipe] at h
  by_cases hj : j ∈ vs
  · rw [if_pos hj] at h; cases h
  · rw [if_neg hj] at h
    rw [wipe_at hj] at q
    exact ⟨j, o, h, q⟩
/-- a comprehension's target, by the layer's own reading -/
def ttR (K : PySem.W.Frag) : Tt → TG
  | .nm i => L2.gName i
  | .tp is => L2.gTup K is.length (is.foldr (fun i t => gCons (L2.gName i) t) gNil)
theorem setD_step {K : PySem.W.Frag} : ∀ {is : List Nat} {xs : List D} {vs : List V} {σ : St} {S S' : Sl} {H : Hp} {Q : St → Hp → Prop}, (∀ i ∈ is, g.fx i = false) → Rel K g σ H S → FDs K H vs xs → setD is xs S = some S' →
    (Rel K g (setsV is vs σ) H S' → Step σ S H (setsV is vs σ) S' H → Q (setsV is vs σ) H) → (is.foldr (fun i t => gCons (L2.gName i) t) gNil) vs σ H Q
  | [], [], _, σ, S, S', H, Q, hf, R, f, e, q => by
    cases f
    cases e
    exact ⟨rfl, q R (.refl _ _ _)⟩
  | i :: is, x :: xs, _, σ, S, S', H, Q, hf, R, .cons f fs, e, q => by
    rename_i v vs
    refine ⟨v, vs, rfl, ?_⟩
    have p := put_step (rv := .d x) (.refl σ S H) R (hf i List.mem_cons_self) f trivial rfl
    exact setD_step (fun j hj => hf j (List.mem_cons_of_mem _ hj)) p.2 fs e fun R2 st2 => q R2 (p.1.trans st2)
  | [], _ :: _, _, _, _, _, _, _, _, _, _, e, _ => by cases e
  | _ :: _, [], _, _, _, _, _, _, _, _, _, e, _ => by cases e
theorem wipe_sets : ∀ {is : List Nat} {vs : List V} {σ : St} {own : List Nat}, (∀ i ∈ is, i ∈ own) → wipe (setsV is vs σ) own = wipe σ own
  | [], _, _, _, _ => by cases ‹List V› <;> rfl
  | _ :: _, [], _, _, _ => rfl
  | i :: is, v :: vs, σ, own, h => by
    show wipe (setsV is vs (σ.set i (some v))) own = _
    rw [wipe_sets fun j hj => h j (List.mem_cons_of_mem _ hj)]
    apply List.ext_getElem?
    intro j
    by_cases hj : j ∈ own
    · have key : ∀ (τ : St), (wipe τ own)[j]? = if j < τ.length then some none else none := fun τ => by
        cases e : (wipe τ own)[j]? with
        | none =>
          have : τ.length ≤ j := by rw [← wipe_length τ own]; exact List.getElem?_eq_none_iff.mp e
          rw [if_neg (by omega)]
        | some z =>
          have hl : j < τ.length := by rw [← wipe_length τ own]; exact (List.getElem?_eq_some_iff.mp e).1
          rw [if_pos hl]
          cases z with
          | none => rfl
          | some u => exact absurd hj (wipe_some e).2
      rw [key, key, List.length_set]
    · rw [wipe_at hj, wipe_at hj, List.getElem?_set_ne]
      exact fun z => hj (z ▸ h i List.mem_cons_self)
theorem tt_step {K : PySem.W.Frag} {t : Tt} {x : D} {v : V} {σ : St} {S S' : Sl} {H : Hp} {Q : St → Hp → Prop} {own : List Nat} (hf : ∀ i ∈ own, g.fx i = false) (ho : ∀ i ∈ t.slots, i ∈ own) (R : Rel K g σ H S) (f : FD K H v x) (e : t.run x S = some S')
    (q : ∀ σ', Rel K g σ' H S' → Step σ S H σ' S' H → L2.wipe σ' own = L2.wipe σ own → Q σ' H) : ttR K t v σ H Q := by
  cases t with
  | nm i =>
    cases e
    have p := put_step (rv := .d x) (.refl σ S H) R (hf i (ho i (List.mem_singleton_self i))) f trivial rfl
    exact q _ p.2 p.1 (wipe_sets (is := [i]) (vs := [v]) ho)
  | tp is =>
    cases x with
    | tuple xs =>
      cases f with
      | tup sq fs =>
        have e' : setD is xs S = some S' := e
        refine ⟨_, _, rfl, sq.1, ?_, setD_step (fun i hi => hf i (ho i hi)) R fs e' fun R2 st2 => q _ R2 st2 (wipe_sets ho)⟩
        rw [fs.length]
        have : ∀ {is : List Nat} {xs : List D} {S S' : Sl}, setD is xs S = some S' → xs.length = is.length := by
          intro is
          induction is with
          | nil => intro xs S S' e; cases xs with | nil => rfl | cons _ _ => cases e
          | cons i is ih =>
            intro xs S S' e
            cases xs with
            | nil => cases e
            | cons x xs => rw [List.length_cons, List.length_cons, ih e]
        exact this e'
    | _ => cases e
theorem calm_bind {α β γ : Type} (r : Res α) (f : α → Sl → Res β) (k : β → Sl → Res γ) : (r.calm f).bind k = r.calm fun a S => (f a S).bind k := by
  cases r <;> rfl
theorem wipe_wipe (σ : St) (vs : List Nat) : L2.wipe (L2.wipe σ vs) vs = L2.wipe σ vs := by
  apply List.ext_getElem?
  intro j
  by_cases hj : j ∈ vs
  · have key : ∀ (τ : St), (L2.wipe τ vs)[j]? = if j < τ.length then some none else none := fun τ => by
      cases e : (L2.wipe τ vs)[j]? with
      | none =>
        have : τ.length ≤ j := by rw [← wipe_length τ vs]; exact List.getElem?_eq_none_iff.mp e
        rw [if_neg (by omega)]
      | some z =>
        have hl : j < τ.length := by rw [← wipe_length τ vs]; exact (List.getElem?_eq_some_iff.mp e).1
        rw [if_pos hl]
        cases z with
        | none => rfl
        | some u => exact absurd hj (wipe_some e).2
    rw [key, key, wipe_length]
  · rw [wipe_at hj]
theorem calm_want {K : PySem.W.Frag} {α β γ δ : Type} {vr : St → Hp → Hp → Sl → β → α → Prop} {vr' : St → Hp → Hp → Sl → δ → γ → Prop} {Fa : Sl → Res α} {k : α → Sl → Res γ} {σ τ : St} {S0 S : Sl} {H0 Hs H : Hp} {Q : δ → Hp → Prop}
    (R : Rel K g σ H S) (h : Wants K g W vr' H0 τ S0 Hs ((Fa S).calm k) Q) :
    tG K g W0 vr Fa σ H fun b H1 => ∃ a S1, After K g σ S H S1 H1 ∧ vr σ H H1 S1 b a ∧ Wants K g W vr' H0 τ S0 Hs (k a S1) Q := by
  refine ⟨S, R, ?_⟩
  cases e : Fa S with
  | bad => rw [e] at h; exact h.elim
  | exc x S' => rw [e] at h; exact h.elim
  | ok a S1 => rw [e] at h; exact fun b H1 A r => ⟨a, S1, A, r, h⟩
theorem PTs.imp {ifs : List Expr} {t t' : TT} (p : PTs X ifs t) (h : ∀ σ H Q, t' σ H Q → t σ H Q) : PTs X ifs t' := ⟨fun pins s σ H Q I q => p.run pins s σ H Q I (h σ H Q q)⟩
theorem dts_nil : PTs X [] (rT X.K g W tYes) := by
  refine PTs.imp pts_nil ?_
  rintro σ H Q ⟨S, R, h⟩
  exact h true H (.refl R) rfl
theorem dts_one {c : Expr} {T : Tx} (h : DT X g W c T) : PTs X [c] (rT X.K g W T) := pts_one h
theorem Step.wiped {σ : St} {S : Sl} {H : Hp} {vs : List Nat} : Step σ S H (wipe σ vs) (wipeL vs S) H := ⟨fun _ _ h _ => h, fun _ h => h, fun _ l => .inl l.wipe⟩
theorem isD_of {S : Sl} {i : Nat} {o : Ob} (h : isD S i = true) : at? S i ≠ some (.live o) := fun e => by
  unfold isD at h
  rw [e] at h
  cases h
/-- the reading of a comprehension -/
theorem lc_read {tt : Tt} {w : Wx} {T : Tx} {Ev : Dx} {vs : List Nat} {σ : St} {H : Hp} {Q : VK} (hv : ∀ i ∈ vs, g.fx i = false) (ho : ∀ i ∈ tt.slots, i ∈ vs) (h : rE X.K g W (eLc w tt T Ev vs) σ H Q) :
    tLc (rI X.K g W w) (ttR X.K tt) (rT X.K g W0 T) (rD X.K g W0 Ev) vs σ H Q := by
  obtain ⟨S, R, h⟩ := h
  refine (Wants.step (vr := vrI X.K) R h).mono fun J H1 ⟨xs, S1, A1, wk, h1⟩ => ?_
  intro d hd
  have R1 := A1.rel
  by_cases hall : vs.all (isD S1) = true
  · rw [if_pos hall] at h1
    have R1w := R1.wipe hv
    refine lc_it wk (fun i H' => ∃ S' acc accV, H' d = some (.lst accV) ∧ FDs X.K H' accV acc ∧ Step (wipe σ vs) (wipeL vs S1) H1 (wipe σ vs) (wipeL vs S') H' ∧ Rel X.K g (wipe σ vs) H' (wipeL vs S') ∧ ¬ Live (wipe σ vs) (wipeL vs S') d ∧
      S'.length = σ.length ∧ Wants X.K g W (vrE X.K g) H σ S1 H1 ((lcL tt T Ev vs (xs.drop i) acc S').bind fun ys S2 => .ok (.fr (.lst ys)) (backL S1 vs S2)) Q) ?_ ?_ ?_ ?_
    · have nl : ¬ Live (wipe σ vs) (wipeL vs S1) d := fun l => by
        obtain ⟨u, e, _⟩ := R1w.live l
        rw [hd] at e
        cases e
      exact ⟨S1, [], [], upd_same, .nil, (Step.refl _ _ _).upd_new hd, R1w.grow (.new hd), nl, R1.len.symm, h1⟩
    · rintro i H' _ ⟨S', acc, accV, _, _, st, _⟩
      exact R1w.keeps st
    · rintro i x H' H2 hi ⟨S', acc, accV, hD, fa, st, R', nl, hl, q⟩ ⟨G2, fd⟩
      rw [drop_cons hi] at q
      have q : Wants X.K g W (vrE X.K g) H σ S1 H1 ((onO (tt.run xs[i] (wipeL vs S')) fun S1 => (T S1).calm fun c S2 => if c = true then (Ev S2).calm fun y S3 => if acc.length < sizeLine then lcL tt T Ev vs (xs.drop (i + 1)) (acc ++ [y]) S3 else .bad else lcL tt T Ev vs (xs.drop (i + 1)) acc S2).bind fun ys S2 => .ok (.fr (.lst ys)) (backL S1 vs S2)) Q := q
      have A2 := After.grow R' G2
      cases e : tt.run xs[i] (wipeL vs S') with
      | none => rw [e] at q; exact q.elim
      | some St =>
        rw [e] at q
        refine tt_step hv ho A2.rel (fd _ (by simp [hi])) e fun σ3 R3 st3 hw3 => ⟨hw3.trans (wipe_wipe σ vs), ?_⟩
        have q : Wants X.K g W (vrE X.K g) H σ S1 H1 (((T St).calm fun c S2 => if c = true then (Ev S2).calm fun y S3 => if acc.length < sizeLine then lcL tt T Ev vs (xs.drop (i + 1)) (acc ++ [y]) S3 else .bad else lcL tt T Ev vs (xs.drop (i + 1)) acc S2).bind fun ys S2 => .ok (.fr (.lst ys)) (backL S1 vs S2)) Q := q
        rw [calm_bind] at q
        refine (calm_want (vr := vrT) R3 q).mono fun c H4 ⟨c', S4, A4, r4, h4⟩ => ?_
        cases (show c = c' from r4)
        have st4 : Step (wipe σ vs) (wipeL vs S') H' σ3 S4 H4 := (A2.step.trans st3).trans A4.step
        cases c with
        | false =>
          rw [if_neg Bool.false_ne_true]
          have st5 : Step (wipe σ vs) (wipeL vs S') H' (wipe σ3 vs) (wipeL vs S4) H4 := st4.trans Step.wiped
          rw [hw3, wipe_wipe] at st5
          have R5 := A4.rel.wipe hv
          rw [hw3, wipe_wipe] at R5
          refine ⟨S4, acc, accV, st4.keep _ _ hD nl, fa.mono (R'.keeps st4), st.trans st5, R5, fun l => ?_, ?_, h4⟩
          · rcases st5.sub _ l with l | l
            · exact nl l
            · rw [hD] at l; cases l
          · have := R5.len
            rw [wipe_length, wipe_len] at this
            exact this.symm
        | true =>
          rw [if_pos rfl]
          have h4 : Wants X.K g W (vrE X.K g) H σ S1 H1 (((Ev S4).calm fun y S3 => if acc.length < sizeLine then lcL tt T Ev vs (xs.drop (i + 1)) (acc ++ [y]) S3 else .bad).bind fun ys S2 => .ok (.fr (.lst ys)) (backL S1 vs S2)) Q := h4
          rw [calm_bind] at h4
          refine (calm_want (vr := vrD X.K) A4.rel h4).mono fun y H6 ⟨dy, S6, A6, r6, h6⟩ => ?_
          have st6 : Step (wipe σ vs) (wipeL vs S') H' σ3 S6 H6 := st4.trans A6.step
          have hD6 : H6 d = some (.lst accV) := st6.keep _ _ hD nl
          have fa6 := fa.mono (R'.keeps st6)
          have ln := fa6.length
          by_cases hs : acc.length < sizeLine
          · rw [if_pos hs] at h6
            have st7 : Step (wipe σ vs) (wipeL vs S') H' (wipe σ3 vs) (wipeL vs S6) H6 := st6.trans Step.wiped
            rw [hw3, wipe_wipe] at st7
            have R7 := A6.rel.wipe hv
            rw [hw3, wipe_wipe] at R7
            have nl7 : ¬ Live (wipe σ vs) (wipeL vs S6) d := fun l => by
              rcases st7.sub _ l with l | l
              · exact nl l
              · rw [hD] at l; cases l
            refine ⟨accV, hD6, by rw [ln]; exact hs, S6, acc ++ [dy], accV ++ [y], upd_same, ((fa6.snoc r6).mono (keeps_upd hD6 trivial)), (st.trans st7).upd_new hd, R7.upd_other hD6 trivial nl7, nl7, ?_, h6⟩
            have := R7.len
            rw [wipe_length, wipe_len] at this
            exact this.symm
          · rw [if_neg hs] at h6
            exact h6.elim
    · rintro H' ⟨S', acc, accV, hD, fa, st, R', nl, hl, q⟩
      rw [List.drop_length] at q
      have q : Wants X.K g W (vrE X.K g) H σ S1 H1 (.ok (.fr (.lst acc)) (backL S1 vs S')) Q := q
      have hl1 : S1.length = S'.length := by rw [hl]; exact R1.len.symm
      have bk : ∀ {j : Nat} {v : SV}, at? (backL S1 vs S') j = some v → (j ∈ vs ∧ at? S1 j = some v) ∨ (j ∉ vs ∧ at? (wipeL vs S') j = some v) := fun {j v} e => by
        rw [at_back hl1] at e
        by_cases hj : j ∈ vs
        · rw [if_pos hj] at e; exact .inl ⟨hj, e⟩
        · rw [if_neg hj] at e; exact .inr ⟨hj, by rw [at_wipe, if_neg hj]; exact e⟩
      have lv : ∀ {j : Nat} {o : Ob}, at? (backL S1 vs S') j = some (.live o) → j ∉ vs ∧ at? (wipeL vs S') j = some (.live o) := fun {j o} e => by
        rcases bk e with ⟨hj, e⟩ | e
        · exact absurd e (isD_of (List.all_eq_true.mp hall j hj))
        · exact e
      have lvw : ∀ {a : Addr}, Live σ (backL S1 vs S') a → Live (wipe σ vs) (wipeL vs S') a := fun {a} ⟨j, o, e, q⟩ => by
        obtain ⟨hj, e⟩ := lv e
        exact ⟨j, o, e, by rw [wipe_at hj]; exact q⟩
      have ks : Keeps H1 H' := R1w.keeps st
      have Rb : Rel X.K g σ H' (backL S1 vs S') := by
        refine ⟨by rw [back_len, ← hl1]; exact R1.len, fun j v e => ?_, fun j j' a o o' e e' q q' => ?_, fun j o a e f q => ?_, R1.par, R'.trk, R'.inv⟩
        · rcases bk e with ⟨hj, e⟩ | ⟨hj, e⟩
          · obtain ⟨u, h1, h2⟩ := R1.rel j v e
            refine ⟨u, h1, ?_⟩
            cases v with
            | d x => exact FD.mono ks h2
            | live o => exact absurd e (isD_of (List.all_eq_true.mp hall j hj))
          · obtain ⟨u, h1, h2⟩ := R'.rel j v e
            rw [wipe_at hj] at h1
            exact ⟨u, h1, h2⟩
        · obtain ⟨hj, e⟩ := lv e
          obtain ⟨hj', e'⟩ := lv e'
          exact R'.inj j j' a o o' e e' (by rw [wipe_at hj]; exact q) (by rw [wipe_at hj']; exact q')
        · obtain ⟨hj, e⟩ := lv e
          exact R'.fresh j o a e f (by rw [wipe_at hj]; exact q)
      refine q (.ref d) H' ⟨⟨fun b o hb l => st.keep b o hb fun l' => l l'.wipe, st.trk, fun a l => ?_⟩, Rb⟩ ⟨⟨d, rfl, ⟨accV, hD, fa⟩, fun l => nl (lvw l), R1.trk d hd⟩, d, rfl, A1.step.trk d hd⟩
      rcases st.sub a (lvw l) with l | l
      · exact .inl l.wipe
      · exact .inr l
  · rw [if_neg hall] at h1
    exact h1.elim
theorem de_lc {elt iter : Expr} {ifs : List Expr} {scope : Scope} {own : List (Str × Nat)} {w : Wx} {tt : Tt} {T : Tx} {Ev : Dx} (hc : X.calm = true) (hN : X.N.Nodup) (hv : ∀ i ∈ own.map (·.2), g.fx i = false) (ho : ∀ i ∈ tt.slots, i ∈ own.map (·.2)) (hi : DI X g W tg iter w) (ok : BlkOk X.N X.env.scope scope own)
    (hg : ∀ (s : Shared) (H : Hp) (C : Addr) (cl : List (Str × Addr)) (fp : List Addr), PG (X.blk s H scope (compEnvC scope cl C X.env) fp) tg (ttR X.K tt))
    (ht : ∀ (s : Shared) (H : Hp) (C : Addr) (cl : List (Str × Addr)) (fp : List Addr), PTs (X.blk s H scope (compEnvC scope cl C X.env) fp) ifs (rT X.K g W0 T))
    (he : ∀ (s : Shared) (H : Hp) (C : Addr) (cl : List (Str × Addr)) (fp : List Addr), DD (X.blk s H scope (compEnvC scope cl C X.env) fp) g W0 elt Ev) (hs : ∀ x, foldedSetIterable iter X.env x = pure x := by intro _; rfl) :
    DE X g W (.ListComp elt [⟨tg, iter, ifs, 0⟩] scope pos) (eLc w tt T Ev (own.map (·.2))) :=
  PE.imp (pe_lc hc hN hi ok hg ht he hs) fun _ _ _ h => lc_read hv ho h
/-- y = [..] -/
theorem ds_setLc (i : Nat) {y : Str} {py spos : Pos} {elt iter : Expr} {ifs : List Expr} {scope : Scope} {own : List (Str × Nat)} {w : Wx} {tt : Tt} {T : Tx} {Ev : Dx} (hf : g.fx i = false) (hc : X.calm = true) (hN : X.N.Nodup) (hv : ∀ i ∈ own.map (·.2), g.fx i = false) (ho : ∀ i ∈ tt.slots, i ∈ own.map (·.2)) (hi : DI X g W tg iter w) (ok : BlkOk X.N X.env.scope scope own)
    (hg : ∀ (s : Shared) (H : Hp) (C : Addr) (cl : List (Str × Addr)) (fp : List Addr), PG (X.blk s H scope (compEnvC scope cl C X.env) fp) tg (ttR X.K tt))
    (ht : ∀ (s : Shared) (H : Hp) (C : Addr) (cl : List (Str × Addr)) (fp : List Addr), PTs (X.blk s H scope (compEnvC scope cl C X.env) fp) ifs (rT X.K g W0 T))
    (he : ∀ (s : Shared) (H : Hp) (C : Addr) (cl : List (Str × Addr)) (fp : List Addr), DD (X.blk s H scope (compEnvC scope cl C X.env) fp) g W0 elt Ev)
    (hsw : swapsWith (.ListComp elt [⟨tg, iter, ifs, 0⟩] scope pos) (some (.Name y py)) spos.line X.env = pure true) (hy : X.N[i]? = some y := by rfl) (hyl : X.env.scope.names.lookup y = some .local := by rfl) (hs : ∀ x, foldedSetIterable iter X.env x = pure x := by intro _; rfl) :
    DS X g W (.Assign [.Name y py] (.ListComp elt [⟨tg, iter, ifs, 0⟩] scope pos) spos) (sSet i (eLc w tt T Ev (own.map (·.2)))) := by
  refine PS.imp (ps_setLc (te := rD X.K g W0 Ev) hc hN hy hyl hsw hi ok hg ht he hs) ?_
  rintro E σ H ⟨S, R, h⟩
  exact lc_read hv ho ((Ends.at R h).mono fun v H1 ⟨rv, S1, A1, r1, h1⟩ => set_end hf A1 r1 h1)
end
end Fm

/-! FmF: calls of the program's own defs; a def by its body. -/
namespace Fm
open PySem L2

/-- the addresses of the live ones -/
def livA : V → SV → List Addr
  | .ref a, .live _ => [a]
  | _, _ => []
def livL : List V → List SV → List Addr
  | v :: vs, s :: ss => livA v s ++ livL vs ss
  | _, _ => []
structure ArgsR (K : PySem.W.Frag) (H : Hp) (vs : List V) (as : List SV) : Prop where
  rel : Paired (SVr K H) vs as
  nd : (livL vs as).Nodup
structure CStep (vs : List V) (as : List SV) (H H' : Hp) : Prop where
  keep : ∀ b o, H b = some o → b ∉ livL vs as → H' b = some o
  trk : ∀ b, H' b = none → H b = none
def OutsR (K : PySem.W.Frag) (H' : Hp) (vs : List V) (as : List SV) (os : List (Option SV)) : Prop := ∀ (i : Nat) (v : V) (o : Ob) (w : SV), vs[i]? = some v → as[i]? = some (SV.live o) → os[i]? = some (some w) → SVr K H' v w
def ResR (K : PySem.W.Frag) (H H' : Hp) (v : V) : SV → Prop
  | .d x => FD K H' v x
  | .live o => ∃ a, v = .ref a ∧ H a = none ∧ ObAt K H' a o
/-- what a def with the meaning F promises -/
def spD (K : PySem.W.Frag) (cl : Str → Option Addr) (F : Fn) : Sp := fun vs H Q E => ∃ as, ArgsR K H vs as ∧ match F as with
  | .ok r os => ∀ v H', CStep vs as H H' → OutsR K H' vs as os → ResR K H H' v r → Q v H'
  | .exc x os => ∀ cls d H', CStep vs as H H' → OutsR K H' vs as os → XR K cl H' x cls d → E cls d H'
  | .bad => False
structure FnG (P : Program) (w : World) (K : PySem.W.Frag) (mg : Str → Option Value) (base : Heap) (cl : Str → Option Addr) (k : Nat) (f : Addr) (fd : FuncData) (ps : List Str) (F : Fn) : Prop where
  run : ∀ (A : Around) (outer : List Env) (s : Shared) (H : Hp) (args : Args) (us : List Value) (vs : List V) (Q : VK) (E : XK), Room k A → A.guards = some [] → Env0 P w K mg base A outer s H → vs.length = ps.length → BindsTo s fd args (ps.zip us) → Vals vs us →
    spD K cl F vs H Q E → codeAny (model P w) A (.call (.ref f) args) (L2.CR (L2.CX P w) outer P w H s Q E) s
/-- a def of the text: where it stands, what it means -/
structure Def (P : Program) (w : World) (K : PySem.W.Frag) (mg : Str → Option Value) (base : Heap) (cl : Str → Option Addr) (x : Str) (st : Stmt) (k : Nat) (ps : List Str) (F : Fn) : Prop where
  ex : ∃ f fd, mg x = some (.ref f) ∧ Fun K x x st f fd ∧ FnG P w K mg base cl k f fd ps F ∧ Binds K fd ps []
theorem Okh.un64 {X : Cx} {n : Nat} (ok : Okh X n) : X.A.units + 64 < cLine := by have := ok.un; omega
theorem Okh.u1 {X : Cx} {n : Nat} (ok : Okh X n) : X.A.units + 1 < cLine := by have := ok.un64; omega
/-! ### arguments handed over -/
section
variable {K : PySem.W.Frag} {g : Gh} {σ : St} {H H0 : Hp} {S : Sl}
theorem hand_cons {v : RV} {vs : List RV} {as : List SV} (e : hand S (v :: vs) = some as) : ∃ a r, as = a :: r ∧ hand S vs = some r ∧ ((∃ x, v = .d x ∧ a = .d x) ∨ (∃ o, v = .fr o ∧ a = .live o) ∨ ∃ i, v = .br i ∧ at? S i = some a) := by
  have e' : ((match v with | .d x => some (SV.d x) | .fr o => some (SV.live o) | .br i => at? S i).bind fun a => (hand S vs).map fun as => a :: as) = some as := e
  cases q : hand S vs with
  | none => rw [q] at e'; cases v <;> simp at e'
  | some r =>
    rw [q] at e'
    cases v with
    | d x =>
      cases e'
      exact ⟨_, _, rfl, rfl, .inl ⟨x, rfl, rfl⟩⟩
    | fr o =>
      cases e'
      exact ⟨_, _, rfl, rfl, .inr (.inl ⟨o, rfl, rfl⟩)⟩
    | br i =>
      have e2 : ((at? S i).bind fun a => some (a :: r)) = some as := e'
      cases q2 : at? S i with
      | none => rw [q2] at e2; cases e2
      | some a =>
        rw [q2] at e2
        cases e2
        exact ⟨_, _, rfl, rfl, .inr (.inr ⟨i, rfl, q2⟩)⟩
/-- an address that is handed over live: a fresh one, or that of a slot -/
theorem livL_mem (R : Rel K g σ H S) : ∀ {vs : List V} {rvs : List RV} {as : List SV}, Paired (fun v rv => VRel K g σ H S v rv ∧ New H0 v rv) vs rvs → hand S rvs = some as → ∀ c ∈ livL vs as, c ∈ frL vs rvs ∨ ∃ i o, i ∈ brs rvs ∧ at? S i = some (.live o) ∧ σ[i]? = some (some (.ref c))
  | _, _, as, .nil, e, c, hc => by
    cases e
    cases hc
  | v :: vs, r :: rs, as, .cons h t, e, c, hc => by
    obtain ⟨a, ar, rfl, e2, ek⟩ := hand_cons e
    rcases List.mem_append.mp (show c ∈ livA v a ++ livL vs ar from hc) with hc | hc
    · rcases ek with ⟨x, rfl, rfl⟩ | ⟨o, rfl, rfl⟩ | ⟨i, rfl, ei⟩
      · cases v <;> cases hc
      · obtain ⟨b, rfl, _⟩ := h.1
        exact .inl (List.mem_append_left _ hc)
      · refine .inr ⟨i, ?_⟩
        cases a with
        | d x => cases v <;> cases hc
        | live o =>
          have h1 : σ[i]? = some (some v) := h.1
          obtain ⟨u, h2, b, rfl, ob⟩ := R.rel i _ ei
          rw [h1] at h2
          cases h2
          have : c = b := by simpa [livA] using hc
          rw [this]
          exact ⟨o, List.mem_cons_self, ei, h1⟩
    · rcases livL_mem R t e2 c hc with q | ⟨i, o, q1, q2, q3⟩
      · exact .inl (List.mem_append_right _ q)
      · refine .inr ⟨i, o, ?_, q2, q3⟩
        cases r with
        | br j => exact List.mem_cons_of_mem _ q1
        | d x => exact q1
        | fr o => exact q1
theorem nodup_iff : ∀ {l : List Nat}, nodup l = true ↔ l.Nodup
  | [] => by simp [nodup]
  | i :: r => by
    unfold nodup
    rw [Bool.and_eq_true, nodup_iff (l := r), List.nodup_cons]
    simp
theorem args_of (R : Rel K g σ H S) : ∀ {vs : List V} {rvs : List RV} {as : List SV}, Paired (fun v rv => VRel K g σ H S v rv ∧ New H0 v rv) vs rvs → (frL vs rvs).Nodup → (brs rvs).Nodup → hand S rvs = some as → ArgsR K H vs as
  | _, _, as, .nil, _, _, e => by
    cases e
    exact ⟨.nil, List.nodup_nil⟩
  | v :: vs, r :: rs, as, .cons h t, nf, nb, e => by
    obtain ⟨a, ar, rfl, e2, ek⟩ := hand_cons e
    have nf' : (frA v r ++ frL vs rs).Nodup := nf
    have nb2 : (brs rs).Nodup := by
      cases r with
      | br j => exact (List.nodup_cons.mp nb).2
      | d x => exact nb
      | fr o => exact nb
    obtain ⟨p, nd⟩ := args_of R t (List.nodup_append.mp nf').2.1 nb2 e2
    have sv : SVr K H v a := by
      rcases ek with ⟨x, rfl, rfl⟩ | ⟨o, rfl, rfl⟩ | ⟨i, rfl, ei⟩
      · exact h.1
      · obtain ⟨b, rfl, ob, _⟩ := h.1
        exact ⟨b, rfl, ob⟩
      · obtain ⟨u, h2, h3⟩ := R.rel i _ ei
        have h1 : σ[i]? = some (some v) := h.1
        rw [h1] at h2
        cases h2
        exact h3
    refine ⟨.cons sv p, ?_⟩
    show (livA v a ++ livL vs ar).Nodup
    cases a with
    | d x => cases v <;> exact nd
    | live o =>
      obtain ⟨c, rfl, ob⟩ := sv
      refine List.nodup_cons.mpr ⟨fun hm => ?_, nd⟩
      rcases ek with ⟨x, rfl, z⟩ | ⟨o', rfl, z⟩ | ⟨i, rfl, ei⟩
      · cases z
      · obtain ⟨b, eb, _, nl, _⟩ := h.1
        cases eb
        rcases livL_mem R t e2 c hm with q | ⟨j, oj, _, q2, q3⟩
        · exact (List.nodup_append.mp nf').2.2 c (List.mem_singleton_self c) c q rfl
        · exact nl ⟨j, oj, q2, q3⟩
      · have h1 : σ[i]? = some (some (V.ref c)) := h.1
        rcases livL_mem R t e2 c hm with q | ⟨j, oj, q1, q2, q3⟩
        · have : ∀ {ws : List V} {qs : List RV}, Paired (fun v rv => VRel K g σ H S v rv ∧ New H0 v rv) ws qs → c ∈ frL ws qs → ¬ Live σ S c := fun p hq => (pv_of p).2 c hq
          exact this t q ⟨i, o, ei, h1⟩
        · have := R.inj i j c _ _ ei q2 h1 q3
          subst this
          exact (List.nodup_cons.mp nb).1 q1
end
/-- behind the call: the slots as the callee left them -/
theorem back_step {K : PySem.W.Frag} {g : Gh} {σ : St} {H0 H H' : Hp} {S S' : Sl} {vs : List V} {rvs : List RV} {as : List SV} {os : List (Option SV)} (R : Rel K g σ H S) (r : Paired (fun v rv => VRel K g σ H S v rv ∧ New H0 v rv) vs rvs) (nf : (frL vs rvs).Nodup) (nb : (brs rvs).Nodup) (hh : hand S rvs = some as)
    (cs : CStep vs as H H') (ou : OutsR K H' vs as os) (tb : takeBack S rvs as os = some S') :
    (∀ b o, H b = some o → ¬ Live σ S b → b ∉ frL vs rvs → H' b = some o) ∧ (∀ b, Live σ S' b → Live σ S b) ∧ Rel K g σ H' S' := by
  -- what takeBack does, slot by slot
  have tbk : ∀ {rvs : List RV} {as : List SV} {os : List (Option SV)} {S' : Sl}, takeBack S rvs as os = some S' → S'.length = S.length ∧ ∀ j w, at? S' j = some w → (at? S j = some w ∧ ∀ (m : Nat) (o : Ob), rvs[m]? = some (RV.br j) → as[m]? = some (SV.live o) → False) ∨ ∃ (m : Nat) (o : Ob), rvs[m]? = some (RV.br j) ∧ as[m]? = some (SV.live o) ∧ os[m]? = some (some w) := by
    intro rvs
    induction rvs with
    | nil =>
      intro as os S' e
      cases e
      exact ⟨rfl, fun j w h => .inl ⟨h, fun m o z => by simp at z⟩⟩
    | cons r rs ih =>
      intro as os S' e
      cases as with
      | nil => cases e
      | cons a as =>
        cases os with
        | nil => cases e
        | cons o os =>
          have skip : (∀ i o', r = .br i → a = .live o' → False) → takeBack S rs as os = some S' → S'.length = S.length ∧ ∀ j w, at? S' j = some w → (at? S j = some w ∧ ∀ (m : Nat) (o : Ob), (r :: rs)[m]? = some (RV.br j) → (a :: as)[m]? = some (SV.live o) → False) ∨ ∃ (m : Nat) (o' : Ob), (r :: rs)[m]? = some (RV.br j) ∧ (a :: as)[m]? = some (SV.live o') ∧ (o :: os)[m]? = some (some w) := fun hn e => by
            obtain ⟨l, hj⟩ := ih e
            refine ⟨l, fun j w h => ?_⟩
            rcases hj j w h with ⟨h1, h2⟩ | ⟨m, o', h1, h2, h3⟩
            · refine .inl ⟨h1, fun m o' z z' => ?_⟩
              cases m with
              | zero => exact hn j o' (by simpa using z) (by simpa using z')
              | succ m => exact h2 m o' (by simpa using z) (by simpa using z')
            · exact .inr ⟨m + 1, o', h1, h2, h3⟩
          cases r with
          | d x => exact skip (fun _ _ z _ => nomatch z) e
          | fr x => exact skip (fun _ _ z _ => nomatch z) e
          | br i =>
            cases a with
            | d x => exact skip (fun _ _ _ z => nomatch z) e
            | live oa =>
              cases o with
              | none => cases e
              | some w0 =>
                have e' : (takeBack S rs as os).map (fun S1 => S1.set i (some w0)) = some S' := e
                cases q : takeBack S rs as os with
                | none => rw [q] at e'; cases e'
                | some S1 =>
                  rw [q] at e'
                  cases e'
                  obtain ⟨l, hj⟩ := ih q
                  refine ⟨by rw [List.length_set]; exact l, fun j w h => ?_⟩
                  rcases at_set h with ⟨rfl, h'⟩ | ⟨h', hij⟩
                  · cases h'
                    exact .inr ⟨0, oa, rfl, rfl, rfl⟩
                  · rcases hj j w h' with ⟨h1, h2⟩ | ⟨m, o', h1, h2, h3⟩
                    · refine .inl ⟨h1, fun m o' z z' => ?_⟩
                      cases m with
                      | zero =>
                        have : i = j := by simpa using z
                        rcases hij with hij | hij
                        · exact hij this
                        · have := at_lt h1
                          omega
                      | succ m => exact h2 m o' (by simpa using z) (by simpa using z')
                    · exact .inr ⟨m + 1, o', h1, h2, h3⟩
  obtain ⟨ln, sl⟩ := tbk tb
  -- the m-th argument, a slot's object
  have arg : ∀ {rvs : List RV} {vs : List V} {as : List SV}, Paired (fun v rv => VRel K g σ H S v rv ∧ New H0 v rv) vs rvs → hand S rvs = some as → ∀ (m j : Nat), rvs[m]? = some (RV.br j) → ∃ v a, vs[m]? = some v ∧ as[m]? = some a ∧ at? S j = some a ∧ σ[j]? = some (some v) := by
    intro rvs
    induction rvs with
    | nil => intro vs as _ _ m j e; simp at e
    | cons r rs ih =>
      intro vs as p e m j em
      cases p with
      | cons h t =>
        obtain ⟨a, ar, rfl, e2, ek⟩ := hand_cons e
        cases m with
        | zero =>
          simp at em
          subst em
          rcases ek with ⟨x, z, _⟩ | ⟨o, z, _⟩ | ⟨i, z, ei⟩
          · cases z
          · cases z
          · cases z
            exact ⟨_, _, rfl, rfl, ei, h.1⟩
        | succ m => exact ih t e2 m j (by simpa using em)
  have brm : ∀ {rvs : List RV} {j : Nat}, j ∈ brs rvs → ∃ m : Nat, rvs[m]? = some (RV.br j) := by
    intro rvs
    induction rvs with
    | nil => intro j h; cases h
    | cons r rs ih =>
      intro j h
      cases r with
      | br i =>
        rcases List.mem_cons.mp (show j ∈ i :: brs rs from h) with z | z
        · exact ⟨0, by rw [z]; rfl⟩
        · obtain ⟨m, hm⟩ := ih z
          exact ⟨m + 1, hm⟩
      | d x =>
        obtain ⟨m, hm⟩ := ih (show j ∈ brs rs from h)
        exact ⟨m + 1, hm⟩
      | fr x =>
        obtain ⟨m, hm⟩ := ih (show j ∈ brs rs from h)
        exact ⟨m + 1, hm⟩
  have keep : ∀ b o, H b = some o → ¬ Live σ S b → b ∉ frL vs rvs → H' b = some o := fun b o h l n => cs.keep b o h fun hm => by
    rcases livL_mem R r hh b hm with q | ⟨i, oi, _, q2, q3⟩
    · exact n q
    · exact l ⟨i, oi, q2, q3⟩
  have ks : Keeps H H' := by
    have nd : ∀ c ∈ livL vs as, ∃ u, H c = some u ∧ Mut (some u) := fun c hc => by
      rcases livL_mem R r hh c hc with q | ⟨i, oi, _, q2, q3⟩
      · have : ∀ {ws : List V} {qs : List RV}, Paired (fun v rv => VRel K g σ H S v rv ∧ New H0 v rv) ws qs → c ∈ frL ws qs → ∃ u, H c = some u ∧ Mut (some u) := by
          intro ws
          induction ws with
          | nil => intro qs p hq; cases p; cases hq
          | cons v ws ih =>
            intro qs p hq
            cases p with
            | cons h t =>
              rename_i r0 rs0
              rcases List.mem_append.mp (show c ∈ frA v r0 ++ frL ws rs0 from hq) with hq | hq
              · cases r0 with
                | d x => cases v <;> cases hq
                | br x => cases v <;> cases hq
                | fr o =>
                  obtain ⟨b, rfl, ob, _⟩ := h.1
                  have : c = b := by simpa [frA] using hq
                  rw [this]
                  exact ob.lst_of
              · exact ih t hq
        exact this r q
      · exact R.live ⟨i, oi, q2, q3⟩
    refine ⟨fun b xs h => cs.keep b _ h fun hm => ?_, fun b o u h => cs.keep b _ h fun hm => ?_, fun b xs h => cs.keep b _ h fun hm => ?_⟩
    · obtain ⟨u, e, m⟩ := nd b hm
      rw [h] at e
      cases e
      exact m
    · obtain ⟨u', e, m⟩ := nd b hm
      rw [h] at e
      cases e
      exact m
    · obtain ⟨u', e, m⟩ := nd b hm
      rw [h] at e
      cases e
      exact m
  -- the slots
  have rel' : ∀ j w, at? S' j = some w → ∃ u, σ[j]? = some (some u) ∧ SVr K H' u w ∧ ∀ o, w = .live o → ∃ o', at? S j = some (.live o') := fun j w e => by
    rcases sl j w e with ⟨e, nm⟩ | ⟨m, o', h1, h2, h3⟩
    · obtain ⟨u, q1, q2⟩ := R.rel j w e
      refine ⟨u, q1, ?_, fun o z => ⟨o, z ▸ e⟩⟩
      cases w with
      | d x => exact FD.mono ks q2
      | live o =>
        obtain ⟨b, rfl, ob⟩ := q2
        refine ⟨b, rfl, ob.mono ks fun u' hu' => cs.keep b u' hu' fun hm => ?_⟩
        rcases livL_mem R r hh b hm with q | ⟨i, oi, q1', q2', q3'⟩
        · exact (pv_of r).2 b q ⟨j, o, e, q1⟩
        · have := R.inj i j b _ _ q2' e q3' q1
          subst this
          obtain ⟨m, hm⟩ := brm q1'
          obtain ⟨v, a, k1, k2, k3, k4⟩ := arg r hh m i hm
          rw [q2'] at k3
          cases k3
          exact nm m oi hm k2
    · obtain ⟨v, a, k1, k2, k3, k4⟩ := arg r hh m j h1
      rw [h2] at k2
      cases k2
      exact ⟨v, k4, ou m v o' w k1 h2 h3, fun o _ => ⟨o', k3⟩⟩
  refine ⟨keep, fun b l => ?_, ⟨by rw [ln]; exact R.len, fun j w e => let ⟨u, q1, q2, _⟩ := rel' j w e; ⟨u, q1, q2⟩, fun j j' a o o' e e' => ?_, fun j o a e => ?_, R.par, fun b e => R.trk b (cs.trk b e), g.mono _ _ ks R.inv⟩⟩
  · obtain ⟨j, o, e, q⟩ := l
    obtain ⟨_, _, _, h⟩ := rel' j _ e
    obtain ⟨o', h'⟩ := h o rfl
    exact ⟨j, o', h', q⟩
  · obtain ⟨_, _, _, h⟩ := rel' j _ e
    obtain ⟨_, _, _, h'⟩ := rel' j' _ e'
    obtain ⟨o1, h⟩ := h o rfl
    obtain ⟨o2, h'⟩ := h' o' rfl
    exact R.inj j j' a o1 o2 h h'
  · obtain ⟨_, _, _, h⟩ := rel' j _ e
    obtain ⟨o1, h⟩ := h o rfl
    exact R.fresh j o1 a h

section
variable {X : Cx} {g : Gh} {W : WX} {k n : Nat} {x : Str} {st : Stmt} {ps : List Str} {F : Fn} {p pos : Pos} {e : Expr} {es : List Expr} {Fa : Ax}
/-- the callee runs -/
theorem run_def {f : Addr} {fd : FuncData} {pins : List (Addr × Obj)} {σ : St} {H : Hp} {s : Shared} {Q : VK} {args : Args} {us : List Value} {vs : List V} (Fo : FnG X.prog X.w X.K X.mg X.base g.cl k f fd ps F) (ok : Ok X W n) (hk : k ≤ n) (I : Inv X pins σ H s)
    (hl : vs.length = ps.length) (hb : BindsTo s fd args (ps.zip us)) (r : Vals vs us) (h : spD X.K g.cl F vs H Q fun cls d H' => W cls d σ H') : wpAny (model X.prog X.w) X.A (PySem.call (.ref f) args.pos args.kw) (EP X pins σ Q) X.xe s := by
  refine wpAny_call (codeAny_mono (Fo.run X.A X.stack s H args us vs Q _ (ok.room.mono hk) ok.gd I.env0 hl hb r h) fun r s' hq => ?_)
  cases r with
  | error e => exact ok.tk e s' (XE.of_call I (fun _ _ _ h => h) hq)
  | ok fl =>
    cases fl with
    | ret u => exact I.after hq
    | next => exact hq.elim
    | brk => exact hq.elim
    | cont => exact hq.elim
/-- the end of a call: from what the caller wants to the promise -/
theorem call_end {σ : St} {H0 H : Hp} {S0 S : Sl} {vs : List V} {rvs : List RV} {Q : VK} (A : After X.K g σ S0 H0 S H) (r : vrA X.K g σ H0 H S vs rvs)
    (h : Wants X.K g W (vrE X.K g) H0 σ S0 H0 (if nodup (brs rvs) = true then onO (hand S rvs) fun as => (F as).res S rvs as else .bad) Q) : spD X.K g.cl F vs H Q fun cls d H' => W cls d σ H' := by
  by_cases hn : nodup (brs rvs) = true
  · rw [if_pos hn] at h
    have nb := nodup_iff.mp hn
    cases hh : hand S rvs with
    | none => rw [hh] at h; exact h.elim
    | some as =>
      rw [hh] at h
      have h : Wants X.K g W (vrE X.K g) H0 σ S0 H0 ((F as).res S rvs as) Q := h
      refine ⟨as, args_of A.rel r.1 r.2 nb hh, ?_⟩
      -- the step from the expression's start
      have stp : ∀ {H' : Hp} {S' : Sl} {os : List (Option SV)}, CStep vs as H H' → OutsR X.K H' vs as os → takeBack S rvs as os = some S' → After X.K g σ S0 H0 S' H' := fun {H' S' os} cs ou tb => by
        obtain ⟨k1, k2, k3⟩ := back_step A.rel r.1 r.2 nb hh cs ou tb
        refine ⟨⟨fun b o hb l => k1 b o (A.step.keep b o hb l) (fun l' => ?_) fun hm => ?_, fun b hb => A.step.trk b (cs.trk b hb), fun b l => A.step.sub b (k2 b l)⟩, k3⟩
        · rcases A.step.sub b l' with z | z
          · exact l z
          · rw [hb] at z; cases z
        · have := new_of r.1 b hm
          rw [hb] at this
          cases this
      cases q : F as with
      | bad => rw [q] at h; exact h.elim
      | exc y os =>
        rw [q] at h
        have h : Wants X.K g W (vrE X.K g) H0 σ S0 H0 (onO (takeBack S rvs as os) fun S2 => .exc y S2) Q := h
        cases tb : takeBack S rvs as os with
        | none => rw [tb] at h; exact h.elim
        | some S' =>
          rw [tb] at h
          exact fun cls d H' cs ou xr => h cls d H' (stp cs ou tb) xr.to
      | ok v os =>
        rw [q] at h
        have h : Wants X.K g W (vrE X.K g) H0 σ S0 H0 (onO (takeBack S rvs as os) fun S2 => .ok v.rv S2) Q := h
        cases tb : takeBack S rvs as os with
        | none => rw [tb] at h; exact h.elim
        | some S' =>
          rw [tb] at h
          intro u H' cs ou rr
          have A' := stp cs ou tb
          refine h u H' A' ?_
          cases v with
          | d y => exact ⟨rr, trivial⟩
          | live o =>
            obtain ⟨a, rfl, n, ob⟩ := rr
            refine ⟨⟨a, rfl, ob, fun l => ?_, A.rel.trk a n⟩, a, rfl, A.step.trk a n⟩
            have l2 := (back_step A.rel r.1 r.2 nb hh cs ou tb).2.1 a l
            obtain ⟨w, e, _⟩ := A.rel.live l2
            rw [n] at e
            cases e
  · rw [if_neg hn] at h
    exact h.elim
theorem spD_len {K : PySem.W.Frag} {cl : Str → Option Addr} {vs : List V} {H : Hp} {Q : VK} {E : XK} {N : Nat} (hF : ∀ as, as.length ≠ N → F as = .bad) (h : spD K cl F vs H Q E) : vs.length = N := by
  obtain ⟨as, a, h⟩ := h
  have := Paired.length a.rel
  by_cases hl : as.length = N
  · omega
  · rw [hF as hl] at h
    exact h.elim
/-- f(e, ..) -/
theorem de_call (Df : Def X.prog X.w X.K X.mg X.base g.cl x st k ps F) (hF : ∀ as, as.length ≠ ps.length → F as = .bad) (ok : Ok X W n) (hg : Gl X x) (ha : DA X g W (e :: es) Fa) (hk : k ≤ n := by decide) (hdb : (x == ("__debug__" : Str)) = false := by decide)
    (he : starEach (e :: es) X.env = (false, eval e X.env) :: starEach es X.env := by rfl) (hpl : (backTo pos (starEach es X.env)).any (·.1) = false := by rfl) : DE X g W (.Call (.Name x p) (e :: es) [] pos) (eCall F Fa) := by
  obtain ⟨f, fd, hm, fu, Fo, hb⟩ := Df.ex
  refine ⟨fun pins s σ H Q I h => ?_⟩
  obtain ⟨S, R, h⟩ := h
  refine wpAny_Call_Name_kw (ld_glob I hg hm ?_ hdb)
  refine PySem.W.callWith_K (h₀ := X.base) I.ok.mod.kin fu.kp (thn (ha.run pos pins s σ H _ I (Wants.at R h)) fun us s1 ⟨vs, H1, I1, r, rvs, S1, A1, r1, h1⟩ => ⟨I1.kIn, ?_⟩) he hpl
  have sp := call_end A1 r1 h1
  have hl := spD_len hF sp
  have hu : us.length = ps.length := by rw [← r.length]; exact hl
  have hbt := hb s1 us I1.kIn (by rw [List.append_nil]; exact hu)
  rw [List.append_nil] at hbt
  exact run_def (args := ⟨us, []⟩) Fo ok hk I1 hl hbt r sp
theorem de_call0 (Df : Def X.prog X.w X.K X.mg X.base g.cl x st k ps F) (hF : ∀ as, as.length ≠ ps.length → F as = .bad) (ok : Ok X W n) (hg : Gl X x) (hk : k ≤ n := by decide) (hdb : (x == ("__debug__" : Str)) = false := by decide) :
    DE X g W (.Call (.Name x p) [] [] pos) (eCall F aNil) := by
  obtain ⟨f, fd, hm, fu, Fo, hb⟩ := Df.ex
  refine ⟨fun pins s σ H Q I h => ?_⟩
  obtain ⟨S, R, h⟩ := h
  refine wpAny_Call_Name_kw (ld_glob I hg hm ?_ hdb)
  refine PySem.W.callWith_K0 I.kIn fu.kp ?_
  have sp : spD X.K g.cl F [] H Q fun cls d H' => W cls d σ H' := call_end (rvs := []) (After.refl R) ⟨.nil, List.nodup_nil⟩ h
  have hl := spD_len hF sp
  have hbt := hb s [] I.kIn hl
  exact run_def (args := ⟨[], []⟩) (us := []) Fo ok hk I hl hbt .nil sp

/-! ### with keywords: all arguments are frozen -/
def pick {α : Type} (π : List Nat) (l : List α) : List α := π.filterMap fun i => l[i]?
theorem pick_vals {vs : List V} {us : List Value} (h : Vals vs us) : ∀ π : List Nat, Vals (pick π vs) (pick π us)
  | [] => .nil
  | i :: π => by
    unfold pick
    rw [List.filterMap_cons, List.filterMap_cons]
    cases e : vs[i]? with
    | none =>
      rw [h.none_of e]
      exact pick_vals h π
    | some v =>
      obtain ⟨u, eu, r⟩ := h.get e
      rw [eu]
      exact .cons r (pick_vals h π)
theorem pick_fd {K : PySem.W.Frag} {H : Hp} {vs : List V} {xs : List D} (h : FDs K H vs xs) : ∀ π : List Nat, Paired (SVr K H) (pick π vs) (π.filterMap fun i => (xs[i]?).map SV.d) ∧ livL (pick π vs) (π.filterMap fun i => (xs[i]?).map SV.d) = []
  | [] => ⟨.nil, rfl⟩
  | i :: π => by
    unfold pick
    rw [List.filterMap_cons, List.filterMap_cons]
    obtain ⟨p1, p2⟩ := pick_fd h π
    cases e : vs[i]? with
    | none =>
      have : xs[i]? = none := by
        rw [List.getElem?_eq_none_iff] at e ⊢
        rw [← h.length]
        exact e
      rw [this]
      exact ⟨p1, p2⟩
    | some v =>
      obtain ⟨x, ex, fd⟩ := h.get e
      rw [ex]
      refine ⟨.cons fd p1, ?_⟩
      show livA v (.d x) ++ livL (pick π vs) _ = []
      cases v <;> exact p2
theorem callK_end {σ : St} {H0 H : Hp} {S0 S : Sl} {vs : List V} {xs : List D} {π : List Nat} {Q : VK} (A : After X.K g σ S0 H0 S H) (fs : FDs X.K H vs xs)
    (h : Wants X.K g W (vrE X.K g) H0 σ S0 H0 ((F (π.filterMap fun i => (xs[i]?).map SV.d)).plain S) Q) : spD X.K g.cl F (pick π vs) H Q fun cls d H' => W cls d σ H' := by
  obtain ⟨p1, p2⟩ := pick_fd fs π
  refine ⟨_, ⟨p1, by rw [p2]; exact List.nodup_nil⟩, ?_⟩
  have stp : ∀ {H' : Hp}, CStep (pick π vs) (π.filterMap fun i => (xs[i]?).map SV.d) H H' → After X.K g σ S0 H0 S H' := fun {H'} cs => by
    have G : Grow H H' := fun b o hb => cs.keep b o hb (by rw [p2]; exact fun z => nomatch z)
    exact A.trans (After.grow A.rel G)
  cases q : F (π.filterMap fun i => (xs[i]?).map SV.d) with
  | bad => rw [q] at h; exact h.elim
  | exc y os =>
    rw [q] at h
    exact fun cls d H' cs ou xr => h cls d H' (stp cs) xr.to
  | ok v os =>
    rw [q] at h
    intro u H' cs ou rr
    refine h u H' (stp cs) ?_
    cases v with
    | d y => exact ⟨rr, trivial⟩
    | live o =>
      obtain ⟨a, rfl, n, ob⟩ := rr
      refine ⟨⟨a, rfl, ob, fun l => ?_, A.rel.trk a n⟩, a, rfl, A.step.trk a n⟩
      obtain ⟨w, e, _⟩ := A.rel.live l
      rw [n] at e
      cases e
/-- the keywords' values -/
abbrev DK (X : Cx) (g : Gh) (W : WX) (kws : List Keyword) (F : Lx) : Prop := PK X kws (rL X.K g W F)
theorem PK.imp {kws : List Keyword} {t t' : TA} (p : PK X kws t) (h : ∀ σ H Q, t' σ H Q → t σ H Q) : PK X kws t' := ⟨fun pos pins s σ H Q I q => p.run pos pins s σ H Q I (h σ H Q q)⟩
theorem dk_nil : DK X g W [] lNil := by
  refine PK.imp pk_nil ?_
  rintro σ H Q ⟨S, R, h⟩
  exact h [] H (.refl R) .nil
theorem dk_cons {nm : Option Str} {kpos : Pos} {kws : List Keyword} {Da : Dx} {Fr : Lx} (ha : DD X g W e Da) (hr : DK X g W kws Fr) : DK X g W (⟨nm, e, kpos⟩ :: kws) (lCons Da Fr) := by
  refine PK.imp (pk_cons ha hr) ?_
  rintro σ H Q ⟨S, R, h⟩
  refine (Wants.step (vr := vrD X.K) R h).mono fun x H1 ⟨vx, S1, A1, r1, h1⟩ => (Wants.step (vr := vrL X.K) A1.rel h1).mono fun xs H2 ⟨vs, S2, A2, r2, h2⟩ => ?_
  exact h2 (x :: xs) H2 (.refl A2.rel) (.cons (FD.mono (A1.rel.keeps A2.step) r1) r2)
theorem de_callK0 {ks : List Str} {π : List Nat} {kws : List Keyword} {Fb : Lx} (Df : Def X.prog X.w X.K X.mg X.base g.cl x st k ps F) (hF : ∀ as, as.length ≠ ps.length → F as = .bad) (ok : Ok X W n) (hg : Gl X x) (hkw : DK X g W kws Fb)
    (hbind : ∀ (kV doc pm : Value) (an : Option Addr) (cdv ct : Value) (ws : List Value), ws.length = ks.length → bindArgs (PySem.W.fnOf x x (defArgs st) (defBody st) (defScope st) .none kV doc pm an cdv ct) ⟨[], ks.zip ws⟩ = pure (ps.zip (pick π ws)))
    (hk : k ≤ n := by decide) (hall : (backToKw pos (keywordEach kws X.env)).all (·.1.isSome) = true := by rfl) (hks : (backToKw pos (keywordEach kws X.env)).filterMap (·.1) = ks := by rfl)
    (hdb : (x == ("__debug__" : Str)) = false := by decide) (hpl : ((backTo pos (starEach [] X.env)).any (·.1) || (backToKw pos (keywordEach kws X.env)).any (·.1.isNone)) = false := by rfl) : DE X g W (.Call (.Name x p) [] kws pos) (eCallK F 0 ks.length π lNil Fb) := by
  obtain ⟨f, fd, hm, fu, Fo, hb⟩ := Df.ex
  obtain ⟨oc, od, kV, doc, pm, an, cdv, ct, osl, rfl, lk, hcd⟩ := fu.ex
  refine ⟨fun pins s σ H Q I h => ?_⟩
  obtain ⟨S, R, h⟩ := h
  have h : Wants X.K g W (vrE X.K g) H σ S H ((Fb S).bind fun ys S2 => if ([] : List D).length = 0 ∧ ys.length = ks.length then (F (π.filterMap fun i => (([] ++ ys)[i]?).map SV.d)).plain S2 else .bad) Q := h
  refine wpAny_Call_Name_kw (ld_glob I hg hm ?_ hdb)
  refine PySem.W.callWith_KW0 (h₀ := X.base) I.ok.mod.kin fu.kp hall (thn (hkw.run pos pins s σ H _ I (Wants.at R h)) fun ws s1 ⟨vs, H1, I1, r, ys, S1, A1, r1, h1⟩ => ⟨I1.kIn, ?_⟩) hpl
  have r1 : FDs X.K H1 vs ys := r1
  by_cases hl : ys.length = ks.length
  · rw [if_pos ⟨rfl, hl⟩] at h1
    have sp := callK_end (π := π) A1 r1 h1
    have hlp := spD_len hF sp
    have hw : ws.length = ks.length := by rw [← r.length, r1.length, hl]
    rw [hks]
    exact run_def (args := ⟨[], ks.zip ws⟩) Fo ok hk I1 hlp (.of_eq (hbind kV doc pm an cdv ct ws hw)) (pick_vals r π) sp
  · rw [if_neg (fun z => hl z.2)] at h1
    exact h1.elim
theorem de_callK {m : Nat} {ks : List Str} {π : List Nat} {kws : List Keyword} {Fa Fb : Lx} (Df : Def X.prog X.w X.K X.mg X.base g.cl x st k ps F) (hF : ∀ as, as.length ≠ ps.length → F as = .bad) (ok : Ok X W n) (hg : Gl X x) (ha : DL X g W (e :: es) Fa) (hkw : DK X g W kws Fb)
    (hbind : ∀ (kV doc pm : Value) (an : Option Addr) (cdv ct : Value) (us ws : List Value), us.length = m → ws.length = ks.length → bindArgs (PySem.W.fnOf x x (defArgs st) (defBody st) (defScope st) .none kV doc pm an cdv ct) ⟨us, ks.zip ws⟩ = pure (ps.zip (pick π (us ++ ws))))
    (hk : k ≤ n := by decide) (hall : (backToKw pos (keywordEach kws X.env)).all (·.1.isSome) = true := by rfl) (hks : (backToKw pos (keywordEach kws X.env)).filterMap (·.1) = ks := by rfl) (he : starEach (e :: es) X.env = (false, eval e X.env) :: starEach es X.env := by rfl)
    (hdb : (x == ("__debug__" : Str)) = false := by decide) (hpl : ((backTo pos (starEach (e :: es) X.env)).any (·.1) || (backToKw pos (keywordEach kws X.env)).any (·.1.isNone)) = false := by rfl) : DE X g W (.Call (.Name x p) (e :: es) kws pos) (eCallK F m ks.length π Fa Fb) := by
  obtain ⟨f, fd, hm, fu, Fo, hb⟩ := Df.ex
  obtain ⟨oc, od, kV, doc, pm, an, cdv, ct, osl, rfl, lk, hcd⟩ := fu.ex
  refine ⟨fun pins s σ H Q I h => ?_⟩
  obtain ⟨S, R, h⟩ := h
  refine wpAny_Call_Name_kw (ld_glob I hg hm ?_ hdb)
  refine PySem.W.callWith_KW (h₀ := X.base) I.ok.mod.kin fu.kp hall (thn (ha.run pos pins s σ H _ I (Wants.step R h)) fun us s1 ⟨vs, H1, I1, r, xs, S1, A1, r1, h1⟩ => ?_) hpl he
  refine thn (hkw.run pos pins s1 σ H1 _ I1 (Wants.step A1.rel h1)) fun ws s2 ⟨zs, H2, I2, r', ys, S2, A2, r2, h2⟩ => ⟨I2.kIn, ?_⟩
  have r1 : FDs X.K H1 vs xs := r1
  have r2 : FDs X.K H2 zs ys := r2
  by_cases hl : xs.length = m ∧ ys.length = ks.length
  · rw [if_pos hl] at h2
    have h3 : Wants X.K g W (vrE X.K g) H2 σ S2 H2 ((F (π.filterMap fun i => ((xs ++ ys)[i]?).map SV.d)).plain S2) Q := by
      revert h2
      cases (F (π.filterMap fun i => ((xs ++ ys)[i]?).map SV.d)).plain S2 with
      | bad => exact fun h => h
      | exc _ _ => exact fun h => h
      | ok a S' => exact fun h b H' A r => h b H' A (vrE_mono (fun b e => A1.step.trk b (A2.step.trk b e)) _ _ _ _ r)
    have sp := callK_end (π := π) (.refl A2.rel) ((r1.mono (A1.rel.keeps A2.step)).append r2) h3
    have hlp := spD_len hF sp
    have hu : us.length = m := by rw [← r.length, r1.length, hl.1]
    have hw : ws.length = ks.length := by rw [← r'.length, r2.length, hl.2]
    rw [hks]
    exact run_def (args := ⟨us, ks.zip ws⟩) Fo ok hk I2 hlp (.of_eq (hbind kV doc pm an cdv ct us ws hu hw)) (pick_vals (r.append r') π) sp
  · rw [if_neg hl] at h2
    exact h2.elim
end

/-! ### a def by its body -/
section
variable {P : Program} {w : World} {K : PySem.W.Frag} {mg : Str → Option Value} {base : Heap} {cl : Str → Option Addr}
theorem at_start {as : List SV} {m i : Nat} {v : SV} (h : at? (as.map some ++ List.replicate m none) i = some v) : as[i]? = some v := by
  unfold at? at h
  by_cases hi : i < as.length
  · rw [List.getElem?_append_left (by simpa using hi), List.getElem?_map] at h
    cases e : as[i]? with
    | none => rw [e] at h; cases h
    | some u => rw [e] at h; exact h
  · rw [List.getElem?_append_right (by simpa using hi), List.getElem?_replicate] at h
    split at h <;> cases h
theorem start_at {N : List Str} {vs : List V} {i : Nat} {v : V} (h : vs[i]? = some v) : (L2.start N vs)[i]? = some (some v) := by
  unfold L2.start
  rw [List.getElem?_append_left (by rw [List.length_map]; exact (List.getElem?_eq_some_iff.mp h).1), List.getElem?_map, h]
  rfl
theorem livL_of : ∀ {vs : List V} {as : List SV} {i : Nat} {c : Addr} {o : Ob}, vs[i]? = some (V.ref c) → as[i]? = some (SV.live o) → c ∈ livL vs as
  | [], _, i, c, o, h, _ => by simp at h
  | _ :: _, [], i, c, o, _, h => by simp at h
  | v :: vs, a :: as, 0, c, o, h1, h2 => by
    simp at h1 h2
    subst h1 h2
    exact List.mem_append_left _ (List.mem_singleton_self c)
  | v :: vs, a :: as, i + 1, c, o, h1, h2 => List.mem_append_right _ (livL_of (i := i) (by simpa using h1) (by simpa using h2))
theorem livL_inj : ∀ {vs : List V} {as : List SV}, (livL vs as).Nodup → ∀ {i j : Nat} {c : Addr} {o o' : Ob}, vs[i]? = some (V.ref c) → as[i]? = some (SV.live o) → vs[j]? = some (V.ref c) → as[j]? = some (SV.live o') → i = j
  | [], _, _, i, j, c, o, o', h, _, _, _ => by simp at h
  | _ :: _, [], _, i, j, c, o, o', _, h, _, _ => by simp at h
  | v :: vs, a :: as, nd, 0, 0, c, o, o', _, _, _, _ => rfl
  | v :: vs, a :: as, nd, 0, j + 1, c, o, o', h1, h2, h3, h4 => by
    simp at h1 h2
    subst h1 h2
    exact absurd (livL_of (i := j) (by simpa using h3) (by simpa using h4)) (List.nodup_cons.mp nd).1
  | v :: vs, a :: as, nd, i + 1, 0, c, o, o', h1, h2, h3, h4 => by
    simp at h3 h4
    subst h3 h4
    exact absurd (livL_of (i := i) (by simpa using h1) (by simpa using h2)) (List.nodup_cons.mp nd).1
  | v :: vs, a :: as, nd, i + 1, j + 1, c, o, o', h1, h2, h3, h4 => by
    have nd' : (livL vs as).Nodup := (List.nodup_append.mp (show (livA v a ++ livL vs as).Nodup from nd)).2.1
    exact congrArg Nat.succ (livL_inj nd' (by simpa using h1) (by simpa using h2) (by simpa using h3) (by simpa using h4))
theorem paired_at {α β : Type} {R : α → β → Prop} : ∀ {xs : List α} {ys : List β}, Paired R xs ys → ∀ {i : Nat} {y : β}, ys[i]? = some y → ∃ x, xs[i]? = some x ∧ R x y
  | _, _, .nil, i, y, e => by simp at e
  | _, _, .cons h t, 0, y, e => by
    simp at e
    subst e
    exact ⟨_, rfl, h⟩
  | _, _, .cons h t, i + 1, y, e => paired_at t (by simpa using e)
/-- the state at a def's entry -/
theorem rel_start {N : List Str} {vs : List V} {as : List SV} {H : Hp} {fx : Nat → Bool} {n m : Nat} (a : ArgsR K H vs as) (hn : as.length = n) (hm : N.length = m) (hnm : n ≤ m) (hfx : ∀ i, fx i = true → i < n) (hd : (List.range n).all (fun i => fx i || isD (as.map some) i) = true) :
    Rel K (.mk0 H vs fx cl) (L2.start N vs) H (as.map some ++ List.replicate (m - n) none) := by
  have lv : vs.length = as.length := Paired.length a.rel
  have one : ∀ {i : Nat} {v : SV}, at? (as.map some ++ List.replicate (m - n) none) i = some v → ∃ u, vs[i]? = some u ∧ as[i]? = some v ∧ SVr K H u v := fun {i v} e => by
    have e1 := at_start e
    obtain ⟨u, h1, h2⟩ := paired_at a.rel e1
    exact ⟨u, h1, e1, h2⟩
  have ref : ∀ {i : Nat} {c : Addr} {u : V}, (L2.start N vs)[i]? = some (some (.ref c)) → vs[i]? = some u → u = .ref c := fun {i c u} h1 h2 => by
    rw [start_at h2] at h1
    cases h1
    rfl
  refine ⟨?_, fun i v e => ?_, fun i j c o o' e e' q q' => ?_, fun i o c e f q => ?_, fun i f => ?_, fun b h => h, trivial⟩
  · unfold L2.start
    simp only [List.length_append, List.length_map, List.length_replicate]
    omega
  · obtain ⟨u, h1, _, h2⟩ := one e
    exact ⟨u, start_at h1, h2⟩
  · obtain ⟨u, h1, h2, _⟩ := one e
    obtain ⟨u', h1', h2', _⟩ := one e'
    cases ref q h1
    cases ref q' h1'
    exact livL_inj a.nd h1 h2 h1' h2'
  · obtain ⟨u, h1, h2, _⟩ := one e
    have hi : i < n := by rw [← hn]; exact (List.getElem?_eq_some_iff.mp h2).1
    have := List.all_eq_true.mp hd i (List.mem_range.mpr hi)
    have f' : fx i = false := f
    rw [f', Bool.false_or] at this
    exfalso
    refine isD_of (o := o) this ?_
    unfold at?
    rw [List.getElem?_map, h2]
    rfl
  · have hi := hfx i f
    have hi' : i < vs.length := by omega
    exact ⟨vs[i], start_at (by simp [hi']), by simp [hi']⟩
theorem take_at {S : Sl} {n i : Nat} {w : SV} (h : (S.take n)[i]? = some (some w)) : at? S i = some w := by
  have hi : i < n := by
    have := (List.getElem?_eq_some_iff.mp h).1
    rw [List.length_take] at this
    omega
  rw [List.getElem?_take_of_lt hi] at h
  unfold at?
  rw [h]
  rfl
/-- the context of a def's body -/
abbrev cx (P : Program) (w : World) (K : PySem.W.Frag) (mg : Str → Option Value) (base : Heap) (N : List Str) (x : Str) (st : Stmt) (f : Addr) (cd : Value) (A : Around) (outer : List Env) (s : Shared) (H : Hp) (E : XK) : Cx :=
  cxOf (L2.CX P w) P w K mg base N x (defScope st) f cd A outer s H E
abbrev wx (E : XK) : WX := fun cls d _ H => E cls d H
theorem po_cx {P : Program} {w : World} {K : PySem.W.Frag} {mg : Str → Option Value} {base : Heap} {N : List Str} {x : Str} {st : Stmt} {f : Addr} {cd : Value} {A : Around} {outer : List Env} {s : Shared} {H : Hp} {E : XK} :
    PassesOwn (model P w) (cx P w K mg base N x st f cd A outer s H E).A (cx P w K mg base N x st f cd A outer s H E).env (cx P w K mg base N x st f cd A outer s H E).xe := passes_of rfl
/-- THE RULE: the def keeps fnOf of its body's meaning -/
theorem fn_ok {xn x : Str} {st : Stmt} {f : Addr} {fd : FuncData} {N ps : List Str} {k n m : Nat} {fx : Nat → Bool} {B : Sx} (F : Fun K xn x st f fd) (Sc : FnScope N ps (defScope st)) (hn : ps.length = n) (hm : N.length = m) (hfx : ∀ i, fx i = true → i < n)
    (hbody : ∀ (cd : Value) (A : Around) (outer : List Env) (s : Shared) (H : Hp) (E : XK) (vs : List V), Ok (cx P w K mg base N x st f cd A outer s H E) (wx E) k → DB (cx P w K mg base N x st f cd A outer s H E) (.mk0 H vs fx cl) (wx E) (defBody st) B) :
    FnG P w K mg base cl (k + 1) f fd ps (fnOf n m fx B) := by
  obtain ⟨oc, od, kV, doc, pm, an, cdv, ct, osl, rfl, lk, hcd⟩ := F.ex
  refine ⟨fun A outer s H args us vs Q E hr hgd e0 hl hb r hsp => ?_⟩
  obtain ⟨as, ar, hq⟩ := hsp
  have lv : vs.length = as.length := Paired.length ar.rel
  have hnm : n ≤ m := by
    have := congrArg List.length Sc.pre
    rw [List.length_take] at this
    omega
  unfold fnOf at hq
  by_cases hc : as.length = n ∧ (List.range n).all (fun i => fx i || isD (as.map some) i) = true
  · rw [if_pos hc] at hq
    have KX : K.In s.heap := e0.mod.kin.keeps fun b o e => (e0.bs b o e).1
    have lim : s.heap.NoLimit := e0.mod.nolimit.keeps fun b o e => (e0.bs b o e).1
    have hkind : ∀ y ∈ ps.zip us, (defScope st).names.lookup y.1 = some .local ∨ ((defScope st).names.lookup y.1 = some .cell ∧ ((cellsFrom (s.heap.objs.size + 1) (defScope st).names []).lookup y.1).isSome = true) := fun ⟨a, v⟩ hy => by
      rcases Sc.par a (List.of_mem_zip hy).1 with q | q
      · exact .inl q
      · exact .inr ⟨q, PySem.W.cellsFrom_some _ _ _ (.inl q)⟩
    refine codeAny_call_function hr.depth (KX _ _ lk) rfl Sc.co Sc.gen rfl (PySem.W.codeRec_of KX hcd) (hb _ _ _ _ ?_)
    refine wpAny_newFunctionEnv_cells Sc.kind hkind fun env he s1 y => ?_
    subst he
    refine ⟨lim.keeps y.toInCall.keep, codeAny_func ?_⟩
    have ok : Ok (cx P w K mg base N x st f cdv A outer s H E) (wx E) k := ⟨hr.deeper _, by first | exact hgd | (show (A.deeper _).guards = _; simpa [Around.deeper] using hgd), takes_of rfl rfl rfl rfl, rfl, Sc.nd⟩
    have ht := hbody cdv A outer s H E vs ok
    have I : L2.Inv (cx P w K mg base N x st f cdv A outer s H E) [] (L2.start N vs) H s1 := inv_start Sc hr.hd e0 hl r y
    have R := rel_start (cl := cl) ar hc.1 hm hnm hfx hc.2
    -- behind the body
    have cs : ∀ {σ' : St} {S' : Sl} {H' : Hp}, Step (L2.start N vs) (as.map some ++ List.replicate (m - n) none) H σ' S' H' → CStep vs as H H' := fun {σ' S' H'} st => ⟨fun b o hb nm => st.keep b o hb fun l => by
        obtain ⟨i, o', e, q⟩ := l
        have e1 := at_start e
        obtain ⟨u, h1, h2⟩ := paired_at ar.rel e1
        rw [start_at h1] at q
        cases q
        exact nm (livL_of h1 e1), st.trk⟩
    have ou : ∀ {σ' : St} {S' : Sl} {H' : Hp}, Rel K (.mk0 H vs fx cl) σ' H' S' → OutsR K H' vs as (S'.take n) := fun {σ' S' H'} R' i v o w h1 h2 h3 => by
      have hi : i < n := by rw [← hc.1]; exact (List.getElem?_eq_some_iff.mp h2).1
      have f' : fx i = true := by
        have := List.all_eq_true.mp hc.2 i (List.mem_range.mpr hi)
        cases e : fx i with
        | true => rfl
        | false =>
          rw [e, Bool.false_or] at this
          refine absurd ?_ (isD_of (o := o) this)
          unfold at?
          rw [List.getElem?_map, h2]
          rfl
      obtain ⟨u, q1, q2⟩ := R'.rel i w (take_at h3)
      obtain ⟨u', q3, q4⟩ := R'.par i f'
      rw [q1] at q3
      cases q3
      have q4 : vs[i]? = some u := q4
      rw [h1] at q4
      cases q4
      exact q2
    have hend : Ends K (.mk0 H vs fx cl) (wx E) { nx := fun _ H' => Q .non H', rt := Q } (L2.start N vs) (as.map some ++ List.replicate (m - n) none) H (B (as.map some ++ List.replicate (m - n) none)) := by
      cases q : B (as.map some ++ List.replicate (m - n) none) with
      | nx S' =>
        rw [q] at hq
        exact fun σ' H' st R' => hq .non H' (cs st) (ou R') .non
      | bk S' => rw [q] at hq; exact hq.elim
      | ct S' => rw [q] at hq; exact hq.elim
      | bad => rw [q] at hq; exact hq.elim
      | exc y S' =>
        rw [q] at hq
        exact fun σ' H' cls d st R' xr => hq cls d H' (cs st) (ou R') (XR.of xr)
      | rt v S' =>
        rw [q] at hq
        intro σ' H' u st R' vr
        cases v with
        | d y => exact hq u H' (cs st) (ou R') vr
        | fr o =>
          obtain ⟨a, rfl, ob, _, z⟩ := vr
          exact hq _ H' (cs st) (ou R') ⟨a, rfl, z, ob⟩
        | br i =>
          have hq : match (if i < n then CRes.bad else match at? S' i with | some v => CRes.ok v (S'.take n) | none => .bad) with
            | .ok r os => ∀ v H', CStep vs as H H' → OutsR K H' vs as os → ResR K H H' v r → Q v H'
            | .exc x os => ∀ cls d H', CStep vs as H H' → OutsR K H' vs as os → XR K cl H' x cls d → E cls d H'
            | .bad => False := hq
          by_cases hi : i < n
          · rw [if_pos hi] at hq; exact hq.elim
          · rw [if_neg hi] at hq
            cases q2 : at? S' i with
            | none => rw [q2] at hq; exact hq.elim
            | some v =>
              rw [q2] at hq
              obtain ⟨u', q3, q4⟩ := R'.rel i v q2
              have vr : σ'[i]? = some (some u) := vr
              rw [vr] at q3
              cases q3
              refine hq u H' (cs st) (ou R') ?_
              cases v with
              | d y => exact q4
              | live o =>
                obtain ⟨a, rfl, ob⟩ := q4
                refine ⟨a, rfl, ?_, ob⟩
                exact R'.fresh i o a q2 (by
                  cases e : fx i with
                  | true => exact absurd (hfx i e) hi
                  | false => exact e) vr
    refine wpAny_mono (ht.run [] s1 (L2.start N vs) H _ I ⟨_, R, hend⟩) (fun fl s' hs => ?_) fun e s' hs => hs
    have fin : ∀ {σ' : St} {H' : Hp} {v : V} {u : Value}, L2.Inv (cx P w K mg base N x st f cdv A outer s H E) [] σ' H' s' → RelV v u → Q v H' → CE outer P w H s Q u s' :=
      fun {σ' H' v u} J rv q => ⟨v, H', J.os, J.bare, J.base, J.hok, rv, q⟩
    cases fl with
    | ret u =>
      obtain ⟨v, σ', H', J, rv, q⟩ := hs
      exact fin J rv q
    | next =>
      obtain ⟨σ', H', J, q⟩ := hs
      exact fin (v := V.non) (u := Value.none) J rfl q
    | brk =>
      obtain ⟨_, _, _, q⟩ := hs
      exact q.elim
    | cont =>
      obtain ⟨_, _, _, q⟩ := hs
      exact q.elim
  · rw [if_neg hc] at hq
    exact hq.elim
end
end Fm

/-! FmP: operators and built-ins on data. -/
namespace Fm
open PySem

abbrev bD (b : Bool) : Option RV := some (.d (.bool b))
abbrev iD (i : Int) : Option RV := some (.d (.int i))
/-- the slots in l -/
def fxL (l : List Nat) (i : Nat) : Bool := l.contains i
def addD : D → D → Option RV
  | .int i, .int j => iD (i + j)
  | .str a, .str b => if fits (a.length + b.length) = true then some (.d (.str (a ++ b))) else none
  | .tuple a, .tuple b => if fits (a.length + b.length) = true then some (.d (.tuple (a ++ b))) else none
  | .list a, .list b => if fits (a.length + b.length) = true then some (.fr (.lst (a ++ b))) else none
  | _, _ => none
def subD : D → D → Option RV
  | .int i, .int j => iD (i - j)
  | _, _ => none
def small64 (i : Int) : Bool := decide (-(2 ^ 64) < i) && decide (i < 2 ^ 64)
def inIx (i : Int) : Bool := decide (-(2 ^ 63) ≤ i) && decide (i < 2 ^ 63)
def mulD : D → D → Option RV
  | .int i, .int j => if (small64 i || small64 j) = true then iD (i * j) else none
  | .list xs, .int k => if (inIx k && fits (xs.length * k.toNat)) = true then some (.fr (.lst (List.replicate k.toNat xs).flatten)) else none
  | .tuple xs, .int k => if (decide (0 ≤ k) && decide (k ≤ 1000) && !xs.isEmpty && decide (xs.length ≤ 1000)) = true then some (.d (.tuple (List.replicate k.toNat xs).flatten)) else none
  | _, _ => none
def modD : D → D → Option RV
  | .int i, .int j => if 0 < j then iD (i % j) else none
  | _, _ => none
def fdivD : D → D → Option RV
  | .int i, .int j => if 0 < j ∧ j < 18446744073709551616 then iD (i / j) else none
  | _, _ => none
def powD : D → D → Option RV
  | .int i, .int j => if 0 ≤ j ∧ j ≤ 1000000 ∧ i.natAbs < 2 ^ 64 then iD (i ^ j.toNat) else none
  | _, _ => none
def negD : D → Option RV
  | .int i => iD (-i)
  | _ => none
/-- == where a dict lies somewhere within -/
def eqE : D → D → Option Bool
  | .tuple (_ :: _), .tuple [] => some false
  | _, _ => none
/-- == : two texts, intsD, boolsD at once; else data without dicts, of little depth -/
def eqB : D → D → Option Bool
  | .int i, .int j => some (i == j)
  | .str a, .str b => some (a == b)
  | .bool a, .bool b => some (a == b)
  | x, y => if (SeqAt.shaped x && SeqAt.shaped y) = true then some (PyData.eqv x y) else none
def eqD (x y : D) : Option RV := (match eqB x y with | some b => some b | none => eqE x y).map fun b => .d (.bool b)
def neD (x y : D) : Option RV := (eqB x y).map fun b => .d (.bool (!b))
def isN : D → Bool
  | .none => true
  | _ => false
/-- the two can be ordered -/
def cmpOk (_ _ : D) : Bool := false
def ltD : D → D → Option RV
  | .int i, .int j => bD (decide (i < j))
  | .str a, .str b => bD (decide (a.cps.toList < b.cps.toList))
  | .tuple a, .tuple b => if cmpOk (.tuple a) (.tuple b) = true then bD (PySem.W.dataLt (.tuple a) (.tuple b)) else none
  | _, _ => none
def leD : D → D → Option RV
  | .int i, .int j => bD (decide (i ≤ j))
  | .str a, .str b => bD (!decide (b.cps.toList < a.cps.toList))
  | .tuple a, .tuple b => if cmpOk (.tuple a) (.tuple b) = true then bD (!PySem.W.dataLt (.tuple b) (.tuple a)) else none
  | _, _ => none
def gtD : D → D → Option RV
  | .int i, .int j => bD (decide (j < i))
  | .str a, .str b => bD (decide (b.cps.toList < a.cps.toList))
  | .tuple a, .tuple b => if cmpOk (.tuple a) (.tuple b) = true then bD (PySem.W.dataLt (.tuple b) (.tuple a)) else none
  | _, _ => none
def geD : D → D → Option RV
  | .int i, .int j => bD (decide (j ≤ i))
  | .str a, .str b => bD (!decide (a.cps.toList < b.cps.toList))
  | .tuple a, .tuple b => if cmpOk (.tuple a) (.tuple b) = true then bD (!PySem.W.dataLt (.tuple a) (.tuple b)) else none
  | _, _ => none
def flat : D → Bool
  | .none => true
  | .bool _ => true
  | .int _ => true
  | .str _ => true
  | _ => false
/-- x in xs -/
def isI : D → Bool
  | .int _ => true
  | _ => false
def okI : D → Bool
  | .dict ds => ds.isEmpty
  | d => d.canLay0
def isDt : D → Bool
  | .dict ds => ds.isEmpty
  | _ => false
def isSt : D → Bool
  | .str _ => true
  | _ => false
def inOk (x : D) (xs : List D) : Bool := (flat x && xs.all flat) || (x.canLay0 && PyData.canLayAll0 xs && decide (x.depth ≤ 60)) || ((isI x && xs.all okI) || (isDt x && xs.all isSt))
def inB (x : D) : D → Option Bool
  | .list xs => if inOk x xs = true then some (xs.any fun y => PyData.eqv y x) else none
  | .tuple xs => if inOk x xs = true then some (xs.any fun y => PyData.eqv y x) else none
  | .str z => match x with
    | .str w => if w.cps.size = 1 then some (decide (w.cps.getD 0 0 ∈ z.cps.toList)) else none
    | _ => none
  | .dict ((.none, _) :: _) => none
  | .dict ds => (kyOf x).map fun k => (dGet ds k).isSome
  | _ => none
def inD (x y : D) : Option RV := (inB x y).map fun b => .d (.bool b)
def notInD (x y : D) : Option RV := (inB x y).map fun b => .d (.bool (!b))
/-- x[i] -/
def atD {α : Type} (xs : List α) (i : Int) : Option α := (ixD xs.length i).bind fun j => xs[j]?
def ixOp : D → D → Option RV
  | .list xs, .int i => (atD xs i).map .d
  | .tuple xs, .int i => (atD xs i).map .d
  | .str z, .int i => if fits z.length = true then (atD z.cps.toList i).map fun c => .d (.str ⟨#[c]⟩) else none
  | .dict ((.none, _) :: _), _ => none
  | .dict ds, k => (kyOf k).bind fun q => (dGet ds q).map .d
  | _, _ => none
/-- x[lo:hi] -/
def sIx (n d : Nat) : Option Int → Nat
  | none => d
  | some v => if v < 0 then (v + (n : Int)).toNat else min v.toNat n
def cutL {α : Type} (xs : List α) (lo hi : Option Int) : List α := (xs.drop (sIx xs.length 0 lo)).take (sIx xs.length xs.length hi - sIx xs.length 0 lo)
def cutSt (z : Str) (lo hi : Option Int) : Str := ⟨(cutL z.cps.toList lo hi).toArray⟩
def sliceD (lo hi : Option Int) : D → Option RV
  | .str z => if fits z.length = true then some (.d (.str (cutSt z lo hi))) else none
  | .list xs => some (.fr (.lst (cutL xs lo hi)))
  | .tuple xs => some (.d (.tuple (cutL xs lo hi)))
  | _ => none
def asInt : D → Option Int
  | .int i => some i
  | _ => none
/-- a part of a slice -/
abbrev Px := Sl → Res (Option Int)
def pNone : Px := fun S => .ok none S
def pSome (a : Ex) : Px := fun S => (a S).bind fun x S1 => onO ((view S1 x).bind asInt) fun i => .ok (some i) S1
def eSlice (a : Ex) (lo hi : Px) : Ex := fun S => (a S).bind fun x S1 => (lo S1).bind fun l S2 => (hi S2).bind fun h S3 => give S3 ((view S3 x).bind (sliceD l h))
def revD : D → Option RV
  | .list xs => some (.fr (.lst xs.reverse))
  | _ => none
/-! built-in functions -/
def on1 (f : D → Option RV) : List D → Option RV
  | [x] => f x
  | _ => none

def lenD : D → Option RV
  | .list xs => iD xs.length
  | .tuple xs => iD xs.length
  | .str z => if fits z.length = true then iD z.length else none
  | .dict ((.none, _) :: _) => none
  | .dict ds => iD ds.length
  | _ => none
def absD : D → Option RV
  | .int i => iD (if i < 0 then -i else i)
  | _ => none
/-- the items can all be ordered -/
def ordOk (xs : List D) : Bool := xs.all (fun x => xs.all fun y => PySem.W.alike x y) && xs.all (fun x => !isN x) && PyData.canLayAll0 xs && decide (PyData.depthAll xs ≤ 60)
def max2D : List D → Option RV
  | [.int i, .int j] => iD (if j > i then j else i)
  | [.list (x :: xs)] => if ordOk (x :: xs) = true then some (.d (PySem.W.maxD x xs)) else none
  | [.tuple (x :: xs)] => if ordOk (x :: xs) = true then some (.d (PySem.W.maxD x xs)) else none
  | _ => none
def min2D : List D → Option RV
  | [.int i, .int j] => iD (if j < i then j else i)
  | [.list (x :: xs)] => if ordOk (x :: xs) = true then some (.d (PySem.W.minD x xs)) else none
  | [.tuple (x :: xs)] => if ordOk (x :: xs) = true then some (.d (PySem.W.minD x xs)) else none
  | _ => none
def divmodD : List D → Option RV
  | [.int i, .int j] => if 0 < j ∧ j < 18446744073709551616 then some (.d (.tuple [.int (i / j), .int (i % j)])) else none
  | _ => none
def boolsD : List D → Option (List Bool)
  | [] => some []
  | .bool b :: r => (boolsD r).map fun bs => b :: bs
  | _ => none
def intsD : List D → Option (List Int)
  | [] => some []
  | .int i :: r => (intsD r).map fun is => i :: is
  | _ => none
def allD : D → Option RV
  | .list xs => (boolsD xs).bind fun bs => bD (bs.all id)
  | _ => none
def anyD : D → Option RV
  | .list xs => (boolsD xs).bind fun bs => bD (bs.any id)
  | _ => none
def sumD : D → Option RV
  | .list xs => (intsD xs).bind fun is => iD is.sum
  | _ => none
def intD : D → Option RV
  | .int i => iD i
  | .bool b => iD (if b then 1 else 0)
  | _ => none
def tupleD : D → Option RV
  | .list xs => some (.d (.tuple xs))
  | .tuple xs => some (.d (.tuple xs))
  | _ => none
def listD : D → Option RV
  | .list xs => some (.fr (.lst xs))
  | .tuple xs => some (.fr (.lst xs))
  | _ => none
def isT1 : D → Bool
  | .tuple (_ :: _) => true
  | _ => false
def isT : D → Bool
  | .tuple _ => true
  | _ => false
def sortOk (xs : List D) : Bool := ordOk xs && (xs.all isT1 || xs.all fun x => !isT x) && fits xs.length
def sortL (xs : List D) : List D := xs.mergeSort (PySem.W.dataLe false id)
def sortedD : D → Option RV
  | .list xs => if sortOk xs = true then some (.fr (.lst (sortL xs))) else none
  | .tuple xs => if sortOk xs = true then some (.fr (.lst (sortL xs))) else none
  | _ => none
mutual
def noLst : D → Bool
  | .list _ => false
  | .tuple xs => noLsts xs
  | .dict kvs => kvs.isEmpty
  | .none | .bool _ | .int _ | .str _ => true
def noLsts : List D → Bool
  | [] => true
  | x :: xs => noLst x && noLsts xs
end
theorem okRs_all : ∀ {xs : List D}, (∀ y ∈ xs, okR y = true) → okRs xs = true
  | [], _ => by rw [okRs]
  | x :: xs, h => by
    rw [okRs, h x (by simp), okRs_all fun y hy => h y (by simp [hy])]
    rfl
theorem okRs_mem : ∀ {xs : List D}, okRs xs = true → ∀ y ∈ xs, okR y = true
  | x :: xs, h, y, hy => by
    rw [okRs, Bool.and_eq_true] at h
    rcases List.mem_cons.mp hy with rfl | hy
    · exact h.1
    · exact okRs_mem h.2 y hy
theorem okR_okI {x : D} (h : okI x = true) : okR x = true := by
  cases x with
  | dict ds => exact h
  | _ => exact okR_lay h
theorem okR_isSt {x : D} (h : isSt x = true) : okR x = true := by
  cases x with
  | str s => rfl
  | _ => cases h
def tyName : D → String
  | .none => "NoneType"
  | .bool _ => "bool"
  | .int _ => "int"
  | .str _ => "str"
  | .list _ => "list"
  | .tuple _ => "tuple"
  | .dict _ => "dict"
def isSub (s t : String) : Bool := s == t || (s == "bool" && t == "int")
def isiD (T : String) (x : D) : Option RV := if isErrD x = true then none else bD (isSub (tyName x) T)
/-- list(range(..)) -/
def range24 (xs : List D) : Bool := decide (xs.length ≤ 2 ^ 24)
def eListRange (w : Wx) : Ex := fun S => (w S).bind fun xs S1 => if range24 xs = true then .ok (.fr (.lst xs)) S1 else .bad
def eTupRange (w : Wx) : Ex := fun S => (w S).bind fun xs S1 => if range24 xs = true then .ok (.d (.tuple xs)) S1 else .bad
/-! methods that change the list of a slot -/
/-- x.m(a, ..): f by the list's items and the frozen arguments -/
def mutAt (f : List D → List D → Option (List D × D)) (S : Sl) (i : Nat) (ds : List D) : Res RV := match at? S i with
  | some (.live (.lst xs)) => onO (f xs ds) fun p => .ok (.d p.2) (S.set i (some (.live (.lst p.1))))
  | _ => .bad
def eMut (f : List D → List D → Option (List D × D)) (i : Nat) (a : Lx) : Ex := fun S => match at? S i with
  | some (.live (.lst _)) => (a S).bind fun ds S1 => mutAt f S1 i ds
  | _ => .bad
def appendL (xs : List D) : List D → Option (List D × D)
  | [y] => if xs.length < sizeLine then some (xs ++ [y], .none) else none
  | _ => none
def popAtL (xs : List D) : List D → Option (List D × D)
  | [.int i] => if inIx i = true then (ixD xs.length i).bind fun k => (xs[k]?).map fun y => (xs.eraseIdx k, y) else none
  | _ => none
def popL (xs : List D) : List D → Option (List D × D)
  | [] => (xs[xs.length - 1]?).map fun y => (xs.dropLast, y)
  | _ => none
def extendL (xs : List D) : List D → Option (List D × D)
  | [.list ys] => if fits (xs.length + ys.length) = true then some (xs ++ ys, .none) else none
  | [.tuple ys] => if fits (xs.length + ys.length) = true then some (xs ++ ys, .none) else none
  | _ => none
/-- o.m(a), o of type T -/
def eM (T : String) (f : D → D → Option RV) (a b : Ex) : Ex := fun S => (a S).bind fun x S1 => onO (view S1 x) fun dx => if tyName dx = T then (b S1).bind fun y S2 => give S2 ((view S2 x).bind fun dx => (view S2 y).bind fun dy => f dx dy) else .bad
def countD : D → D → Option RV
  | .list xs, y => if (SeqAt.shaped (.list xs) && SeqAt.shaped y) = true then iD (xs.countP fun x => PyData.eqv x y) else none
  | _, _ => none
def strsD : List D → Option (List Str)
  | [] => some []
  | .str s :: r => (strsD r).map fun l => s :: l
  | _ => none
def joinOk (a : Str) (ys : List Str) : Bool := decide ((ys.map (·.length)).sum + ys.length * a.length ≤ 16777216)
def joinD : D → D → Option RV
  | .str a, .list xs => (strsD xs).bind fun ys => if joinOk a ys = true then some (.d (.str (Str.join a ys))) else none
  | .str a, .tuple xs => (strsD xs).bind fun ys => if joinOk a ys = true then some (.d (.str (Str.join a ys))) else none
  | _, _ => none
def isOp : D → D → Option RV
  | x, .none => bD (isN x)
  | .bool a, .bool b => bD (a == b)
  | _, _ => none
def isNotOp : D → D → Option RV
  | x, .none => bD (!isN x)
  | .bool a, .bool b => bD (!(a == b))
  | _, _ => none
/-! dicts -/
def pairsD : List D → Option (List (D × D))
  | [] => some []
  | .tuple [k, v] :: r => if (kyOf k).isSome = true then (pairsD r).map fun l => (k, v) :: l else none
  | _ => none
def mergeD (ds ps : List (D × D)) : List (D × D) := ps.foldl (fun acc p => dPut acc p.1 p.2) ds
/-- dict(x): a list of pairs, a dict -/
def dictD : D → Option RV
  | .list xs => (pairsD xs).map fun ps => .fr (.dct (mergeD [] ps))
  | .dict ((.none, _) :: _) => none
  | .dict ds => some (.fr (.dct ds))
  | _ => none
def eDct0 : Ex := fun S => .ok (.fr (.dct [])) S
/-- d.get(k, x) -/
def getOr (ds : List (D × D)) (k x : D) : Option D := (kyOf k).map fun q => (dGet ds q).getD x
def getD3 : D → D → D → Option D
  | .dict ((.none, _) :: _), _, _ => none
  | .dict ds, k, x => getOr ds k x
  | _, _, _ => none
/-- d.get(k), d.get(k, x) -/
def getK : D → D → D → Option RV
  | .dict ((.none, _) :: _), _, _ => none
  | .dict ds, k, z => (getOr ds k z).map .d
  | _, _, _ => none
def eGet1 (o : Ex) (k : Dx) : Ex := fun S => (o S).bind fun x S1 => onO ((view S1 x).bind asDct) fun _ => (k S1).bind fun y S2 => give S2 ((view S2 x).bind fun dx => getK dx y .none)
def eGet2 (o : Ex) (k f : Dx) : Ex := fun S => (o S).bind fun x S1 => onO ((view S1 x).bind asDct) fun _ => (k S1).bind fun y S2 => (f S2).bind fun z S3 => give S3 ((view S3 x).bind fun dx => getK dx y z)
/-- {k: v for ..} -/
def dcL (g : Tt) (t : Tx) (k e : Dx) (vs : List Nat) : List D → List (D × D) → Sl → Res (List (D × D))
  | [], acc, S => .ok acc S
  | x :: xs, acc, S => onO (g.run x (wipeL vs S)) fun S1 => (t S1).calm fun c S2 => if c = true then
      (k S2).calm fun q S3 => (e S3).calm fun y S4 => if (kyOf q).isSome = true ∧ acc.length < sizeLine then dcL g t k e vs xs (dPut acc q y) S4 else .bad
    else dcL g t k e vs xs acc S2
def eDc (w : Wx) (g : Tt) (t : Tx) (k e : Dx) (vs : List Nat) : Ex := fun S => (w S).bind fun xs S1 =>
  if vs.all (isD S1) then (dcL g t k e vs xs [] S1).bind fun ys S2 => .ok (.fr (.dct ys)) (backL S1 vs S2) else .bad
/-- sorted(xs, key=f): f's key of each item -/
def keysD (F : Fn) : List D → Option (List D)
  | [] => some []
  | x :: r => match F [.d x] with
    | .ok (.d k) _ => (keysD F r).map fun ks => k :: ks
    | _ => none
def ksortOk (ks : List D) : Bool := sortOk ks && ks.all fun k => PySem.W.alike k k
/-- stably by the keys -/
def ksortL (ks xs : List D) : List D := ((xs.zip ks).mergeSort (PySem.W.dataLe false Prod.snd)).map Prod.fst
def ksortedD (F : Fn) : D → Option RV
  | .list xs => (keysD F xs).bind fun ks => if ksortOk ks = true then some (.fr (.lst (ksortL ks xs))) else none
  | _ => none
/-! ### zip of two lists, of two tuples; insert -/
def zipL : List D → List D → List D
  | x :: xs, y :: ys => .tuple [x, y] :: zipL xs ys
  | _, _ => []
def zip2 : List D → Option (List D)
  | [.list xs, .list ys] => some (zipL xs ys)
  | [.tuple xs, .tuple ys] => some (zipL xs ys)
  | _ => none
def wZip (a : Lx) : Wx := fun S => (a S).bind fun vs S1 => onO (zip2 vs) fun xs => .ok xs S1
def insertL (xs : List D) : List D → Option (List D × D)
  | [.int i, y] => if (decide (xs.length < sizeLine) && decide (0 ≤ i) && decide (i < 2 ^ 63)) = true then some (xs.take i.toNat ++ [y] ++ xs.drop i.toNat, .none) else none
  | _ => none
end Fm

/-! FmO: operators and built-ins do what FmP says. -/
namespace Fm
open PySem L2
section
variable {X : Cx}
theorem fits_of {n : Nat} (h : fits n = true) : n ≤ sizeLine := of_decide_eq_true h
/-- a list that is read, as it lies -/
theorem lst_read {pins : List (Addr × Obj)} {σ : St} {H : Hp} {s : Shared} {a : Addr} {vs : List V} (I : Inv X pins σ H s) (h : Rd H a (.lst vs)) : vs.length ≤ sizeLine ∧ ∃ (its : List Value) (n : Nat), Vals vs its ∧ vs.length = its.length ∧ s.heap.get? a = some { cls := .type "list", data := .seq its.toArray n } := by
  obtain ⟨z, its, n, r, e⟩ := h.ok I.hok
  exact ⟨z, its, n, r, r.length, e⟩
theorem ok_add : OpOk X (binaryOp .Add) addD := by
  intro pins s σ H x y v u Q I rx ry h
  obtain ⟨dx, dy, rv, tx, ty, e, Y⟩ := h
  cases dx with
  | int i =>
    cases dy with
    | int j =>
      cases e
      cases tx.int
      cases ty.int
      exact op_add pins s σ H _ _ v u Q I rx ry ⟨i, j, rfl, rfl, Y.same (.int _)⟩
    | _ => cases e
  | str a =>
    cases dy with
    | str b =>
      have e : (if fits (a.length + b.length) = true then some (RV.d (.str (a ++ b))) else none) = some rv := e
      by_cases hf : fits (a.length + b.length) = true
      · rw [if_pos hf] at e
        cases e
        cases tx.str
        cases ty.str
        exact op_add_str pins s σ H _ _ v u Q I rx ry ⟨a, b, rfl, rfl, fits_of hf, Y.same (.str _)⟩
      · rw [if_neg hf] at e
        cases e
    | _ => cases e
  | tuple a =>
    cases dy with
    | tuple b =>
      have e : (if fits (a.length + b.length) = true then some (RV.d (.tuple (a ++ b))) else none) = some rv := e
      by_cases hf : fits (a.length + b.length) = true
      · rw [if_pos hf] at e
        cases e
        obtain ⟨p, vs, rfl, h1, f1⟩ := tx.tupA
        obtain ⟨q, ws, rfl, h2, f2⟩ := ty.tupA
        refine op_catA pins s σ H _ _ v u Q I rx ry ⟨p, q, vs, ws, rfl, rfl, h1.1, h2.1, by rw [f1.length, f2.length]; exact fits_of hf, fun z => ?_, fun _ z => ?_, fun _ _ c hc => ?_⟩
        · subst z
          cases f1
          exact Y.same (.tup h2 f2)
        · subst z
          cases f2
          rw [List.append_nil] at Y
          exact Y.same (.tup h1 f1)
        · exact Y.tup hc (f1.append f2)
      · rw [if_neg hf] at e
        cases e
    | _ => cases e
  | list a =>
    cases dy with
    | list b =>
      have e : (if fits (a.length + b.length) = true then some (RV.fr (.lst (a ++ b))) else none) = some rv := e
      by_cases hf : fits (a.length + b.length) = true
      · rw [if_pos hf] at e
        cases e
        obtain ⟨p, vs, rfl, h1, f1⟩ := tx.lst
        obtain ⟨q, ws, rfl, h2, f2⟩ := ty.lst
        cases rx
        cases ry
        obtain ⟨z1, is, n, r1, l1, e1⟩ := lst_read I h1
        obtain ⟨z2, js, m, r2, l2, e2⟩ := lst_read I h2
        have hz := fits_of hf
        have k1 := f1.length
        have k2 := f2.length
        refine PySem.P.add_list e1 e2 ?_ (by rw [List.size_toArray, List.size_toArray]; omega)
        have ea : is.toArray ++ js.toArray = (is ++ js).toArray := by simp
        rw [ea]
        exact ⟨.ref _, _, I.lnew (t' := s.toks) (r1.append r2) (by rw [List.length_append]; omega), rfl, Y.lst I.fresh (f1.append f2)⟩
      · rw [if_neg hf] at e
        cases e
    | _ => cases e
  | _ => cases e
theorem ok_int {op : Value → Value → Sem Value} {f : Int → Int → Int} {f' : D → D → Option RV} (ho : OpR X op (rI0 fun i j => .int (f i j))) (hf : ∀ x y rv, f' x y = some rv → ∃ i j, x = .int i ∧ y = .int j ∧ rv = .d (.int (f i j))) : OpOk X op f' := by
  intro pins s σ H x y v u Q I rx ry h
  obtain ⟨dx, dy, rv, tx, ty, e, Y⟩ := h
  obtain ⟨i, j, rfl, rfl, rfl⟩ := hf _ _ _ e
  cases tx.int
  cases ty.int
  exact ho pins s σ H _ _ v u Q I rx ry ⟨i, j, rfl, rfl, Y.same (.int _)⟩
theorem ok_intC {op : Value → Value → Sem Value} {C : Int → Int → Prop} {f : Int → Int → Int} {f' : D → D → Option RV} (ho : OpR X op (L2.rI C fun i j => .int (f i j))) (hf : ∀ x y rv, f' x y = some rv → ∃ i j, x = .int i ∧ y = .int j ∧ C i j ∧ rv = .d (.int (f i j))) : OpOk X op f' := by
  intro pins s σ H x y v u Q I rx ry h
  obtain ⟨dx, dy, rv, tx, ty, e, Y⟩ := h
  obtain ⟨i, j, rfl, rfl, c, rfl⟩ := hf _ _ _ e
  cases tx.int
  cases ty.int
  exact ho pins s σ H _ _ v u Q I rx ry ⟨i, j, rfl, rfl, c, Y.same (.int _)⟩
theorem ok_boolI {op : Value → Value → Sem Value} {f : Int → Int → Bool} {f' : D → D → Option RV} (ho : OpR X op (rI0 fun i j => .bl (f i j))) (hf : ∀ x y rv, f' x y = some rv → ∃ i j, x = .int i ∧ y = .int j ∧ rv = .d (.bool (f i j))) : OpOk X op f' := by
  intro pins s σ H x y v u Q I rx ry h
  obtain ⟨dx, dy, rv, tx, ty, e, Y⟩ := h
  obtain ⟨i, j, rfl, rfl, rfl⟩ := hf _ _ _ e
  cases tx.int
  cases ty.int
  exact ho pins s σ H _ _ v u Q I rx ry ⟨i, j, rfl, rfl, Y.same (.bl _)⟩
theorem ok_sub : OpOk X (binaryOp .Sub) subD := ok_int op_sub fun x y rv e => by
  cases x with
  | int i =>
    cases y with
    | int j => cases e; exact ⟨i, j, rfl, rfl, rfl⟩
    | _ => cases e
  | _ => cases e
theorem small64_of {i : Int} (h : small64 i = true) : -(2 ^ 64) < i ∧ i < 2 ^ 64 := by
  unfold small64 at h
  rw [Bool.and_eq_true] at h
  exact ⟨of_decide_eq_true h.1, of_decide_eq_true h.2⟩
theorem inIx_of {i : Int} (h : inIx i = true) : -(2 ^ 63) ≤ i ∧ i < 2 ^ 63 := by
  unfold inIx at h
  rw [Bool.and_eq_true] at h
  exact ⟨of_decide_eq_true h.1, of_decide_eq_true h.2⟩
theorem op_repR : OpR X (binaryOp .Mult) fun x y H Q => ∃ l k xs, x = .ref l ∧ y = .int k ∧ Rd H l (.lst xs) ∧ -(2 ^ 63) ≤ k ∧ k < 2 ^ 63 ∧ xs.length * k.toNat ≤ sizeLine ∧ ∀ p, H p = none → Q (.ref p) (upd H p (.lst (List.replicate k.toNat xs).flatten)) := by
  intro pins s σ H x y v u Q I rx ry h
  obtain ⟨l, k, xs, rfl, rfl, hH, h1, h2, hz, q⟩ := h
  cases rx
  obtain ⟨t, rfl⟩ := ry
  obtain ⟨z, its, n, r, hl, e⟩ := lst_read I hH
  have hlen : its.toArray.size * k.toNat ≤ sizeLine := by rw [List.size_toArray, ← hl]; exact hz
  have hcap : ¬ its.toArray.size * k.toNat > (2 ^ 63 - 1) / 8 := by
    have : (sizeLine : Nat) ≤ (2 ^ 63 - 1) / 8 := by decide
    omega
  have hfit : ¬ (!Builtin.List.listFitsIndex k) = true := by rw [fitsIndex_both h1 h2]; exact Bool.false_ne_true
  have hlong : ¬ Builtin.List.listTooLong (its.toArray.size * k.toNat) = true := by rw [notLongL hlen]; exact Bool.false_ne_true
  have hnew : List.foldl (fun x1 x2 => x1 ++ x2) #[] (List.replicate (if its.toArray.isEmpty = true then 0 else k.toNat) its.toArray) = (List.replicate k.toNat its).flatten.toArray := by
    have f0 : ∀ m : Nat, List.foldl (fun x1 x2 => x1 ++ x2) #[] (List.replicate m its.toArray) = (List.replicate m its).flatten.toArray := fun m => by
      have q := foldl_rep its m []
      rwa [List.nil_append] at q
    rw [f0]
    cases its with
    | nil => simp
    | cons a r' => rw [if_neg (by simp)]
  refine wpAny_binaryOp_repeat_ref (T := "list") (U := "int") (by decide) ⟨_, e, rfl⟩ (fun s' => typeIs_int s' k t) noFill_list_mul F.fills_int_mul F.slot_int_rmul repeat_list F.slot_int_index.lookup
    (call_meets F.slot_int_rmul (typeIs_int s k t) F.entry_int_rmul (F.args_int_rmul_2 _ _) (int___rmul___int_list k t l its.toArray n)
      ⟨e, rfl, ⟨_, e, rfl⟩, call_meets F.slot_list_mul ⟨_, e, rfl⟩ F.entry_list_mul (F.args_list_mul_2 _ _) (AutoListH.list___mul___list_int_3 l its.toArray n k t hfit hcap hlong) ⟨e, ?_⟩⟩)
  rw [hnew]
  exact ⟨.ref _, _, I.lnew (t' := s.toks) (r.rep k.toNat) (by rw [PyProof.Rows.lm_len_rep_flat, Nat.mul_comm]; exact hz), rfl, q _ I.fresh⟩
theorem FDs.rep {K : PySem.W.Frag} {H : Hp} {vs : List V} {xs : List D} (h : FDs K H vs xs) : ∀ k : Nat, FDs K H (List.replicate k vs).flatten (List.replicate k xs).flatten
  | 0 => .nil
  | k + 1 => by
    rw [List.replicate_succ, List.replicate_succ, List.flatten_cons, List.flatten_cons]
    exact h.append (FDs.rep h k)
section
open PySem.SeqAt PySem.MeetsSeq
open PySem.AutoSeq1 (wpAny_loadPart')
theorem tuple_mul1 (l : Addr) (items : Array Value) (n : Nat) (dd : Option Addr) (sl : Array (Option Value)) (u : Tok) :
    PySem.Meets (Builtin.«tuple.__mul__» ⟨[.ref l, .int 1 u], []⟩) (fun _ R s => s.heap.get? l = some { cls := .type "tuple", dict := dd, data := .seq items n, slots := sl } ∧ R (.ok (.ret (Value.ref l))) s) :=
  .of_wp fun prog w A R s h => by
    obtain ⟨hp, g, d, tk, os⟩ := s
    obtain ⟨hl, h⟩ := h
    have f1 := AutoSeq1.idx_int
    wp_walk using wpAny_loadPart' hl
    exact ⟨_, rfl, h⟩
theorem tuple_mul0 (l : Addr) (items : Array Value) (n : Nat) (dd : Option Addr) (sl : Array (Option Value)) (u : Tok) (c1 : items.isEmpty = false) :
    PySem.Meets (Builtin.«tuple.__mul__» ⟨[.ref l, .int 0 u], []⟩) (fun _ R s => s.heap.get? l = some { cls := .type "tuple", dict := dd, data := .seq items n, slots := sl } ∧
      R (.ok (.ret (Value.ref s.heap.objs.size))) { s with heap := s.heap.push { cls := Value.type "tuple", data := Data.seq #[] }, toks := s.toks }) :=
  .of_wp fun prog w A R s h => by
    obtain ⟨hp, g, d, tk, os⟩ := s
    obtain ⟨hl, h⟩ := h
    have f1 := AutoSeq1.idx_int
    wp_walk using wpAny_loadPart' hl
    exact ⟨_, rfl, h⟩
end
/-- (..) * 0, (..) * 1 -/
theorem op_repT01 {k : Int} (hk : k = 0 ∨ k = 1) : OpR X (binaryOp .Mult) fun x y H Q => ∃ l xs, x = .ref l ∧ y = .int k ∧ SqT X.K H l xs ∧ xs ≠ [] ∧ ((k = 1 ∧ Q (.ref l) H) ∨ (k = 0 ∧ ∀ p, H p = none → Q (.ref p) (upd H p (.tup [])))) := by
  intro pins s σ H x y v u Q I rx ry h
  obtain ⟨l, xs, rfl, rfl, hT, hne, q⟩ := h
  cases rx
  obtain ⟨t, rfl⟩ := ry
  obtain ⟨its, r, ⟨⟨cls, dd, data, sl⟩, ho, hc, n, hd⟩, hs⟩ := I.tuple hT
  simp only at hc hd
  subst hc hd
  have hi : its.toArray.isEmpty = false := by
    cases its with
    | nil =>
      have := r.length
      exact absurd (List.eq_nil_of_length_eq_zero this) hne
    | cons a b => rfl
  refine wpAny_binaryOp_repeat_ref (T := "tuple") (U := "int") (by decide) ⟨_, ho, rfl⟩ (fun s' => typeIs_int s' k t) noFill_tuple_mul F.fills_int_mul F.slot_int_rmul repeat_tuple F.slot_int_index.lookup
    (call_meets F.slot_int_rmul (typeIs_int s k t) F.entry_int_rmul (F.args_int_rmul_2 _ _) (int_rmul_tuple k t l its.toArray n dd sl) ⟨ho, rfl, ⟨_, ho, rfl⟩, ?_⟩)
  rcases q with ⟨rfl, q⟩ | ⟨rfl, q⟩
  · exact call_meets F.slot_tuple_mul ⟨_, ho, rfl⟩ F.entry_tuple_mul (F.args_tuple_mul_2 _ _) (tuple_mul1 l its.toArray n dd sl t) ⟨ho, .ref l, H, I.tok _, rfl, q⟩
  · refine call_meets F.slot_tuple_mul ⟨_, ho, rfl⟩ F.entry_tuple_mul (F.args_tuple_mul_2 _ _) (tuple_mul0 l its.toArray n dd sl t hi) ⟨ho, ?_⟩
    exact ⟨.ref s.heap.objs.size, _, I.laid (t' := s.toks) (o := .tup []) (fun b ob q => Heap.get?_push_of_some _ q) (Nat.le_refl _) ⟨Nat.zero_le _, [], .nil, PyProof.Rows.IsTup.new _ _⟩, rfl, q _ (I.hok.fresh (Nat.le_refl _))⟩
theorem ok_mul : OpOk X (binaryOp .Mult) mulD := by
  intro pins s σ H x y v u Q I rx ry h
  obtain ⟨dx, dy, rv, tx, ty, e, Y⟩ := h
  cases dx with
  | int i =>
    cases dy with
    | int j =>
      have e : (if (small64 i || small64 j) = true then iD (i * j) else none) = some rv := e
      by_cases hc : (small64 i || small64 j) = true
      · rw [if_pos hc] at e
        cases e
        cases tx.int
        cases ty.int
        refine op_mul pins s σ H _ _ v u Q I rx ry ⟨i, j, rfl, rfl, ?_, Y.same (.int _)⟩
        rcases Bool.or_eq_true_iff.mp hc with z | z
        · exact .inl (small64_of z)
        · exact .inr (small64_of z)
      · rw [if_neg hc] at e
        cases e
    | _ => cases e
  | list xs =>
    cases dy with
    | int k =>
      have e : (if (inIx k && fits (xs.length * k.toNat)) = true then some (RV.fr (.lst (List.replicate k.toNat xs).flatten)) else none) = some rv := e
      by_cases hc : (inIx k && fits (xs.length * k.toNat)) = true
      · rw [if_pos hc] at e
        cases e
        rw [Bool.and_eq_true] at hc
        obtain ⟨b1, b2⟩ := inIx_of hc.1
        obtain ⟨p, vs, rfl, h1, f1⟩ := tx.lst
        cases ty.int
        exact op_repR pins s σ H _ _ v u Q I rx ry ⟨p, k, vs, rfl, rfl, h1, b1, b2, by rw [f1.length]; exact fits_of hc.2, fun q hq => Y.lst hq (f1.rep _)⟩
      · rw [if_neg hc] at e
        cases e
    | _ => cases e
  | tuple xs =>
    cases dy with
    | int k =>
      have e : (if (decide (0 ≤ k) && decide (k ≤ 1000) && !xs.isEmpty && decide (xs.length ≤ 1000)) = true then some (RV.d (.tuple (List.replicate k.toNat xs).flatten)) else none) = some rv := e
      by_cases hc : (decide (0 ≤ k) && decide (k ≤ 1000) && !xs.isEmpty && decide (xs.length ≤ 1000)) = true
      · rw [if_pos hc] at e
        cases e
        simp only [Bool.and_eq_true, decide_eq_true_eq] at hc
        obtain ⟨⟨⟨c1, c2⟩, c3⟩, c4⟩ := hc
        obtain ⟨p, vs, rfl, h1, f1⟩ := tx.tupA
        cases ty.int
        have hl := f1.length
        have hne : vs ≠ [] := fun z => by
          rw [z] at hl
          rw [List.eq_nil_of_length_eq_zero hl.symm] at c3
          cases c3
        rcases Decidable.em (k < 2) with hk | hk
        · have hk' : k = 0 ∨ k = 1 := by omega
          refine op_repT01 hk' pins s σ H _ _ v u Q I rx ry ⟨p, vs, rfl, rfl, h1.1, hne, ?_⟩
          rcases hk' with rfl | rfl
          · exact .inr ⟨rfl, fun q hq => Y.tup hq .nil⟩
          · have ee : (List.replicate (1 : Int).toNat xs).flatten = xs := by simp
            rw [ee] at Y
            exact .inl ⟨rfl, Y.same (.tup h1 f1)⟩
        · exact op_repT pins s σ H _ _ v u Q I rx ry ⟨p, k, vs, rfl, rfl, h1.1, hne, by omega, c2, by rw [hl]; exact c4, fun q hq => Y.tup hq (f1.rep _)⟩
      · rw [if_neg hc] at e
        cases e
    | _ => cases e
  | _ => cases e
theorem ok_mod : OpOk X (binaryOp .Mod) modD := ok_intC op_mod fun x y rv e => by
  cases x with
  | int i =>
    cases y with
    | int j =>
      have e : (if 0 < j then iD (i % j) else none) = some rv := e
      by_cases hj : 0 < j
      · rw [if_pos hj] at e
        cases e
        exact ⟨i, j, rfl, rfl, hj, rfl⟩
      · rw [if_neg hj] at e
        cases e
    | _ => cases e
  | _ => cases e
theorem div_wide {i j : Int} (h : 0 < j ∧ j < 18446744073709551616) : CDivW i j := by
  refine wide_div (b := 64) h.1 ?_ (by decide) (by decide)
  rw [show (2 : Nat) ^ 64 = 18446744073709551616 from by decide]
  omega
theorem ok_fdiv : OpOk X (binaryOp .FloorDiv) fdivD := ok_intC op_fdivW fun x y rv e => by
  cases x with
  | int i =>
    cases y with
    | int j =>
      have e : (if 0 < j ∧ j < 18446744073709551616 then iD (i / j) else none) = some rv := e
      by_cases hj : 0 < j ∧ j < 18446744073709551616
      · rw [if_pos hj] at e
        cases e
        exact ⟨i, j, rfl, rfl, div_wide hj, rfl⟩
      · rw [if_neg hj] at e
        cases e
    | _ => cases e
  | _ => cases e
theorem ok_pow : OpOk X (binaryOp .Pow) powD := ok_intC op_pow fun x y rv e => by
  cases x with
  | int i =>
    cases y with
    | int j =>
      have e : (if 0 ≤ j ∧ j ≤ 1000000 ∧ i.natAbs < 2 ^ 64 then iD (i ^ j.toNat) else none) = some rv := e
      by_cases hj : 0 ≤ j ∧ j ≤ 1000000 ∧ i.natAbs < 2 ^ 64
      · rw [if_pos hj] at e
        cases e
        exact ⟨i, j, rfl, rfl, hj, rfl⟩
      · rw [if_neg hj] at e
        cases e
    | _ => cases e
  | _ => cases e

/-! ### comparisons -/
theorem eq_core {x y : D} {b : Bool} {vx vy : V} {H : Hp} {Q : VK} (e : eqB x y = some b) (tx : TD X.K H vx x) (ty : TD X.K H vy y) : (scal vx vy = true ∧ decide (vx = vy) = b) ∨ (Dp X.K H vx x ∧ Dp X.K H vy y ∧ SeqAt.shaped x = true ∧ SeqAt.shaped y = true ∧ PyData.eqv x y = b) := by
  have gen : (if (SeqAt.shaped x && SeqAt.shaped y) = true then some (PyData.eqv x y) else none) = some b → (scal vx vy = true ∧ decide (vx = vy) = b) ∨ (Dp X.K H vx x ∧ Dp X.K H vy y ∧ SeqAt.shaped x = true ∧ SeqAt.shaped y = true ∧ PyData.eqv x y = b) := fun e => by
    by_cases hc : (SeqAt.shaped x && SeqAt.shaped y) = true
    · rw [if_pos hc] at e
      cases e
      rw [Bool.and_eq_true] at hc
      exact .inr ⟨tx.dp (SeqAt.canLay_of_shaped hc.1), ty.dp (SeqAt.canLay_of_shaped hc.2), hc.1, hc.2, rfl⟩
    · rw [if_neg hc] at e
      cases e
  unfold eqB at e
  split at e
  · cases e
    cases tx.int
    cases ty.int
    exact .inl ⟨rfl, dec_int⟩
  · cases e
    cases tx.str
    cases ty.str
    refine .inl ⟨rfl, ?_⟩
    rename_i a b
    by_cases hab : a = b
    · subst hab; simp
    · rw [decide_eq_false (fun z => hab (V.str.inj z))]
      exact (beq_eq_false_iff_ne.mpr hab).symm
  · cases e
    cases tx.bl
    cases ty.bl
    exact .inl ⟨rfl, dec_bl⟩
  · exact gen e
theorem nil_items {K : PySem.W.Frag} {H : Hp} {vs : List V} (f : FDs K H vs []) : vs = [] := by cases f; rfl
theorem eq_nil {pins : List (Addr × Obj)} {s : Shared} {σ : St} {H : Hp} {x y : V} {v u : Value} {d : D} {t : List D} {Q E : Value → Shared → Prop} (hu : X.A.units < cLine) (I : Inv X pins σ H s) (tx : TD X.K H x (.tuple (d :: t))) (ty : TD X.K H y (.tuple [])) (rx : RelV x v) (ry : RelV y u)
    (h : Q (.bool false) s) : wpAny (model X.prog X.w) X.A (compareOp .Eq v u) Q E s := by
  obtain ⟨a, vs, rfl, hs, f⟩ := tx.tup
  obtain ⟨b, ws, rfl, ht, g⟩ := ty.tup
  have := nil_items g
  subst this
  cases rx
  cases ry
  obtain ⟨its, r1, p1, z1⟩ := I.tuple hs
  obtain ⟨jts, r2, p2, z2⟩ := I.tuple ht
  have hj : jts = [] := List.eq_nil_of_length_eq_zero (by have := r2.length; simpa using this.symm)
  subst hj
  have hl : its.length = t.length + 1 := by have h1 := r1.length; have h2 := f.length; simp only [List.length_cons] at h2; omega
  refine SeqAt.eq_tupleAt (items := its.toArray) (items2 := #[]) (e := fun _ => true) p1 p2 hu (fun j h1 h2 => absurd h2 (Nat.not_lt_zero _)) ?_
  have e : ((List.range (min its.toArray.size (#[] : Array Value).size)).all (fun _ => true) && its.toArray.size == (#[] : Array Value).size) = false := by
    have : (its.toArray.size == (#[] : Array Value).size) = false := by
      rw [beq_eq_false_iff_ne]
      simp
      intro z
      rw [z] at hl
      simp at hl
    rw [this, Bool.and_false]
  rw [e]
  exact h
theorem ok_eq (hu : X.A.units + 64 < cLine) : OpOk X (compareOp .Eq) eqD := by
  intro pins s σ H x y v u Q I rx ry h
  obtain ⟨dx, dy, rv, tx, ty, e, Y⟩ := h
  unfold eqD at e
  cases q : eqB dx dy with
  | none =>
    rw [q] at e
    have e : (eqE dx dy).map (fun b => RV.d (.bool b)) = some rv := e
    unfold eqE at e
    split at e
    · cases e
      exact eq_nil (by omega) I tx ty rx ry ⟨.bl _, H, I, rfl, Y.same (.bl _)⟩
    · cases e
  | some b =>
    rw [q] at e
    cases e
    rcases eq_core (Q := Q) q tx ty with ⟨h1, h2⟩ | ⟨h1, h2, h3, h4, h5⟩
    · exact op_eq pins s σ H _ _ v u Q I rx ry ⟨h1, by rw [h2]; exact Y.same (.bl _)⟩
    · exact op_eqD hu pins s σ H _ _ v u Q I rx ry ⟨dx, dy, h1, h2, h3, h4, by rw [h5]; exact Y.same (.bl _)⟩
theorem ok_ne (hu : X.A.units + 64 < cLine) : OpOk X (compareOp .NotEq) neD := by
  intro pins s σ H x y v u Q I rx ry h
  obtain ⟨dx, dy, rv, tx, ty, e, Y⟩ := h
  unfold neD at e
  cases q : eqB dx dy with
  | none => rw [q] at e; cases e
  | some b =>
    rw [q] at e
    cases e
    rcases eq_core (Q := Q) q tx ty with ⟨h1, h2⟩ | ⟨h1, h2, h3, h4, h5⟩
    · exact op_ne pins s σ H _ _ v u Q I rx ry ⟨h1, by rw [h2]; exact Y.same (.bl _)⟩
    · exact op_neD hu pins s σ H _ _ v u Q I rx ry ⟨dx, dy, h1, h2, h3, h4, by rw [h5]; exact Y.same (.bl _)⟩
theorem flat_td {K : PySem.W.Frag} {H : Hp} {v : V} {x : D} (h : TD K H v x) (f : flat x = true) : flatV v = true := by
  cases x with
  | none => rw [h.non]; rfl
  | bool b => rw [h.bl]; rfl
  | int i => rw [h.int]; rfl
  | str z => rw [h.str]; rfl
  | _ => cases f
theorem eqV_td {K : PySem.W.Frag} {H : Hp} {v u : V} {x y : D} (h : TD K H v x) (h' : TD K H u y) (f : flat x = true) (f' : flat y = true) : eqV v u = PyData.eqv x y := by
  cases x with
  | none =>
    rw [h.non]
    cases y with
    | none => rw [h'.non]; simp [eqV, PyData.eqv]
    | bool b => rw [h'.bl]; simp [eqV, PyData.eqv]
    | int i => rw [h'.int]; simp [eqV, PyData.eqv]
    | str z => rw [h'.str]; simp [eqV, PyData.eqv]
    | _ => cases f'
  | bool b =>
    rw [h.bl]
    cases y with
    | none => rw [h'.non]; simp [eqV, PyData.eqv]
    | bool b => rw [h'.bl]; simp [eqV, PyData.eqv]
    | int i => rw [h'.int]; simp [eqV, PyData.eqv]
    | str z => rw [h'.str]; simp [eqV, PyData.eqv]
    | _ => cases f'
  | int i =>
    rw [h.int]
    cases y with
    | none => rw [h'.non]; simp [eqV, PyData.eqv]
    | bool b => rw [h'.bl]; simp [eqV, PyData.eqv]
    | int i => rw [h'.int]; simp [eqV, PyData.eqv]
    | str z => rw [h'.str]; simp [eqV, PyData.eqv]
    | _ => cases f'
  | str z =>
    rw [h.str]
    cases y with
    | none => rw [h'.non]; simp [eqV, PyData.eqv]
    | bool b => rw [h'.bl]; simp [eqV, PyData.eqv]
    | int i => rw [h'.int]; simp [eqV, PyData.eqv]
    | str z => rw [h'.str]; simp [eqV, PyData.eqv]
    | _ => cases f'
  | _ => cases f
theorem flats {K : PySem.W.Frag} {H : Hp} {v : V} {x : D} (hv : TD K H v x) (fx : flat x = true) : ∀ {vs : List V} {xs : List D}, FDs K H vs xs → xs.all flat = true → vs.all flatV = true ∧ inV v vs = xs.any fun y => PyData.eqv y x
  | _, _, .nil, _ => ⟨rfl, rfl⟩
  | _, _, .cons h t, f => by
    rw [List.all_cons, Bool.and_eq_true] at f
    obtain ⟨h1, h2⟩ := flats hv fx t f.2
    refine ⟨by rw [List.all_cons, flat_td (.inl h) f.1, h1]; rfl, ?_⟩
    have h2 : (List.any _ fun y => eqV y v) = _ := h2
    show (List.any (_ :: _) fun y => eqV y v) = _
    rw [List.any_cons, List.any_cons, h2, eqV_td (.inl h) hv f.1 fx]
/-! ### subscripts, slices -/
theorem FDs.atI {K : PySem.W.Frag} {H : Hp} {vs : List V} {xs : List D} {i : Int} {x : D} (h : FDs K H vs xs) (e : atD xs i = some x) : ∃ v, L2.atI vs i = some v ∧ FD K H v x := by
  unfold atD at e
  rw [ixD_eq, ← h.length] at e
  unfold L2.atI
  cases q : ixN vs.length i with
  | none => rw [q] at e; cases e
  | some j =>
    rw [q] at e
    exact h.get' e
variable {g : Gh} {W : WX} {a b : Expr} {Fa Fb : Ex} {pos : Pos}
theorem ky_td {K : PySem.W.Frag} {H : Hp} {v : V} {d : D} {k : L2.Key} (h : TD K H v d) (e : kyOf d = some k) : v = kV k := by
  cases d with
  | int i => cases e; rw [h.int]; rfl
  | str z => cases e; rw [h.str]; rfl
  | _ => cases e
theorem ix_dict (hu : X.A.units + 1 < cLine) : IxR X fun x y H Q => ∃ a v, x = .ref a ∧ DGet H a y (some v) ∧ Q v H := by
  intro value slice pins s σ H x y v u Q I rx ry h hs
  obtain ⟨a, z, rfl, g, q⟩ := h
  cases rx
  exact PyProof.Rows.tail_any (dict_typeIs I g) PySem.F.slot_dict_getitem.lookup (d_getItem hu I g ry fun w' s' I' r' => ⟨z, H, I', r', q⟩) hs
theorem ix_ok (hu : X.A.units + 1 < cLine) : IxR X fun x y H Q => ∃ dx dy rv, TD X.K H x dx ∧ TD X.K H y dy ∧ ixOp dx dy = some rv ∧ Yields X.K H rv Q := by
  intro value slice pins s σ H x y v u Q I rx ry h hs
  obtain ⟨dx, dy, rv, tx, ty, e, Y⟩ := h
  refine (ix_seq.or (ix_dict hu)) value slice pins s σ H x y v u Q I rx ry ?_ hs
  cases dx with
  | dict ds =>
    cases hE : isErrD (.dict ds) with
    | true =>
      obtain ⟨w, r, rfl⟩ := isErr_cases hE
      cases dy <;> cases e
    | false =>
    have e : (kyOf dy).bind (fun q => (dGet ds q).map RV.d) = some rv := by
      cases ds with
      | nil => cases dy <;> exact e
      | cons p r =>
        obtain ⟨k0, w⟩ := p
        cases k0 with
        | none => cases hE
        | _ => cases dy <;> exact e
    cases q : kyOf dy with
    | none => rw [q] at e; cases e
    | some k =>
      rw [q] at e
      have e : (dGet ds k).map RV.d = some rv := e
      obtain ⟨p, vs, rfl, h, f⟩ := tx.dct hE
      rw [ky_td ty q]
      rcases f.get k with ⟨_, h2⟩ | ⟨w, x, h1, h2, h3⟩
      · rw [h2] at e; cases e
      · rw [h2] at e
        cases e
        exact .inr ⟨p, w, rfl, .inl ⟨vs, k, h, rfl, h1.symm⟩, Y.same h3⟩
  | list xs =>
    cases dy with
    | int i =>
      have e : (atD xs i).map RV.d = some rv := e
      cases q : atD xs i with
      | none => rw [q] at e; cases e
      | some z =>
        rw [q] at e
        cases e
        obtain ⟨p, vs, rfl, h, f⟩ := tx.lst
        cases ty.int
        obtain ⟨w, h1, h2⟩ := f.atI q
        exact .inl (.inl ⟨p, vs, i, w, rfl, rfl, .inl h, h1, Y.same h2⟩)
    | _ => cases e
  | tuple xs =>
    cases dy with
    | int i =>
      have e : (atD xs i).map RV.d = some rv := e
      cases q : atD xs i with
      | none => rw [q] at e; cases e
      | some z =>
        rw [q] at e
        cases e
        obtain ⟨p, vs, rfl, h, f⟩ := tx.tup
        cases ty.int
        obtain ⟨w, h1, h2⟩ := f.atI q
        exact .inl (.inr (.inl ⟨p, vs, i, w, rfl, rfl, h, h1, Y.same h2⟩))
    | _ => cases e
  | str z =>
    cases dy with
    | int i =>
      have e : (if fits z.length = true then (atD z.cps.toList i).map (fun c => RV.d (.str ⟨#[c]⟩)) else none) = some rv := e
      by_cases hf : fits z.length = true
      · rw [if_pos hf] at e
        cases q : atD z.cps.toList i with
        | none => rw [q] at e; cases e
        | some c =>
          rw [q] at e
          cases e
          cases tx.str
          cases ty.int
          exact .inl (.inr (.inr ⟨z, i, c, rfl, rfl, fits_of hf, q, Y.same (.str _)⟩))
      · rw [if_neg hf] at e
        cases e
    | _ => cases e
  | _ => cases e
theorem de_ix (hu : X.A.units + 1 < cLine) (ha : DE X g W a Fa) (hb : DE X g W b Fb) (hs : PlainIx b := by intro _ _; rfl) : DE X g W (.Subscript a b pos) (eOp ixOp Fa Fb) := by
  refine PE.imp (pe_ix (ix_ok hu) ha hb hs) ?_
  rintro σ H Q ⟨S, R, h⟩
  refine (Wants.step R h).mono fun x H1 ⟨vx, S1, A1, r1, h1⟩ => (Wants.step A1.rel h1).mono fun y H2 ⟨vy, S2, A2, r2, h2⟩ => ?_
  exact op_read A1.rel A2 (fun b e => A1.step.trk b (A2.step.trk b e)) r1.1 r2.1 h2
/-- a part of a slice -/
abbrev DP (X : Cx) (g : Gh) (W : WX) (e : Option Expr) (F : Px) : Prop := PO X e (tG X.K g W (fun _ _ _ _ (i j : Option Int) => i = j) F)
theorem PO.imp {e : Option Expr} {t t' : TO} (p : PO X e t) (h : ∀ σ H Q, t' σ H Q → t σ H Q) : PO X e t' := ⟨fun pins s σ H Q I q => p.run pins s σ H Q I (h σ H Q q)⟩
theorem dp_none : DP X g W none pNone := by
  refine PO.imp po_none ?_
  rintro σ H Q ⟨S, R, h⟩
  exact h none H (.refl R) rfl
theorem dp_some (ha : DE X g W a Fa) : DP X g W (some a) (pSome Fa) := by
  refine PO.imp (po_some ha) ?_
  rintro σ H Q ⟨S, R, h⟩
  refine (Wants.step R h).mono fun x H1 ⟨vx, S1, A1, r1, h1⟩ => ?_
  cases e1 : view S1 vx with
  | none => rw [e1] at h1; exact h1.elim
  | some dx =>
    rw [e1] at h1
    have td := r1.1.td A1.rel e1
    cases dx with
    | int i =>
      cases td.int
      exact ⟨i, rfl, h1 (some i) H1 (.refl A1.rel) rfl⟩
    | _ => exact h1.elim
theorem FDs.cut {K : PySem.W.Frag} {H : Hp} {vs : List V} {xs : List D} (h : FDs K H vs xs) (lo hi : Option Int) : FDs K H (cutV vs lo hi) (cutL xs lo hi) := by
  unfold cutV cutL
  rw [h.length]
  exact (h.drop _).take _
theorem sIx_eq : sIx = HT.sIx := by
  funext n d o
  cases o <;> rfl
theorem de_slice {lo hi : Option Expr} {Fl Fh : Px} {p2 : Pos} (ha : DE X g W a Fa) (hl : DP X g W lo Fl) (hh : DP X g W hi Fh) : DE X g W (.Subscript a (.Slice lo hi none p2) pos) (eSlice Fa Fl Fh) := by
  refine PE.imp (pe_slice (SlR.or (SlR.or sl_list sl_tupA) sl_str) ha hl hh) ?_
  rintro σ H Q ⟨S, R, h⟩
  refine (Wants.step R h).mono fun x H1 ⟨vx, S1, A1, r1, h1⟩ => (Wants.step (vr := fun _ _ _ _ (i j : Option Int) => i = j) A1.rel h1).mono fun l H2 ⟨l', S2, A2, r2, h2⟩ => (Wants.step (vr := fun _ _ _ _ (i j : Option Int) => i = j) A2.rel h2).mono fun k H3 ⟨k', S3, A3, r3, h3⟩ => ?_
  cases (show l = l' from r2)
  cases (show k = k' from r3)
  cases e1 : view S3 vx with
  | none => rw [e1] at h3; exact h3.elim
  | some dx =>
    rw [e1] at h3
    have td := ((r1.1.mono A1.rel A2.step).mono A2.rel A3.step).td A3.rel e1
    have h3 : Wants X.K g W (vrE X.K g) H σ S3 H3 (give S3 (sliceD l k dx)) Q := h3
    have tk : ∀ b, H3 b = none → H b = none := fun b e => A1.step.trk b (A2.step.trk b (A3.step.trk b e))
    cases dx with
    | list xs =>
      obtain ⟨p, vs, rfl, h, f⟩ := td.lst
      have Y := Wants.yields (rv := .fr (.lst (cutL xs l k))) A3.rel tk h3
      exact .inl (.inl ⟨p, vs, rfl, .inl h, fun q hq => Y.lst hq (f.cut l k)⟩)
    | tuple xs =>
      obtain ⟨p, vs, rfl, h, f⟩ := td.tupA
      have Y := Wants.yields (rv := .d (.tuple (cutL xs l k))) A3.rel tk h3
      refine .inl (.inr ⟨p, vs, rfl, h.1, fun hw => ?_, fun _ q hq => Y.tup hq (f.cut l k)⟩)
      have e : cutL xs l k = xs := by
        unfold cutL
        rw [sIx_eq, ← f.length, hw.1, hw.2, List.drop_zero, Nat.sub_zero, f.length, List.take_length]
      rw [e] at Y
      exact Y.same (.tup h f)
    | str z =>
      have h3 : Wants X.K g W (vrE X.K g) H σ S3 H3 (give S3 (if fits z.length = true then some (.d (.str (cutSt z l k))) else none)) Q := h3
      by_cases hz : fits z.length = true
      · rw [if_pos hz] at h3
        have Y := Wants.yields (rv := .d (.str (cutSt z l k))) A3.rel tk h3
        cases td.str
        have e : cutS z l k = cutSt z l k := by
          unfold cutS cutSt cutL
          rw [sIx_eq]
          rfl
        exact .inr ⟨z, rfl, fits_of hz, by rw [e]; exact Y.same (.str _)⟩
      · rw [if_neg hz] at h3
        exact h3.elim
    | _ => exact h3.elim
theorem de_rev {k : Nat} {p1 p2 p3 : Pos} (ha : DE X g W a Fa) : DE X g W (.Subscript a (.Slice none none (some (.UnaryOp .USub (.Constant (.int 1) k p1) p2)) p3) pos) (eUn revD Fa) := by
  refine PE.imp (pe_revL ha) ?_
  rintro σ H Q ⟨S, R, h⟩
  refine (Wants.step R h).mono fun x H1 ⟨vx, S1, A1, r1, h1⟩ => ?_
  cases e1 : view S1 vx with
  | none => rw [e1] at h1; exact h1.elim
  | some dx =>
    rw [e1] at h1
    have td := r1.1.td A1.rel e1
    have h1 : Wants X.K g W (vrE X.K g) H σ S1 H1 (give S1 (revD dx)) Q := h1
    cases dx with
    | list xs =>
      obtain ⟨p, vs, rfl, h, f⟩ := td.lst
      have Y := Wants.yields (rv := .fr (.lst xs.reverse)) A1.rel A1.step.trk h1
      exact ⟨p, vs, rfl, .inl h, fun q hq => Y.lst hq f.reverse⟩
    | _ => exact h1.elim
theorem de_neg (ha : DE X g W a Fa) : DE X g W (.UnaryOp .USub a pos) (eUn negD Fa) := by
  refine PE.imp (pe_un un_neg ha) ?_
  rintro σ H Q ⟨S, R, h⟩
  refine (Wants.step R h).mono fun x H1 ⟨vx, S1, A1, r1, h1⟩ => ?_
  cases e1 : view S1 vx with
  | none => rw [e1] at h1; exact h1.elim
  | some dx =>
    rw [e1] at h1
    have td := r1.1.td A1.rel e1
    have h1 : Wants X.K g W (vrE X.K g) H σ S1 H1 (give S1 (negD dx)) Q := h1
    cases dx with
    | int i =>
      cases td.int
      exact ⟨i, rfl, (Wants.yields (rv := .d (.int (-i))) A1.rel A1.step.trk h1).same (.int _)⟩
    | _ => exact h1.elim

/-! ### built-in functions -/
/-- a built-in function does what f says of the arguments' data -/
def CallOk (X : Cx) (v : Value) (f : List D → Option RV) : Prop := CallR X v fun xs H Q => ∃ ds rv, TDs X.K H xs ds ∧ f ds = some rv ∧ Yields X.K H rv Q
theorem fn_read {f : List D → Option RV} {σ : St} {H0 H1 : Hp} {S1 : Sl} {vs : List V} {rvs : List RV} {Q : VK} (R1 : Rel X.K g σ H1 S1) (t : ∀ b, H1 b = none → H0 b = none) (r1 : Paired (fun v rv => VRel X.K g σ H1 S1 v rv ∧ New H0 v rv) vs rvs)
    (h : Wants X.K g W (vrE X.K g) H0 σ S1 H1 (give S1 ((views S1 rvs).bind f)) Q) : ∃ ds rv, TDs X.K H1 vs ds ∧ f ds = some rv ∧ Yields X.K H1 rv Q := by
  cases e : views S1 rvs with
  | none => rw [e] at h; exact h.elim
  | some ds =>
    rw [e] at h
    have h : Wants X.K g W (vrE X.K g) H0 σ S1 H1 (give S1 (f ds)) Q := h
    cases q : f ds with
    | none => rw [q] at h; exact h.elim
    | some rv =>
      rw [q] at h
      exact ⟨ds, rv, views_all R1 r1 e, q, h.yields R1 t⟩
theorem de_fn {x : Str} {id : String} {f : List D → Option RV} {es : List Expr} {Fl : Ax} {p : Pos} (hc : CallOk X (.builtin id) f) (hg : Gl X x) (hm : X.mg x = none) (hv : bootBuiltins x = some (.builtin id)) (ha : DA X g W (a :: es) Fl) (hn : x ≠ "__name__" := by decide) (hdb : (x == ("__debug__" : Str)) = false := by decide)
    (he : starEach (a :: es) X.env = (false, eval a X.env) :: starEach es X.env := by rfl) (hpl : (backTo pos (starEach es X.env)).any (·.1) = false := by rfl) : DE X g W (.Call (.Name x p) (a :: es) [] pos) (eFn f Fl) := by
  refine PE.imp (pe_callB hc hg hm hv ha hn hdb he hpl) ?_
  rintro σ H Q ⟨S, R, h⟩
  exact (Wants.step (vr := vrA X.K g) R h).mono fun vs H1 ⟨rvs, S1, A1, r1, h1⟩ => fn_read A1.rel A1.step.trk r1.1 h1
theorem de_ty {x : Str} {T : String} {f : List D → Option RV} {es : List Expr} {Fl : Ax} {p : Pos} (hc : CallOk X (.type T) f) (hg : Gl X x) (hm : X.mg x = none) (hv : bootBuiltins x = some (.type T)) (ha : DA X g W (a :: es) Fl) (hn : x ≠ "__name__" := by decide) (hdb : (x == ("__debug__" : Str)) = false := by decide)
    (he : starEach (a :: es) X.env = (false, eval a X.env) :: starEach es X.env := by rfl) (hpl : (backTo pos (starEach es X.env)).any (·.1) = false := by rfl) : DE X g W (.Call (.Name x p) (a :: es) [] pos) (eFn f Fl) := by
  refine PE.imp (pe_callTy hc hg hm hv ha hn hdb he hpl) ?_
  rintro σ H Q ⟨S, R, h⟩
  exact (Wants.step (vr := vrA X.K g) R h).mono fun vs H1 ⟨rvs, S1, A1, r1, h1⟩ => fn_read A1.rel A1.step.trk r1.1 h1
/-- one argument -/
theorem ok1 {v : Value} {f : D → Option RV} (h : ∀ (pins : List (Addr × Obj)) (s : Shared) (σ : St) (H : Hp) (x : V) (dx : D) (rv : RV) (us : List Value) (Q : VK), Inv X pins σ H s → Vals [x] us → TD X.K H x dx → f dx = some rv → Yields X.K H rv Q → wpAny (model X.prog X.w) X.A (PySem.call v us) (EP X pins σ Q) X.xe s) : CallOk X v (on1 f) := by
  intro pins s σ H xs us Q I r q
  obtain ⟨ds, rv, td, e, Y⟩ := q
  cases td with
  | nil => cases e
  | cons t td =>
    cases td with
    | nil => exact h pins s σ H _ _ rv us Q I r t e Y
    | cons _ _ => cases e
theorem ok_len : CallOk X (.builtin "len") (on1 lenD) := ok1 fun pins s σ H x dx rv us Q I r t e Y => by
  cases dx with
  | list xs =>
    cases e
    obtain ⟨p, vs, rfl, h, f⟩ := t.lst
    exact call_len_seq pins s σ H _ us Q I r ⟨p, vs, rfl, .inl (.inl h), by rw [f.length]; exact Y.same (.int _)⟩
  | tuple xs =>
    cases e
    obtain ⟨p, vs, rfl, h, f⟩ := t.tup
    exact call_len_seq pins s σ H _ us Q I r ⟨p, vs, rfl, .inr h, by rw [f.length]; exact Y.same (.int _)⟩
  | str z =>
    have e : (if fits z.length = true then iD z.length else none) = some rv := e
    by_cases hf : fits z.length = true
    · rw [if_pos hf] at e
      cases e
      cases t.str
      exact call_len_str pins s σ H _ us Q I r ⟨z, rfl, fits_of hf, Y.same (.int _)⟩
    · rw [if_neg hf] at e
      cases e
  | dict ds =>
    cases hE : isErrD (.dict ds) with
    | true =>
      obtain ⟨w, r, rfl⟩ := isErr_cases hE
      cases e
    | false =>
    have e : iD ds.length = some rv := by
      cases ds with
      | nil => exact e
      | cons p r =>
        obtain ⟨k0, w⟩ := p
        cases k0 with
        | none => cases hE
        | _ => exact e
    cases e
    obtain ⟨p, vs, rfl, h, f⟩ := t.dct hE
    obtain rfl := Vals.ref1 r
    exact d_len I h fun t s' I' => ⟨.int vs.length, H, I', ⟨t, rfl⟩, by rw [f.length]; exact Y.same (.int _)⟩
  | _ => cases e
theorem ok_abs : CallOk X (.builtin "abs") (on1 absD) := ok1 fun pins s σ H x dx rv us Q I r t e Y => by
  cases dx with
  | int i =>
    cases e
    cases t.int
    exact call_abs pins s σ H _ us Q I r ⟨i, rfl, Y.same (.int _)⟩
  | _ => cases e
theorem bools_td {K : PySem.W.Frag} {H : Hp} : ∀ {vs : List V} {xs : List D} {bs : List Bool}, FDs K H vs xs → boolsD xs = some bs → vs = bs.map V.bl
  | _, _, bs, .nil, e => by cases e; rfl
  | _, _, bs, .cons h t, e => by
    rename_i v vs x xs
    cases x with
    | bool b =>
      have e : (boolsD xs).map (fun bs => b :: bs) = some bs := e
      cases q : boolsD xs with
      | none => rw [q] at e; cases e
      | some cs =>
        rw [q] at e
        cases e
        cases h
        rw [bools_td t q]
        rfl
    | _ => cases e
theorem ints_td {K : PySem.W.Frag} {H : Hp} : ∀ {vs : List V} {xs : List D} {is : List Int}, FDs K H vs xs → intsD xs = some is → vs = is.map V.int
  | _, _, bs, .nil, e => by cases e; rfl
  | _, _, bs, .cons h t, e => by
    rename_i v vs x xs
    cases x with
    | int b =>
      have e : (intsD xs).map (fun bs => b :: bs) = some bs := e
      cases q : intsD xs with
      | none => rw [q] at e; cases e
      | some cs =>
        rw [q] at e
        cases e
        cases h
        rw [ints_td t q]
        rfl
    | _ => cases e
theorem fds_ints {K : PySem.W.Frag} {H : Hp} : ∀ is : List Int, FDs K H (is.map V.int) (is.map PyData.int)
  | [] => .nil
  | i :: is => .cons (.int i) (fds_ints is)
theorem ok_all (hc : X.calm = true) : CallOk X (.builtin "all") (on1 allD) := ok1 fun pins s σ H x dx rv us Q I r t e Y => by
  cases dx with
  | list xs =>
    have e : (boolsD xs).bind (fun bs => bD (bs.all id)) = some rv := e
    cases q : boolsD xs with
    | none => rw [q] at e; cases e
    | some bs =>
      rw [q] at e
      cases e
      obtain ⟨p, vs, rfl, h, f⟩ := t.lst
      have := bools_td f q
      subst this
      exact cr_all hc pins s σ H _ us Q I r ⟨p, bs, rfl, .inl h, Y.same (.bl _)⟩
  | _ => cases e
theorem ok_any (hc : X.calm = true) : CallOk X (.builtin "any") (on1 anyD) := ok1 fun pins s σ H x dx rv us Q I r t e Y => by
  cases dx with
  | list xs =>
    have e : (boolsD xs).bind (fun bs => bD (bs.any id)) = some rv := e
    cases q : boolsD xs with
    | none => rw [q] at e; cases e
    | some bs =>
      rw [q] at e
      cases e
      obtain ⟨p, vs, rfl, h, f⟩ := t.lst
      have := bools_td f q
      subst this
      exact cr_any hc pins s σ H _ us Q I r ⟨p, bs, rfl, .inl h, Y.same (.bl _)⟩
  | _ => cases e
theorem ok_sum (hc : X.calm = true) : CallOk X (.builtin "sum") (on1 sumD) := ok1 fun pins s σ H x dx rv us Q I r t e Y => by
  cases dx with
  | list xs =>
    have e : (intsD xs).bind (fun bs => iD bs.sum) = some rv := e
    cases q : intsD xs with
    | none => rw [q] at e; cases e
    | some bs =>
      rw [q] at e
      cases e
      obtain ⟨p, vs, rfl, h, f⟩ := t.lst
      have := ints_td f q
      subst this
      exact cr_sum hc pins s σ H _ us Q I r ⟨p, bs, rfl, .inl h, Y.same (.int _)⟩
  | _ => cases e
theorem ok_int1 : CallOk X (.type "int") (on1 intD) := ok1 fun pins s σ H x dx rv us Q I r t e Y => by
  cases dx with
  | int i =>
    cases e
    cases t.int
    exact call_int1 pins s σ H _ us Q I r (.inl ⟨i, rfl, Y.same (.int _)⟩)
  | bool b =>
    cases e
    cases t.bl
    exact call_int1 pins s σ H _ us Q I r (.inr ⟨b, rfl, Y.same (.int _)⟩)
  | _ => cases e
theorem ok_tuple : CallOk X (.type "tuple") (on1 tupleD) := ok1 fun pins s σ H x dx rv us Q I r t e Y => by
  cases dx with
  | list xs =>
    cases e
    obtain ⟨p, vs, rfl, h, f⟩ := t.lst
    exact call_tuple_of pins s σ H _ us Q I r ⟨p, vs, rfl, .inl ⟨.inl h, fun l hl => Y.tup hl f⟩⟩
  | tuple xs =>
    cases e
    obtain ⟨p, vs, rfl, h, f⟩ := t.tupA
    exact call_tuple_of pins s σ H _ us Q I r ⟨p, vs, rfl, .inr ⟨h.1, Y.same (.tup h f)⟩⟩
  | _ => cases e
theorem ok_list : CallOk X (.type "list") (on1 listD) := ok1 fun pins s σ H x dx rv us Q I r t e Y => by
  cases dx with
  | list xs =>
    cases e
    obtain ⟨p, vs, rfl, h, f⟩ := t.lst
    exact call_list_of pins s σ H _ us Q I r ⟨p, vs, rfl, .inl (.inl h), fun l hl => Y.lst hl f⟩
  | tuple xs =>
    cases e
    obtain ⟨p, vs, rfl, h, f⟩ := t.tup
    exact call_list_of pins s σ H _ us Q I r ⟨p, vs, rfl, .inr h, fun l hl => Y.lst hl f⟩
  | _ => cases e
theorem ok2 {v : Value} {f : List D → Option RV} (h : ∀ (pins : List (Addr × Obj)) (s : Shared) (σ : St) (H : Hp) (x y : V) (dx dy : D) (rv : RV) (us : List Value) (Q : VK), Inv X pins σ H s → Vals [x, y] us → TD X.K H x dx → TD X.K H y dy → f [dx, dy] = some rv → Yields X.K H rv Q → wpAny (model X.prog X.w) X.A (PySem.call v us) (EP X pins σ Q) X.xe s)
    (h0 : f [] = none) (h1 : ∀ x, f [x] = none) (h3 : ∀ x y z r, f (x :: y :: z :: r) = none) : CallOk X v f := by
  intro pins s σ H xs us Q I r q
  obtain ⟨ds, rv, td, e, Y⟩ := q
  cases td with
  | nil => rw [h0] at e; cases e
  | cons t td =>
    cases td with
    | nil => rw [h1] at e; cases e
    | cons t2 td =>
      cases td with
      | nil => exact h pins s σ H _ _ _ _ rv us Q I r t t2 e Y
      | cons _ _ => rw [h3] at e; cases e
theorem ok_divmod : CallOk X (.builtin "divmod") divmodD := ok2 (fun pins s σ H x y dx dy rv us Q I r t t2 e Y => by
  cases dx with
  | int i =>
    cases dy with
    | int j =>
      have e : (if 0 < j ∧ j < 18446744073709551616 then some (RV.d (.tuple [.int (i / j), .int (i % j)])) else none) = some rv := e
      by_cases hj : 0 < j ∧ j < 18446744073709551616
      · rw [if_pos hj] at e
        cases e
        cases t.int
        cases t2.int
        exact call_divmodW pins s σ H _ us Q I r ⟨i, j, rfl, ⟨hj.1, PyProof.noPylong_of_log2 (div_wide (i := i) hj).2⟩, fun p hp => Y.tup hp (.cons (.int _) (.cons (.int _) .nil))⟩
      · rw [if_neg hj] at e
        cases e
    | _ => cases e
  | _ => cases e) rfl (fun x => by cases x <;> rfl) fun x y z r => by cases x <;> first | rfl | (cases y <;> rfl)
/-! repr -/
theorem ky_reads {h : Heap} {d : D} {k : L2.Key} {u : Value} (e : kyOf d = some k) (p : keyIs k u = true) : Reads h u d [] := by
  rcases keyIs_shape p with ⟨i, t, rfl, rfl⟩ | ⟨x, t, rfl, rfl⟩
  · cases d <;> cases e
    exact .int i t
  · cases d <;> cases e
    exact .str x t
mutual
theorem FD.reads {pins : List (Addr × Obj)} {σ : St} {H : Hp} {s : Shared} (I : Inv X pins σ H s) : ∀ {v : V} {x : D} {u : Value}, FD X.K H v x → RelV v u → okR x = true → ∃ as, Reads s.heap u x as ∧ (H sysModules = none → sysModules ∉ as)
  | _, _, _, .non, r, _ => by
    cases r
    exact ⟨_, .none, fun _ z => nomatch z⟩
  | _, _, _, .bl b, r, _ => by
    cases r
    exact ⟨_, .bool b, fun _ z => nomatch z⟩
  | _, _, _, .int i, r, _ => by
    obtain ⟨t, rfl⟩ := r
    exact ⟨_, .int i t, fun _ z => nomatch z⟩
  | _, _, _, .str x, r, _ => by
    obtain ⟨t, rfl⟩ := r
    exact ⟨_, .str x t, fun _ z => nomatch z⟩
  | _, _, _, .tup h hs, r, k => by
    cases r
    obtain ⟨its, rv, ⟨o, ho, hc, n, hd⟩, _⟩ := I.tuple h.1
    obtain ⟨as, q, nm⟩ := FDs.reads I hs rv (by simpa [okR] using k)
    exact ⟨as, .tuple ho hc hd q, nm⟩
  | _, _, _, .lst h hs, r, k => by
    cases r
    obtain ⟨its, rv, ⟨o, n, ho, hc, _, hd⟩, _⟩ := I.list (.inl (.inr ⟨_, h⟩))
    obtain ⟨as, q, nm⟩ := FDs.reads I hs rv (by simpa [okR] using k)
    exact ⟨_, .list ho hc hd q, fun z hm => (List.mem_cons.mp hm).elim (fun e => by subst e; rw [z] at h; cases h) (nm z)⟩
  | _, _, _, .dct (ds := ds) h hs, r, k => by
    cases r
    have z : ds = [] := List.isEmpty_iff.mp k
    subst z
    cases hs
    obtain ⟨e1, hz, hS, us, kv, o, es, ep, ho, ex, hd, _, he, _⟩ := I.hok _ _ h
    cases kv
    have he' := he
    generalize hl : es.toList = l at he'
    cases he'
    refine ⟨_, .dict ho ex.1 hd (by rw [hl]; exact .nil) (by rw [hl]; exact .nil), fun z hm => ?_⟩
    simp at hm
    subst hm
    simp at hS
  | _, _, _, .err _ _ _ _ _, _, k => by cases k
  | _, _, _, .err0 _ _ _, _, k => by cases k
theorem FDs.reads {pins : List (Addr × Obj)} {σ : St} {H : Hp} {s : Shared} (I : Inv X pins σ H s) : ∀ {vs : List V} {xs : List D} {us : List Value}, FDs X.K H vs xs → Vals vs us → okRs xs = true → ∃ as, ReadsAll s.heap us xs as ∧ (H sysModules = none → sysModules ∉ as)
  | _, _, _, .nil, r, _ => by
    cases r
    exact ⟨_, .nil, fun _ z => nomatch z⟩
  | _, _, _, .cons h hs, r, k => by
    cases r with
    | cons r rs =>
      have k' := k
      simp only [okRs, Bool.and_eq_true] at k'
      obtain ⟨as, q1, n1⟩ := FD.reads I h r k'.1
      obtain ⟨bs, q2, n2⟩ := FDs.reads I hs rs k'.2
      exact ⟨_, .cons q1 q2, fun z hm => (List.mem_append.mp hm).elim (n1 z) (n2 z)⟩
end
theorem TD.reads {pins : List (Addr × Obj)} {σ : St} {H : Hp} {s : Shared} {v : V} {x : D} {u : Value} (I : Inv X pins σ H s) (h : TD X.K H v x) (r : RelV v u) (k : okR x = true) : ∃ as, Reads s.heap u x as ∧ (H sysModules = none → sysModules ∉ as) := by
  rcases h with h | ⟨a, vs, ds, rfl, rfl, h, f⟩ | ⟨a, vs, ds, rfl, rfl, h, f⟩
  · exact h.reads I r k
  · cases r
    obtain ⟨its, rv, ⟨o, n, ho, hc, _, hd⟩, _⟩ := I.list (.inl (.inl h))
    obtain ⟨as, q, nm⟩ := FDs.reads I f rv (by simpa [okR] using k)
    exact ⟨_, .list ho hc hd q, fun z hm => (List.mem_cons.mp hm).elim (fun e => by subst e; rw [z] at h; cases h) (nm z)⟩
  · cases r
    have z : ds = [] := List.isEmpty_iff.mp k
    subst z
    cases f
    obtain ⟨hz, hS, us, kv, o, es, ep, ho, ex, hd, _, he, _⟩ := I.hok _ _ h
    cases kv
    have he' := he
    generalize hl : es.toList = l at he'
    cases he'
    refine ⟨_, .dict ho ex.1 hd (by rw [hl]; exact .nil) (by rw [hl]; exact .nil), fun z hm => ?_⟩
    simp at hm
    subst hm
    simp at hS
theorem ok_repr {n : Nat} (ok : Okh X n) (hs : (List.lookup sysModules X.K).isSome = true) : CallOk X (.builtin "repr") (on1 reprD) := ok1 fun pins s σ H x dx rv us Q I r t e Y => by
  unfold reprD at e
  by_cases hc : reprOk dx = true
  · rw [if_pos hc] at e
    cases e
    unfold reprOk at hc
    simp only [Bool.and_eq_true, Bool.or_eq_true, Bool.not_eq_true'] at hc
    obtain ⟨⟨⟨h1, h2⟩, h3⟩, h4⟩ := hc
    have h2 := fits_of h2
    have h3 : dx.depth ≤ 64 := of_decide_eq_true h3
    have hun := ok.un
    cases r with
    | cons rx rn =>
      cases rn
      obtain ⟨as, rd, nm⟩ := t.reads I rx h4
      have hS0 : H sysModules = none := by
        obtain ⟨o, ho⟩ := Option.isSome_iff_exists.mp hs
        exact (I.bs _ _ (I.mod.kin _ _ ho)).2
      have hsm : dx.hasDict = true → sysModules ∉ as := fun _ => nm hS0
      cases rd with
      | none =>
        refine PySem.P.repr_of_none ⟨.str _, H, I.tok _, ⟨_, rfl⟩, ?_⟩
        have := Y.same (.str _)
        simpa only [PyData.shown] using this
      | bool b =>
        refine PySem.P.repr_of_bool ⟨.str _, H, I.tok _, ⟨_, rfl⟩, ?_⟩
        have := Y.same (.str _)
        simpa only [PyData.shown] using this
      | int i tk =>
        refine PySem.P.repr_of_int (by simpa [PyData.showable] using h1) ⟨.str _, H, I.tok _, ⟨_, rfl⟩, ?_⟩
        have := Y.same (.str _)
        simpa only [PyData.shown] using this
      | str z tk =>
        refine PySem.P.repr_of_str ⟨.str _, H, I.tok _, ⟨_, rfl⟩, ?_⟩ (by simpa only [PyData.shown] using h2)
        have := Y.same (.str _)
        simpa only [PyData.shown] using this
      | list h1' h2' h3' h4' => exact repr_of_reads' (h₀ := s.heap) (.list h1' h2' h3' h4') h1 hsm ok.gd (by omega) (fun _ _ e => e) (fun h' u tk hk => ⟨.str _, H, I.kept hk, ⟨_, rfl⟩, Y.same (.str _)⟩) h2
      | tuple h1' h2' h3' h4' => exact repr_of_reads' (h₀ := s.heap) (.tuple h1' h2' h3' h4') h1 hsm ok.gd (by omega) (fun _ _ e => e) (fun h' u tk hk => ⟨.str _, H, I.kept hk, ⟨_, rfl⟩, Y.same (.str _)⟩) h2
      | dict h1' h2' h3' h4' h5' => exact repr_of_reads' (h₀ := s.heap) (.dict h1' h2' h3' h4' h5') h1 hsm ok.gd (by omega) (fun _ _ e => e) (fun h' u tk hk => ⟨.str _, H, I.kept hk, ⟨_, rfl⟩, Y.same (.str _)⟩) h2
  · rw [if_neg hc] at e
    cases e
/-! isinstance -/
theorem ty_td {K : PySem.W.Frag} {H : Hp} {v : V} {x : D} (h : TD K H v x) (hne : isErrD x = false) : TyX K H v (.type (tyName x)) := by
  rcases h with h | ⟨a, vs, ds, rfl, rfl, h, f⟩ | ⟨a, vs, ds, rfl, rfl, h, f⟩
  · cases h with
    | non => exact .base .non
    | bl b => exact .base (.bl b)
    | int i => exact .base (.int i)
    | str z => exact .base (.str z)
    | tup h _ =>
      rcases h.1 with (h | ⟨o, h⟩) | ⟨o, its, n, h, hc, _⟩
      · exact .base (.tup h)
      · exact .fTuple h
      · exact .kTuple h hc
    | lst h _ => exact .base (.frz h)
    | dct h _ => exact .fDict h
    | err _ _ _ _ _ => cases hne
    | err0 _ _ _ => cases hne
  · exact .base (.lst h)
  · exact .base (.dK h)
theorem isi_kit {K : PySem.W.Frag} {T : String} (hT : T ∈ ["int", "bool", "str", "list", "tuple", "dict"]) (x : D) : PySem.W.kitOne K (.type (tyName x)) (.type T) = some (isSub (tyName x) T) := by
  have key : ∀ s ∈ ["NoneType", "bool", "int", "str", "list", "tuple", "dict"], ∀ T ∈ ["int", "bool", "str", "list", "tuple", "dict"], kitB s T = some (isSub s T) := by decide +kernel
  refine kit_ty (key _ ?_ _ hT)
  cases x <;> simp [tyName]
theorem de_isi {x : Str} {T : String} {p q : Pos} (hT : T ∈ ["int", "bool", "str", "list", "tuple", "dict"]) (hg : Gl X "isinstance") (hm : X.mg "isinstance" = none) (hgT : Gl X x) (hmT : X.mg x = none) (hv : bootBuiltins x = some (.type T)) (ha : DE X g W a Fa) (hnT : x ≠ "__name__" := by decide) (hdT : (x == ("__debug__" : Str)) = false := by decide)
    (hb : bootBuiltins "isinstance" = some (.builtin "isinstance") := by decide +kernel) (he : starEach (a :: [.Name x q]) X.env = (false, eval a X.env) :: starEach [.Name x q] X.env := by rfl) (he2 : starEach [.Name x q] X.env = (false, eval (.Name x q) X.env) :: starEach [] X.env := by rfl) (hpl : (backTo pos (starEach [.Name x q] X.env)).any (·.1) = false := by rfl) :
    DE X g W (.Call (.Name "isinstance" p) [a, .Name x q] [] pos) (eUn (isiD T) Fa) := by
  refine PE.imp (pe_callB call_isi hg hm hb (pa_cons ha (pa_cons (pe_bltn (v := .ty T) hgT hmT hv rfl hnT hdT) pa_nil he2) he) (by decide) (by decide) he hpl) ?_
  rintro σ H Q ⟨S, R, h⟩
  refine (Wants.step R h).mono fun x H1 ⟨vx, S1, A1, r1, h1⟩ => ?_
  cases e1 : view S1 vx with
  | none => rw [e1] at h1; exact h1.elim
  | some dx =>
    rw [e1] at h1
    have h1 : Wants X.K g W (vrE X.K g) H σ S1 H1 (give S1 (if isErrD dx = true then none else bD (isSub (tyName dx) T))) Q := h1
    cases hE : isErrD dx with
    | true => rw [hE, if_pos rfl] at h1; exact h1.elim
    | false =>
    rw [hE, if_neg Bool.false_ne_true] at h1
    have Y := Wants.yields (rv := .d (.bool (isSub (tyName dx) T))) A1.rel A1.step.trk h1
    exact ⟨x, .ty T, .type (tyName dx), .type T, isSub (tyName dx) T, rfl, .ty T, ty_td (r1.1.td A1.rel e1) hE, isi_kit hT dx, Y.same (.bl _)⟩
end
end Fm

/-! FmQ: order: comparisons, min, max, sorted over data. -/
namespace PySem.SeqAt
open AutoSeq1 (wpAny_loadPart')
open MeetsSeq MeetsSeq2 MeetsSeq3 SeqRoads2
theorem dict_eq_declines_int (l : Addr) (es : Array DictEntry) (n : Nat) (dd : Option Addr) (sl : Array (Option Value)) (b : Int) (u : Tok) :
    Meets (Builtin.«dict.__eq__» ⟨[.ref l, .int b u], []⟩) (fun _ R s => s.heap.get? l = some { cls := .type "dict", dict := dd, data := .dict es n, slots := sl } ∧ R (.ok (.ret .notImplemented)) s) :=
  .of_wp fun prog w A R s h => by obtain ⟨hp, g, d, tk, os⟩ := s; obtain ⟨hl, h⟩ := h; have f1 := F.sub_int_dict; wp_walk using wpAny_loadPart' hl; exact ⟨_, rfl, h⟩
theorem int_eq_declines_dict (b : Int) (u : Tok) (l : Addr) (c : Value) (es : Array DictEntry) (n : Nat) (dd : Option Addr) (sl : Array (Option Value)) :
    Meets (Builtin.«int.__eq__» ⟨[.int b u, .ref l], []⟩) (fun _ R s => s.heap.get? l = some { cls := c, dict := dd, data := .dict es n, slots := sl } ∧ R (.ok (.ret .notImplemented)) s) :=
  .of_wp fun prog w A R s h => by obtain ⟨hp, g, d, tk, os⟩ := s; obtain ⟨hl, h⟩ := h; wp_walk using wpAny_loadPart' hl, wpAny_load hl; exact ⟨_, rfl, h⟩
theorem dict_eq_declines_str (l : Addr) (es : Array DictEntry) (n : Nat) (dd : Option Addr) (sl : Array (Option Value)) (b : Str) (u : Tok) :
    Meets (Builtin.«dict.__eq__» ⟨[.ref l, .str b u], []⟩) (fun _ R s => s.heap.get? l = some { cls := .type "dict", dict := dd, data := .dict es n, slots := sl } ∧ R (.ok (.ret .notImplemented)) s) :=
  .of_wp fun prog w A R s h => by obtain ⟨hp, g, d, tk, os⟩ := s; obtain ⟨hl, h⟩ := h; have f1 := F.sub_str_dict; wp_walk using wpAny_loadPart' hl; exact ⟨_, rfl, h⟩
theorem str_eq_declines_dict (b : Str) (u : Tok) (l : Addr) (c : Value) (es : Array DictEntry) (n : Nat) (dd : Option Addr) (sl : Array (Option Value)) :
    Meets (Builtin.«str.__eq__» ⟨[.str b u, .ref l], []⟩) (fun _ R s => s.heap.get? l = some { cls := c, dict := dd, data := .dict es n, slots := sl } ∧ R (.ok (.ret .notImplemented)) s) :=
  .of_wp fun prog w A R s h => by obtain ⟨hp, g, d, tk, os⟩ := s; obtain ⟨hl, h⟩ := h; wp_walk using wpAny_loadPart' hl, wpAny_load hl; exact ⟨_, rfl, h⟩
def IsDct (h : Heap) (v : Value) : Prop := ∃ l o es n, v = .ref l ∧ h.get? l = some o ∧ o.cls = .type "dict" ∧ o.data = .dict es n
section
variable {A : Around} {s : Shared}
theorem RcAt.dict_int {l : Addr} {o : Obj} {es : Array DictEntry} {n : Nat} (b : Int) (u : Tok) (h1 : s.heap.get? l = some o) (h2 : o.cls = .type "dict") (h3 : o.data = .dict es n) (hu : A.units < cLine) : RcAt A s (.ref l) (.int b u) false := fun prog w E Q h => by
  obtain ⟨cls, dd, data, sl⟩ := o
  simp only at h2 h3
  subst h2 h3
  exact rc_eq_decline_or (k := false) ⟨_, h1, rfl⟩ (typeIs_int s b u) (by decide) F.sub_int_dict F.slot_dict_eq F.slot_int_eq_refl
    (fun _ hq => call_meets F.slot_dict_eq ⟨_, h1, rfl⟩ F.entry_dict_eq (F.args_dict_eq_2 _ _) (dict_eq_declines_int l es n dd sl b u) ⟨h1, hq⟩)
    (fun _ hq => call_meets F.slot_int_eq_refl (typeIs_int s b u) F.entry_int_eq (F.args_int_eq_2 _ _) (int_eq_declines_dict b u l (.type "dict") es n dd sl) ⟨h1, hq⟩)
    (fun _ hq => wpAny_of_eq (rfl : isSame (.ref l) (.int b u) = pure false) hq) (.inr hu) h
theorem EqAt.dict_int {l : Addr} {o : Obj} {es : Array DictEntry} {n : Nat} (b : Int) (u : Tok) (h1 : s.heap.get? l = some o) (h2 : o.cls = .type "dict") (h3 : o.data = .dict es n) (hu : A.units < cLine) : EqAt A s (.ref l) (.int b u) false := fun prog w E Q h => by
  unfold eqBool
  refine wpAny_holding ?_
  refine wpAny_ite_split (fun hab => absurd (eq_of_beq hab) nofun) (fun _ => ?_)
  exact wpAny_bind (RcAt.dict_int b u h1 h2 h3 hu prog w E _ (wpAny_truthy_bool h))
theorem RcAt.str_dict {l : Addr} {o : Obj} {es : Array DictEntry} {n : Nat} (b : Str) (u : Tok) (h1 : s.heap.get? l = some o) (h2 : o.cls = .type "dict") (h3 : o.data = .dict es n) (hu : A.units < cLine) : RcAt A s (.str b u) (.ref l) false := fun prog w E Q h => by
  obtain ⟨cls, dd, data, sl⟩ := o
  simp only at h2 h3
  subst h2 h3
  exact rc_eq_decline_or (k := false) (typeIs_str s b u) ⟨_, h1, rfl⟩ (by decide) F.sub_dict_str F.slot_str_eq F.slot_dict_eq_refl
    (fun _ hq => call_meets F.slot_str_eq (typeIs_str s b u) F.entry_str_eq (F.args_str_eq_2 _ _) (str_eq_declines_dict b u l (.type "dict") es n dd sl) ⟨h1, hq⟩)
    (fun _ hq => call_meets F.slot_dict_eq_refl ⟨_, h1, rfl⟩ F.entry_dict_eq (F.args_dict_eq_2 _ _) (dict_eq_declines_str l es n dd sl b u) ⟨h1, hq⟩)
    (fun _ hq => wpAny_of_eq (rfl : isSame (.str b u) (.ref l) = pure false) hq) (.inr hu) h
theorem EqAt.str_dict {l : Addr} {o : Obj} {es : Array DictEntry} {n : Nat} (b : Str) (u : Tok) (h1 : s.heap.get? l = some o) (h2 : o.cls = .type "dict") (h3 : o.data = .dict es n) (hu : A.units < cLine) : EqAt A s (.str b u) (.ref l) false := fun prog w E Q h => by
  unfold eqBool
  refine wpAny_holding ?_
  refine wpAny_ite_split (fun hab => absurd (eq_of_beq hab) nofun) (fun _ => ?_)
  exact wpAny_bind (RcAt.str_dict b u h1 h2 h3 hu prog w E _ (wpAny_truthy_bool h))
theorem items_eqD {u : Value} {ds : List (PyData × PyData)} {bs : List Addr} (hu : A.units + 1 < cLine) (ru : Reads s.heap u (.dict ds) bs) : ∀ {vs : List Value} {xs : List PyData} {as : List Addr}, ReadsAll s.heap vs xs as → xs.all Fm.isSt = true → (∀ y ∈ vs, EqAt A.in1 s y u false) ∧ (xs.any fun y => PyData.eqv y (.dict ds)) = false
  | _, _, _, .nil, _ => ⟨(fun y hy => nomatch hy), rfl⟩
  | _, _, _, .cons (v := v) (d := d) r rs, ho => by
    rw [List.all_cons, Bool.and_eq_true] at ho
    obtain ⟨i1, i2⟩ := items_eqD hu ru rs ho.2
    cases r with
    | str =>
      refine ⟨fun y hy => ?_, ?_⟩
      · rcases List.mem_cons.mp hy with rfl | hy
        · cases ru with
          | dict h1 h2 h3 h4 h5 => exact EqAt.str_dict _ _ h1 h2 h3 hu
        · exact i1 y hy
      · rw [List.any_cons, i2]
        rfl
    | _ => exact absurd ho.1 (by simp [Fm.isSt])
open Classical in
noncomputable def eX (h : Heap) (b : Int) (y : Value) : Bool := if IsDct h y then false else PyData.eqv (readOf h y) (.int b)
theorem not_dct {h : Heap} {y : Value} {d : PyData} {as : List Addr} (r : Reads h y d as) (hc : d.canLay0 = true) : ¬ IsDct h y := by
  rintro ⟨l, o, es, n, rfl, h1, h2, h3⟩
  cases r with
  | list k1 k2 k3 k4 => rw [h1] at k1; cases k1; rw [h2] at k2; exact absurd k2 (by decide)
  | tuple k1 k2 k3 k4 => rw [h1] at k1; cases k1; rw [h2] at k2; exact absurd k2 (by decide)
  | dict => simp [PyData.canLay0] at hc
theorem eX_eq {h : Heap} {y : Value} {d : PyData} {as : List Addr} {b : Int} (r : Reads h y d as) (ho : Fm.okI d = true) : eX h b y = PyData.eqv d (.int b) := by
  unfold eX
  by_cases hd : d.canLay0 = true
  · rw [if_neg (not_dct r hd), readOf_eq hd r]
  · cases r with
    | dict h1 h2 h3 h4 h5 =>
      rw [if_pos ⟨_, _, _, _, rfl, h1, h2, h3⟩]
      rfl
    | _ => exact absurd ho hd
theorem items_eqX {b : Int} {u : Tok} (hu : A.units + 1 < cLine) : ∀ {vs : List Value} {xs : List PyData} {as : List Addr}, ReadsAll s.heap vs xs as → xs.all Fm.okI = true → (∀ y ∈ vs, EqAt A.in1 s y (.int b u) (eX s.heap b y)) ∧ vs.any (eX s.heap b) = xs.any fun y => PyData.eqv y (.int b)
  | _, _, _, .nil, _ => ⟨(fun y hy => nomatch hy), rfl⟩
  | _, _, _, .cons (v := v) (d := d) r rs, ho => by
    rw [List.all_cons, Bool.and_eq_true] at ho
    obtain ⟨i1, i2⟩ := items_eqX hu rs ho.2
    have e := eX_eq (b := b) r ho.1
    refine ⟨fun y hy => ?_, ?_⟩
    · rcases List.mem_cons.mp hy with rfl | hy
      · rw [e]
        by_cases hd : d.canLay0 = true
        · exact eqAt_reads d (.int b) A.in1 s _ _ _ _ r (.int b u) hd rfl (by show A.units + 1 + min d.depth 0 < cLine; omega)
        · cases r with
          | dict h1 h2 h3 h4 h5 => exact EqAt.dict_int b u h1 h2 h3 hu
          | _ => exact absurd ho.1 hd
      · exact i1 y hy
    · rw [List.any_cons, List.any_cons, e, i2]
variable {prog : Program} {w : World} {E : Value → Shared → Prop} {c : Value} {xs : List PyData} {b : Int} {u : Tok} {as : List Addr} {Q : Value → Shared → Prop}
section
variable {u : Value} {ds : List (PyData × PyData)} {bs : List Addr}
theorem any_no {α : Type} : ∀ l : List α, (l.any fun _ => false) = false
  | [] => rfl
  | _ :: r => by rw [List.any_cons, any_no r]; rfl
theorem in_listD (rc : Reads s.heap c (.list xs) as) (hxs : xs.all Fm.isSt = true) (ru : Reads s.heap u (.dict ds) bs) (hu : A.units + 1 < cLine) (h : Q (.bool (xs.any fun y => PyData.eqv y (.dict ds))) s) : wpAny (model prog w) A (compareOp .In u c) Q E s := by
  cases rc with
  | list h1 h2 h3 h4 =>
    obtain ⟨i1, i2⟩ := items_eqD hu ru h4 hxs
    exact in_listAt (fun _ => false) ⟨_, h1, h2, _, h3⟩ (fun y hy => i1 y (by simpa using hy)) (by rw [← Array.any_toList, any_no]; rw [i2] at h; exact h)
theorem notIn_listD (rc : Reads s.heap c (.list xs) as) (hxs : xs.all Fm.isSt = true) (ru : Reads s.heap u (.dict ds) bs) (hu : A.units + 1 < cLine) (h : Q (.bool (!xs.any fun y => PyData.eqv y (.dict ds))) s) : wpAny (model prog w) A (compareOp .NotIn u c) Q E s := by
  cases rc with
  | list h1 h2 h3 h4 =>
    obtain ⟨i1, i2⟩ := items_eqD hu ru h4 hxs
    exact notIn_listAt (fun _ => false) ⟨_, h1, h2, _, h3⟩ (fun y hy => i1 y (by simpa using hy)) (by rw [← Array.any_toList, any_no]; rw [i2] at h; exact h)
theorem in_tupleD (rc : Reads s.heap c (.tuple xs) as) (hxs : xs.all Fm.isSt = true) (ru : Reads s.heap u (.dict ds) bs) (hu : A.units + 1 < cLine) (h : Q (.bool (xs.any fun y => PyData.eqv y (.dict ds))) s) : wpAny (model prog w) A (compareOp .In u c) Q E s := by
  cases rc with
  | tuple h1 h2 h3 h4 =>
    obtain ⟨i1, i2⟩ := items_eqD hu ru h4 hxs
    exact in_tupleAt (fun _ => false) ⟨_, h1, h2, _, h3⟩ (fun y hy => i1 y (by simpa using hy)) (by rw [← Array.any_toList, any_no]; rw [i2] at h; exact h)
theorem notIn_tupleD (rc : Reads s.heap c (.tuple xs) as) (hxs : xs.all Fm.isSt = true) (ru : Reads s.heap u (.dict ds) bs) (hu : A.units + 1 < cLine) (h : Q (.bool (!xs.any fun y => PyData.eqv y (.dict ds))) s) : wpAny (model prog w) A (compareOp .NotIn u c) Q E s := by
  cases rc with
  | tuple h1 h2 h3 h4 =>
    obtain ⟨i1, i2⟩ := items_eqD hu ru h4 hxs
    exact notIn_tupleAt (fun _ => false) ⟨_, h1, h2, _, h3⟩ (fun y hy => i1 y (by simpa using hy)) (by rw [← Array.any_toList, any_no]; rw [i2] at h; exact h)
end
theorem in_listX (rc : Reads s.heap c (.list xs) as) (hxs : xs.all Fm.okI = true) (hu : A.units + 1 < cLine) (h : Q (.bool (xs.any fun y => PyData.eqv y (.int b))) s) : wpAny (model prog w) A (compareOp .In (.int b u) c) Q E s := by
  cases rc with
  | list h1 h2 h3 h4 =>
    obtain ⟨i1, i2⟩ := items_eqX (b := b) (u := u) hu h4 hxs
    exact in_listAt _ ⟨_, h1, h2, _, h3⟩ (fun y hy => i1 y (by simpa using hy)) (by rw [← Array.any_toList, i2]; exact h)
theorem notIn_listX (rc : Reads s.heap c (.list xs) as) (hxs : xs.all Fm.okI = true) (hu : A.units + 1 < cLine) (h : Q (.bool (!xs.any fun y => PyData.eqv y (.int b))) s) : wpAny (model prog w) A (compareOp .NotIn (.int b u) c) Q E s := by
  cases rc with
  | list h1 h2 h3 h4 =>
    obtain ⟨i1, i2⟩ := items_eqX (b := b) (u := u) hu h4 hxs
    exact notIn_listAt _ ⟨_, h1, h2, _, h3⟩ (fun y hy => i1 y (by simpa using hy)) (by rw [← Array.any_toList, i2]; exact h)
theorem in_tupleX (rc : Reads s.heap c (.tuple xs) as) (hxs : xs.all Fm.okI = true) (hu : A.units + 1 < cLine) (h : Q (.bool (xs.any fun y => PyData.eqv y (.int b))) s) : wpAny (model prog w) A (compareOp .In (.int b u) c) Q E s := by
  cases rc with
  | tuple h1 h2 h3 h4 =>
    obtain ⟨i1, i2⟩ := items_eqX (b := b) (u := u) hu h4 hxs
    exact in_tupleAt _ ⟨_, h1, h2, _, h3⟩ (fun y hy => i1 y (by simpa using hy)) (by rw [← Array.any_toList, i2]; exact h)
theorem notIn_tupleX (rc : Reads s.heap c (.tuple xs) as) (hxs : xs.all Fm.okI = true) (hu : A.units + 1 < cLine) (h : Q (.bool (!xs.any fun y => PyData.eqv y (.int b))) s) : wpAny (model prog w) A (compareOp .NotIn (.int b u) c) Q E s := by
  cases rc with
  | tuple h1 h2 h3 h4 =>
    obtain ⟨i1, i2⟩ := items_eqX (b := b) (u := u) hu h4 hxs
    exact notIn_tupleAt _ ⟨_, h1, h2, _, h3⟩ (fun y hy => i1 y (by simpa using hy)) (by rw [← Array.any_toList, i2]; exact h)
end
end PySem.SeqAt
namespace Fm
open PySem L2 PySem.W
section
variable {X : Cx} {W : WX} {n : Nat}
theorem Ok.un64 (ok : Ok X W n) : X.A.units + 64 < cLine := by have := ok.room.un; omega
theorem Ok.u1 (ok : Ok X W n) : X.A.units + 1 < cLine := by have := ok.un64; omega
theorem isN_ne {x : D} (h : (!isN x) = true) : x ≠ .none := by
  intro z
  subst z
  cases h
theorem ok_ord (ok : Okh X n) {op : CmpOp} {f : Int → Int → Bool} {fs : Str → Str → Bool} {fd : D → D → Bool} {f' : D → D → Option RV} (ho : OpR X (compareOp op) (rI0 fun i j => .bl (f i j))) (hs : OpR X (compareOp op) fun x y H Q => ∃ i j, x = .str i ∧ y = .str j ∧ Q (.bl (fs i j)) H)
    (hd : ∀ {s : Shared} {a b : Value} {da db : D} {as bs : List Addr} {Q : Value → Shared → Prop} {E : Value → Shared → Prop}, Reads s.heap a da as → Reads s.heap b db bs → alike da db = true → da ≠ .none → X.A.units + min da.depth db.depth < cLine → Q (.bool (fd da db)) s → wpAny (model X.prog X.w) X.A (compareOp op a b) Q E s)
    (hf : ∀ x y rv, f' x y = some rv → (∃ i j, x = .int i ∧ y = .int j ∧ rv = .d (.bool (f i j))) ∨ (∃ a b, x = .str a ∧ y = .str b ∧ rv = .d (.bool (fs a b))) ∨ (∃ a, x = .tuple a) ∧ cmpOk x y = true ∧ rv = .d (.bool (fd x y))) : OpOk X (compareOp op) f' := by
  intro pins s σ H x y v u Q I rx ry h
  obtain ⟨dx, dy, rv, tx, ty, e, Y⟩ := h
  rcases hf _ _ _ e with ⟨i, j, rfl, rfl, rfl⟩ | ⟨i, j, rfl, rfl, rfl⟩ | ⟨⟨a, rfl⟩, hk, rfl⟩
  · cases tx.int
    cases ty.int
    exact ho pins s σ H _ _ v u Q I rx ry ⟨i, j, rfl, rfl, Y.same (.bl _)⟩
  · cases tx.str
    cases ty.str
    exact hs pins s σ H _ _ v u Q I rx ry ⟨i, j, rfl, rfl, Y.same (.bl _)⟩
  · exact absurd hk Bool.false_ne_true
theorem ok_lt (ok : Okh X n) : OpOk X (compareOp .Lt) ltD := ok_ord ok (fd := fun x y => dataLt x y) op_lt op_lt_str lt_data fun x y rv e => by
  cases x with
  | int i =>
    cases y with
    | int j => cases e; exact .inl ⟨i, j, rfl, rfl, rfl⟩
    | _ => cases e
  | str a =>
    cases y with
    | str b => cases e; exact .inr (.inl ⟨a, b, rfl, rfl, rfl⟩)
    | _ => cases e
  | tuple a =>
    cases y with
    | tuple b =>
      cases e
    | _ => cases e
  | _ => cases e
theorem ok_le (ok : Okh X n) : OpOk X (compareOp .LtE) leD := ok_ord ok (fd := fun x y => !dataLt y x) op_le op_le_str le_data fun x y rv e => by
  cases x with
  | int i =>
    cases y with
    | int j => cases e; exact .inl ⟨i, j, rfl, rfl, rfl⟩
    | _ => cases e
  | str a =>
    cases y with
    | str b => cases e; exact .inr (.inl ⟨a, b, rfl, rfl, rfl⟩)
    | _ => cases e
  | tuple a =>
    cases y with
    | tuple b =>
      cases e
    | _ => cases e
  | _ => cases e
theorem ok_gt (ok : Okh X n) : OpOk X (compareOp .Gt) gtD := ok_ord ok (fd := fun x y => dataLt y x) op_gt op_gt_str gt_data fun x y rv e => by
  cases x with
  | int i =>
    cases y with
    | int j => cases e; exact .inl ⟨i, j, rfl, rfl, rfl⟩
    | _ => cases e
  | str a =>
    cases y with
    | str b => cases e; exact .inr (.inl ⟨a, b, rfl, rfl, rfl⟩)
    | _ => cases e
  | tuple a =>
    cases y with
    | tuple b =>
      cases e
    | _ => cases e
  | _ => cases e
theorem ok_ge (ok : Okh X n) : OpOk X (compareOp .GtE) geD := ok_ord ok (fd := fun x y => !dataLt x y) op_ge op_ge_str ge_data fun x y rv e => by
  cases x with
  | int i =>
    cases y with
    | int j => cases e; exact .inl ⟨i, j, rfl, rfl, rfl⟩
    | _ => cases e
  | str a =>
    cases y with
    | str b => cases e; exact .inr (.inl ⟨a, b, rfl, rfl, rfl⟩)
    | _ => cases e
  | tuple a =>
    cases y with
    | tuple b =>
      cases e
    | _ => cases e
  | _ => cases e
theorem ordOk_iff {xs : List D} (h : ordOk xs = true) : AlikeAll xs ∧ AllAlike xs ∧ PyData.canLayAll0 xs = true ∧ PyData.depthAll xs ≤ 60 := by
  unfold ordOk at h
  simp only [Bool.and_eq_true, List.all_eq_true, decide_eq_true_eq] at h
  obtain ⟨⟨⟨h1, h2⟩, h3⟩, h4⟩ := h
  exact ⟨⟨h1, fun x hx => isN_ne (h2 x hx)⟩, h1, h3, h4⟩
theorem FDs.atN {K : PySem.W.Frag} {H : Hp} : ∀ {vs : List V} {xs : List D} {us : List Value} {i : Nat} {u : Value}, FDs K H vs xs → Vals vs us → us[i]? = some u → ∃ v x, vs[i]? = some v ∧ xs[i]? = some x ∧ RelV v u ∧ FD K H v x
  | _, _, _, i, u, .nil, .nil, e => by simp at e
  | _, _, _, 0, u, .cons h t, .cons r rs, e => by
    simp at e
    subst e
    exact ⟨_, _, rfl, rfl, r, h⟩
  | _, _, _, i + 1, u, .cons h t, .cons r rs, e => by
    obtain ⟨v, x, h1, h2, h3, h4⟩ := FDs.atN (i := i) t rs (by simpa using e)
    exact ⟨v, x, by simpa using h1, by simpa using h2, h3, h4⟩
theorem canLay_mem {xs : List D} (h : PyData.canLayAll0 xs = true) {x : D} (hx : x ∈ xs) : x.canLay0 = true := by
  induction xs with
  | nil => cases hx
  | cons y r ih =>
    have h' : y.canLay0 = true ∧ PyData.canLayAll0 r = true := by simpa [PyData.canLayAll0] using h
    rcases List.mem_cons.mp hx with rfl | hx
    · exact h'.1
    · exact ih h'.2 hx
/-- what the item that was found means -/
theorem best_fd {pins : List (Addr × Obj)} {σ : L2.St} {H : Hp} {s : Shared} {vs : List V} {xs : List D} {us : List Value} {i : Nat} {u : Value} {h' : Heap} {bs : List Addr} {m : D} (I : Inv X pins σ H s) (f : FDs X.K H vs xs) (rv : Vals vs us) (hc : PyData.canLayAll0 xs = true) (hi : us[i]? = some u) (hk : ∀ b o, s.heap.get? b = some o → h'.get? b = some o) (r : Reads h' u m bs) :
    ∃ v, RelV v u ∧ FD X.K H v m := by
  obtain ⟨v, x, h1, h2, h3, h4⟩ := FDs.atN f rv hi
  obtain ⟨as, r2, _⟩ := h4.reads I h3 (okR_lay (canLay_mem hc (List.mem_of_getElem? h2)))
  have e := SeqAt.Reads.unique x m u as bs (canLay_mem hc (List.mem_of_getElem? h2)) (PyProof.Rows.Reads.keeps hk r2) r
  subst e
  exact ⟨v, h3, h4⟩
theorem ok_max2 (ok : Ok X W n) : CallOk X (.builtin "max") max2D := by
  intro pins s σ H xs us Q I r q
  obtain ⟨ds, rv, td, e, Y⟩ := q
  have hu := ok.un64
  unfold max2D at e
  split at e
  · cases e
    cases td with
    | cons t td =>
      cases td with
      | cons t2 td =>
        cases td
        cases t.int
        cases t2.int
        exact call_max2 ok.calm pins s σ H _ us Q I r ⟨_, _, rfl, Y.same (.int _)⟩
  · rename_i x l
    by_cases hk : ordOk (x :: l) = true
    · rw [if_pos hk] at e
      cases e
      obtain ⟨h1, _, h3, h4⟩ := ordOk_iff hk
      cases td with
      | cons t td =>
        cases td
        obtain ⟨p, vs, rfl, h, f⟩ := t.lst
        obtain ⟨its, r2, hl, _⟩ := I.list (.inl h)
        rw [Vals.ref1 r]
        obtain ⟨as, ra, _⟩ := FDs.reads I f r2 (okRs_lay h3)
        refine max_list_data (I.ok.hd ok.calm) hl.isList (by simpa using ra) h1 (by omega) fun i v h' tk bs hi rd hk' => ?_
        obtain ⟨z, rz, fz⟩ := best_fd I f r2 h3 (by simpa using hi) hk' rd
        exact ⟨z, H, I.kept hk', rz, Y.same fz⟩
    · rw [if_neg hk] at e
      cases e
  · rename_i x l
    by_cases hk : ordOk (x :: l) = true
    · rw [if_pos hk] at e
      cases e
      obtain ⟨h1, _, h3, h4⟩ := ordOk_iff hk
      cases td with
      | cons t td =>
        cases td
        obtain ⟨p, vs, rfl, h, f⟩ := t.tup
        obtain ⟨its, r2, hl, _⟩ := I.tuple h
        rw [Vals.ref1 r]
        obtain ⟨as, ra, _⟩ := FDs.reads I f r2 (okRs_lay h3)
        refine max_tuple_data (I.ok.hd ok.calm) hl (by simpa using ra) h1 (by omega) fun i v h' tk bs hi rd hk' => ?_
        obtain ⟨z, rz, fz⟩ := best_fd I f r2 h3 (by simpa using hi) hk' rd
        exact ⟨z, H, I.kept hk', rz, Y.same fz⟩
    · rw [if_neg hk] at e
      cases e
  · cases e
theorem ok_min2 (ok : Ok X W n) : CallOk X (.builtin "min") min2D := by
  intro pins s σ H xs us Q I r q
  obtain ⟨ds, rv, td, e, Y⟩ := q
  have hu := ok.un64
  unfold min2D at e
  split at e
  · cases e
    cases td with
    | cons t td =>
      cases td with
      | cons t2 td =>
        cases td
        cases t.int
        cases t2.int
        exact call_min2 ok.calm pins s σ H _ us Q I r ⟨_, _, rfl, Y.same (.int _)⟩
  · rename_i x l
    by_cases hk : ordOk (x :: l) = true
    · rw [if_pos hk] at e
      cases e
      obtain ⟨h1, _, h3, h4⟩ := ordOk_iff hk
      cases td with
      | cons t td =>
        cases td
        obtain ⟨p, vs, rfl, h, f⟩ := t.lst
        obtain ⟨its, r2, hl, _⟩ := I.list (.inl h)
        rw [Vals.ref1 r]
        obtain ⟨as, ra, _⟩ := FDs.reads I f r2 (okRs_lay h3)
        refine min_list_data (I.ok.hd ok.calm) hl.isList (by simpa using ra) h1 (by omega) fun i v h' tk bs hi rd hk' => ?_
        obtain ⟨z, rz, fz⟩ := best_fd I f r2 h3 (by simpa using hi) hk' rd
        exact ⟨z, H, I.kept hk', rz, Y.same fz⟩
    · rw [if_neg hk] at e
      cases e
  · rename_i x l
    by_cases hk : ordOk (x :: l) = true
    · rw [if_pos hk] at e
      cases e
      obtain ⟨h1, _, h3, h4⟩ := ordOk_iff hk
      cases td with
      | cons t td =>
        cases td
        obtain ⟨p, vs, rfl, h, f⟩ := t.tup
        obtain ⟨its, r2, hl, _⟩ := I.tuple h
        rw [Vals.ref1 r]
        obtain ⟨as, ra, _⟩ := FDs.reads I f r2 (okRs_lay h3)
        refine min_tuple_data (I.ok.hd ok.calm) hl (by simpa using ra) h1 (by omega) fun i v h' tk bs hi rd hk' => ?_
        obtain ⟨z, rz, fz⟩ := best_fd I f r2 h3 (by simpa using hi) hk' rd
        exact ⟨z, H, I.kept hk', rz, Y.same fz⟩
    · rw [if_neg hk] at e
      cases e
  · cases e
theorem sort_snd {α : Type} (l : List (α × D)) : (l.mergeSort (dataLe false Prod.snd)).map Prod.snd = sortL (l.map Prod.snd) := List.map_mergeSort fun a _ b _ => rfl
theorem each_zip {K : PySem.W.Frag} {H : Hp} : ∀ {vs : List V} {xs : List D} {us : List Value}, FDs K H vs xs → Vals vs us → EachIs (fun u (p : V × D) => RelV p.1 u ∧ FD K H p.1 p.2) us (vs.zip xs)
  | _, _, _, .nil, .nil => .nil
  | _, _, _, .cons h t, .cons r rs => .cons ⟨r, h⟩ (each_zip t rs)
theorem zip_back {K : PySem.W.Frag} {H : Hp} : ∀ {us : List Value} {ps : List (V × D)}, EachIs (fun u (p : V × D) => RelV p.1 u ∧ FD K H p.1 p.2) us ps → Vals (ps.map Prod.fst) us ∧ FDs K H (ps.map Prod.fst) (ps.map Prod.snd)
  | _, _, .nil => ⟨.nil, .nil⟩
  | _, _, .cons h t => ⟨.cons h.1 (zip_back t).1, .cons h.2 (zip_back t).2⟩
theorem in_core {K : PySem.W.Frag} {H : Hp} {vx : V} {x : D} {xs : List D} {vs : List V} (tx : TD K H vx x) (f : FDs K H vs xs) (hc : (flat x && xs.all flat) = true) : flatV vx = true ∧ vs.all flatV = true ∧ inV vx vs = xs.any fun y => PyData.eqv y x := by
  rw [Bool.and_eq_true] at hc
  obtain ⟨h1, h2⟩ := flats tx hc.1 f hc.2
  exact ⟨flat_td tx hc.1, h1, h2⟩
theorem in_hu (ok : Okh X n) {x : D} {xs : List D} (h : x.depth ≤ 60) : X.A.units + min x.depth (PyData.depthAll xs) < cLine := by have := ok.un64; omega
theorem ok_in (ok : Okh X n) : OpOk X (compareOp .In) inD := by
  intro pins s σ H x y v u Q I rx ry h
  obtain ⟨dx, dy, rv, tx, ty, e, Y⟩ := h
  unfold inD at e
  cases q : inB dx dy with
  | none => rw [q] at e; cases e
  | some b =>
    rw [q] at e
    cases e
    have go : ∀ {xs : List D}, (if inOk dx xs = true then some (xs.any fun y => PyData.eqv y dx) else none) = some b → b = (xs.any fun y => PyData.eqv y dx) ∧ ((flat dx && xs.all flat) = true ∨ (dx.canLay0 = true ∧ PyData.canLayAll0 xs = true ∧ dx.depth ≤ 60) ∨ ((isI dx = true ∧ xs.all okI = true) ∨ (isDt dx = true ∧ xs.all isSt = true))) := fun {xs} e => by
      by_cases hc : inOk dx xs = true
      · rw [if_pos hc] at e
        cases e
        unfold inOk at hc
        rw [Bool.or_eq_true, Bool.or_eq_true] at hc
        rcases hc with (hc | hc) | hc
        · exact ⟨rfl, .inl hc⟩
        · simp only [Bool.and_eq_true, decide_eq_true_eq] at hc
          exact ⟨rfl, .inr (.inl ⟨hc.1.1, hc.1.2, hc.2⟩)⟩
        · rw [Bool.or_eq_true, Bool.and_eq_true, Bool.and_eq_true] at hc
          exact ⟨rfl, .inr (.inr hc)⟩
      · rw [if_neg hc] at e; cases e
    cases dy with
    | dict ds =>
      cases hE : isErrD (.dict ds) with
      | true =>
        obtain ⟨w, r, rfl⟩ := isErr_cases hE
        cases q
      | false =>
      have q : (kyOf dx).map (fun k => (dGet ds k).isSome) = some b := by
        cases ds with
        | nil => exact q
        | cons p r =>
          obtain ⟨k0, w⟩ := p
          cases k0 with
          | none => cases hE
          | _ => exact q
      cases q1 : kyOf dx with
      | none => rw [q1] at q; cases q
      | some k =>
        rw [q1] at q
        cases q
        obtain ⟨p, vs, rfl, hp, f⟩ := ty.dct hE
        have ex := ky_td tx q1
        subst ex
        cases ry
        refine d_in ok.u1 I (.inl ⟨vs, k, hp, rfl, rfl⟩) rx fun s' I' => ⟨.bl _, H, I', rfl, ?_⟩
        have e : (valV vs k).isSome = (dGet ds k).isSome := by
          rcases f.get k with ⟨h1, h2⟩ | ⟨w, x, h1, h2, _⟩
          · rw [h1, h2]
            rfl
          · rw [h1, h2]
            rfl
        rw [e]
        exact Y.same (.bl _)
    | list xs =>
      obtain ⟨rfl, hc⟩ := go q
      rcases hc with hc | ⟨c1, c2, c3⟩ | ⟨c1, c2⟩ | ⟨c1, c2⟩
      · obtain ⟨p, vs, rfl, hp, f⟩ := ty.lst
        obtain ⟨h2, h3, h4⟩ := in_core tx f hc
        exact op_in_seq pins s σ H _ _ v u Q I rx ry ⟨p, vs, rfl, .inl (.inl hp), h2, h3, by rw [if_neg Bool.false_ne_true, h4]; exact Y.same (.bl _)⟩
      · obtain ⟨as, r1, _⟩ := tx.reads I rx (okR_lay c1)
        obtain ⟨bs, r2, _⟩ := ty.reads I ry (by rw [okR]; exact okRs_lay c2)
        exact SeqAt.in_list_reads r2 r1 c2 c1 (by have := ok.un64; omega) ⟨.bl _, H, I, rfl, Y.same (.bl _)⟩
      · cases dx with
        | int i =>
          obtain ⟨bs, r2, _⟩ := ty.reads I ry (by rw [okR]; exact okRs_all fun y hy => okR_okI (List.all_eq_true.mp c2 y hy))
          cases tx.int
          obtain ⟨t, rfl⟩ := rx
          exact SeqAt.in_listX r2 c2 (by have := ok.un64; omega) ⟨.bl _, H, I, rfl, Y.same (.bl _)⟩
        | _ => cases c1
      · cases dx with
        | dict es =>
          obtain ⟨as, r1, _⟩ := tx.reads I rx c1
          obtain ⟨bs, r2, _⟩ := ty.reads I ry (by rw [okR]; exact okRs_all fun y hy => okR_isSt (List.all_eq_true.mp c2 y hy))
          exact SeqAt.in_listD r2 c2 r1 (by have := ok.un64; omega) ⟨.bl _, H, I, rfl, Y.same (.bl _)⟩
        | _ => cases c1
    | tuple xs =>
      obtain ⟨rfl, hc⟩ := go q
      rcases hc with hc | ⟨c1, c2, c3⟩ | ⟨c1, c2⟩ | ⟨c1, c2⟩
      · obtain ⟨p, vs, rfl, hp, f⟩ := ty.tup
        obtain ⟨h2, h3, h4⟩ := in_core tx f hc
        exact op_in_seq pins s σ H _ _ v u Q I rx ry ⟨p, vs, rfl, .inr hp, h2, h3, by rw [if_neg Bool.false_ne_true, h4]; exact Y.same (.bl _)⟩
      · obtain ⟨as, r1, _⟩ := tx.reads I rx (okR_lay c1)
        obtain ⟨bs, r2, _⟩ := ty.reads I ry (by rw [okR]; exact okRs_lay c2)
        exact SeqAt.in_tuple_reads r2 r1 c2 c1 (by have := ok.un64; omega) ⟨.bl _, H, I, rfl, Y.same (.bl _)⟩
      · cases dx with
        | int i =>
          obtain ⟨bs, r2, _⟩ := ty.reads I ry (by rw [okR]; exact okRs_all fun y hy => okR_okI (List.all_eq_true.mp c2 y hy))
          cases tx.int
          obtain ⟨t, rfl⟩ := rx
          exact SeqAt.in_tupleX r2 c2 (by have := ok.un64; omega) ⟨.bl _, H, I, rfl, Y.same (.bl _)⟩
        | _ => cases c1
      · cases dx with
        | dict es =>
          obtain ⟨as, r1, _⟩ := tx.reads I rx c1
          obtain ⟨bs, r2, _⟩ := ty.reads I ry (by rw [okR]; exact okRs_all fun y hy => okR_isSt (List.all_eq_true.mp c2 y hy))
          exact SeqAt.in_tupleD r2 c2 r1 (by have := ok.un64; omega) ⟨.bl _, H, I, rfl, Y.same (.bl _)⟩
        | _ => cases c1
    | str z =>
      cases dx with
      | str w =>
        have q : (if w.cps.size = 1 then some (decide (w.cps.getD 0 0 ∈ z.cps.toList)) else none) = some b := q
        by_cases hw : w.cps.size = 1
        · rw [if_pos hw] at q
          cases q
          obtain ⟨c, hc⟩ : ∃ c, w = ⟨#[c]⟩ := by
            obtain ⟨arr⟩ := w
            obtain ⟨c, hc⟩ := Array.size_eq_one_iff.mp hw
            exact ⟨c, congrArg Str.mk hc⟩
          subst hc
          cases tx.str
          cases ty.str
          exact op_in_sign pins s σ H _ _ v u Q I rx ry ⟨c, z, rfl, rfl, Y.same (.bl _)⟩
        · rw [if_neg hw] at q; cases q
      | _ => cases q
    | _ => cases q
theorem ok_notIn (ok : Okh X n) : OpOk X (compareOp .NotIn) notInD := by
  intro pins s σ H x y v u Q I rx ry h
  obtain ⟨dx, dy, rv, tx, ty, e, Y⟩ := h
  unfold notInD at e
  cases q : inB dx dy with
  | none => rw [q] at e; cases e
  | some b =>
    rw [q] at e
    cases e
    have go : ∀ {xs : List D}, (if inOk dx xs = true then some (xs.any fun y => PyData.eqv y dx) else none) = some b → b = (xs.any fun y => PyData.eqv y dx) ∧ ((flat dx && xs.all flat) = true ∨ (dx.canLay0 = true ∧ PyData.canLayAll0 xs = true ∧ dx.depth ≤ 60) ∨ ((isI dx = true ∧ xs.all okI = true) ∨ (isDt dx = true ∧ xs.all isSt = true))) := fun {xs} e => by
      by_cases hc : inOk dx xs = true
      · rw [if_pos hc] at e
        cases e
        unfold inOk at hc
        rw [Bool.or_eq_true, Bool.or_eq_true] at hc
        rcases hc with (hc | hc) | hc
        · exact ⟨rfl, .inl hc⟩
        · simp only [Bool.and_eq_true, decide_eq_true_eq] at hc
          exact ⟨rfl, .inr (.inl ⟨hc.1.1, hc.1.2, hc.2⟩)⟩
        · rw [Bool.or_eq_true, Bool.and_eq_true, Bool.and_eq_true] at hc
          exact ⟨rfl, .inr (.inr hc)⟩
      · rw [if_neg hc] at e; cases e
    cases dy with
    | dict ds =>
      cases hE : isErrD (.dict ds) with
      | true =>
        obtain ⟨w, r, rfl⟩ := isErr_cases hE
        cases q
      | false =>
      have q : (kyOf dx).map (fun k => (dGet ds k).isSome) = some b := by
        cases ds with
        | nil => exact q
        | cons p r =>
          obtain ⟨k0, w⟩ := p
          cases k0 with
          | none => cases hE
          | _ => exact q
      cases q1 : kyOf dx with
      | none => rw [q1] at q; cases q
      | some k =>
        rw [q1] at q
        cases q
        obtain ⟨p, vs, rfl, hp, f⟩ := ty.dct hE
        have ex := ky_td tx q1
        subst ex
        cases ry
        refine d_notIn ok.u1 I (.inl ⟨vs, k, hp, rfl, rfl⟩) rx fun s' I' => ⟨.bl _, H, I', rfl, ?_⟩
        have e : (valV vs k).isSome = (dGet ds k).isSome := by
          rcases f.get k with ⟨h1, h2⟩ | ⟨w, x, h1, h2, _⟩
          · rw [h1, h2]
            rfl
          · rw [h1, h2]
            rfl
        rw [e]
        exact Y.same (.bl _)
    | list xs =>
      obtain ⟨rfl, hc⟩ := go q
      rcases hc with hc | ⟨c1, c2, c3⟩ | ⟨c1, c2⟩ | ⟨c1, c2⟩
      · obtain ⟨p, vs, rfl, hp, f⟩ := ty.lst
        obtain ⟨h2, h3, h4⟩ := in_core tx f hc
        exact op_notIn_seq pins s σ H _ _ v u Q I rx ry ⟨p, vs, rfl, .inl (.inl hp), h2, h3, by rw [if_pos rfl, h4]; exact Y.same (.bl _)⟩
      · obtain ⟨as, r1, _⟩ := tx.reads I rx (okR_lay c1)
        obtain ⟨bs, r2, _⟩ := ty.reads I ry (by rw [okR]; exact okRs_lay c2)
        exact SeqAt.notIn_list_reads r2 r1 c2 c1 (by have := ok.un64; omega) ⟨.bl _, H, I, rfl, Y.same (.bl _)⟩
      · cases dx with
        | int i =>
          obtain ⟨bs, r2, _⟩ := ty.reads I ry (by rw [okR]; exact okRs_all fun y hy => okR_okI (List.all_eq_true.mp c2 y hy))
          cases tx.int
          obtain ⟨t, rfl⟩ := rx
          exact SeqAt.notIn_listX r2 c2 (by have := ok.un64; omega) ⟨.bl _, H, I, rfl, Y.same (.bl _)⟩
        | _ => cases c1
      · cases dx with
        | dict es =>
          obtain ⟨as, r1, _⟩ := tx.reads I rx c1
          obtain ⟨bs, r2, _⟩ := ty.reads I ry (by rw [okR]; exact okRs_all fun y hy => okR_isSt (List.all_eq_true.mp c2 y hy))
          exact SeqAt.notIn_listD r2 c2 r1 (by have := ok.un64; omega) ⟨.bl _, H, I, rfl, Y.same (.bl _)⟩
        | _ => cases c1
    | tuple xs =>
      obtain ⟨rfl, hc⟩ := go q
      rcases hc with hc | ⟨c1, c2, c3⟩ | ⟨c1, c2⟩ | ⟨c1, c2⟩
      · obtain ⟨p, vs, rfl, hp, f⟩ := ty.tup
        obtain ⟨h2, h3, h4⟩ := in_core tx f hc
        exact op_notIn_seq pins s σ H _ _ v u Q I rx ry ⟨p, vs, rfl, .inr hp, h2, h3, by rw [if_pos rfl, h4]; exact Y.same (.bl _)⟩
      · obtain ⟨as, r1, _⟩ := tx.reads I rx (okR_lay c1)
        obtain ⟨bs, r2, _⟩ := ty.reads I ry (by rw [okR]; exact okRs_lay c2)
        exact SeqAt.notIn_tuple_reads r2 r1 c2 c1 (by have := ok.un64; omega) ⟨.bl _, H, I, rfl, Y.same (.bl _)⟩
      · cases dx with
        | int i =>
          obtain ⟨bs, r2, _⟩ := ty.reads I ry (by rw [okR]; exact okRs_all fun y hy => okR_okI (List.all_eq_true.mp c2 y hy))
          cases tx.int
          obtain ⟨t, rfl⟩ := rx
          exact SeqAt.notIn_tupleX r2 c2 (by have := ok.un64; omega) ⟨.bl _, H, I, rfl, Y.same (.bl _)⟩
        | _ => cases c1
      · cases dx with
        | dict es =>
          obtain ⟨as, r1, _⟩ := tx.reads I rx c1
          obtain ⟨bs, r2, _⟩ := ty.reads I ry (by rw [okR]; exact okRs_all fun y hy => okR_isSt (List.all_eq_true.mp c2 y hy))
          exact SeqAt.notIn_tupleD r2 c2 r1 (by have := ok.un64; omega) ⟨.bl _, H, I, rfl, Y.same (.bl _)⟩
        | _ => cases c1
    | str z =>
      cases dx with
      | str w =>
        have q : (if w.cps.size = 1 then some (decide (w.cps.getD 0 0 ∈ z.cps.toList)) else none) = some b := q
        by_cases hw : w.cps.size = 1
        · rw [if_pos hw] at q
          cases q
          obtain ⟨c, hc⟩ : ∃ c, w = ⟨#[c]⟩ := by
            obtain ⟨arr⟩ := w
            obtain ⟨c, hc⟩ := Array.size_eq_one_iff.mp hw
            exact ⟨c, congrArg Str.mk hc⟩
          subst hc
          cases tx.str
          cases ty.str
          exact op_notIn_sign pins s σ H _ _ v u Q I rx ry ⟨c, z, rfl, rfl, Y.same (.bl _)⟩
        · rw [if_neg hw] at q; cases q
      | _ => cases q
    | _ => cases q
theorem FKs.merge {K : PySem.W.Frag} {H : Hp} : ∀ {ps : List (L2.Key × V)} {qs : List (D × D)} {vs : List (L2.Key × V)} {ds : List (D × D)}, FKs K H vs ds → FKs K H ps qs → FKs K H (mergeK vs ps) (mergeD ds qs)
  | _, _, _, _, f, .nil => f
  | _, _, _, _, f, .cons e h hs => by
    have := FKs.merge (f.put e h) hs
    exact this
theorem pairs_fd {K : PySem.W.Frag} {H : Hp} : ∀ {xs : List D} {qs : List (D × D)} {vs : List V}, FDs K H vs xs → pairsD xs = some qs → ∃ (ps : List Addr) (kvs : List (L2.Key × V)), vs = ps.map V.ref ∧ Paired (fun p kv => SqT K H p [kV kv.1, kv.2]) ps kvs ∧ FKs K H kvs qs
  | [], qs, vs, f, e => by
    cases e
    cases f
    exact ⟨[], [], rfl, .nil, .nil⟩
  | x :: xs, qs, vs, f, e => by
    cases f with
    | cons h f =>
      match x, h, e with
      | .tuple [k, y], h, e =>
        have e : (if (kyOf k).isSome = true then (pairsD xs).map fun l => (k, y) :: l else none) = some qs := e
        by_cases hk : (kyOf k).isSome = true
        · rw [if_pos hk] at e
          cases q : pairsD xs with
          | none => rw [q] at e; cases e
          | some l =>
            rw [q] at e
            cases e
            obtain ⟨key, hkey⟩ := Option.isSome_iff_exists.mp hk
            obtain ⟨ps, kvs, rfl, h1, h2⟩ := pairs_fd f q
            cases h with
            | tup sq fs =>
              cases fs with
              | cons f1 fs =>
                cases fs with
                | cons f2 fs =>
                  cases fs
                  have := ky_fd f1 hkey
                  subst this
                  exact ⟨_ :: ps, (key, _) :: kvs, rfl, .cons sq.1 h1, .cons hkey f2 h2⟩
        · rw [if_neg hk] at e; cases e
theorem ok_is : OpOk X (compareOp .Is) isOp := by
  intro pins s σ H x y v u Q I rx ry h
  obtain ⟨dx, dy, rv, tx, ty, e, Y⟩ := h
  have non : ∀ {dx : D}, TD X.K H x dx → decide (x = V.non) = isN dx := fun {dx} tx => by
    cases dx with
    | none => rw [tx.non]; rfl
    | bool b => rw [tx.bl]; rfl
    | int b => rw [tx.int]; rfl
    | str b => rw [tx.str]; rfl
    | list b => obtain ⟨p, vs, rfl, _⟩ := tx.lst; rfl
    | tuple b => obtain ⟨p, vs, rfl, _⟩ := tx.tup; rfl
    | dict b =>
      obtain ⟨p, rfl⟩ := tx.dref
      rfl
  cases dy with
  | none =>
    have e : bD (isN dx) = some rv := by cases dx <;> exact e
    cases e
    exact op_isN pins s σ H _ _ v u Q I rx ry ⟨ty.non, by rw [non tx]; exact Y.same (.bl _)⟩
  | bool b =>
    cases dx with
    | bool a =>
      cases e
      refine op_is_bl pins s σ H _ _ v u Q I rx ry ⟨a, b, tx.bl, ty.bl, ?_⟩
      have z : decide (a = b) = (a == b) := by cases a <;> cases b <;> rfl
      rw [z]
      exact Y.same (.bl _)
    | _ => cases e
  | _ => cases dx <;> cases e
theorem ok_isNot : OpOk X (compareOp .IsNot) isNotOp := by
  intro pins s σ H x y v u Q I rx ry h
  obtain ⟨dx, dy, rv, tx, ty, e, Y⟩ := h
  have non : ∀ {dx : D}, TD X.K H x dx → decide (x = V.non) = isN dx := fun {dx} tx => by
    cases dx with
    | none => rw [tx.non]; rfl
    | bool b => rw [tx.bl]; rfl
    | int b => rw [tx.int]; rfl
    | str b => rw [tx.str]; rfl
    | list b => obtain ⟨p, vs, rfl, _⟩ := tx.lst; rfl
    | tuple b => obtain ⟨p, vs, rfl, _⟩ := tx.tup; rfl
    | dict b =>
      obtain ⟨p, rfl⟩ := tx.dref
      rfl
  cases dy with
  | none =>
    have e : bD (!isN dx) = some rv := by cases dx <;> exact e
    cases e
    exact op_notN pins s σ H _ _ v u Q I rx ry ⟨ty.non, by rw [non tx]; exact Y.same (.bl _)⟩
  | bool b =>
    cases dx with
    | bool a =>
      cases e
      refine op_isnot_bl pins s σ H _ _ v u Q I rx ry ⟨a, b, tx.bl, ty.bl, ?_⟩
      have z : decide (a = b) = (a == b) := by cases a <;> cases b <;> rfl
      rw [z]
      exact Y.same (.bl _)
    | _ => cases e
  | _ => cases dx <;> cases e
end
end Fm

/-! FmG: enumerate, list(range), methods that change a list, constants of the module. -/
namespace Fm
open PySem L2

/-! ### enumerate(tuple) -/
set_option maxHeartbeats 1000000 in
theorem meets_enum1 {v : Value} {o : Obj} {G : Heap → Prop} (B : Begins v o G) :
    Meets (Builtin.«enumerate.__new__» ⟨[.type "enumerate", v], []⟩) (fun _ R s => G s.heap ∧
      R (.ok (.ret (.ref (s.heap.push o).objs.size))) { s with heap := (s.heap.push o).push { cls := .type "enumerate", data := .fields #[.none, .bool false, .ref s.heap.objs.size, rawInt 0, .none, .none] } }) := by
  refine .of_wp fun prog w A R s h => ?_
  obtain ⟨hp, gl, dd, tk, os⟩ := s
  obtain ⟨h1, h⟩ := h
  have hs := sub_enumerate
  have q : ∀ {A' : Around} {E : Value → Shared → Prop} {Q : Value → Shared → Prop}, Q (.ref hp.objs.size) ⟨hp.push o, gl, dd, tk, os⟩ → wpAny (model prog w) A' (pyIter v) Q E ⟨hp, gl, dd, tk, os⟩ := fun z => B.iter prog w _ _ ⟨hp, gl, dd, tk, os⟩ _ h1 z
  wp_walk using q
  refine wpAny_stack_any fun st => wpAny_pure ?_
  split
  · rename_i c _ _ _ _ _
    cases (c == Value.type "enumerate") <;>
    · wp_walk using q
      exact ⟨_, rfl, h⟩
  · wp_walk using q
    exact ⟨_, rfl, h⟩
theorem enum1 {prog : Program} {w : World} {A : Around} {E : Value → Shared → Prop} {s : Shared} {v : Value} {o : Obj} {G : Heap → Prop} {Q : Value → Shared → Prop} (B : Begins v o G) (h1 : G s.heap)
    (h : ∀ h', IsEnum h' (s.heap.objs.size + 1) s.heap.objs.size 0 .none → h'.get? s.heap.objs.size = some o → (∀ b o, s.heap.get? b = some o → h'.get? b = some o) → Q (.ref (s.heap.objs.size + 1)) { s with heap := h' }) :
    wpAny (model prog w) A (call (.type "enumerate") [v]) Q E s := by
  refine callType_new F.called_enumerate (by decide) (F.typeCall_enumerate_1 _) (F.newCall_enumerate_1 _) (fun obj => F.args_object_init_2 obj _) F.entry_enumerate_new (meets_enum1 B) ⟨h1, ?_⟩
  have hz : (s.heap.push o).objs.size = s.heap.objs.size + 1 := Heap.size_push ..
  show _ ∧ _
  rw [hz]
  have he : IsEnum ((s.heap.push o).push { cls := .type "enumerate", data := .fields #[.none, .bool false, .ref s.heap.objs.size, rawInt 0, .none, .none] }) (s.heap.objs.size + 1) s.heap.objs.size 0 .none := by
    have z := Heap.get?_push_size (s.heap.push o) (o := { cls := .type "enumerate", data := .fields #[.none, .bool false, .ref s.heap.objs.size, rawInt 0, .none, .none] }) rfl
    rw [hz] at z
    exact z
  exact ⟨⟨_, he, rfl⟩, h _ he (Heap.get?_push_of_some _ (Heap.get?_push_size _ B.free)) fun b o x => Heap.get?_push_of_some _ (Heap.get?_push_of_some _ x)⟩
/-- the tuple at a, each item in a new pair -/
def Itp (K : PySem.W.Frag) (a : Addr) : It :=
  ⟨fun i H => ∃ (xs : List V) (x : V), SqT K H a xs ∧ xs[i]? = some x, fun i H v H' => ∃ T x, v = .ref T ∧ H T = none ∧ H' = upd H T (.tup [.int (i : Nat), x]) ∧ ∀ xs, SqT K H a xs → xs[i]? = some x, fun i H => ∃ xs : List V, SqT K H a xs ∧ xs.length = i⟩
theorem turn_enumT {P : Program} {w : World} {K : PySem.W.Frag} {elts : List Expr} {kk : Nat} {tpos : Pos} (a e it : Addr) :
    Turn P w K (.Tuple elts kk tpos) (Itp K a) [e, it] e (fun i h => (∃ old, IsEnum h e it ((i : Nat) : Int) old) ∧ h.IsTupleIter it a i ∧ e ≠ it ∧ a ≠ it ∧ e ≠ a) where
  mem := by simp
  obj := fun i h st b hb => by
    obtain ⟨⟨old, he⟩, ⟨o, ho, hc, hd⟩, _⟩ := st
    rcases (show b = e ∨ b = it by simpa using hb) with z | z
    · rw [z]; exact ⟨_, he, fun v q => nomatch q⟩
    · rw [z]; exact ⟨o, ho, fun v q => by rw [hd] at q; cases q⟩
  keep := fun i h h' st k => by
    obtain ⟨⟨old, he⟩, hi, hne⟩ := st
    exact ⟨⟨old, k e (by simp) _ he⟩, hi.at fun o q => k it (by simp) o q, hne⟩
  item := by
    intro X hP hw hK hc i pins s σ H E I hf st hg
    subst hP hw hK
    obtain ⟨⟨old, he⟩, hit, hne, hat, hea⟩ := st
    obtain ⟨xs, x, hq, hx⟩ := hg
    obtain ⟨its, rv, p, hz⟩ := I.tuple hq
    obtain ⟨u, hu, ru⟩ := rv.get hx
    have hu' : its.toArray[i]? = some u := by simpa using hu
    have hel : e < s.heap.objs.size := Heap.lt_size he
    have hil : it < s.heap.objs.size := by
      obtain ⟨_, q, _⟩ := hit
      exact Heap.lt_size q
    have hlt : i < its.toArray.size := by
      rcases Nat.lt_or_ge i its.toArray.size with z | z
      · exact z
      · rw [Array.getElem?_eq_none z] at hu'; cases hu'
    refine wpAny_pyNext_enum_itemD (Draws.tuple (A := X.A.in1) (I.ok.hd hc) it a hat its.toArray) he ⟨hit, p⟩ hlt hne (by simp [hne, hea]) fun y h' tk hy ho hst hT hsz hk => ?_
    have ey : y = u := by
      have : its.toArray[i]? = some y := hy
      rw [hu'] at this
      cases this
      rfl
    subst ey
    refine ⟨_, rfl, wpAny_letOwnedTupleGo_enum (s := { s with heap := h', toks := tk + 1 }) ho fun h'' he' sb => ?_⟩
    have hT2 : h''.get? s.heap.objs.size = some { cls := .type "tuple", data := .seq #[.int i tk, y] } := (sb.2 _ (Nat.ne_of_gt hel)).trans hT
    have new : ObjOk X.prog X.w (upd H s.heap.objs.size (.tup [.int (i : Nat), x])) h'' s.heap.objs.size (.tup [.int (i : Nat), x]) :=
      ⟨by show 2 ≤ sizeLine; decide, [.int i tk, y], .cons ⟨_, rfl⟩ (.cons ru .nil), ⟨_, hT2, rfl, _, rfl⟩⟩
    have I1 : Inv X pins σ (upd H s.heap.objs.size (.tup [.int (i : Nat), x])) { s with heap := h'', toks := tk + 1 } :=
      I.turnedNew (ch := [e, it]) (fun b ob hb q => (sb.2 b (fun z => hb (by simp [z]))).trans (hk b ob (fun z => hb (by simp [z])) (fun z => hb (by simp [z])) q)) hf (Nat.le_refl _) new
    refine ⟨.ref s.heap.objs.size, _, I1, rfl, ⟨_, x, rfl, I.hok.fresh (Nat.le_refl _), rfl, fun ys hy => by rw [I.tuple_inj hy hq]; exact hx⟩, ⟨⟨y, ?_⟩, hst.1.at fun o q => (sb.2 it (Ne.symm hne)).trans q, hne, hat, hea⟩, fun b hb => ?_⟩
    · rw [show ((i + 1 : Nat) : Int) = (i : Int) + 1 by omega]
      exact he'
    · have hb' : b < s.heap.objs.size := by
        rcases (show b = e ∨ b = it by simpa using hb) with z | z
        · rw [z]; exact hel
        · rw [z]; exact hil
      rw [upd_ne (Nat.ne_of_lt hb')]
      exact (hf b hb).1
  done := by
    intro X hP hw hK hc i pins s σ H E I hf st hg
    subst hP hw hK
    obtain ⟨⟨old, he⟩, hit, hne, hat, hea⟩ := st
    obtain ⟨xs, hq, hx⟩ := hg
    obtain ⟨its, rv, p, hz⟩ := I.tuple hq
    obtain ⟨f0, f1, f2, f3, f4, f5⟩ := hf it (by simp)
    have hl : its.toArray.size = i := by
      rw [List.size_toArray, ← rv.length]
      exact hx
    refine wpAny_pyNext_enum_endD (Draws.tuple (A := X.A.in1) (I.ok.hd hc) it a hat its.toArray) he (by rw [hl]; exact ⟨hit, p⟩) fun h' eb => ⟨rfl, I.turned (t' := s.toks) (fun b o hb q => eb b o hb q) f0 f1 f3 f4 f5⟩
  self := fun A i s Q E st h => by
    obtain ⟨⟨_, he⟩, _⟩ := st
    exact wpAny_pyIter_enum he h
section
variable {X : Cx} {g : Gh} {W : WX} {e : Expr} {pos p tpos : Pos} {elts : List Expr} {kk : Nat}
theorem pi_enumT {ta : TA} (hg : Gl X "enumerate") (hm : X.mg "enumerate" = none) (ha : PA X [e] ta) (hs : starEach [e] X.env = [(false, eval e X.env)]) :
    PI X (.Tuple elts kk tpos) (.Call (.Name "enumerate" p) [e] [] pos) (fun σ H R => ta σ H fun vs H1 => ∃ a xs, vs = [.ref a] ∧ SqT X.K H1 a xs ∧ R (Itp X.K a) H1) := by
  refine ⟨fun pins s σ H R I h => ?_⟩
  refine PyProof.Rows.Call_ (ld_blt I hg hm PyProof.Rows.boot_enumerate (PyProof.Rows.callWith_type1 (thn (ha.run pos pins s σ H _ I h) fun us s1 ⟨vs, H1, I1, r1, a, xs, ev, hq, q⟩ => ?_) hs rfl))
  subst ev
  obtain ⟨u, rfl, r⟩ := r1.one
  cases r
  obtain ⟨its, rv, p', hz⟩ := I1.tuple hq
  have hlt : a < s1.heap.objs.size := by
    obtain ⟨o, ho, _⟩ := p'
    exact Heap.lt_size ho
  refine enum1 (begins_tuple a its.toArray) p' fun h' he ho hk => wpAny_pyIter_enum he ?_
  have I2 : Inv X pins σ H1 { s1 with heap := h' } := I1.kept (t' := s1.toks) hk
  refine ⟨s1.heap.objs.size + 1, [s1.heap.objs.size + 1, s1.heap.objs.size], _, _, H1, rfl, I2, turn_enumT a (s1.heap.objs.size + 1) s1.heap.objs.size, ⟨⟨.none, he⟩, ⟨_, ho, rfl, rfl⟩, Nat.succ_ne_self _, Nat.ne_of_lt hlt, Nat.ne_of_gt (Nat.lt_succ_of_lt hlt)⟩, fun b hb => ?_, q⟩
  have hle : s1.heap.objs.size ≤ b := by
    rcases (show b = s1.heap.objs.size + 1 ∨ b = s1.heap.objs.size by simpa using hb) with z | z
    · rw [z]; exact Nat.le_succ _
    · rw [z]; exact Nat.le_refl _
  exact I1.fpOk hle (I1.hok.fresh hle)
theorem walk_enumT {K : PySem.W.Frag} {a : Addr} {xs : List V} : Walk (Itp K a) xs.length (fun H => SqT K H a xs) (YPair (fun i => some (.int (i : Nat))) (fun i => xs[i]?)) := by
  refine ⟨fun i _ hi q => ⟨xs, xs[i], q, by simp [hi]⟩, fun _ q => ⟨xs, q, rfl⟩, fun i H v H' _ q y => ?_⟩
  obtain ⟨T, x, h1, h2, h3, h4⟩ := y
  exact ⟨T, .int (i : Nat), x, h1, h2, h3, rfl, h4 xs q⟩
theorem enumL_len : ∀ (xs : List D) (n : Nat), (enumL n xs).length = xs.length
  | [], _ => rfl
  | x :: xs, n => by simp [enumL, enumL_len xs]
theorem enumL_get : ∀ (xs : List D) (n i : Nat), (enumL n xs)[i]? = (xs[i]?).map fun x => .tuple [.int ((n + i : Nat) : Int), x]
  | [], _, i => by simp [enumL]
  | x :: xs, n, 0 => by simp [enumL]
  | x :: xs, n, i + 1 => by
    simp only [enumL, List.getElem?_cons_succ]
    rw [enumL_get xs (n + 1) i, show n + 1 + i = n + (i + 1) by omega]
theorem pair_at {K : PySem.W.Frag} {H0 H H' : Hp} {vs : List V} {xs : List D} {i : Nat} {v : V} (f : FDs K H0 vs xs) (k : Keeps H0 H) (y : YPair (fun i => some (.int (i : Nat))) (fun i => vs[i]?) i H v H') :
    Grow H H' ∧ ∀ y, (enumL 0 xs)[i]? = some y → FD K H' v y := by
  obtain ⟨T, x, w, rfl, hT, rfl, e1, e2⟩ := y
  cases e1
  have gr : Grow H (upd H T (.tup [.int (i : Nat), w])) := .new hT
  refine ⟨gr, fun y ey => ?_⟩
  obtain ⟨x, ex, fd⟩ := f.get e2
  rw [enumL_get, ex] at ey
  cases ey
  refine .tup (.new upd_same) (.cons ?_ (.cons (fd.mono (k.trans gr.keeps)) .nil))
  rw [Nat.zero_add]
  exact .int _
theorem di_enum {Dv : Dx} (hg : Gl X "enumerate") (hm : X.mg "enumerate" = none) (h : DD X g W e Dv) (hs : starEach [e] X.env = [(false, eval e X.env)] := by rfl) :
    DI X g W (.Tuple elts kk tpos) (.Call (.Name "enumerate" p) [e] [] pos) (wEnum Dv) := by
  have ha : DL X g W [e] (lCons Dv lNil) := dl_cons h dl_nil hs
  refine PI.imp (PI.or (pi_enum hg hm ha hs) (pi_enumT hg hm ha hs)) ?_
  rintro σ H Q ⟨S, R, hq⟩
  unfold wEnum at hq
  cases q : Dv S with
  | bad => rw [q] at hq; exact hq.elim
  | exc x S1 => exact .inl ⟨S, R, by unfold lCons; rw [q] at hq ⊢; exact hq⟩
  | ok x S1 =>
    rw [q] at hq
    have hq : Wants X.K g W (vrI X.K) H σ S H (onO (seqs x) fun xs => .ok (enumL 0 xs) S1) Q := hq
    cases x with
    | list xs =>
      refine .inl ⟨S, R, ?_⟩
      unfold lCons lNil
      rw [q]
      intro v H1 A1 fd
      cases (show FDs X.K H1 v [.list xs] from fd) with
      | cons f1 f2 =>
        cases f2
        cases f1 with
        | lst h f =>
          refine ⟨_, _, rfl, .inl (.inr ⟨_, h⟩), hq _ _ A1 ?_⟩
          show Walk _ _ _ _
          rw [enumL_len, ← f.length]
          exact walk_enum.mono (fun H k => .inl (.inr ⟨_, k.frz _ _ _ h⟩)) fun i H x H' _ k y => pair_at f k y
    | tuple xs =>
      refine .inr ⟨S, R, ?_⟩
      unfold lCons lNil
      rw [q]
      intro v H1 A1 fd
      cases (show FDs X.K H1 v [.tuple xs] from fd) with
      | cons f1 f2 =>
        cases f2
        cases f1 with
        | tup h f =>
          refine ⟨_, _, rfl, h.1, hq _ _ A1 ?_⟩
          show Walk _ _ _ _
          rw [enumL_len, ← f.length]
          exact walk_enumT.mono (fun H k => k.sqT h.1) fun i H x H' _ k y => pair_at f k y
    | _ => exact hq.elim

/-! ### list(range(..)), tuple(range(..)) -/
theorem rg_fds {K : PySem.W.Frag} {H : Hp} (a b : Int) : FDs K H (rgV a b) (rangeL a b) := by
  unfold rgV rangeL
  generalize (b - a).toNat = n
  generalize List.range n = l
  induction l with
  | nil => exact .nil
  | cons x l ih => exact .cons (.int _) ih
theorem rg_ok {a b : Int} (h1 : -(2 ^ 62) ≤ a ∧ a < 2 ^ 62 ∧ -(2 ^ 62) ≤ b ∧ b < 2 ^ 62) (h2 : range24 (rangeL a b) = true) : RgOk a b := by
  refine ⟨h1.1, h1.2.1, h1.2.2.1, h1.2.2.2, ?_⟩
  have := of_decide_eq_true h2
  rw [rangeL_len] at this
  exact this
/-- range(..) as an argument, by its arguments -/
abbrev vrR : St → Hp → Hp → Sl → Int × Int → List D → Prop := fun _ _ _ _ ab xs => xs = rangeL ab.1 ab.2 ∧ (-(2 ^ 62) ≤ ab.1 ∧ ab.1 < 2 ^ 62 ∧ -(2 ^ 62) ≤ ab.2 ∧ ab.2 < 2 ^ 62)
abbrev DR (X : Cx) (g : Gh) (W : WX) (e : Expr) (F : Wx) : Prop := PRg X e fun σ H Q => tG X.K g W vrR F σ H fun ab H' => Q ab.1 ab.2 H'
theorem PRg.imp {e : Expr} {t t' : St → Hp → (Int → Int → Hp → Prop) → Prop} (h : PRg X e t) (i : ∀ σ H Q, t' σ H Q → t σ H Q) : PRg X e t' := fun pins s σ H Q I q => h pins s σ H Q I (i σ H Q q)
theorem dr_1 {a : Expr} {Fa : Ex} (hg : Gl X "range") (hm : X.mg "range" = none) (ha : DE X g W a Fa) (na : starEach [a] X.env = (false, eval a X.env) :: starEach [] X.env := by rfl) : DR X g W (.Call (.Name "range" p) [a] [] pos) (wRange range1 (aCons Fa aNil)) := by
  refine PRg.imp (prg_1 hg hm ha na) ?_
  rintro σ H Q ⟨S, R, h⟩
  unfold wRange aCons aNil at h
  cases q : Fa S with
  | bad => rw [q] at h; exact h.elim
  | exc x S1 => rw [q] at h; exact ⟨S, R, by rw [q]; exact h⟩
  | ok rv S1 =>
    rw [q] at h
    refine ⟨S, R, ?_⟩
    rw [q]
    intro v H1 A1 r1
    have h : Wants X.K g W vrR H σ S H (onO ((views S1 [rv]).bind range1) fun xs => .ok xs S1) _ := h
    cases q2 : view S1 rv with
    | none => simp only [views, q2, Option.bind_none, onO_none] at h; exact h.elim
    | some x =>
      simp only [views, q2, Option.bind_some, Option.map_some] at h
      have td := r1.1.td A1.rel q2
      cases x with
      | int j =>
        cases td.int
        have h : Wants X.K g W vrR H σ S H (onO (if inR j = true then some (rangeL 0 j) else none) fun xs => .ok xs S1) _ := h
        by_cases hj : inR j = true
        · rw [if_pos hj] at h
          have b := hj
          simp only [inR, Bool.and_eq_true, decide_eq_true_eq] at b
          exact ⟨j, rfl, h (0, j) H1 A1 ⟨rfl, show -(2 ^ 62) ≤ (0 : Int) by decide, show (0 : Int) < 2 ^ 62 by decide, b.1, b.2⟩⟩
        · rw [if_neg hj] at h; exact h.elim
      | _ => exact h.elim
theorem dr_2 {a b : Expr} {Fa Fb : Ex} (hg : Gl X "range") (hm : X.mg "range" = none) (ha : DE X g W a Fa) (hb : DE X g W b Fb) (na : starEach [a, b] X.env = (false, eval a X.env) :: starEach [b] X.env := by rfl)
    (nb : starEach [b] X.env = (false, eval b X.env) :: starEach [] X.env := by rfl) (hp : (backTo pos (starEach [b] X.env)).any (·.1) = false := by rfl) : DR X g W (.Call (.Name "range" p) [a, b] [] pos) (wRange range2 (aCons Fa (aCons Fb aNil))) := by
  refine PRg.imp (prg_2 hg hm ha hb na nb hp) ?_
  rintro σ H Q ⟨S, R, h⟩
  unfold wRange aCons aNil at h
  cases q : Fa S with
  | bad => rw [q] at h; exact h.elim
  | exc x S1 => rw [q] at h; exact ⟨S, R, by rw [q]; exact h⟩
  | ok rv S1 =>
    rw [q] at h
    refine ⟨S, R, ?_⟩
    rw [q]
    intro v H1 A1 r1
    refine ⟨S1, A1.rel, ?_⟩
    cases q1 : Fb S1 with
    | bad => simp only [bind_ok, q1, bind_bad] at h; exact h.elim
    | exc x S2 => simp only [bind_ok, q1, bind_exc] at h; exact fun cls d H' A2 xr => h cls d H' (A1.trans A2) xr
    | ok ru S2 =>
      simp only [bind_ok, q1] at h
      intro u H2 A2 r2
      cases qx : view S2 rv with
      | none => simp only [views, qx, Option.bind_none, onO_none] at h; exact h.elim
      | some x =>
        cases qy : view S2 ru with
        | none => simp only [views, qx, qy, Option.bind_none, Option.bind_some, Option.map_none, onO_none] at h; exact h.elim
        | some y =>
          simp only [views, qx, qy, Option.bind_some, Option.map_some] at h
          cases e : range2 [x, y] with
          | none => rw [e] at h; exact h.elim
          | some ys =>
            rw [e] at h
            obtain ⟨i, j, exy, bb, rfl⟩ := range2_some e
            cases exy
            have tx := (r1.1.mono A1.rel A2.step).td A2.rel qx
            have ty := r2.1.td A2.rel qy
            cases tx.int
            cases ty.int
            exact ⟨i, j, rfl, rfl, h (i, j) H2 (A1.trans A2) ⟨rfl, bb⟩⟩
theorem de_listRg {Fr : Wx} (hc : X.calm = true) (hg : Gl X "list") (hm : X.mg "list" = none) (h : DR X g W e Fr) (na : starEach [e] X.env = (false, eval e X.env) :: starEach [] X.env := by rfl) : DE X g W (.Call (.Name "list" p) [e] [] pos) (eListRange Fr) := by
  refine PE.imp (pe_listRg hc hg hm h na) ?_
  rintro σ H Q ⟨S, R, h⟩
  refine (Wants.step (vr := vrR) R h).mono fun ab H1 ⟨xs, S1, A1, ⟨ex, bb⟩, h1⟩ => ?_
  subst ex
  by_cases z : range24 (rangeL ab.1 ab.2) = true
  · rw [if_pos z] at h1
    have Y := Wants.yields A1.rel A1.step.trk h1
    exact ⟨rg_ok bb z, fun q hq => Y.lst hq (rg_fds _ _)⟩
  · rw [if_neg z] at h1; exact h1.elim
theorem de_tupRg {Fr : Wx} (hc : X.calm = true) (hg : Gl X "tuple") (hm : X.mg "tuple" = none) (h : DR X g W e Fr) (na : starEach [e] X.env = (false, eval e X.env) :: starEach [] X.env := by rfl) : DE X g W (.Call (.Name "tuple" p) [e] [] pos) (eTupRange Fr) := by
  refine PE.imp (pe_tupRg hc hg hm h na) ?_
  rintro σ H Q ⟨S, R, h⟩
  refine (Wants.step (vr := vrR) R h).mono fun ab H1 ⟨xs, S1, A1, ⟨ex, bb⟩, h1⟩ => ?_
  subst ex
  by_cases z : range24 (rangeL ab.1 ab.2) = true
  · rw [if_pos z] at h1
    have Y := Wants.yields A1.rel A1.step.trk h1
    exact ⟨rg_ok bb z, fun q hq => Y.tup hq (rg_fds _ _)⟩
  · rw [if_neg z] at h1; exact h1.elim

/-! ### methods that change the list of a slot -/
/-- what r asks, where f answers -/
def MutOk (X : Cx) (f : List D → List D → Option (List D × D)) (r : V → List V → Hp → VK → Prop) : Prop := ∀ (c : Addr) (vs us : List V) (xs ds xs' : List D) (y : D) (H : Hp) (Q : VK), H c = some (.lst vs) → FDs X.K H vs xs → FDs X.K H us ds → f xs ds = some (xs', y) →
  (∀ vs' v, FDs X.K H vs' xs' → FD X.K H v y → Q v (upd H c (.lst vs'))) → r (.ref c) us H Q
theorem mut_read {f : List D → List D → Option (List D × D)} {r : V → List V → Hp → VK → Prop} {Fl : Lx} {i : Nat} {σ : St} {H : Hp} {Q : VK} (ok : MutOk X f r) (h : rE X.K g W (eMut f i Fl) σ H Q) : tBM X.K "list" r (rE X.K g W (eVar i)) (rL X.K g W Fl) σ H Q := by
  obtain ⟨S, R, h⟩ := h
  refine ⟨S, R, ?_⟩
  unfold eMut at h
  unfold eVar
  cases q : at? S i with
  | none => rw [q] at h; exact h.elim
  | some s =>
    rw [q] at h
    cases s with
    | d x => exact h.elim
    | live o =>
      cases o with
      | dct _ => exact h.elim
      | dtt _ => exact h.elim
      | ins _ _ => exact h.elim
      | lst xs0 =>
        intro v H1 A1 r1
        obtain ⟨u, hu, a, eu, vs0, hvs0, fs0⟩ := A1.rel.rel i _ q
        have hv : σ[i]? = some (some v) := r1.1
        rw [hu] at hv
        cases hv
        subst eu
        refine ⟨.inl ⟨rfl, vs0, .inl (.inl hvs0)⟩, ?_⟩
        have h : Wants X.K g W (vrE X.K g) H σ S H ((Fl S).bind fun ds S1 => mutAt f S1 i ds) Q := h
        have h := h
        refine ⟨S, A1.rel, ?_⟩
        cases q1 : Fl S with
        | bad => rw [q1] at h; exact h.elim
        | exc x S1 => rw [q1] at h; exact fun cls d H' A2 xr => h cls d H' (A1.trans A2) xr
        | ok ds S2 =>
          rw [q1] at h
          intro us H2 A2 fus
          have h : Wants X.K g W (vrE X.K g) H σ S H (mutAt f S2 i ds) Q := h
          unfold mutAt at h
          cases q2 : at? S2 i with
          | none => rw [q2] at h; exact h.elim
          | some s2 =>
            rw [q2] at h
            cases s2 with
            | d x => exact h.elim
            | live o2 =>
              cases o2 with
              | dct _ => exact h.elim
              | dtt _ => exact h.elim
              | ins _ _ => exact h.elim
              | lst xs =>
                have h : Wants X.K g W (vrE X.K g) H σ S H (onO (f xs ds) fun p => .ok (.d p.2) (S2.set i (some (.live (.lst p.1))))) Q := h
                cases q3 : f xs ds with
                | none => rw [q3] at h; exact h.elim
                | some pr =>
                  rw [q3] at h
                  obtain ⟨xs', y⟩ := pr
                  obtain ⟨u2, hu2, a2, eu2, vs, hvs, fs⟩ := A2.rel.rel i _ q2
                  rw [hu] at hu2
                  cases hu2
                  cases eu2
                  refine ok a vs us xs ds xs' y H2 Q hvs fs fus q3 fun vs' w f' fw => ?_
                  have ks : Keeps H2 (upd H2 a (.lst vs')) := ⟨fun b ys z => by rw [upd_ne fun zz => by rw [zz, hvs] at z; cases z]; exact z, fun b ob ys z => by rw [upd_ne fun zz => by rw [zz, hvs] at z; cases z]; exact z, fun b ys z => by rw [upd_ne fun zz => by rw [zz, hvs] at z; cases z]; exact z⟩
                  have AA := live_set A2.rel q2 hu (u := .lst vs') (o' := .lst xs') trivial ⟨_, upd_same, f'.mono ks⟩
                  exact h w _ ((A1.trans A2).trans AA) ⟨fw.mono ks, trivial⟩
theorem mo_append : MutOk X appendL rAppend := by
  intro c vs us xs ds xs' y H Q hc fs fu e k
  match ds, fu with
  | [d], .cons fd .nil =>
    unfold appendL at e
    by_cases z : xs.length < sizeLine
    · simp only [if_pos z] at e
      cases e
      exact ⟨c, vs, _, rfl, rfl, hc, by rw [fs.length]; exact z, k _ _ (fs.snoc fd) .non⟩
    · simp only [if_neg z] at e; cases e
  | [], _ => cases e
  | _ :: _ :: _, _ => cases e
theorem ix_seq {n : Nat} {i : Int} {k : Nat} (h : ixD n i = some k) : seqIndex? i n = some k := by
  unfold ixD at h
  unfold seqIndex?
  split at h
  · split at h
    · cases h
      rename_i h1 h2
      simp [h1, h2, show ¬ i < 0 by omega]
    · cases h
  · split at h
    · cases h
      rename_i h1 h2
      simp [show i < 0 by omega]
      omega
    · cases h
theorem mo_popAt : MutOk X popAtL rPopAt := by
  intro c vs us xs ds xs' y H Q hc fs fu e k
  unfold popAtL at e
  split at e
  · rename_i i
    cases fu with
    | cons fd fr =>
      cases fr
      cases fd
      by_cases z : inIx i = true
      · rw [if_pos z] at e
        cases q : ixD xs.length i with
        | none => rw [q] at e; cases e
        | some n =>
          rw [q] at e
          have e : ((xs[n]?).map fun y => (xs.eraseIdx n, y)) = some (xs', y) := e
          cases q2 : xs[n]? with
          | none => rw [q2] at e; cases e
          | some y' =>
            rw [q2] at e
            cases e
            obtain ⟨v, hv, fv⟩ := fs.get' q2
            exact ⟨c, vs, i, n, v, rfl, rfl, hc, (inIx_of z).1, (inIx_of z).2, by rw [fs.length]; exact ix_seq q, hv, k _ _ (fs.eraseIdx n) fv⟩
      · rw [if_neg z] at e; cases e
  · cases e
theorem mo_pop : MutOk X popL rPop := by
  intro c vs us xs ds xs' y H Q hc fs fu e k
  match ds, fu with
  | [], .nil =>
    have e : ((xs[xs.length - 1]?).map fun y => (xs.dropLast, y)) = some (xs', y) := e
    cases q2 : xs[xs.length - 1]? with
    | none => rw [q2] at e; cases e
    | some y' =>
      rw [q2] at e
      cases e
      obtain ⟨v, hv, fv⟩ := fs.get' q2
      refine ⟨c, vs, v, rfl, rfl, hc, by rw [fs.length]; exact hv, k _ _ ?_ fv⟩
      rw [List.dropLast_eq_take, List.dropLast_eq_take, fs.length]
      exact fs.take _
  | _ :: _, _ => cases e
section
variable {o e' : Expr} {es : List Expr} {i : Nat} {Fl : Lx} {apos cpos : Pos}
theorem de_append (ho : DE X g W o (eVar i)) (ha : DL X g W (e' :: es) Fl) (hbase : attributeBase o "append" X.env (eval o X.env) = eval o X.env := by rfl)
    (hfew : ((backTo cpos (starEach (e' :: es) X.env)).all (fun x => !x.1) && (backToKw cpos (keywordEach [] X.env)).all (fun x => x.1.isSome)
      && decide ((e' :: es).length + ([] : List Keyword).length + (if ([] : List Keyword).isEmpty then 0 else 1) < 30)) = true := by rfl)
    (hline : (apos.endLine == cpos.line) = true := by rfl) (hs : starEach (e' :: es) X.env = (false, eval e' X.env) :: starEach es X.env := by rfl) (hplain : (backTo cpos (starEach es X.env)).any (·.1) = false := by rfl) :
    DE X g W (.Call (.Attribute o "append" apos) (e' :: es) [] cpos) (eMut appendL i Fl) :=
  PE.imp (pe_bm F.plainAttrs_list F.slot_list_append F.type_list_append mt_append ho ha hbase hfew hline hs hplain) fun _ _ _ h => mut_read mo_append h
theorem de_popAt (ho : DE X g W o (eVar i)) (ha : DL X g W (e' :: es) Fl) (hbase : attributeBase o "pop" X.env (eval o X.env) = eval o X.env := by rfl)
    (hfew : ((backTo cpos (starEach (e' :: es) X.env)).all (fun x => !x.1) && (backToKw cpos (keywordEach [] X.env)).all (fun x => x.1.isSome)
      && decide ((e' :: es).length + ([] : List Keyword).length + (if ([] : List Keyword).isEmpty then 0 else 1) < 30)) = true := by rfl)
    (hline : (apos.endLine == cpos.line) = true := by rfl) (hs : starEach (e' :: es) X.env = (false, eval e' X.env) :: starEach es X.env := by rfl) (hplain : (backTo cpos (starEach es X.env)).any (·.1) = false := by rfl) :
    DE X g W (.Call (.Attribute o "pop" apos) (e' :: es) [] cpos) (eMut popAtL i Fl) :=
  PE.imp (pe_bm F.plainAttrs_list F.slot_list_pop F.type_list_pop mt_popAt ho ha hbase hfew hline hs hplain) fun _ _ _ h => mut_read mo_popAt h
theorem de_pop (ho : DE X g W o (eVar i)) (hbase : attributeBase o "pop" X.env (eval o X.env) = eval o X.env := by rfl) (hline : (apos.endLine == cpos.line) = true := by rfl) :
    DE X g W (.Call (.Attribute o "pop" apos) [] [] cpos) (eMut popL i lNil) :=
  PE.imp (pe_bm0 F.plainAttrs_list F.slot_list_pop F.type_list_pop mt_pop ho hbase hline) fun σ H Q h => tG.mono (mut_read mo_pop h) fun x H1 ⟨ty, S, R, q⟩ => ⟨ty, q [] H1 (.refl R) .nil⟩
end
/-! ### the module's constants -/
theorem de_gint {x : Str} {i : Int} {t : Tok} (hg : Gl X x) (hm : X.mg x = some (.int i t)) (hd : (x == ("__debug__" : Str)) = false := by decide) : DE X g W (.Name x pos) (eC (.int i)) := de_c (pe_glob (v := .int i) hg hm ⟨t, rfl⟩ hd) fun _ => .int i
theorem de_gstr {x y : Str} {t : Tok} (hg : Gl X x) (hm : X.mg x = some (.str y t)) (hd : (x == ("__debug__" : Str)) = false := by decide) : DE X g W (.Name x pos) (eC (.str y)) := de_c (pe_glob (v := .str y) hg hm ⟨t, rfl⟩ hd) fun _ => .str y
end
end Fm

/-! FmS: comprehensions with two clauses. -/
namespace Fm
open PySem L2
section
variable {X : Cx} {g : Gh} {W : WX}
theorem calm_any {K : PySem.W.Frag} {α β γ : Type} {vr : L2.St → Hp → Hp → Sl → β → α → Prop} {Fa : Sl → Res α} {k : α → Sl → Res γ} {σ : L2.St} {S : Sl} {H : Hp} {P : Res γ → Prop} (hb : ¬ P .bad)
    (R : Rel K g σ H S) (h : P ((Fa S).calm k)) : tG K g W0 vr Fa σ H fun b H1 => ∃ a S1, After K g σ S H S1 H1 ∧ vr σ H H1 S1 b a ∧ P (k a S1) := by
  refine ⟨S, R, ?_⟩
  cases e : Fa S with
  | bad => rw [e] at h; exact (hb h).elim
  | exc x S' => rw [e] at h; exact (hb h).elim
  | ok a S1 => rw [e] at h; exact fun b H1 A r => ⟨a, S1, A, r, h⟩
section
variable {K : PySem.W.Frag} {σ0 τ : L2.St} {S0 S' S2 : Sl} {H1 H' H2 : Hp} {d : Addr} {acc : List D}
theorem In2.wipe (I : In2 K g σ0 S0 H1 d τ S' acc H') {us : List Nat} (hv : ∀ i ∈ us, g.fx i = false) : In2 K g σ0 S0 H1 d (L2.wipe τ us) (wipeL us S') acc H' := by
  have I' := I
  obtain ⟨av, h1, h2, h3, h4, h5⟩ := I
  exact I'.step Step.wiped (h4.wipe hv)
theorem In2.after (I : In2 K g σ0 S0 H1 d τ S' acc H') (A : After K g τ S' H' S2 H2) : In2 K g σ0 S0 H1 d τ S2 acc H2 := I.step A.step A.rel
end
/-- one turn of the inner loop -/
theorem turn_lc {σ0 τ : L2.St} {S0 S' : Sl} {H1 H' H2 : Hp} {d : Addr} {acc : List D} {vs1 : List Nat} {tt : Tt} {T : Tx} {Ev : Dx} {x : V} {y : D} {P : Res (List D) → Prop} {nx : List D → Sl → Res (List D)} (hb : ¬ P .bad) (hv : ∀ i ∈ vs1, g.fx i = false) (ho : ∀ i ∈ tt.slots, i ∈ vs1) (hd : H1 d = none)
    (I : In2 X.K g σ0 S0 H1 d (wipe τ vs1) (wipeL vs1 S') acc H') (G2 : Grow H' H2) (fd : FD X.K H2 x y)
    (q : P (onO (tt.run y (wipeL vs1 S')) fun S1 => (T S1).calm fun c S2 => if c = true then (Ev S2).calm fun z S3 => if acc.length < sizeLine then nx (acc ++ [z]) S3 else .bad else nx acc S2)) :
    ttR X.K tt x (wipe τ vs1) H2 fun σ3 H5 => wipe σ3 vs1 = wipe τ vs1 ∧ rT X.K g W0 T σ3 H5 fun b H6 =>
      if b = true then rD X.K g W0 Ev σ3 H6 fun v H7 => ∃ av, H7 d = some (.lst av) ∧ av.length < sizeLine ∧ (Keeps H' (upd H7 d (.lst (av ++ [v]))) ∧ ∃ acc' S'', In2 X.K g σ0 S0 H1 d (wipe τ vs1) (wipeL vs1 S'') acc' (upd H7 d (.lst (av ++ [v]))) ∧ P (nx acc' S''))
      else Keeps H' H6 ∧ ∃ acc' S'', In2 X.K g σ0 S0 H1 d (wipe τ vs1) (wipeL vs1 S'') acc' H6 ∧ P (nx acc' S'') := by
  have A2 := After.grow I.rel G2
  have I2 := I.after A2
  cases e : tt.run y (wipeL vs1 S') with
  | none => rw [e] at q; exact absurd q hb
  | some St =>
    rw [e] at q
    refine tt_step hv ho A2.rel fd e fun σ3 R3 st3 hw3 => ⟨hw3.trans (wipe_wipe τ vs1), ?_⟩
    have I3 := I2.step st3 R3
    have q : P ((T St).calm fun c S2 => if c = true then (Ev S2).calm fun z S3 => if acc.length < sizeLine then nx (acc ++ [z]) S3 else .bad else nx acc S2) := q
    refine (calm_any (vr := vrT) hb R3 q).mono fun c H4 ⟨c', S4, A4, r4, h4⟩ => ?_
    cases (show c = c' from r4)
    have I4 := I3.after A4
    have kp4 : Keeps H' H4 := (I.rel.keeps A2.step).trans ((A2.rel.keeps st3).trans (R3.keeps A4.step))
    have back : ∀ {S'' : Sl} {acc' : List D} {Hx : Hp}, In2 X.K g σ0 S0 H1 d σ3 S'' acc' Hx → In2 X.K g σ0 S0 H1 d (wipe τ vs1) (wipeL vs1 S'') acc' Hx := fun I => by
      have := I.wipe hv
      rw [hw3, wipe_wipe] at this
      exact this
    cases c with
    | false =>
      rw [if_neg Bool.false_ne_true] at h4 ⊢
      exact ⟨kp4, acc, S4, back I4, h4⟩
    | true =>
      rw [if_pos rfl] at h4 ⊢
      refine (calm_any (vr := vrD X.K) hb A4.rel h4).mono fun v H6 ⟨dy, S6, A6, r6, h6⟩ => ?_
      by_cases hs : acc.length < sizeLine
      · rw [if_pos hs] at h6
        obtain ⟨av, k1, k2, k3⟩ := (I4.after A6).push hd r6 hs
        exact ⟨av, k1, k2, (kp4.trans (A4.rel.keeps A6.step)).trans (keeps_upd k1 trivial), acc ++ [dy], S6, back k3, h6⟩
      · rw [if_neg hs] at h6
        exact absurd h6 hb
theorem wipe_sub {σ : L2.St} {vs vs1 : List Nat} (h : ∀ i ∈ vs1, i ∈ vs) : L2.wipe (L2.wipe σ vs1) vs = L2.wipe σ vs := by
  apply List.ext_getElem?
  intro j
  by_cases hj : j ∈ vs
  · have key : ∀ τ : L2.St, (L2.wipe τ vs)[j]? = if j < τ.length then some none else none := fun τ => by
      cases e : (L2.wipe τ vs)[j]? with
      | none =>
        have : τ.length ≤ j := by rw [← wipe_length τ vs]; exact List.getElem?_eq_none_iff.mp e
        rw [if_neg (by omega)]
      | some z =>
        have hl : j < τ.length := by rw [← wipe_length τ vs]; exact (List.getElem?_eq_some_iff.mp e).1
        rw [if_pos hl]
        cases z with
        | none => rfl
        | some u => exact absurd hj (wipe_some e).2
    rw [key, key, wipe_length]
  · rw [wipe_at hj, wipe_at hj, wipe_at fun z => hj (h j z)]
theorem wipeL_get {S : Sl} {vs : List Nat} {j : Nat} : (wipeL vs S)[j]? = if j ∈ vs then (S[j]?).map (fun _ => none) else S[j]? := by
  induction vs with
  | nil => simp [wipeL]
  | cons i r ih =>
    show ((wipeL r S).set i none)[j]? = _
    by_cases hij : i = j
    · subst hij
      by_cases hl : i < S.length
      · rw [List.getElem?_set_self (by rw [wipe_len]; exact hl), if_pos (by simp), List.getElem?_eq_getElem hl]
        rfl
      · rw [List.getElem?_eq_none (by rw [List.length_set, wipe_len]; omega), if_pos (by simp), List.getElem?_eq_none (by omega)]
        rfl
    · rw [List.getElem?_set_ne hij, ih]
      by_cases hj : j ∈ r
      · rw [if_pos hj, if_pos (by simp [hj])]
      · rw [if_neg hj, if_neg (by simp [hj, Ne.symm hij])]
theorem wipeL_sub {S : Sl} {vs vs1 : List Nat} (h : ∀ i ∈ vs1, i ∈ vs) : wipeL vs (wipeL vs1 S) = wipeL vs S := by
  apply List.ext_getElem?
  intro j
  rw [wipeL_get, wipeL_get, wipeL_get]
  by_cases hj : j ∈ vs
  · rw [if_pos hj, if_pos hj]
    by_cases hj1 : j ∈ vs1
    · rw [if_pos hj1, Option.map_map]
      rfl
    · rw [if_neg hj1]
  · rw [if_neg hj, if_neg hj, if_neg fun z => hj (h j z)]
theorem wipeL_wipeL {S : Sl} {vs : List Nat} : wipeL vs (wipeL vs S) = wipeL vs S := wipeL_sub fun _ h => h
theorem gs_mono : ∀ {is : List Nat} {vs : List V} {σ : L2.St} {H : Hp} {Q Q' : L2.St → Hp → Prop}, (is.foldr (fun i t => gCons (L2.gName i) t) gNil) vs σ H Q → (∀ σ H, Q σ H → Q' σ H) → (is.foldr (fun i t => gCons (L2.gName i) t) gNil) vs σ H Q'
  | [], vs, σ, H, Q, Q', h, k => ⟨h.1, k _ _ h.2⟩
  | i :: is, vs, σ, H, Q, Q', h, k => by
    obtain ⟨v, r, e, h⟩ := h
    exact ⟨v, r, e, gs_mono (is := is) h k⟩
theorem ttR_mono {K : PySem.W.Frag} {tt : Tt} {x : V} {σ : L2.St} {H : Hp} {Q Q' : L2.St → Hp → Prop} (h : ttR K tt x σ H Q) (k : ∀ σ H, Q σ H → Q' σ H) : ttR K tt x σ H Q' := by
  cases tt with
  | nm i => exact k _ _ h
  | tp is =>
    obtain ⟨a, xs, e, h1, h2, h3⟩ := h
    exact ⟨a, xs, e, h1, h2, gs_mono h3 k⟩
/-- the inner loop -/
theorem inner_lc {σ0 τ : L2.St} {S0 S3 : Sl} {H1 H4 : Hp} {d : Addr} {acc : List D} {vs1 : List Nat} {tt : Tt} {T : Tx} {Ev : Dx} {J : It} {ys : List D} {σw : L2.St} {Hw : Hp} {Sw : Sl} {P : Res (List D) → Prop} {Nx : Hp → Prop} (hb : ¬ P .bad) (hv : ∀ i ∈ vs1, g.fx i = false) (ho : ∀ i ∈ tt.slots, i ∈ vs1) (hd : H1 d = none)
    (wk : vrI X.K σw Hw H4 Sw J ys) (I : In2 X.K g σ0 S0 H1 d τ S3 acc H4) (q : P (lcL tt T Ev vs1 ys acc S3)) (hN : ∀ acc' S4 H, Keeps H4 H → In2 X.K g σ0 S0 H1 d (wipe τ vs1) (wipeL vs1 S4) acc' H → P (.ok acc' S4) → Nx H) :
    ∃ W1 : Nat → Nat → Hp → Prop, (∃ m, W1 0 m H4) ∧ ∀ j k H, W1 j k H →
      (J.stop j H ∧ Nx H) ∨ (J.go j H ∧ ∃ Nx1 : Hp → Prop, (∀ H', Nx1 H' → ∃ k', k' < k ∧ W1 (j + 1) k' H') ∧ ∀ x H', J.yld j H x H' → ttR X.K tt x (wipe τ vs1) H' fun σ3 H5 => wipe σ3 vs1 = wipe τ vs1 ∧ rT X.K g W0 T σ3 H5 fun b H6 =>
        if b = true then rD X.K g W0 Ev σ3 H6 fun y H7 => ∃ acc, H7 d = some (.lst acc) ∧ acc.length < sizeLine ∧ Nx1 (upd H7 d (.lst (acc ++ [y]))) else Nx1 H6) := by
  -- what stood at the loop's start stays readable: tuples and frozen things
  let G : Hp → Prop := fun H => Keeps H4 H
  refine ⟨fun j k H => k = ys.length - j ∧ j ≤ ys.length ∧ G H ∧ ∃ acc' S4, In2 X.K g σ0 S0 H1 d (wipe τ vs1) (wipeL vs1 S4) acc' H ∧ P (lcL tt T Ev vs1 (ys.drop j) acc' S4), ⟨ys.length, by simp, Nat.zero_le _, .refl _, acc, S3, I.wipe hv, q⟩, ?_⟩
  rintro j k H ⟨rfl, hj, hG, acc', S4, I4, q4⟩
  by_cases hlt : j < ys.length
  · refine .inr ⟨wk.goes j H hlt hG, fun H' => G H' ∧ ∃ acc' S4, In2 X.K g σ0 S0 H1 d (wipe τ vs1) (wipeL vs1 S4) acc' H' ∧ P (lcL tt T Ev vs1 (ys.drop (j + 1)) acc' S4), fun H' ⟨h1, h2⟩ => ⟨ys.length - (j + 1), by omega, rfl, hlt, h1, h2⟩, fun x H' y => ?_⟩
    obtain ⟨G2, fd⟩ := wk.yields j H x H' hlt hG y
    rw [drop_cons hlt] at q4
    have q4 : P (onO (tt.run ys[j] (wipeL vs1 (wipeL vs1 S4))) fun S1 => (T S1).calm fun c S2 => if c = true then (Ev S2).calm fun z S3 => if acc'.length < sizeLine then lcL tt T Ev vs1 (ys.drop (j + 1)) (acc' ++ [z]) S3 else .bad else lcL tt T Ev vs1 (ys.drop (j + 1)) acc' S2) := by
      rw [wipeL_wipeL]
      exact q4
    have I4' : In2 X.K g σ0 S0 H1 d (wipe τ vs1) (wipeL vs1 (wipeL vs1 S4)) acc' H := by
      rw [wipeL_wipeL]
      exact I4
    have t := turn_lc (nx := fun a S => lcL tt T Ev vs1 (ys.drop (j + 1)) a S) hb hv ho hd I4' G2 (fd _ (by simp [hlt])) q4
    refine ttR_mono t fun σ3 H5 ⟨hw, h⟩ => ⟨hw, h.mono fun b H6 h => ?_⟩
    cases b with
    | false =>
      rw [if_neg Bool.false_ne_true] at h ⊢
      exact ⟨hG.trans h.1, h.2⟩
    | true =>
      rw [if_pos rfl] at h ⊢
      exact h.mono fun v H7 ⟨av, k1, k2, k3, k4⟩ => ⟨av, k1, k2, hG.trans k3, k4⟩
  · have e : j = ys.length := by omega
    subst e
    rw [List.drop_length] at q4
    exact .inl ⟨wk.stops H hG, hN acc' S4 H hG I4 q4⟩
/-- behind the last turn -/
theorem lc_close {vs : List Nat} {σ : L2.St} {S1 S' : Sl} {H H1 H' : Hp} {d : Addr} {acc : List D} {Q : VK} (R1 : Rel X.K g σ H1 S1) (t : ∀ b, H1 b = none → H b = none) (hv : ∀ i ∈ vs, g.fx i = false) (hall : vs.all (isD S1) = true) (hd : H1 d = none)
    (I : In2 X.K g (wipe σ vs) (wipeL vs S1) H1 d (wipe σ vs) (wipeL vs S') acc H') (q : Wants X.K g W (vrE X.K g) H σ S1 H1 (.ok (.fr (.lst acc)) (backL S1 vs S')) Q) : Q (.ref d) H' := by
  obtain ⟨accV, hD, fa, st, R', nl⟩ := I
  have R1w := R1.wipe hv
  have hl1 : S1.length = S'.length := by
    have h1 := R'.len
    rw [wipe_length, wipe_len] at h1
    rw [← h1]
    exact R1.len.symm
  have bk : ∀ {j : Nat} {v : SV}, at? (backL S1 vs S') j = some v → (j ∈ vs ∧ at? S1 j = some v) ∨ (j ∉ vs ∧ at? (wipeL vs S') j = some v) := fun {j v} e => by
    rw [at_back hl1] at e
    by_cases hj : j ∈ vs
    · rw [if_pos hj] at e; exact .inl ⟨hj, e⟩
    · rw [if_neg hj] at e; exact .inr ⟨hj, by rw [at_wipe, if_neg hj]; exact e⟩
  have lv : ∀ {j : Nat} {o : Ob}, at? (backL S1 vs S') j = some (.live o) → j ∉ vs ∧ at? (wipeL vs S') j = some (.live o) := fun {j o} e => by
    rcases bk e with ⟨hj, e⟩ | e
    · exact absurd e (isD_of (List.all_eq_true.mp hall j hj))
    · exact e
  have lvw : ∀ {a : Addr}, Live σ (backL S1 vs S') a → Live (wipe σ vs) (wipeL vs S') a := fun {a} ⟨j, o, e, q⟩ => by
    obtain ⟨hj, e⟩ := lv e
    exact ⟨j, o, e, by rw [wipe_at hj]; exact q⟩
  have ks : Keeps H1 H' := R1w.keeps st
  have Rb : Rel X.K g σ H' (backL S1 vs S') := by
    refine ⟨by rw [back_len, ← hl1]; exact R1.len, fun j v e => ?_, fun j j' a o o' e e' q q' => ?_, fun j o a e f q => ?_, R1.par, R'.trk, R'.inv⟩
    · rcases bk e with ⟨hj, e⟩ | ⟨hj, e⟩
      · obtain ⟨u, h1, h2⟩ := R1.rel j v e
        refine ⟨u, h1, ?_⟩
        cases v with
        | d x => exact FD.mono ks h2
        | live o => exact absurd e (isD_of (List.all_eq_true.mp hall j hj))
      · obtain ⟨u, h1, h2⟩ := R'.rel j v e
        rw [wipe_at hj] at h1
        exact ⟨u, h1, h2⟩
    · obtain ⟨hj, e⟩ := lv e
      obtain ⟨hj', e'⟩ := lv e'
      exact R'.inj j j' a o o' e e' (by rw [wipe_at hj]; exact q) (by rw [wipe_at hj']; exact q')
    · obtain ⟨hj, e⟩ := lv e
      exact R'.fresh j o a e f (by rw [wipe_at hj]; exact q)
  refine q (.ref d) H' ⟨⟨fun b o hb l => st.keep b o hb fun l' => l l'.wipe, st.trk, fun a l => ?_⟩, Rb⟩ ⟨⟨d, rfl, ⟨accV, hD, fa⟩, fun l => nl (lvw l), R1.trk d hd⟩, d, rfl, t d hd⟩
  rcases st.sub a (lvw l) with l | l
  · exact .inl l.wipe
  · exact .inr l
theorem lc2_read {tt tt1 : Tt} {w w1 : Wx} {T T1 : Tx} {Ev : Dx} {vs vs1 : List Nat} {σ : L2.St} {H : Hp} {Q : VK} (hv : ∀ i ∈ vs, g.fx i = false) (ho : ∀ i ∈ tt.slots, i ∈ vs) (ho1 : ∀ i ∈ tt1.slots, i ∈ vs1) (hs : ∀ i ∈ vs1, i ∈ vs) (h : rE X.K g W (eLc2 w tt T w1 tt1 T1 Ev vs vs1) σ H Q) :
    tLc2 (rI X.K g W w) (ttR X.K tt) (rT X.K g W0 T) (rI X.K g W0 w1) (ttR X.K tt1) (rT X.K g W0 T1) (rD X.K g W0 Ev) vs vs1 σ H Q := by
  obtain ⟨S, R, h⟩ := h
  refine (Wants.step (vr := vrI X.K) R h).mono fun J H1 ⟨xs, S1, A1, wk, h1⟩ => ?_
  intro d hd
  have R1 := A1.rel
  by_cases hall : vs.all (isD S1) = true
  · rw [if_pos hall] at h1
    have R1w := R1.wipe hv
    have hv1 : ∀ i ∈ vs1, g.fx i = false := fun i hi => hv i (hs i hi)
    let P : Res (List D) → Prop := fun r => Wants X.K g W (vrE X.K g) H σ S1 H1 (r.bind fun ys S2 => .ok (.fr (.lst ys)) (backL S1 vs S2)) Q
    have hb : ¬ P .bad := fun z => z
    let N : Nat → Hp → Prop := fun i H' => ∃ acc S', In2 X.K g (wipe σ vs) (wipeL vs S1) H1 d (wipe σ vs) (wipeL vs S') acc H' ∧ P (lcL2 tt T w1 tt1 T1 Ev vs vs1 (xs.drop i) acc S')
    have kp : ∀ {acc S' H'}, In2 X.K g (wipe σ vs) (wipeL vs S1) H1 d (wipe σ vs) (wipeL vs S') acc H' → Keeps H1 H' := fun I => R1w.keeps I.choose_spec.2.2.1
    refine ⟨fun i m H' => m = xs.length - i ∧ i ≤ xs.length ∧ N i H', ⟨xs.length, by simp, Nat.zero_le _, [], S1, ⟨[], upd_same, .nil, (Step.refl _ _ _).upd_new hd, R1w.grow (.new hd), fun l => ?_⟩, h1⟩, ?_⟩
    · obtain ⟨u, e, _⟩ := R1w.live l
      rw [hd] at e
      cases e
    · rintro i m H' ⟨rfl, hi, acc, S', I, q⟩
      have hG := kp I
      by_cases hlt : i < xs.length
      · refine .inr ⟨wk.goes i H' hlt hG, N (i + 1), fun H2 h2 => ⟨xs.length - (i + 1), by omega, rfl, hlt, h2⟩, fun x H2 y => ?_⟩
        obtain ⟨G2, fd⟩ := wk.yields i H' x H2 hlt hG y
        rw [drop_cons hlt] at q
        have q : P (onO (tt.run xs[i] (wipeL vs S')) fun S1 => (T S1).calm fun c S2 => if c = true then (w1 S2).calm fun ys S3 => (lcL tt1 T1 Ev vs1 ys acc S3).calm fun acc2 S4 => lcL2 tt T w1 tt1 T1 Ev vs vs1 (xs.drop (i + 1)) acc2 S4 else lcL2 tt T w1 tt1 T1 Ev vs vs1 (xs.drop (i + 1)) acc S2) := q
        have A2 := After.grow I.rel G2
        have I2 := I.after A2
        cases e : tt.run xs[i] (wipeL vs S') with
        | none => rw [e] at q; exact absurd q hb
        | some St =>
          rw [e] at q
          refine tt_step hv ho A2.rel (fd _ (by simp [hlt])) e fun σ3 R3 st3 hw3 => ⟨hw3.trans (wipe_wipe σ vs), ?_⟩
          have I3 := I2.step st3 R3
          have q : P ((T St).calm fun c S2 => if c = true then (w1 S2).calm fun ys S3 => (lcL tt1 T1 Ev vs1 ys acc S3).calm fun acc2 S4 => lcL2 tt T w1 tt1 T1 Ev vs vs1 (xs.drop (i + 1)) acc2 S4 else lcL2 tt T w1 tt1 T1 Ev vs vs1 (xs.drop (i + 1)) acc S2) := q
          refine (calm_any (vr := vrT) hb R3 q).mono fun c H4 ⟨c', S4, A4, r4, h4⟩ => ?_
          cases (show c = c' from r4)
          have I4 := I3.after A4
          cases c with
          | false =>
            rw [if_neg Bool.false_ne_true] at h4 ⊢
            have := I4.wipe hv
            rw [hw3, wipe_wipe] at this
            exact ⟨acc, S4, this, h4⟩
          | true =>
            rw [if_pos rfl] at h4 ⊢
            refine (calm_any (vr := vrI X.K) hb A4.rel h4).mono fun J1 H5 ⟨ys, S5, A5, wk1, h5⟩ => ?_
            refine inner_lc (P := fun r => P (r.calm fun acc2 S4 => lcL2 tt T w1 tt1 T1 Ev vs vs1 (xs.drop (i + 1)) acc2 S4)) hb hv1 ho1 hd wk1 (I4.after A5) h5 fun acc' S6 H6 _ I6 q6 => ⟨acc', S6, ?_, q6⟩
            have := I6.wipe hv
            rw [wipe_sub hs, hw3, wipe_wipe, wipeL_sub hs] at this
            exact this
      · have e : i = xs.length := by omega
        subst e
        rw [List.drop_length] at q
        exact .inl ⟨wk.stops H' hG, lc_close R1 A1.step.trk hv hall hd I q⟩
  · rw [if_neg hall] at h1
    exact h1.elim
variable {tg tg1 iter iter1 : Expr} {pos : Pos}
theorem de_lc2 {elt : Expr} {ifs ifs1 : List Expr} {scope : Scope} {own : List (Str × Nat)} {vs1 : List Nat} {w w1 : Wx} {tt tt1 : Tt} {T T1 : Tx} {Ev : Dx} (hc : X.calm = true) (hN : X.N.Nodup) (hv : ∀ i ∈ own.map (·.2), g.fx i = false) (ho : ∀ i ∈ tt.slots, i ∈ own.map (·.2)) (ho1 : ∀ i ∈ tt1.slots, i ∈ vs1) (hs2 : ∀ i ∈ vs1, i ∈ own.map (·.2)) (hi : DI X g W tg iter w) (ok : BlkOk X.N X.env.scope scope own)
    (hg : ∀ (s : Shared) (H : Hp) (C : Addr) (cl : List (Str × Addr)) (fp : List Addr), PG (X.blk s H scope (compEnvC scope cl C X.env) fp) tg (ttR X.K tt))
    (ht : ∀ (s : Shared) (H : Hp) (C : Addr) (cl : List (Str × Addr)) (fp : List Addr), PTs (X.blk s H scope (compEnvC scope cl C X.env) fp) ifs (rT X.K g W0 T))
    (hi1 : ∀ (s : Shared) (H : Hp) (C : Addr) (cl : List (Str × Addr)) (fp : List Addr), DI (X.blk s H scope (compEnvC scope cl C X.env) fp) g W0 tg1 iter1 w1)
    (hg1 : ∀ (s : Shared) (H : Hp) (C : Addr) (cl : List (Str × Addr)) (fp : List Addr), PG (X.blk s H scope (compEnvC scope cl C X.env) fp) tg1 (ttR X.K tt1))
    (ht1 : ∀ (s : Shared) (H : Hp) (C : Addr) (cl : List (Str × Addr)) (fp : List Addr), PTs (X.blk s H scope (compEnvC scope cl C X.env) fp) ifs1 (rT X.K g W0 T1))
    (he : ∀ (s : Shared) (H : Hp) (C : Addr) (cl : List (Str × Addr)) (fp : List Addr), DD (X.blk s H scope (compEnvC scope cl C X.env) fp) g W0 elt Ev) (hs : ∀ x, foldedSetIterable iter X.env x = pure x := by intro _; rfl) (hs1 : ∀ env x, foldedSetIterable iter1 env x = pure x := by intro _ _; rfl) :
    DE X g W (.ListComp elt [⟨tg, iter, ifs, 0⟩, ⟨tg1, iter1, ifs1, 0⟩] scope pos) (eLc2 w tt T w1 tt1 T1 Ev (own.map (·.2)) vs1) :=
  PE.imp (pe_lc2 hc hN hi ok hs2 hg ht hi1 hg1 ht1 he hs hs1) fun _ _ _ h => lc2_read hv ho ho1 hs2 h
theorem ds_setLc2 (i : Nat) {y : Str} {py spos : Pos} {elt : Expr} {ifs ifs1 : List Expr} {scope : Scope} {own : List (Str × Nat)} {vs1 : List Nat} {w w1 : Wx} {tt tt1 : Tt} {T T1 : Tx} {Ev : Dx} (hf : g.fx i = false) (hc : X.calm = true) (hN : X.N.Nodup) (hv : ∀ i ∈ own.map (·.2), g.fx i = false) (ho : ∀ i ∈ tt.slots, i ∈ own.map (·.2)) (ho1 : ∀ i ∈ tt1.slots, i ∈ vs1) (hs2 : ∀ i ∈ vs1, i ∈ own.map (·.2)) (hi : DI X g W tg iter w) (ok : BlkOk X.N X.env.scope scope own)
    (hg : ∀ (s : Shared) (H : Hp) (C : Addr) (cl : List (Str × Addr)) (fp : List Addr), PG (X.blk s H scope (compEnvC scope cl C X.env) fp) tg (ttR X.K tt))
    (ht : ∀ (s : Shared) (H : Hp) (C : Addr) (cl : List (Str × Addr)) (fp : List Addr), PTs (X.blk s H scope (compEnvC scope cl C X.env) fp) ifs (rT X.K g W0 T))
    (hi1 : ∀ (s : Shared) (H : Hp) (C : Addr) (cl : List (Str × Addr)) (fp : List Addr), DI (X.blk s H scope (compEnvC scope cl C X.env) fp) g W0 tg1 iter1 w1)
    (hg1 : ∀ (s : Shared) (H : Hp) (C : Addr) (cl : List (Str × Addr)) (fp : List Addr), PG (X.blk s H scope (compEnvC scope cl C X.env) fp) tg1 (ttR X.K tt1))
    (ht1 : ∀ (s : Shared) (H : Hp) (C : Addr) (cl : List (Str × Addr)) (fp : List Addr), PTs (X.blk s H scope (compEnvC scope cl C X.env) fp) ifs1 (rT X.K g W0 T1))
    (he : ∀ (s : Shared) (H : Hp) (C : Addr) (cl : List (Str × Addr)) (fp : List Addr), DD (X.blk s H scope (compEnvC scope cl C X.env) fp) g W0 elt Ev)
    (hsw : swapsWith (.ListComp elt [⟨tg, iter, ifs, 0⟩, ⟨tg1, iter1, ifs1, 0⟩] scope pos) (some (.Name y py)) spos.line X.env = pure true) (hy : X.N[i]? = some y := by rfl) (hyl : X.env.scope.names.lookup y = some .local := by rfl) (hs : ∀ x, foldedSetIterable iter X.env x = pure x := by intro _; rfl) (hs1 : ∀ env x, foldedSetIterable iter1 env x = pure x := by intro _ _; rfl) :
    DS X g W (.Assign [.Name y py] (.ListComp elt [⟨tg, iter, ifs, 0⟩, ⟨tg1, iter1, ifs1, 0⟩] scope pos) spos) (sSet i (eLc2 w tt T w1 tt1 T1 Ev (own.map (·.2)) vs1)) := by
  refine PS.imp (ps_setLc2 (te := rD X.K g W0 Ev) (wi1 := rI X.K g W0 w1) hc hN hy hyl hsw hi ok hs2 hg ht hi1 hg1 ht1 he hs hs1) ?_
  rintro E σ H ⟨S, R, h⟩
  exact lc2_read hv ho ho1 hs2 ((Ends.at R h).mono fun v H1 ⟨rv, S1, A1, r1, h1⟩ => set_end hf A1 r1 h1)
end
end Fm

/-! FmR: more methods of lists and texts. -/
namespace Fm
open PySem L2
section
open PySem.SeqAt
open PySem.AutoSeq1 (wpAny_loadPart' idx_int sub_tuple_tuple sub_list_list sub_tuple_list sub_list_tuple)
open PySem.MeetsSeq PySem.MeetsSeq2 PySem.MeetsSeq3
/-- xs.extend(t), t a tuple -/
theorem ext_tup (l b : Addr) (xs ys : Array Value) (n m : Nat) (dd : Option Addr) (sl : Array (Option Value)) (h0 : ¬(!xs.isEmpty && Builtin.List.listTooLong (xs.size + ys.size)) = true) (h1 : xs.size ≤ sizeLine) (h2 : xs.size + ys.size ≤ sizeLine + 1) :
    Meets (Builtin.«list.extend» ⟨[.ref l, .ref b], []⟩) fun _ R s => s.heap.get? l = some { cls := .type "list", dict := none, data := .seq xs n, slots := #[] } ∧ s.heap.get? b = some { cls := .type "tuple", dict := dd, data := .seq ys m, slots := sl } ∧
      R (.ok (.ret Value.none)) { s with heap := s.heap.update l (Obj.mapSeq fun x => x ++ ys), toks := s.toks } := .of_wp fun prog w A R s h => by
  obtain ⟨hp, g, d, tk, os⟩ := s
  obtain ⟨ql, qb, h⟩ := h
  have f1 := idx_int
  have f2 := sub_tuple_tuple
  have f3 := sub_list_list
  have f4 := sub_tuple_list
  have f5 := sub_list_tuple
  have z : (xs ++ ys).size ≤ sizeLine + 1 := by rw [Array.size_append]; exact h2
  wp_walk using (wpAny_updateSeq ql rfl (hz := h1) (_hz' := z)), wpAny_loadPart' ql, wpAny_loadPart' qb
  exact ⟨_, rfl, h⟩
/-- xs.extend(ys), ys a list -/
theorem ext_lst (l b : Addr) (xs ys : Array Value) (n m : Nat) (dd : Option Addr) (sl : Array (Option Value)) (h0 : ¬(!xs.isEmpty && Builtin.List.listTooLong (xs.size + ys.size)) = true) (h1 : xs.size ≤ sizeLine) (h2 : xs.size + ys.size ≤ sizeLine + 1) :
    Meets (Builtin.«list.extend» ⟨[.ref l, .ref b], []⟩) fun _ R s => s.heap.get? l = some { cls := .type "list", dict := none, data := .seq xs n, slots := #[] } ∧ s.heap.get? b = some { cls := .type "list", dict := dd, data := .seq ys m, slots := sl } ∧
      R (.ok (.ret Value.none)) { s with heap := s.heap.update l (Obj.mapSeq fun x => x ++ ys), toks := s.toks } := .of_wp fun prog w A R s h => by
  obtain ⟨hp, g, d, tk, os⟩ := s
  obtain ⟨ql, qb, h⟩ := h
  have f1 := idx_int
  have f2 := sub_tuple_tuple
  have f3 := sub_list_list
  have f4 := sub_tuple_list
  have f5 := sub_list_tuple
  have z : (xs ++ ys).size ≤ sizeLine + 1 := by rw [Array.size_append]; exact h2
  wp_walk using (wpAny_updateSeq ql rfl (hz := h1) (_hz' := z)), wpAny_loadPart' ql, wpAny_loadPart' qb
  exact ⟨_, rfl, h⟩
end
section
variable {X : Cx}
def rExt (K : PySem.W.Frag) : V → List V → Hp → VK → Prop := fun x vs H Q => ∃ l b xs zs, x = .ref l ∧ vs = [.ref b] ∧ H l = some (.lst xs) ∧ (SqL K H b zs ∨ SqT K H b zs) ∧ xs.length + zs.length ≤ sizeLine ∧ Q .non (upd H l (.lst (xs ++ zs)))
theorem mt_ext : MtM X "list.extend" (rExt X.K) := by
  intro pins s σ H x vs v us Q I rx rv h
  obtain ⟨l, b, xs, zs, rfl, rfl, hH, hB, hz, q⟩ := h
  cases rx
  obtain ⟨u, rfl, ru⟩ := rv.one
  cases ru
  obtain ⟨z, its, n, r, hl, e⟩ := I.lstM hH
  have fin : ∀ {its2 : List Value}, Vals zs its2 → its.toArray.size + its2.toArray.size ≤ sizeLine ∧ ¬ (!its.toArray.isEmpty && Builtin.List.listTooLong (its.toArray.size + its2.toArray.size)) = true ∧ its.toArray.size ≤ sizeLine ∧ EP X pins σ Q .none { s with heap := s.heap.update l (Obj.mapSeq fun x => x ++ its2.toArray), toks := s.toks } := fun {its2} r2 => by
    have e1 := r.length
    have e2 := r2.length
    have hsz : its.toArray.size + its2.toArray.size ≤ sizeLine := by rw [List.size_toArray, List.size_toArray]; omega
    refine ⟨hsz, ?_, by rw [List.size_toArray]; omega, .non, _, I.lset (its' := its ++ its2) hH e (by simp) (r.append r2) (by rw [List.length_append]; omega), rfl, q⟩
    unfold Builtin.List.listTooLong
    rw [decide_eq_false (by have : sizeLine = 16777216 := rfl; omega), Bool.and_false]
    exact Bool.false_ne_true
  rcases hB with hB | hB
  · obtain ⟨its2, r2, ⟨⟨cls, dd, data, sl⟩, n2, ho, hc, _, hd⟩, _⟩ := I.list hB
    simp only at hc hd
    subst hc hd
    obtain ⟨k1, k2, k3, k4⟩ := fin r2
    exact call_meets F.slot_list_extend ⟨_, e, rfl⟩ F.entry_list_extend (F.args_list_extend_2 _ _) (ext_lst l b its.toArray its2.toArray n n2 dd sl k2 k3 (by omega)) ⟨e, ho, k4⟩
  · obtain ⟨its2, r2, ⟨⟨cls, dd, data, sl⟩, ho, hc, n2, hd⟩, _⟩ := I.tuple hB
    simp only at hc hd
    subst hc hd
    obtain ⟨k1, k2, k3, k4⟩ := fin r2
    exact call_meets F.slot_list_extend ⟨_, e, rfl⟩ F.entry_list_extend (F.args_list_extend_2 _ _) (ext_tup l b its.toArray its2.toArray n n2 dd sl k2 k3 (by omega)) ⟨e, ho, k4⟩
end
section
variable {X : Cx} {g : Gh} {W : WX}
theorem mo_extend : MutOk X extendL (rExt X.K) := by
  intro c vs us xs ds xs' y H Q hc fs fu e k
  have go : ∀ {ys : List D}, (if fits (xs.length + ys.length) = true then some (xs ++ ys, PyData.none) else none) = some (xs', y) → xs.length + ys.length ≤ sizeLine ∧ xs' = xs ++ ys ∧ y = .none := fun {ys} e => by
    by_cases z : fits (xs.length + ys.length) = true
    · rw [if_pos z] at e
      cases e
      exact ⟨fits_of z, rfl, rfl⟩
    · rw [if_neg z] at e; cases e
  match ds, fu with
  | [d], .cons fd .nil =>
    cases d with
    | list ys =>
      obtain ⟨h1, rfl, rfl⟩ := go e
      cases fd with
      | lst h f => exact ⟨c, _, vs, _, rfl, rfl, hc, .inl (.inl (.inr ⟨_, h⟩)), by rw [fs.length, f.length]; exact h1, k _ _ (fs.append f) .non⟩
    | tuple ys =>
      obtain ⟨h1, rfl, rfl⟩ := go e
      cases fd with
      | tup h f => exact ⟨c, _, vs, _, rfl, rfl, hc, .inr h.1, by rw [fs.length, f.length]; exact h1, k _ _ (fs.append f) .non⟩
    | _ => cases e
  | [], _ => cases e
  | a :: b :: r, _ => cases a <;> exact absurd e (by simp [extendL])
variable {o e' : Expr} {es : List Expr} {i : Nat} {Fl : Lx} {apos cpos : Pos}
theorem de_extend (ho : DE X g W o (eVar i)) (ha : DL X g W (e' :: es) Fl) (hbase : attributeBase o "extend" X.env (eval o X.env) = eval o X.env := by rfl)
    (hfew : ((backTo cpos (starEach (e' :: es) X.env)).all (fun x => !x.1) && (backToKw cpos (keywordEach [] X.env)).all (fun x => x.1.isSome)
      && decide ((e' :: es).length + ([] : List Keyword).length + (if ([] : List Keyword).isEmpty then 0 else 1) < 30)) = true := by rfl)
    (hline : (apos.endLine == cpos.line) = true := by rfl) (hs : starEach (e' :: es) X.env = (false, eval e' X.env) :: starEach es X.env := by rfl) (hplain : (backTo cpos (starEach es X.env)).any (·.1) = false := by rfl) :
    DE X g W (.Call (.Attribute o "extend" apos) (e' :: es) [] cpos) (eMut extendL i Fl) :=
  PE.imp (pe_bm F.plainAttrs_list F.slot_list_extend F.type_list_extend mt_ext ho ha hbase hfew hline hs hplain) fun _ _ _ h => mut_read mo_extend h
end
/-! ### methods that read: o.m(x) -/
section
variable {X : Cx} {g : Gh} {W : WX}
theorem td_ty {K : PySem.W.Frag} {H : Hp} {v : V} {x : D} {T : String} (h : TD K H v x) (e : tyName x = T) (hT : T = "list" ∨ T = "str") : tyV K T v H := by
  cases x with
  | list xs =>
    obtain rfl : "list" = T := e
    obtain ⟨p, vs, rfl, h, f⟩ := h.lst
    exact .inl ⟨rfl, vs, .inl h⟩
  | str z =>
    obtain rfl : "str" = T := e
    rw [h.str]
    rfl
  | _ =>
    subst e
    exfalso
    rcases hT with z | z <;> exact absurd z (by simp [tyName])
variable {o e' : Expr} {Fo Fa : Ex} {apos cpos : Pos} {name : Str} {T id : String} {f : D → D → Option RV}
/-- the method does what f says -/
def MtOk (X : Cx) (id : String) (T : String) (f : D → D → Option RV) : Prop := MtR X id fun x xs H Q => ∃ y dx dy rv, xs = [y] ∧ TD X.K H x dx ∧ TD X.K H y dy ∧ tyName dx = T ∧ f dx dy = some rv ∧ Yields X.K H rv Q
theorem de_m1 (hT : T = "list" ∨ T = "str") (hf : ∀ dx dy rv, f dx dy = some rv → tyName dx = T) (pa : PlainAttrs T) (slot : Slot T name id) (hty : typeOf (.builtin id) = pure (.type "method_descriptor")) (hm : MtOk X id T f) (ho : DE X g W o Fo) (ha : DE X g W e' Fa) (hbase : attributeBase o name X.env (eval o X.env) = eval o X.env := by rfl)
    (hfew : ((backTo cpos (starEach [e'] X.env)).all (fun x => !x.1) && (backToKw cpos (keywordEach [] X.env)).all (fun x => x.1.isSome)
      && decide ([e'].length + ([] : List Keyword).length + (if ([] : List Keyword).isEmpty then 0 else 1) < 30)) = true := by rfl)
    (hline : (apos.endLine == cpos.line) = true := by rfl) (hs : starEach [e'] X.env = (false, eval e' X.env) :: starEach [] X.env := by rfl) (hplain : (backTo cpos (starEach [] X.env)).any (·.1) = false := by rfl) :
    DE X g W (.Call (.Attribute o name apos) [e'] [] cpos) (eM T f Fo Fa) := by
  refine PE.imp (pe_bm pa slot hty hm ho (da_cons ha da_nil hs) hbase hfew hline hs hplain) ?_
  rintro σ H Q ⟨S, R, h⟩
  refine (Wants.step (vr := vrE X.K g) R h).mono fun x H1 ⟨vx, S1, A1, r1, h1⟩ => ?_
  cases e1 : view S1 vx with
  | none => rw [e1] at h1; exact h1.elim
  | some dx =>
    rw [e1] at h1
    have h1 : Wants X.K g W (vrE X.K g) H σ S1 H1 (if tyName dx = T then (Fa S1).bind fun y S2 => give S2 ((view S2 vx).bind fun dx => (view S2 y).bind fun dy => f dx dy) else .bad) Q := h1
    by_cases ht : tyName dx = T
    · rw [if_pos ht] at h1
      refine ⟨td_ty (r1.1.td A1.rel e1) ht hT, S1, A1.rel, ?_⟩
      unfold aCons aNil
      cases e2 : Fa S1 with
      | bad => rw [e2] at h1; exact h1.elim
      | exc z S2 => rw [e2] at h1; exact h1
      | ok vy S2 =>
        rw [e2] at h1
        intro ws H2 A2 rr
        match ws, rr with
        | [y], ⟨.cons ry .nil, _⟩ =>
          have h1 : Wants X.K g W (vrE X.K g) H σ S1 H1 (give S2 ((view S2 vx).bind fun dx => (view S2 vy).bind fun dy => f dx dy)) Q := h1
          have h2 : Wants X.K g W (vrE X.K g) H σ S2 H2 (give S2 ((view S2 vx).bind fun dx => (view S2 vy).bind fun dy => f dx dy)) Q := by
            cases q : give S2 ((view S2 vx).bind fun dx => (view S2 vy).bind fun dy => f dx dy) with
            | bad => rw [q] at h1; exact h1.elim
            | exc z S3 => rw [q] at h1; exact fun cls d H' A3 xr => h1 cls d H' (A2.trans A3) xr
            | ok rv S3 => rw [q] at h1; exact fun b H' A3 r3 => h1 b H' (A2.trans A3) r3
          obtain ⟨dx2, dy, rv, t1, t2, e3, Y⟩ := op_read A1.rel A2 (fun b e => A1.step.trk b (A2.step.trk b e)) r1.1 ry.1 h2
          exact ⟨y, dx2, dy, rv, rfl, t1, t2, hf _ _ _ e3, e3, Y⟩
    · rw [if_neg ht] at h1
      exact h1.elim
end
/-! count, join -/
section
variable {X : Cx} {g : Gh} {W : WX}
theorem strs_td {K : PySem.W.Frag} {H : Hp} : ∀ {vs : List V} {xs : List D} {ss : List Str}, FDs K H vs xs → strsD xs = some ss → vs = ss.map V.str
  | _, _, ss, .nil, e => by cases e; rfl
  | _, _, ss, .cons h t, e => by
    rename_i v vs x xs
    cases x with
    | str s =>
      have e : (strsD xs).map (fun l => s :: l) = some ss := e
      cases q : strsD xs with
      | none => rw [q] at e; cases e
      | some l =>
        rw [q] at e
        cases e
        cases h
        rw [strs_td t q]
        rfl
    | _ => cases e
theorem mo_join : MtOk X "str.join" "str" joinD := by
  intro pins s σ H x xs v us Q I rx rs h
  obtain ⟨y, dx, dy, rv, rfl, tx, ty, _, e, Y⟩ := h
  cases dx with
  | str a =>
    have go : ∀ {xs : List D}, ((strsD xs).bind fun ys => if joinOk a ys = true then some (RV.d (.str (Str.join a ys))) else none) = some rv → ∃ ys, strsD xs = some ys ∧ (ys.map (·.length)).sum + ys.length * a.length ≤ 16777216 ∧ rv = .d (.str (Str.join a ys)) := fun {xs} e => by
      cases q : strsD xs with
      | none => rw [q] at e; cases e
      | some ys =>
        rw [q] at e
        have e : (if joinOk a ys = true then some (RV.d (.str (Str.join a ys))) else none) = some rv := e
        by_cases z : joinOk a ys = true
        · rw [if_pos z] at e
          cases e
          exact ⟨ys, rfl, of_decide_eq_true z, rfl⟩
        · rw [if_neg z] at e; cases e
    cases dy with
    | list xs =>
      obtain ⟨ys, h1, h2, rfl⟩ := go e
      obtain ⟨p, vs, rfl, hp, f⟩ := ty.lst
      cases tx.str
      have := strs_td f h1
      subst this
      exact mt_join pins s σ H _ _ v us Q I rx rs ⟨a, p, ys, rfl, rfl, .inl (.inl hp), h2, by rw [TL.join_eq]; exact Y.same (.str _)⟩
    | tuple xs =>
      obtain ⟨ys, h1, h2, rfl⟩ := go e
      obtain ⟨p, vs, rfl, hp, f⟩ := ty.tup
      cases tx.str
      have := strs_td f h1
      subst this
      exact mt_join pins s σ H _ _ v us Q I rx rs ⟨a, p, ys, rfl, rfl, .inr hp, h2, by rw [TL.join_eq]; exact Y.same (.str _)⟩
    | _ => cases e
  | _ => cases e
theorem mo_count {n : Nat} (ok : Okh X n) : MtOk X "list.count" "list" countD := by
  intro pins s σ H x xs v us Q I rx rs h
  obtain ⟨y, dx, dy, rv, rfl, tx, ty, _, e, Y⟩ := h
  cases dx with
  | list xs =>
    have e : (if (SeqAt.shaped (.list xs) && SeqAt.shaped dy) = true then iD (xs.countP fun x => PyData.eqv x dy) else none) = some rv := e
    by_cases z : (SeqAt.shaped (.list xs) && SeqAt.shaped dy) = true
    · rw [if_pos z] at e
      cases e
      rw [Bool.and_eq_true] at z
      obtain ⟨z1, z2⟩ := z
      obtain ⟨p, vs, rfl, hp, f⟩ := tx.lst
      cases rx
      obtain ⟨u, rfl, ru⟩ := rs.one
      obtain ⟨as, ra, _⟩ := ty.reads I ru (okR_lay (SeqAt.canLay_of_shaped z2))
      obtain ⟨its, r2, ⟨⟨cls, dd, data, sl⟩, m, ho, hc, _, hd⟩, _⟩ := I.list (.inl hp)
      simp only at hc hd
      subst hc hd
      have c1 : PyData.canLayAll0 xs = true := by have := SeqAt.canLay_of_shaped z1; simpa [PyData.canLay0] using this
      have c2 := SeqAt.canLay_of_shaped z2
      have hdep : PyData.depthAll xs + 1 ≤ 64 := by
        unfold SeqAt.shaped at z1
        simp only [Bool.and_eq_true, decide_eq_true_eq, PyData.depth] at z1
        exact of_decide_eq_true z1.2
      have hu := ok.un
      have key : ∃ ev : Value → Bool, (∀ y ∈ its.toArray, SeqAt.EqAt X.A.in1 s y u (ev y)) ∧ its.countP ev = xs.countP fun x => PyData.eqv x dy := by
        classical
        refine ⟨fun y => PyData.eqv (SeqAt.readOf s.heap y) dy, fun y hy => ?_, ?_⟩
        · obtain ⟨i, hi⟩ := List.mem_iff_getElem?.mp (by simpa using hy : y ∈ its)
          obtain ⟨vi, xi, h1, h2, h3, h4⟩ := FDs.atN f r2 hi
          obtain ⟨bs, q1, _⟩ := h4.reads I h3 (okR_lay (canLay_mem c1 (List.mem_of_getElem? h2)))
          have hx := List.mem_of_getElem? h2
          have e1 := SeqAt.readOf_eq (canLay_mem c1 hx) q1
          show SeqAt.EqAt X.A.in1 s y u (PyData.eqv (SeqAt.readOf s.heap y) dy)
          rw [e1]
          have dl := PyData.depth_le_depthAll xs xi hx
          exact SeqAt.eqAt_reads xi dy X.A.in1 s y u bs as q1 ra (canLay_mem c1 hx) c2 (by show X.A.units + 1 + _ < _; omega)
        · have go : ∀ {vs : List V} {xs : List D} {its : List Value}, FDs X.K H vs xs → Vals vs its → PyData.canLayAll0 xs = true → its.countP (fun y => PyData.eqv (SeqAt.readOf s.heap y) dy) = xs.countP fun x => PyData.eqv x dy := by
            intro vs xs its f r2
            induction r2 generalizing xs with
            | nil => cases f; intro _; rfl
            | cons r rs ih =>
              cases f with
              | cons f1 f2 =>
                intro hc
                have hc' := hc
                simp only [PyData.canLayAll0, Bool.and_eq_true] at hc'
                obtain ⟨bs, q1, _⟩ := f1.reads I r (okR_lay hc'.1)
                rw [List.countP_cons, List.countP_cons, ih f2 hc'.2, SeqAt.readOf_eq hc'.1 q1]
          exact go f r2 c1
      obtain ⟨ev, k1, k2⟩ := key
      refine call_meets PySem.F.slot_list_count ⟨_, ho, rfl⟩ PySem.F.entry_list_count (PySem.F.args_list_count_2 _ _) (SeqAt.list_countAt p its.toArray m dd sl u ev) ⟨ho, k1, ?_⟩
      refine ⟨.int (xs.countP fun x => PyData.eqv x dy : Nat), H, I.tok _, ⟨s.toks, ?_⟩, Y.same (.int _)⟩
      show Value.int ((its.toArray.toList.countP ev : Nat) : Int) s.toks = _
      rw [List.toList_toArray, k2]
    · rw [if_neg z] at e; cases e
  | _ => cases e
theorem joinD_ty {dx dy : D} {rv : RV} (h : joinD dx dy = some rv) : tyName dx = "str" := by
  cases dx with
  | str a => rfl
  | _ => cases h
theorem countD_ty {dx dy : D} {rv : RV} (h : countD dx dy = some rv) : tyName dx = "list" := by
  cases dx with
  | list a => rfl
  | _ => cases h
end
end Fm

/-! FmT: dicts: {}, get, comprehensions. -/
namespace Fm
open PySem L2
section
variable {X : Cx} {g : Gh} {W : WX} {pos apos cpos : Pos} {o e f : Expr} {Fo : Ex} {Dk Df : Dx}
theorem de_dct0 : DE X g W (.Dict [] [] pos) eDct0 := by
  refine PE.imp pe_dnewK ?_
  rintro σ H Q ⟨S, R, h⟩ p hp
  exact (show Wants X.K g W (vrE X.K g) H σ S H (give S (some (.fr (.dct [])))) Q from h).yields R (fun _ z => z) |>.dct hp .nil
end
/-! ### comprehensions -/
theorem dc_it {J : It} {n : Nat} {G : Hp → Prop} {Y : Nat → Hp → V → Hp → Prop} (w : Walk J n G Y) {g : TG} {tt : TT} {tk tv : TE} {vs : List Nat} {σ : L2.St} {H1 : Hp} {D : Addr} {Qd : Hp → Prop} (Pv : Nat → Hp → Prop) (h0 : Pv 0 (upd H1 D (.dK []))) (hG : ∀ i H, i ≤ n → Pv i H → G H)
    (hs : ∀ i x H H', i < n → Pv i H → Y i H x H' → g x (wipe σ vs) H' fun σ2 H2 => wipe σ2 vs = wipe σ vs ∧ tt σ2 H2 fun b H3 =>
      if b = true then tk σ2 H3 fun y H4 => tv σ2 H4 fun z H5 => ∃ kvs k, y = kV k ∧ H5 D = some (.dK kvs) ∧ kvs.length < sizeLine ∧ Pv (i + 1) (upd H5 D (.dK (putK kvs k z))) else Pv (i + 1) H3) (hd : ∀ H, Pv n H → Qd H) :
    ∃ W : Nat → Nat → Hp → Prop, (∃ m, W 0 m (upd H1 D (.dK []))) ∧ ∀ i m H, W i m H →
      (J.stop i H ∧ Qd H) ∨ (J.go i H ∧ ∃ Nx : Hp → Prop, (∀ H', Nx H' → ∃ m', m' < m ∧ W (i + 1) m' H') ∧ ∀ x H', J.yld i H x H' → g x (wipe σ vs) H' fun σ2 H2 => wipe σ2 vs = wipe σ vs ∧ tt σ2 H2 fun b H3 =>
        if b = true then tk σ2 H3 fun y H4 => tv σ2 H4 fun z H5 => ∃ kvs k, y = kV k ∧ H5 D = some (.dK kvs) ∧ kvs.length < sizeLine ∧ Nx (upd H5 D (.dK (putK kvs k z))) else Nx H3) := by
  refine ⟨fun i m H => m = n - i ∧ i ≤ n ∧ Pv i H, ⟨n, by simp, Nat.zero_le _, h0⟩, ?_⟩
  rintro i m H ⟨rfl, hi, p⟩
  have q := hG i H hi p
  by_cases hlt : i < n
  · refine .inr ⟨w.goes i H hlt q, Pv (i + 1), fun H' p' => ⟨n - (i + 1), by omega, rfl, hlt, p'⟩, fun x H' y => hs i x H H' hlt p (w.yields i H x H' hlt q y)⟩
  · have e : i = n := by omega
    subst e
    exact .inl ⟨w.stops H q, hd H p⟩
section
variable {X : Cx} {g : Gh} {W : WX}
section
variable {K : PySem.W.Frag} {σ0 τ : L2.St} {S0 S' S2 : Sl} {H1 H' H2 : Hp} {d : Addr} {acc : List (D × D)}
theorem In3.wipe (I : In3 K g σ0 S0 H1 d τ S' acc H') {us : List Nat} (hv : ∀ i ∈ us, g.fx i = false) : In3 K g σ0 S0 H1 d (L2.wipe τ us) (wipeL us S') acc H' := by
  have I' := I
  obtain ⟨av, h1, h2, h3, h4, h5⟩ := I
  exact I'.step Step.wiped (h4.wipe hv)
theorem In3.after (I : In3 K g σ0 S0 H1 d τ S' acc H') (A : After K g τ S' H' S2 H2) : In3 K g σ0 S0 H1 d τ S2 acc H2 := I.step A.step A.rel
theorem In3.put (I : In3 K g σ0 S0 H1 d τ S' acc H') (hd : H1 d = none) {v : V} {q x : D} {k : L2.Key} (e : kyOf q = some k) (f : FD K H' v x) (hl : acc.length < sizeLine) : ∃ av, H' d = some (.dK av) ∧ av.length < sizeLine ∧ In3 K g σ0 S0 H1 d τ S' (dPut acc q x) (upd H' d (.dK (putK av k v))) := by
  obtain ⟨av, h1, h2, h3, h4, h5⟩ := I
  have ln := h2.length
  exact ⟨av, h1, by rw [ln]; exact hl, putK av k v, upd_same, (h2.put e f).mono (keeps_upd h1 trivial), h3.upd_new hd, h4.upd_other h1 trivial h5, h5⟩
end
/-- behind the last turn -/
theorem dc_close {vs : List Nat} {σ : L2.St} {S1 S' : Sl} {H H1 H' : Hp} {d : Addr} {acc : List (D × D)} {Q : VK} (R1 : Rel X.K g σ H1 S1) (t : ∀ b, H1 b = none → H b = none) (hv : ∀ i ∈ vs, g.fx i = false) (hall : vs.all (isD S1) = true) (hd : H1 d = none)
    (I : In3 X.K g (wipe σ vs) (wipeL vs S1) H1 d (wipe σ vs) (wipeL vs S') acc H') (q : Wants X.K g W (vrE X.K g) H σ S1 H1 (.ok (.fr (.dct acc)) (backL S1 vs S')) Q) : Q (.ref d) H' := by
  obtain ⟨accV, hD, fa, st, R', nl⟩ := I
  have R1w := R1.wipe hv
  have hl1 : S1.length = S'.length := by
    have h1 := R'.len
    rw [wipe_length, wipe_len] at h1
    rw [← h1]
    exact R1.len.symm
  have bk : ∀ {j : Nat} {v : SV}, at? (backL S1 vs S') j = some v → (j ∈ vs ∧ at? S1 j = some v) ∨ (j ∉ vs ∧ at? (wipeL vs S') j = some v) := fun {j v} e => by
    rw [at_back hl1] at e
    by_cases hj : j ∈ vs
    · rw [if_pos hj] at e; exact .inl ⟨hj, e⟩
    · rw [if_neg hj] at e; exact .inr ⟨hj, by rw [at_wipe, if_neg hj]; exact e⟩
  have lv : ∀ {j : Nat} {o : Ob}, at? (backL S1 vs S') j = some (.live o) → j ∉ vs ∧ at? (wipeL vs S') j = some (.live o) := fun {j o} e => by
    rcases bk e with ⟨hj, e⟩ | e
    · exact absurd e (isD_of (List.all_eq_true.mp hall j hj))
    · exact e
  have lvw : ∀ {a : Addr}, Live σ (backL S1 vs S') a → Live (wipe σ vs) (wipeL vs S') a := fun {a} ⟨j, o, e, q⟩ => by
    obtain ⟨hj, e⟩ := lv e
    exact ⟨j, o, e, by rw [wipe_at hj]; exact q⟩
  have ks : Keeps H1 H' := R1w.keeps st
  have Rb : Rel X.K g σ H' (backL S1 vs S') := by
    refine ⟨by rw [back_len, ← hl1]; exact R1.len, fun j v e => ?_, fun j j' a o o' e e' q q' => ?_, fun j o a e f q => ?_, R1.par, R'.trk, R'.inv⟩
    · rcases bk e with ⟨hj, e⟩ | ⟨hj, e⟩
      · obtain ⟨u, h1, h2⟩ := R1.rel j v e
        refine ⟨u, h1, ?_⟩
        cases v with
        | d x => exact FD.mono ks h2
        | live o => exact absurd e (isD_of (List.all_eq_true.mp hall j hj))
      · obtain ⟨u, h1, h2⟩ := R'.rel j v e
        rw [wipe_at hj] at h1
        exact ⟨u, h1, h2⟩
    · obtain ⟨hj, e⟩ := lv e
      obtain ⟨hj', e'⟩ := lv e'
      exact R'.inj j j' a o o' e e' (by rw [wipe_at hj]; exact q) (by rw [wipe_at hj']; exact q')
    · obtain ⟨hj, e⟩ := lv e
      exact R'.fresh j o a e f (by rw [wipe_at hj]; exact q)
  refine q (.ref d) H' ⟨⟨fun b o hb l => st.keep b o hb fun l' => l l'.wipe, st.trk, fun a l => ?_⟩, Rb⟩ ⟨⟨d, rfl, ⟨accV, hD, fa⟩, fun l => nl (lvw l), R1.trk d hd⟩, d, rfl, t d hd⟩
  rcases st.sub a (lvw l) with l | l
  · exact .inl l.wipe
  · exact .inr l
theorem dc_read {tt : Tt} {w : Wx} {T : Tx} {Kv Ev : Dx} {vs : List Nat} {σ : L2.St} {H : Hp} {Q : VK} (hv : ∀ i ∈ vs, g.fx i = false) (ho : ∀ i ∈ tt.slots, i ∈ vs) (h : rE X.K g W (eDc w tt T Kv Ev vs) σ H Q) :
    tDc (rI X.K g W w) (ttR X.K tt) (rT X.K g W0 T) (rD X.K g W0 Kv) (rD X.K g W0 Ev) vs σ H Q := by
  obtain ⟨S, R, h⟩ := h
  refine (Wants.step (vr := vrI X.K) R h).mono fun J H1 ⟨xs, S1, A1, wk, h1⟩ => ?_
  intro d hd
  have R1 := A1.rel
  by_cases hall : vs.all (isD S1) = true
  · rw [if_pos hall] at h1
    have R1w := R1.wipe hv
    let P : Res (List (D × D)) → Prop := fun r => Wants X.K g W (vrE X.K g) H σ S1 H1 (r.bind fun ys S2 => .ok (.fr (.dct ys)) (backL S1 vs S2)) Q
    have hb : ¬ P .bad := fun z => z
    have kp : ∀ {acc S' H'}, In3 X.K g (wipe σ vs) (wipeL vs S1) H1 d (wipe σ vs) (wipeL vs S') acc H' → Keeps H1 H' := fun I => R1w.keeps I.choose_spec.2.2.1
    refine dc_it wk (fun i H' => ∃ acc S', In3 X.K g (wipe σ vs) (wipeL vs S1) H1 d (wipe σ vs) (wipeL vs S') acc H' ∧ P (dcL tt T Kv Ev vs (xs.drop i) acc S')) ?_ ?_ ?_ ?_
    · refine ⟨[], S1, ⟨[], upd_same, .nil, (Step.refl _ _ _).upd_new hd, R1w.grow (.new hd), fun l => ?_⟩, h1⟩
      obtain ⟨u, e, _⟩ := R1w.live l
      rw [hd] at e
      cases e
    · rintro i H' _ ⟨acc, S', I, _⟩
      exact kp I
    · rintro i x H' H2 hi ⟨acc, S', I, q⟩ ⟨G2, fd⟩
      rw [drop_cons hi] at q
      have q : P (onO (tt.run xs[i] (wipeL vs S')) fun S1 => (T S1).calm fun c S2 => if c = true then (Kv S2).calm fun q S3 => (Ev S3).calm fun y S4 => if (kyOf q).isSome = true ∧ acc.length < sizeLine then dcL tt T Kv Ev vs (xs.drop (i + 1)) (dPut acc q y) S4 else .bad else dcL tt T Kv Ev vs (xs.drop (i + 1)) acc S2) := q
      have A2 := After.grow I.rel G2
      have I2 := I.after A2
      cases e : tt.run xs[i] (wipeL vs S') with
      | none => rw [e] at q; exact absurd q hb
      | some St =>
        rw [e] at q
        refine tt_step hv ho A2.rel (fd _ (by simp [hi])) e fun σ3 R3 st3 hw3 => ⟨hw3.trans (wipe_wipe σ vs), ?_⟩
        have I3 := I2.step st3 R3
        have back : ∀ {S'' : Sl} {acc' : List (D × D)} {Hx : Hp}, In3 X.K g (wipe σ vs) (wipeL vs S1) H1 d σ3 S'' acc' Hx → In3 X.K g (wipe σ vs) (wipeL vs S1) H1 d (wipe σ vs) (wipeL vs S'') acc' Hx := fun I => by
          have := I.wipe hv
          rw [hw3, wipe_wipe] at this
          exact this
        have q : P ((T St).calm fun c S2 => if c = true then (Kv S2).calm fun q S3 => (Ev S3).calm fun y S4 => if (kyOf q).isSome = true ∧ acc.length < sizeLine then dcL tt T Kv Ev vs (xs.drop (i + 1)) (dPut acc q y) S4 else .bad else dcL tt T Kv Ev vs (xs.drop (i + 1)) acc S2) := q
        refine (calm_any (vr := vrT) hb R3 q).mono fun c H4 ⟨c', S4, A4, r4, h4⟩ => ?_
        cases (show c = c' from r4)
        have I4 := I3.after A4
        cases c with
        | false =>
          rw [if_neg Bool.false_ne_true] at h4 ⊢
          exact ⟨acc, S4, back I4, h4⟩
        | true =>
          rw [if_pos rfl] at h4 ⊢
          refine (calm_any (vr := vrD X.K) hb A4.rel h4).mono fun ky H5 ⟨dk, S5, A5, r5, h5⟩ => ?_
          have I5 := I4.after A5
          refine (calm_any (vr := vrD X.K) hb A5.rel h5).mono fun v H6 ⟨dy, S6, A6, r6, h6⟩ => ?_
          have I6 := I5.after A6
          by_cases hs : (kyOf dk).isSome = true ∧ acc.length < sizeLine
          · rw [if_pos hs] at h6
            obtain ⟨k, ek⟩ := Option.isSome_iff_exists.mp hs.1
            obtain ⟨av, k1, k2, k3⟩ := I6.put hd ek r6 hs.2
            exact ⟨av, k, ky_fd r5 ek, k1, k2, dPut acc dk dy, S6, back k3, h6⟩
          · rw [if_neg hs] at h6
            exact absurd h6 hb
    · rintro H' ⟨acc, S', I, q⟩
      rw [List.drop_length] at q
      exact dc_close R1 A1.step.trk hv hall hd I q
  · rw [if_neg hall] at h1
    exact h1.elim
variable {tg iter kx vx : Expr} {pos : Pos}
theorem de_dc {ifs : List Expr} {scope : Scope} {own : List (Str × Nat)} {w : Wx} {tt : Tt} {T : Tx} {Kv Ev : Dx} (hc : X.calm = true) (hN : X.N.Nodup) (hv : ∀ i ∈ own.map (·.2), g.fx i = false) (ho : ∀ i ∈ tt.slots, i ∈ own.map (·.2)) (hi : DI X g W tg iter w) (ok : BlkOk X.N X.env.scope scope own)
    (hg : ∀ (s : Shared) (H : Hp) (C : Addr) (cl : List (Str × Addr)) (fp : List Addr), PG (X.blk s H scope (compEnvC scope cl C X.env) fp) tg (ttR X.K tt))
    (ht : ∀ (s : Shared) (H : Hp) (C : Addr) (cl : List (Str × Addr)) (fp : List Addr), PTs (X.blk s H scope (compEnvC scope cl C X.env) fp) ifs (rT X.K g W0 T))
    (hk : ∀ (s : Shared) (H : Hp) (C : Addr) (cl : List (Str × Addr)) (fp : List Addr), DD (X.blk s H scope (compEnvC scope cl C X.env) fp) g W0 kx Kv)
    (he : ∀ (s : Shared) (H : Hp) (C : Addr) (cl : List (Str × Addr)) (fp : List Addr), DD (X.blk s H scope (compEnvC scope cl C X.env) fp) g W0 vx Ev) (hs : ∀ x, foldedSetIterable iter X.env x = pure x := by intro _; rfl) :
    DE X g W (.DictComp kx vx [⟨tg, iter, ifs, 0⟩] scope pos) (eDc w tt T Kv Ev (own.map (·.2))) :=
  PE.imp (pe_dc hc hN hi ok hg ht hk he hs) fun _ _ _ h => dc_read hv ho h
end
end Fm
namespace Fm
open PySem L2
theorem de_gref {X : Cx} {g : Gh} {W : WX} {pos : Pos} {x : Str} {a : Addr} {d : D} (hg : Gl X x) (hm : X.mg x = some (.ref a)) (hf : ∀ H, FD X.K H (.ref a) d) (hd : (x == ("__debug__" : Str)) = false := by decide) : DE X g W (.Name x pos) (eC d) := de_c (pe_glob (v := .ref a) hg hm rfl hd) fun H => hf H
end Fm

/-! FmU: sorted(xs, key=f), f a def of the program. -/
namespace Fm
open PySem L2 PySem.W
open PyProof.Rows (seqObj)
section
variable {X : Cx} {pins : List (Addr × Obj)} {σ : L2.St} {H : Hp} {s : Shared} {h' : Heap}
/-- an untracked object of ours is tracked from now on, another one has changed -/
theorem adopt {a kS : Addr} {o : HO} {t' : Nat} (I : Inv X pins σ H s) (fa : FpOk X pins H a) (fk : FpOk X pins H kS) (k : ∀ b u, b ≠ a → b ≠ kS → s.heap.get? b = some u → h'.get? b = some u) (new : ObjOk X.prog X.w (upd H a o) h' a o) :
    Inv X pins σ (upd H a o) { s with heap := h', toks := t' } := by
  obtain ⟨a0, a1, a2, a3, a4, a5⟩ := fa
  obtain ⟨k0, k1, k2, k3, k4, k5⟩ := fk
  have na : ∀ b u, H b = some u → b ≠ a := fun b u e z => by rw [z, a0] at e; cases e
  have nk : ∀ b u, H b = some u → b ≠ kS := fun b u e z => by rw [z, k0] at e; cases e
  have out : ∀ {b : Addr}, b ∉ [a, kS] → b ≠ a ∧ b ≠ kS := fun {b} h => ⟨fun z => h (by simp [z]), fun z => h (by simp [z])⟩
  refine I.step (g' := s.gens) (d' := s.drawn) (ch := [a, kS]) (fun b hb => ?_) (fun b o _ _ hc e _ => k b o (out hc).1 (out hc).2 e) (fun b o _ _ hc e _ => ⟨o.slots, k b o (out hc).1 (out hc).2 e⟩) (fun b o hc _ n => by rw [upd_ne (out hc).1]; exact n)
    (fun b o hc e => ⟨o, k b o (out hc).1 (out hc).2 e⟩) (fun b xs e => by rw [upd_ne (na b _ e)]; exact e) (fun b o u e => by rw [upd_ne (na b _ e)]; exact e) (fun b ps e => ⟨#[], by rw [upd_ne (na b _ e), e]; simp⟩) (fun m hm => ?_) (fun b u e => ?_) I.bare
  · rcases (show b = a ∨ b = kS by simpa using hb) with z | z
    · subst z; exact ⟨a3, a1, a4, a5⟩
    · subst z; exact ⟨k3, k1, k4, k5⟩
  · obtain ⟨o, es, ep, ho, r⟩ := hm
    exact ⟨o, es, ep, k _ o (Ne.symm a1) (Ne.symm k1) ho, r⟩
  · by_cases hb : b = a
    · subst hb; rw [upd_same] at e; cases e; exact new
    · rw [upd_ne hb] at e
      refine (I.hok b u e).stay (fun c v hc q => ?_) (fun c q => by rw [upd_ne (na c _ q)]; exact q) fun c xs q => by rw [upd_ne (na c _ q)]; exact q
      rcases hc with z | z
      · rw [z] at q ⊢; exact k _ v (na b u e) (nk b u e) q
      · exact k c v (na c _ z) (nk c _ z) q
end
section
variable {X : Cx} {g : Gh} {W : WX} {k n : Nat} {x : Str} {st : Stmt} {ps : List Str} {F : Fn}
/-- the key of one item -/
theorem key_turn {f : Addr} {fd : FuncData} {pins : List (Addr × Obj)} {σ : L2.St} {H : Hp} {s : Shared} {u : Value} {v : V} {dx kd : D} {os : List (Option SV)} {E : Value → Shared → Prop} (Fo : FnG X.prog X.w X.K X.mg X.base g.cl k f fd ps F) (hb : Binds X.K fd ps []) (hps : ps.length = 1) (ok : Ok X W n) (hk : k + 2 ≤ n)
    (I : Inv X pins σ H s) (r : RelV v u) (fx : FD X.K H v dx) (hF : F [.d dx] = .ok (.d kd) os) :
    wpAny (model X.prog X.w) X.A.in1.in1 (PySem.call (.ref f) [u]) (EP X pins σ fun w H' => Grow H H' ∧ FD X.K H' w kd) E s := by
  have hbt := hb s [u] I.kIn (by simp [hps])
  rw [List.append_nil] at hbt
  have sp : spD X.K g.cl F [v] H (fun w H' => Grow H H' ∧ FD X.K H' w kd) fun _ _ _ => False := by
    refine ⟨[.d dx], ⟨.cons fx .nil, ?_⟩, ?_⟩
    · cases v <;> exact List.nodup_nil
    · rw [hF]
      intro w H' cs _ rr
      refine ⟨fun b o e => cs.keep b o e ?_, rr⟩
      cases v <;> exact fun z => nomatch z
  have e0 := I.env0
  refine wpAny_call (codeAny_mono (Fo.run X.A.in1.in1 X.stack s H ⟨[u], []⟩ [u] [v] _ _ (ok.room.mono hk).in1.in1 ok.gd ⟨e0.frames, e0.mod, e0.bs, e0.bsz, e0.funs, e0.frf, e0.hok, e0.bare⟩ (by simp [hps]) hbt (.cons r .nil) sp) fun r s' hq => ?_)
  cases r with
  | error e =>
    obtain ⟨a, B, H', cls, d, _, _, _, _, _, _, _, hE⟩ := hq
    exact hE.elim
  | ok fl =>
    cases fl with
    | ret u => exact I.after hq
    | next => exact hq.elim
    | brk => exact hq.elim
    | cont => exact hq.elim
theorem keysD_at {F : Fn} : ∀ {xs ks : List D}, keysD F xs = some ks → xs.length = ks.length ∧ ∀ (i : Nat) (x k : D), xs[i]? = some x → ks[i]? = some k → ∃ os, F [.d x] = .ok (.d k) os
  | [], ks, e => by cases e; exact ⟨rfl, fun i x k h => by simp at h⟩
  | x :: xs, ks, e => by
    unfold keysD at e
    cases q : F [.d x] with
    | bad => rw [q] at e; cases e
    | exc y os => rw [q] at e; cases e
    | ok v os =>
      rw [q] at e
      cases v with
      | live o => cases e
      | d k =>
        have e : (keysD F xs).map (fun ks => k :: ks) = some ks := e
        cases q2 : keysD F xs with
        | none => rw [q2] at e; cases e
        | some l =>
          rw [q2] at e
          cases e
          obtain ⟨h1, h2⟩ := keysD_at q2
          refine ⟨by simp [h1], fun i y z hy hz => ?_⟩
          cases i with
          | zero => simp at hy hz; subst hy hz; exact ⟨os, q⟩
          | succ i => exact h2 i y z (by simpa using hy) (by simpa using hz)
theorem zip3 : ∀ {vs : List V} {xs ks : List D}, vs.length = xs.length → xs.length = ks.length → (vs.zip (xs.zip ks)).map (·.1) = vs ∧ (vs.zip (xs.zip ks)).map (·.2) = xs.zip ks ∧ (vs.zip (xs.zip ks)).map (·.2.2) = ks
  | [], [], [], _, _ => ⟨rfl, rfl, rfl⟩
  | v :: vs, x :: xs, k :: ks, h1, h2 => by
    obtain ⟨a, b, c⟩ := zip3 (vs := vs) (xs := xs) (ks := ks) (by simpa using h1) (by simpa using h2)
    simp [a, b, c]
theorem fds_mem {K : PySem.W.Frag} {H : Hp} : ∀ {l : List (V × D × D)}, (∀ p ∈ l, FD K H p.1 p.2.1) → FDs K H (l.map (·.1)) (l.map (·.2.1))
  | [], _ => .nil
  | p :: l, h => .cons (h p (by simp)) (fds_mem fun q hq => h q (by simp [hq]))
theorem mem_zip3 {K : PySem.W.Frag} {H : Hp} : ∀ {vs : List V} {xs ks : List D}, FDs K H vs xs → ∀ p ∈ vs.zip (xs.zip ks), FD K H p.1 p.2.1
  | _, _, [], .cons h t, p, hp => by simp at hp
  | _, _, _, .nil, p, hp => by simp at hp
  | _, _, k :: ks, .cons h t, p, hp => by
    simp only [List.zip_cons_cons, List.mem_cons] at hp
    rcases hp with rfl | hp
    · exact h
    · exact mem_zip3 t p hp
theorem each_of : ∀ {vs : List V} {us : List Value} {zs : List (D × D)}, Vals vs us → vs.length = zs.length → EachIs (fun u (p : V × D × D) => RelV p.1 u) us (vs.zip zs)
  | _, _, [], .nil, _ => .nil
  | _, _, z :: zs, .cons r rs, h => .cons r (each_of rs (by simpa using h))
theorem vals_each : ∀ {us : List Value} {ps : List (V × D × D)}, EachIs (fun u (p : V × D × D) => RelV p.1 u) us ps → Vals (ps.map (·.1)) us
  | _, _, .nil => .nil
  | _, _, .cons r rs => .cons r (vals_each rs)
theorem ksortL_eq {vs : List V} {xs ks : List D} (h1 : vs.length = xs.length) (h2 : xs.length = ks.length) : ((vs.zip (xs.zip ks)).mergeSort (dataLe false fun p => p.2.2)).map (·.2.1) = ksortL ks xs := by
  unfold ksortL
  rw [show (fun p : V × D × D => p.2.1) = Prod.fst ∘ Prod.snd from rfl, ← List.map_map]
  rw [show ((vs.zip (xs.zip ks)).mergeSort (dataLe false fun p => p.2.2)).map Prod.snd = ((vs.zip (xs.zip ks)).map Prod.snd).mergeSort (dataLe false Prod.snd) from List.map_mergeSort fun a _ b _ => rfl]
  rw [(zip3 h1 h2).2.1]
variable {e : Expr} {Fa : Ex} {p pos kpos fpos : Pos}
end
end Fm

/-! FmV: zip, insert. -/
namespace Fm
open PySem L2 PySem.W
/-! ### zip of two lists, of two tuples -/
theorem zipL_len : ∀ xs ys : List D, (zipL xs ys).length = min xs.length ys.length
  | [], ys => by simp [zipL]
  | x :: xs, [] => by simp [zipL]
  | x :: xs, y :: ys => by simp only [zipL, List.length_cons, zipL_len xs ys]; omega
theorem zipL_get : ∀ (xs ys : List D) (i : Nat) (z : D), (zipL xs ys)[i]? = some z → ∃ x y, xs[i]? = some x ∧ ys[i]? = some y ∧ z = .tuple [x, y]
  | [], ys, i, z, h => by simp [zipL] at h
  | x :: xs, [], i, z, h => by simp [zipL] at h
  | x :: xs, y :: ys, 0, z, h => by
    simp only [zipL, List.getElem?_cons_zero] at h
    cases h
    exact ⟨x, y, rfl, rfl, rfl⟩
  | x :: xs, y :: ys, i + 1, z, h => by
    simp only [zipL, List.getElem?_cons_succ] at h
    exact zipL_get xs ys i z h
theorem walk_zipT {K : PySem.W.Frag} {a b : Addr} {xs ys : List V} {n : Nat} (hn : n = min xs.length ys.length) : Walk (RZ.ItzT K a b) n (fun H => SqT K H a xs ∧ SqT K H b ys) (YPair (fun i => xs[i]?) (fun i => ys[i]?)) := by
  subst hn
  refine ⟨fun i _ hi q => ?_, fun _ q => ⟨xs, ys, q.1, q.2, by omega⟩, fun i H v H' _ q y => ?_⟩
  · have h1 : i < xs.length := by omega
    have h2 : i < ys.length := by omega
    exact ⟨xs, ys, xs[i], ys[i], q.1, q.2, by simp [h1], by simp [h2]⟩
  · obtain ⟨T, x, z, h1, h2, h3, h4, h5⟩ := y
    exact ⟨T, x, z, h1, h2, h3, h4 xs q.1, h5 ys q.2⟩
theorem zip_at {K : PySem.W.Frag} {H0 H H' : Hp} {vs us : List V} {xs ys : List D} {i : Nat} {v : V} (f : FDs K H0 vs xs) (f2 : FDs K H0 us ys) (k : Keeps H0 H) (y : YPair (fun i => vs[i]?) (fun i => us[i]?) i H v H') :
    Grow H H' ∧ ∀ y, (zipL xs ys)[i]? = some y → FD K H' v y := by
  obtain ⟨T, x, w, rfl, hT, rfl, e1, e2⟩ := y
  have gr : Grow H (upd H T (.tup [x, w])) := .new hT
  refine ⟨gr, fun y ey => ?_⟩
  obtain ⟨x', y', ex, ey', rfl⟩ := zipL_get xs ys i y ey
  obtain ⟨x2, ex2, fd⟩ := f.get e1
  obtain ⟨y2, ey2, fd2⟩ := f2.get e2
  rw [ex] at ex2
  rw [ey'] at ey2
  cases ex2
  cases ey2
  exact .tup (.new upd_same) (.cons (fd.mono (k.trans gr.keeps)) (.cons (fd2.mono (k.trans gr.keeps)) .nil))
section
variable {X : Cx} {g : Gh} {W : WX} {e e2 : Expr} {pos p tpos : Pos} {elts : List Expr} {kk : Nat}
theorem di_zip {Fl : Lx} (hg : Gl X "zip") (hm : X.mg "zip" = none) (ha : DL X g W [e, e2] Fl) (hs : starEach [e, e2] X.env = (false, eval e X.env) :: starEach [e2] X.env := by rfl) (hpl : (backTo pos (starEach [e2] X.env)).any (·.1) = false := by rfl) :
    DI X g W (.Tuple elts kk tpos) (.Call (.Name "zip" p) [e, e2] [] pos) (wZip Fl) := by
  refine PI.imp (RZ.pi_zipA hg hm ha hs hpl) ?_
  rintro σ H Q ⟨S, R, hq⟩
  refine (Wants.at (vr := vrL X.K) R hq).mono fun vs H1 ⟨ds, S1, A1, fds, h1⟩ => ?_
  cases ez : zip2 ds with
  | none => rw [ez] at h1; exact h1.elim
  | some zs =>
    rw [ez] at h1
    have h1 : Wants X.K g W (vrI X.K) H σ S H (.ok zs S1) Q := h1
    match ds, fds, ez with
    | [.list xs, .list ys], .cons f1 (.cons f2 .nil), ez =>
      cases ez
      cases f1 with
      | lst q1 f1 =>
        cases f2 with
        | lst q2 f2 =>
          refine ⟨_, _, _, _, rfl, .inl ⟨.inl (.inr ⟨_, q1⟩), .inl (.inr ⟨_, q2⟩), h1 _ _ A1 ?_⟩⟩
          show L2.Walk _ _ _ _
          rw [zipL_len, ← f1.length, ← f2.length]
          exact (walk_zip rfl).mono (fun H k => ⟨.inl (.inr ⟨_, k.frz _ _ _ q1⟩), .inl (.inr ⟨_, k.frz _ _ _ q2⟩)⟩) fun i H x H' _ k y => zip_at f1 f2 k y
    | [.tuple xs, .tuple ys], .cons f1 (.cons f2 .nil), ez =>
      cases ez
      cases f1 with
      | tup q1 f1 =>
        cases f2 with
        | tup q2 f2 =>
          refine ⟨_, _, _, _, rfl, .inr ⟨q1.1, q2.1, h1 _ _ A1 ?_⟩⟩
          show L2.Walk _ _ _ _
          rw [zipL_len, ← f1.length, ← f2.length]
          exact (walk_zipT rfl).mono (fun H k => ⟨k.sqT q1.1, k.sqT q2.1⟩) fun i H x H' _ k y => zip_at f1 f2 k y
end
/-! ### xs.insert(i, y) -/
section
variable {X : Cx} {g : Gh} {W : WX}
theorem mo_insert : MutOk X insertL (fun x vs H Q => ∃ (l : Addr) (xs : List V) (i : Int) (y : V), x = .ref l ∧ vs = [.int i, y] ∧ H l = some (.lst xs) ∧ xs.length < sizeLine ∧ 0 ≤ i ∧ i < 2 ^ 63 ∧
    Q .non (upd H l (.lst (xs.take i.toNat ++ [y] ++ xs.drop i.toNat)))) := by
  intro c vs us xs ds xs' y H Q hc fs fu e k
  match ds, fu, e with
  | [.int i, d], .cons f1 (.cons f2 .nil), e =>
    cases f1
    have e : (if (decide (xs.length < sizeLine) && decide (0 ≤ i) && decide (i < 2 ^ 63)) = true then some (xs.take i.toNat ++ [d] ++ xs.drop i.toNat, PyData.none) else none) = some (xs', y) := e
    by_cases z : (decide (xs.length < sizeLine) && decide (0 ≤ i) && decide (i < 2 ^ 63)) = true
    · rw [if_pos z] at e
      cases e
      simp only [Bool.and_eq_true, decide_eq_true_eq] at z
      exact ⟨c, vs, i, _, rfl, rfl, hc, by rw [fs.length]; exact z.1.1, z.1.2, z.2, k _ _ (((fs.take _).append (.cons f2 .nil)).append (fs.drop _)) .non⟩
    · rw [if_neg z] at e; cases e
variable {o e' : Expr} {es : List Expr} {i : Nat} {Fl : Lx} {apos cpos : Pos}
theorem de_insert (ho : DE X g W o (eVar i)) (ha : DL X g W (e' :: es) Fl) (hbase : attributeBase o "insert" X.env (eval o X.env) = eval o X.env := by rfl)
    (hfew : ((backTo cpos (starEach (e' :: es) X.env)).all (fun x => !x.1) && (backToKw cpos (keywordEach [] X.env)).all (fun x => x.1.isSome)
      && decide ((e' :: es).length + ([] : List Keyword).length + (if ([] : List Keyword).isEmpty then 0 else 1) < 30)) = true := by rfl)
    (hline : (apos.endLine == cpos.line) = true := by rfl) (hs : starEach (e' :: es) X.env = (false, eval e' X.env) :: starEach es X.env := by rfl) (hplain : (backTo cpos (starEach es X.env)).any (·.1) = false := by rfl) :
    DE X g W (.Call (.Attribute o "insert" apos) (e' :: es) [] cpos) (eMut insertL i Fl) :=
  PE.imp (pe_bm F.plainAttrs_list F.slot_list_insert F.type_list_insert mt_insert ho ha hbase hfew hline hs hplain) fun _ _ _ h => mut_read mo_insert h
end
end Fm

/-! FmW: more constructs, plainly: len(set(xs)) of equal ints, tuple(range(i, j, c)) of constants, x += c, f-strings of texts. -/
namespace Fm
open PySem
def stepD (acc : List Int) (x : Int) : List Int := if acc.any (· == x) then acc else acc ++ [x]
/-- the different ones, in order -/
def dst (ns : List Int) : List Int := ns.foldl stepD []
def lenSetD : D → Option RV
  | .tuple xs => (intsD xs).bind fun is => if is.length ≤ 1000 then iD ((dst is).length : Nat) else none
  | .list xs => (intsD xs).bind fun is => if is.length ≤ 1000 then iD ((dst is).length : Nat) else none
  | _ => none
def stepS (acc : List Str) (x : Str) : List Str := if acc.any (· == x) then acc else acc ++ [x]
def dstS (xs : List Str) : List Str := xs.foldl stepS []
/-- len(set(xs)), xs a list of texts -/
def lenSetSD : D → Option RV
  | .list xs => (strsD xs).bind fun ss => if ss.length ≤ 1000 then iD ((dstS ss).length : Nat) else none
  | _ => none
/-- s.strip(t) -/
def cutLo (p : Nat → Bool) (l : List Nat) : Nat := (l.takeWhile p).length
def cutHi (p : Nat → Bool) (l : List Nat) : Nat := l.length - ((l.drop (cutLo p l)).reverse.takeWhile p).length
def cutBoth (p : Nat → Bool) (l : List Nat) : List Nat := (l.drop (cutLo p l)).take (cutHi p l - cutLo p l)
def stripD : D → D → Option RV
  | .str a, .str b => if fits a.length = true then some (.d (.str ⟨(cutBoth (fun c => b.cps.toList.contains c) a.cps.toList).toArray⟩)) else none
  | _, _ => none
/-- str(t) of a tuple -/
def strD : D → Option RV
  | .tuple xs => reprD (.tuple xs)
  | _ => none
/-- s.upper(), s in ASCII -/
def upC (c : Nat) : Nat := if 97 ≤ c ∧ c ≤ 122 then c - 32 else c
def upperD : D → Option RV
  | .str s => if (s.cps.toList.all (fun c => decide (c < 128)) && decide (s.length ≤ 1000)) = true then some (.d (.str ⟨s.cps.map upC⟩)) else none
  | _ => none
/-- t[::-1] of a tuple -/
def revTD : D → Option RV
  | .tuple xs => some (.d (.tuple xs.reverse))
  | _ => none
def rgL3 (i c : Int) (n : Nat) : List D := (List.range n).map fun k => .int (i + (k : Nat) * c)
def eRg3 (i c : Int) (n : Nat) : Ex := fun S => .ok (.d (.tuple (rgL3 i c n))) S
def sAugI (i : Nat) (c : Int) : Sx := sSet i (eOp addD (eVar i) (eC (.int c)))
/-- a text that is not too long -/
def txD (a : Dx) : Dx := fun S => (a S).bind fun d S1 => match d with
  | .str s => if fits s.length = true then .ok (.str s) S1 else .bad
  | _ => .bad
def fsL : List Dx → Str → Sl → Res Str
  | [], acc, S => .ok acc S
  | a :: r, acc, S => (a S).bind fun d S1 => match d with
    | .str s => if fits ((acc ++ s).length) = true then fsL r (acc ++ s) S1 else .bad
    | _ => .bad
def eFs (l : List Dx) : Ex := fun S => (fsL l Str.empty S).bind fun s S1 => .ok (.d (.str s)) S1
/-! dicts by tuples of ints -/
def eDctT : Ex := fun S => .ok (.fr (.dtt [])) S
def tdOf (S : Sl) : RV → Option (List (List Ky × D))
  | .br i => (match at? S i with
    | some (.live (.dtt ds)) => some ds
    | _ => none)
  | _ => none
/-- d.get(k, x) -/
def eGetT (o : Ex) (k f : Dx) : Ex := fun S => (o S).bind fun x S1 => onO (tdOf S1 x) fun _ => (k S1).bind fun y S2 => (f S2).bind fun z S3 => give S3 ((tdOf S3 x).bind fun ds => getT ds y z)
/-! dict comprehensions of two clauses -/
def dcL2 (g : Tt) (t : Tx) (w1 : Wx) (g1 : Tt) (t1 : Tx) (k e : Dx) (vs vs1 : List Nat) : List D → List (D × D) → Sl → Res (List (D × D))
  | [], acc, S => .ok acc S
  | x :: xs, acc, S => onO (g.run x (wipeL vs S)) fun S1 => (t S1).calm fun c S2 => if c = true then
      (w1 S2).calm fun ys S3 => (dcL g1 t1 k e vs1 ys acc S3).calm fun acc2 S4 => dcL2 g t w1 g1 t1 k e vs vs1 xs acc2 S4
    else dcL2 g t w1 g1 t1 k e vs vs1 xs acc S2
def eDc2 (w : Wx) (g : Tt) (t : Tx) (w1 : Wx) (g1 : Tt) (t1 : Tx) (k e : Dx) (vs vs1 : List Nat) : Ex := fun S => (w S).bind fun xs S1 =>
  if vs.all (isD S1) then (dcL2 g t w1 g1 t1 k e vs vs1 xs [] S1).bind fun ys S2 => .ok (.fr (.dct ys)) (backL S1 vs S2) else .bad
end Fm

/-! FmX: the rules for FmW. -/
namespace HTR
open PySem PyProof.Rows
section
variable {prog : Program} {w : World} {A : Around} {E : Value → Shared → Prop} {s : Shared}
theorem adjust_rev (n : Nat) : Builtin.Slice.sliceAdjust none none (-1) (n : Int) = ((n : Int) - 1, -1) := rfl
theorem places_rev (n : Nat) : Builtin.Slice.slicePlaces ((n : Int) - 1) (-1) (-1) = n := by
  unfold Builtin.Slice.slicePlaces
  have h1 : ¬ ((-1 : Int) > 0) := by decide
  simp only [h1, if_false]
  by_cases h : (n : Int) - 1 > -1
  · simp only [h, if_true]
    rw [show (- -1 : Int) = 1 by decide, Int.ediv_one]
    omega
  · simp only [h, if_false]
    omega
theorem sliceApplied_rev {sl : Addr} {vl vu vs : Value} {n : Nat} {Q : Int × Int × Nat → Shared → Prop} (hs : s.heap.IsSliceOf sl vl vu vs) (pl : IsPart vl none) (pu : IsPart vu none) (ps : IsPart vs (some (-1)))
    (h : Q ((n : Int) - 1, -1, n) s) : wpAny (model prog w) A (Builtin.Slice.sliceApplied (.ref sl) (pure (n : Int))) Q E s := by
  obtain ⟨os, hos, hcs, hds⟩ := id hs
  unfold Builtin.Slice.sliceApplied Builtin.Slice.sliceFields
  refine wpAny_bind (wpAny_bind (wpAny_field hos hds (x := vl) rfl (wpAny_bind (wpAny_field hos hds (x := vu) rfl (wpAny_bind (wpAny_field hos hds (x := vs) rfl (wpAny_pure ?_)))))))
  refine wpAny_bind (HT.slicePart_ ps ?_)
  show wpAny _ _ (if ((-1 : Int) == 0) = true then _ else _) _ _ s
  rw [if_neg (by decide)]
  refine wpAny_bind (HT.slicePart_ pl (wpAny_bind (HT.slicePart_ pu (wpAny_bind (wpAny_pure ?_)))))
  show wpAny _ _ (match Builtin.Slice.sliceAdjust none none (-1) (n : Int) with | (lo, hi) => pure (lo, (-1 : Int), Builtin.Slice.slicePlaces lo hi (-1))) _ _ s
  rw [adjust_rev n]
  show wpAny _ _ (pure ((n : Int) - 1, (-1 : Int), Builtin.Slice.slicePlaces ((n : Int) - 1) (-1) (-1))) _ _ s
  rw [places_rev]
  exact wpAny_pure h
theorem fmap_congr {α β : Type} {f g : α → Option β} : ∀ {l : List α}, (∀ a ∈ l, f a = g a) → l.filterMap f = l.filterMap g
  | [], _ => rfl
  | a :: l, h => by rw [List.filterMap_cons, List.filterMap_cons, h a (by simp), fmap_congr fun b hb => h b (by simp [hb])]
theorem pick_rev (xs : Array Value) : ((List.range xs.size).filterMap fun (m : Nat) => xs[(((xs.size : Int) - 1) + (m : Int) * (-1)).toNat]?).toArray = xs.toList.reverse.toArray := by
  have e : ((List.range xs.size).filterMap fun (m : Nat) => xs[(((xs.size : Int) - 1) + (m : Int) * (-1)).toNat]?) = ((List.range xs.size).map fun k => xs.size - 1 - k).filterMap (xs[·]?) := by
    rw [List.filterMap_map]
    refine fmap_congr fun m hm => ?_
    have := List.mem_range.mp hm
    show _ = xs[xs.size - 1 - m]?
    rw [show (((xs.size : Int) - 1) + (m : Int) * (-1)).toNat = xs.size - 1 - m by omega]
  rw [e, PySem.W.krv_range, List.filterMap_reverse, PySem.W.krv_all]
theorem getItem_tuple_rev {t sl : Addr} {items : Array Value} {vl vu vs : Value} {Q : Value → Shared → Prop} (ht : IsTup s.heap t items) (hs : s.heap.IsSliceOf sl vl vu vs) (pl : IsPart vl none) (pu : IsPart vu none) (ps : IsPart vs (some (-1)))
    (h : Q (.ref s.heap.objs.size) { s with heap := s.heap.push { cls := .type "tuple", data := .seq items.toList.reverse.toArray } })
    (hsz : items.size ≤ sizeLine) : wpAny (model prog w) A (getItem (.ref t) (.ref sl)) Q E s := by
  have htake : sizeOk (.seq items.toList.reverse.toArray) := by
    show items.toList.reverse.toArray.size ≤ sizeLine
    rw [List.size_toArray, List.length_reverse, Array.length_toList]
    exact hsz
  obtain ⟨os, hos, hcs, hds⟩ := id hs
  have hTs : s.TypeIs (.ref sl) "slice" := ⟨os, hos, hcs⟩
  unfold getItem
  try with_reducible refine wpAny_holding ?_
  first | refine wpAny_bind (wpAny_pure ?_) | skip
  refine wpAny_bind (wpAny_sequenceKey ht.typeIs (by decide) ?_)
  refine wpAny_bind (wpAny_callSpecial?_slot (name := Str.ofString "__getitem__") ht.typeIs PyProof.Rows.slot_tuple_getitem
    (wpAny_call_entry PyProof.Rows.slot_tuple_getitem ht.typeIs entry_tuple_getitem ?_ (args_tuple_getitem _ _)))
  show wpAny _ _ (Builtin.Tuple.tupleItemsOf (.ref t) >>= _) _ _ s
  refine wpAny_bind (tupleItemsOf_ ht ?_)
  refine wpAny_bind (wpAny_typeOf hTs ?_)
  rw [if_pos (by decide)]
  refine wpAny_bind (sliceApplied_rev hs pl pu ps ?_)
  have hno : ¬ ((((items.size : Int) - 1) == 0 && (-1 : Int) == 1 && items.size == items.size) = true) := by
    intro q
    rw [Bool.and_eq_true, Bool.and_eq_true] at q
    exact absurd q.1.2 (by decide)
  show wpAny _ _ (if (((items.size : Int) - 1) == 0 && (-1 : Int) == 1 && items.size == items.size) = true then _ else _) _ _ s
  rw [if_neg hno, pick_rev]
  first
    | exact wpAny_bind (m := Builtin.Tuple.tupleExact _) (wpAny_newObj_type (wpAny_pure ⟨_, rfl, wpAny_pure h⟩) htake)
    | exact wpAny_bind (m := Builtin.Tuple.tupleExact _) (wpAny_newObj_type (wpAny_bind (wpAny_pure (wpAny_pure ⟨_, rfl, wpAny_pure h⟩))) htake)
    | exact wpAny_bind (wpAny_bind (m := Builtin.Tuple.tupleExact _) (wpAny_newObj_type (wpAny_pure (wpAny_pure ⟨_, rfl, wpAny_pure h⟩)) htake))
    | exact wpAny_bind (wpAny_bind (m := Builtin.Tuple.tupleExact _) (wpAny_newObj_type (wpAny_pure ⟨_, rfl, wpAny_pure h⟩) htake))
end
end HTR
namespace Fm
open PySem L2 PySem.W
section
variable {X : Cx} {g : Gh} {W : WX} {a : Expr} {Fa : Ex} {pos p p2 q : Pos}
/-! ### len(set(xs)), xs a tuple or a list of ints -/
theorem dst_step {acc : List Int} {x : Int} (h : acc.Nodup) : (stepD acc x).Nodup ∧ ∀ k, k ∈ stepD acc x ↔ k ∈ acc ∨ k = x := by
  unfold stepD
  by_cases z : acc.any (· == x) = true
  · rw [if_pos z]
    have z : x ∈ acc := by simpa using z
    exact ⟨h, fun k => ⟨.inl, fun q => q.elim id fun e => e ▸ z⟩⟩
  · rw [if_neg z]
    have z : x ∉ acc := by simpa using z
    refine ⟨List.nodup_append.mpr ⟨h, by simp, fun a ha b hb e => ?_⟩, fun k => by simp⟩
    rw [List.mem_singleton] at hb
    subst e hb
    exact z ha
theorem dst_go : ∀ (ns acc : List Int), acc.Nodup → (ns.foldl stepD acc).Nodup ∧ ∀ k, k ∈ ns.foldl stepD acc ↔ k ∈ acc ∨ k ∈ ns
  | [], acc, h => ⟨h, fun k => by simp⟩
  | x :: r, acc, h => by
    obtain ⟨h1, h2⟩ := dst_step (x := x) h
    obtain ⟨h3, h4⟩ := dst_go r _ h1
    refine ⟨h3, fun k => ?_⟩
    rw [List.foldl_cons, h4, h2, List.mem_cons, or_assoc]
theorem dst_nodup (ns : List Int) : (dst ns).Nodup := (dst_go ns [] List.nodup_nil).1
theorem dst_mem (ns : List Int) (k : Int) : k ∈ dst ns ↔ k ∈ ns := by
  have := (dst_go ns [] List.nodup_nil).2 k
  simpa [dst] using this
theorem dst_le (ns : List Int) : (dst ns).length ≤ ns.length := by
  have : ∀ (ns acc : List Int), (ns.foldl stepD acc).length ≤ acc.length + ns.length := by
    intro ns
    induction ns with
    | nil => intro acc; simp
    | cons x r ih =>
      intro acc
      have h := ih (stepD acc x)
      have : (stepD acc x).length ≤ acc.length + 1 := by unfold stepD; split <;> simp
      rw [List.foldl_cons, List.length_cons]
      omega
  have := this ns []
  simpa [dst] using this
theorem firstMet_dst (ns : List Int) : ∀ i, i ≤ ns.length → PyProof.Rows.firstMet (fun i => ns.getD i 0) i = dst (ns.take i)
  | 0, _ => by rw [PyProof.Rows.firstMet_zero]; rfl
  | i + 1, h => by
    rw [PyProof.Rows.firstMet_succ, firstMet_dst ns i (by omega), List.take_add_one, List.getElem?_eq_getElem (by omega)]
    show _ = dst (ns.take i ++ [ns[i]])
    unfold dst
    rw [List.foldl_append, List.getD_eq_getElem?_getD, List.getElem?_eq_getElem (by omega)]
    rfl
def tLenSetN (K : PySem.W.Frag) (ta : TE) : TE := fun σ H Q => ta σ H fun x H1 => ∃ (l : Addr) (ns : List Int), x = .ref l ∧ (SqT K H1 l (ns.map V.int) ∨ SqL K H1 l (ns.map V.int)) ∧ ns.length ≤ 1000 ∧ Q (.int ((dst ns).length : Nat)) H1
theorem pe_lenSetN {ta : TE} (hc : X.calm = true) (hg : Gl X "len") (hm : X.mg "len" = none) (hg2 : Gl X "set") (hm2 : X.mg "set" = none) (ha : PE X a ta)
    (na : starEach [a] X.env = (false, eval a X.env) :: starEach [] X.env := by rfl) : PE X (.Call (.Name "len" p) [.Call (.Name "set" p2) [a] [] q] [] pos) (tLenSetN X.K ta) := by
  refine ⟨fun pins s σ H Q I h => ?_⟩
  refine PyProof.Rows.Call_ (ld_blt I hg hm PySem.boot_len ?_)
  refine PyProof.Rows.callWith_builtin1 (PyProof.Rows.args_cons ?_ rfl) rfl rfl
  refine PyProof.Rows.Call_ (ld_blt I hg2 hm2 PyProof.Rows.boot_set ?_)
  refine PyProof.Rows.callWith_type1 (PyProof.Rows.args_cons (thn (ha.run pins s σ H _ I h) fun v s1 ⟨x, H1, I1, r1, q1⟩ => PyProof.Rows.args_nil ?_) na) na rfl
  obtain ⟨l, ns, rfl, hq, hn, q1⟩ := q1
  cases r1
  rcases hq with hq | hq
  · obtain ⟨its, r, pl, hz⟩ := I1.tuple hq
    refine call_set_tupI ns (I1.ok.hd hc) pl (by simpa using r.ints) (by unfold scanBound; omega) fun h' tk c hS hcl hk => ?_
    refine PyProof.Rows.args_nil ?_
    obtain ⟨o, es, ep, t, ho, hex, hd, _, hnd, hmem, _, hf, hsz, _⟩ := hS
    have I2 : Inv X pins σ H1 { s1 with heap := h', toks := tk } := I1.kept hk
    have h1 : es.size = (dst ns).length := by
      have hp : (es.toList.map keyOf).Perm (dst ns) := (List.perm_ext_iff_of_nodup hnd (dst_nodup ns)).mpr fun k => by
        rw [dst_mem, ← hmem k, decide_eq_true_eq]
      have := hp.length_eq
      rw [List.length_map, Array.length_toList] at this
      exact this
    have hle := dst_le ns
    exact call_len_set ho hex hd hf (by rw [h1]; omega) ⟨.int ((dst ns).length : Nat), H1, I2.tok _, ⟨_, by rw [h1]⟩, q1⟩
  · obtain ⟨its, r, pl, hz⟩ := I1.list hq
    have hlen : its.toArray.size = ns.length := by rw [List.size_toArray, ← r.length, List.length_map]
    refine call_set_list (I1.ok.hd hc) pl.isList (by simpa using r.ints) (by rw [hlen]; unfold scanBound; omega) fun h' tk hS hk => ?_
    refine PyProof.Rows.args_nil ?_
    rw [hlen, firstMet_dst ns ns.length (Nat.le_refl _), List.take_length] at hS
    obtain ⟨o, es, ep, t, ho, hex, hd, _, _, _, hf, hn2⟩ := hS
    have I2 : Inv X pins σ H1 { s1 with heap := h', toks := tk } := I1.kept fun b o e => hk b o (Heap.lt_size e) e
    have hle := dst_le ns
    exact call_len_set ho hex hd hf (by rw [hn2]; omega) ⟨.int ((dst ns).length : Nat), H1, I2.tok _, ⟨_, by rw [hn2]⟩, q1⟩
theorem ints_fds {K : PySem.W.Frag} {H : Hp} : ∀ {xs : List D} {is : List Int} {vs : List V}, intsD xs = some is → FDs K H vs xs → vs = is.map V.int
  | [], is, _, h, .nil => by cases h; rfl
  | x :: xs, is, _, h, .cons f fs => by
    cases x with
    | int j =>
      have h : (intsD xs).map (fun is => j :: is) = some is := h
      cases q : intsD xs with
      | none => rw [q] at h; cases h
      | some js =>
        rw [q] at h
        cases h
        cases f
        rw [ints_fds q fs]
        rfl
    | _ => cases h
theorem de_lenset (hc : X.calm = true) (hg : Gl X "len") (hm : X.mg "len" = none) (hg2 : Gl X "set") (hm2 : X.mg "set" = none) (ha : DE X g W a Fa)
    (na : starEach [a] X.env = (false, eval a X.env) :: starEach [] X.env := by rfl) : DE X g W (.Call (.Name "len" p) [.Call (.Name "set" p2) [a] [] q] [] pos) (eUn lenSetD Fa) := by
  refine PE.imp (pe_lenSetN hc hg hm hg2 hm2 ha na) ?_
  rintro σ H Q ⟨S, R, h⟩
  refine (Wants.step R h).mono fun x H1 ⟨vx, S1, A1, r1, h1⟩ => ?_
  cases e1 : view S1 vx with
  | none => rw [e1] at h1; exact h1.elim
  | some dx =>
    rw [e1] at h1
    have td := r1.1.td A1.rel e1
    have h1 : Wants X.K g W (vrE X.K g) H σ S1 H1 (give S1 (lenSetD dx)) Q := h1
    have go : ∀ {xs : List D} {f : List D → D}, lenSetD (f xs) = ((intsD xs).bind fun is => if is.length ≤ 1000 then iD ((dst is).length : Nat) else none) → Wants X.K g W (vrE X.K g) H σ S1 H1 (give S1 (lenSetD (f xs))) Q → ∃ is, intsD xs = some is ∧ is.length ≤ 1000 ∧ Q (.int ((dst is).length : Nat)) H1 := fun {xs f} e h1 => by
      rw [e] at h1
      cases q : intsD xs with
      | none => rw [q] at h1; exact h1.elim
      | some is =>
        rw [q] at h1
        have h1 : Wants X.K g W (vrE X.K g) H σ S1 H1 (give S1 (if is.length ≤ 1000 then iD ((dst is).length : Nat) else none)) Q := h1
        by_cases z : is.length ≤ 1000
        · rw [if_pos z] at h1
          have Y := Wants.yields (rv := .d (.int ((dst is).length : Nat))) A1.rel A1.step.trk h1
          exact ⟨is, rfl, z, Y.same (.int _)⟩
        · rw [if_neg z] at h1
          exact h1.elim
    cases dx with
    | tuple xs =>
      obtain ⟨is, q, z, Y⟩ := go (f := .tuple) rfl h1
      obtain ⟨p, vs, rfl, hp, f⟩ := td.tup
      rw [ints_fds q f] at hp
      exact ⟨p, is, rfl, .inl hp, z, Y⟩
    | list xs =>
      obtain ⟨is, q, z, Y⟩ := go (f := .list) rfl h1
      obtain ⟨p, vs, rfl, hp, f⟩ := td.lst
      rw [ints_fds q f] at hp
      exact ⟨p, is, rfl, .inr (.inl hp), z, Y⟩
    | _ => exact h1.elim
/-! ### str(t) of a tuple -/
/-! ### s.upper() -/
theorem de_upper {apos : Pos} (ha : DE X g W a Fa) (hbase : attributeBase a "upper" X.env (eval a X.env) = eval a X.env := by rfl) (hline : (apos.endLine == pos.line) = true := by rfl) :
    DE X g W (.Call (.Attribute a "upper" apos) [] [] pos) (eUn upperD Fa) := by
  refine PE.imp (pe_upper ha hbase hline) ?_
  rintro σ H Q ⟨S, R, h⟩
  refine (Wants.step R h).mono fun x H1 ⟨vx, S1, A1, r1, h1⟩ => ?_
  cases e1 : view S1 vx with
  | none => rw [e1] at h1; exact h1.elim
  | some dx =>
    rw [e1] at h1
    have td := r1.1.td A1.rel e1
    have h1 : Wants X.K g W (vrE X.K g) H σ S1 H1 (give S1 (upperD dx)) Q := h1
    cases dx with
    | str z =>
      have h1 : Wants X.K g W (vrE X.K g) H σ S1 H1 (give S1 (if (z.cps.toList.all (fun c => decide (c < 128)) && decide (z.length ≤ 1000)) = true then some (.d (.str ⟨z.cps.map upC⟩)) else none)) Q := h1
      by_cases hz : (z.cps.toList.all (fun c => decide (c < 128)) && decide (z.length ≤ 1000)) = true
      · rw [if_pos hz] at h1
        rw [Bool.and_eq_true, decide_eq_true_eq] at hz
        have Y := Wants.yields (rv := .d (.str ⟨z.cps.map upC⟩)) A1.rel A1.step.trk h1
        cases td.str
        have hu : Txt.upper z = ⟨z.cps.map upC⟩ := PyProof.Rows.upper_ascii fun c hc => of_decide_eq_true (List.all_eq_true.mp hz.1 c hc)
        refine ⟨⟨z, rfl⟩, z, rfl, rfl, by omega, ?_⟩
        rw [hu]
        exact Y.same (.str _)
      · rw [if_neg hz] at h1
        exact h1.elim
    | _ => exact h1.elim
/-! ### tuple(range(i, j, c)) -/
theorem de_rg3 {i j c : Int} {n : Nat} {k1 k2 k3 : Nat} {p3 p4 p5 : Pos} (hc : X.calm = true) (hg : Gl X "tuple") (hm : X.mg "tuple" = none) (hg2 : Gl X "range") (hm2 : X.mg "range" = none) (hr : RgC i j c n) (hn : n ≤ 1000)
    (na : starEach [.Call (.Name "range" p2) [.Constant (.int i) k1 p3, .Constant (.int j) k2 p4, .Constant (.int c) k3 p5] [] q] X.env = (false, eval (.Call (.Name "range" p2) [.Constant (.int i) k1 p3, .Constant (.int j) k2 p4, .Constant (.int c) k3 p5] [] q) X.env) :: starEach [] X.env := by rfl)
    (n1 : starEach [.Constant (.int i) k1 p3, .Constant (.int j) k2 p4, .Constant (.int c) k3 p5] X.env = (false, eval (.Constant (.int i) k1 p3) X.env) :: starEach [.Constant (.int j) k2 p4, .Constant (.int c) k3 p5] X.env := by rfl)
    (n2 : starEach [.Constant (.int j) k2 p4, .Constant (.int c) k3 p5] X.env = (false, eval (.Constant (.int j) k2 p4) X.env) :: starEach [.Constant (.int c) k3 p5] X.env := by rfl)
    (n3 : starEach [.Constant (.int c) k3 p5] X.env = (false, eval (.Constant (.int c) k3 p5) X.env) :: starEach [] X.env := by rfl)
    (hpl : (backTo q (starEach [.Constant (.int j) k2 p4, .Constant (.int c) k3 p5] X.env)).any (·.1) = false := by rfl) :
    DE X g W (.Call (.Name "tuple" p) [.Call (.Name "range" p2) [.Constant (.int i) k1 p3, .Constant (.int j) k2 p4, .Constant (.int c) k3 p5] [] q] [] pos) (eRg3 i c n) := by
  refine ⟨fun pins s σ H Q I h => ?_⟩
  obtain ⟨S, R, h⟩ := h
  obtain ⟨c0, c1, c2, c3⟩ := hr
  refine PyProof.Rows.Call_ (ld_blt I hg hm PyProof.Rows.boot_tuple (PyProof.Rows.callWith_type1 (PyProof.Rows.args_cons ?_ na) na))
  refine PyProof.Rows.Call_ (ld_blt I hg2 hm2 PyProof.Rows.boot_range (PyProof.Rows.callWith_type1 (PyProof.Rows.args_cons (thn (pe_int.run pins s σ H (fun x H1 => x = .int i ∧ H1 = H) I ⟨rfl, rfl⟩) fun v s1 ⟨x, H1, I1, r1, ex, eh⟩ => ?_) n1) n1 hpl))
  subst ex eh
  refine PyProof.Rows.args_cons (thn (pe_int.run pins s1 σ H1 (fun x H2 => x = .int j ∧ H2 = H1) I1 ⟨rfl, rfl⟩) fun v2 s2 ⟨x, H2, I2, r2, ex, eh⟩ => ?_) n2
  subst ex eh
  refine PyProof.Rows.args_cons (thn (pe_int.run pins s2 σ H2 (fun x H3 => x = .int c ∧ H3 = H2) I2 ⟨rfl, rfl⟩) fun v3 s3 ⟨x, H3, I3, r3, ex, eh⟩ => PyProof.Rows.args_nil ?_) n3
  subst ex eh
  obtain ⟨t1, rfl⟩ := r1
  obtain ⟨t2, rfl⟩ := r2
  obtain ⟨t3, rfl⟩ := r3
  refine call_range_3 c0 ?_ (.inl (PyProof.noPylong_small c1))
  refine PyProof.Rows.args_nil ?_
  have I4 : Inv X pins σ H3 { s3 with heap := s3.heap.push { cls := .type "range", data := .fields #[.int i t1, .int j t2, .int c t3] } } := I3.kept (t' := s3.toks) fun b o e => Heap.get?_push_of_some _ e
  refine call_tuple_range (n := n) (I4.ok.hd hc) (IsRange.new ..) c2 c3 (by omega) fun h' tk acc hk hi => ?_
  have I5 : Inv X pins σ H3 { s3 with heap := h', toks := tk } := I4.kept hk
  have hv : Vals ((List.range acc.toList.length).map fun k => V.int (i + (k : Nat) * c)) acc.toList := vals_of_get acc.toList _ fun k u hu => by
    obtain ⟨t, rfl⟩ := hi.2 k u (by rw [← hu, Array.getElem?_toList])
    exact ⟨t, rfl⟩
  have hl : acc.toList.length = n := by rw [Array.length_toList]; exact hi.1
  rw [hl] at hv
  have fresh := I5.hok.fresh (Nat.le_refl h'.objs.size)
  refine ⟨.ref h'.objs.size, upd H3 h'.objs.size (.tup ((List.range n).map fun k => V.int (i + (k : Nat) * c))), I5.laid (t' := tk) (fun c o e => Heap.get?_push_of_some _ e) (Nat.le_refl _) (show ObjOk X.prog X.w _ _ _ (.tup _) from ⟨?_, acc.toList, hv, ?_⟩), rfl, ?_⟩
  · rw [List.length_map, List.length_range, sizeLine_eq]; omega
  · rw [Array.toArray_toList]; exact PyProof.Rows.IsTup.new _ _
  · have Y : Yields X.K H3 (.d (.tuple (rgL3 i c n))) Q := Wants.yields R (fun b e => e) h
    refine Y.tup fresh ?_
    unfold rgL3
    generalize List.range n = l
    induction l with
    | nil => exact .nil
    | cons x l ih => exact .cons (.int _) ih
/-! ### t[::-1] of a tuple -/
def tRevT (K : PySem.W.Frag) (te : TE) : TE := fun σ H Q => te σ H fun x H1 => ∃ a xs, x = .ref a ∧ SqT K H1 a xs ∧ ∀ p, H1 p = none → Q (.ref p) (upd H1 p (.tup xs.reverse))
theorem pe_revT {e : Expr} {te : TE} {k : Nat} {p1 p2 p3 pos : Pos} (he : PE X e te) : PE X (.Subscript e (.Slice none none (some (.UnaryOp .USub (.Constant (.int 1) k p1) p2)) p3) pos) (tRevT X.K te) := by
  refine ⟨fun pins s σ H Q I h => ?_⟩
  refine PyProof.Rows.Subscript_ (thn (he.run pins s σ H _ I h) fun v s1 ⟨x, H1, I1, r1, q1⟩ => ?_)
  obtain ⟨a, xs, ex, hx, q⟩ := q1
  subst ex
  cases r1
  have hst : PO X (some (.UnaryOp .USub (.Constant (.int 1) k p1) p2)) (tPart (tUn (rU fun i => .int (-i)) (tC (.int 1)))) := po_some (pe_un un_neg pe_int)
  refine wpAny_Slice (thn (po_none.run pins s1 σ H1 (fun o H2 => o = none ∧ H2 = H1) I1 ⟨rfl, rfl⟩) fun vl s2 ⟨l, H2, I2, pl, el, e2⟩ => ?_)
  subst el e2
  refine thn (po_none.run pins s2 σ H2 (fun o H3 => o = none ∧ H3 = H2) I2 ⟨rfl, rfl⟩) fun vu s3 ⟨u, H3, I3, pu, eu, e3⟩ => ?_
  subst eu e3
  refine thn (hst.run pins s3 σ H3 (fun o H4 => o = some (-1) ∧ H4 = H3) I3 ⟨1, rfl, -1, rfl, rfl, rfl⟩) fun vs s4 ⟨o, H4, I4, ps, eo, e4⟩ => ?_
  subst eo e4
  have I5 : Inv X pins σ H4 { s4 with heap := s4.heap.push { cls := .type "slice", data := .fields #[vl, vu, vs] } } := I4.kept (t' := s4.toks) fun b ob q => Heap.get?_push_of_some _ q
  obtain ⟨its, r, ht, hz⟩ := I5.tuple hx
  have hlen := r.length
  show wpAny (model X.prog X.w) X.A (PyProof.Rows.subscriptTail e (.Slice none none (some (.UnaryOp .USub (.Constant (.int 1) k p1) p2)) p3) (.ref a) (.ref s4.heap.objs.size)) (EP X pins σ Q) X.xe { s4 with heap := s4.heap.push { cls := .type "slice", data := .fields #[vl, vu, vs] } }
  refine PyProof.Rows.tail_any (ops := [.ref a, .ref s4.heap.objs.size]) ht.typeIs (PyProof.Rows.slot_tuple_getitem.lookup) ?_ (by with_unfolding_all rfl)
  refine HTR.getItem_tuple_rev ht (Heap.IsSliceOf.new _ vl vu vs) pl pu ps ?_ (by rw [List.size_toArray]; omega)
  refine ⟨.ref _, _, I5.laid (t' := s4.toks) (o := .tup xs.reverse) (fun b ob q => Heap.get?_push_of_some _ q) (Nat.le_refl _) ?_, rfl, q _ (I5.hok.fresh (Nat.le_refl _))⟩
  exact ⟨by rw [List.length_reverse]; exact hz, _, r.reverse, PyProof.Rows.IsTup.new _ _⟩
theorem de_revT {k : Nat} {p1 p2 p3 : Pos} (ha : DE X g W a Fa) : DE X g W (.Subscript a (.Slice none none (some (.UnaryOp .USub (.Constant (.int 1) k p1) p2)) p3) pos) (eUn revTD Fa) := by
  refine PE.imp (pe_revT ha) ?_
  rintro σ H Q ⟨S, R, h⟩
  refine (Wants.step R h).mono fun x H1 ⟨vx, S1, A1, r1, h1⟩ => ?_
  cases e1 : view S1 vx with
  | none => rw [e1] at h1; exact h1.elim
  | some dx =>
    rw [e1] at h1
    have td := r1.1.td A1.rel e1
    have h1 : Wants X.K g W (vrE X.K g) H σ S1 H1 (give S1 (revTD dx)) Q := h1
    cases dx with
    | tuple xs =>
      obtain ⟨p, vs, rfl, h, f⟩ := td.tup
      have Y := Wants.yields (rv := .d (.tuple xs.reverse)) A1.rel A1.step.trk h1
      exact ⟨p, vs, rfl, h, fun q hq => Y.tup hq f.reverse⟩
    | _ => exact h1.elim
/-! ### x += c -/
theorem ds_augI (i : Nat) {c : Int} {x : Str} {k : Nat} {pos' p' : Pos} (hf : g.fx i = false) (hN : X.N.Nodup) (hi : X.N[i]? = some x := by rfl) (hx : Loc X.env.scope x := by first | exact Or.inl rfl | exact Or.inr rfl) (hfn : X.fn x = true ∨ X.env.scope.names.lookup x = some .local := by first | exact .inl rfl | exact .inr rfl) :
    DS X g W (.AugAssign (.Name x pos') .Add (.Constant (.int c) k p') pos) (sAugI i c) := by
  refine PS.imp (ps_aug hN hi hx (pe_int (i := c)) ip_add hfn) ?_
  rintro E σ H ⟨S, R, h⟩
  cases e : at? S i with
  | none =>
    have hb : sAugI i c S = .bad := by unfold sAugI sSet eOp eVar eC; rw [e]; rfl
    rw [hb] at h
    exact h.elim
  | some s =>
    obtain ⟨u, h1, h2⟩ := R.rel i s e
    cases s with
    | live o =>
      have hb : sAugI i c S = .bad := by cases o <;> (unfold sAugI sSet eOp eVar eC; simp [e, view, Res.bind, Res.out, addD, give, onO, Ob.dat])
      rw [hb] at h
      exact h.elim
    | d x =>
      cases x with
      | int n =>
        have hv : u = .int n := by cases h2; rfl
        subst hv
        have hb : sAugI i c S = ofO (put S i (.d (.int (n + c)))) := by unfold sAugI sSet eOp eVar eC; rw [e]; rfl
        rw [hb] at h
        exact ⟨.int n, h1, n, c, rfl, rfl, set_end (rv := .d (.int (n + c))) (v := .int (n + c)) hf (.refl R) ⟨FD.int (n + c), trivial⟩ h⟩
      | _ =>
        have hb : sAugI i c S = .bad := by unfold sAugI sSet eOp eVar eC; rw [e]; rfl
        rw [hb] at h
        exact h.elim
/-! ### f-strings of texts -/
abbrev vrS : St → Hp → Hp → Sl → Str → Str → Prop := fun _ _ _ _ s x => s = x
def DJ (X : Cx) (g : Gh) (W : WX) (es : List Expr) (l : List Dx) : Prop := ∃ ts, PJ X es ts ∧ ∀ (acc : Str) (σ : St) (H : Hp) (Q : Str → Hp → Prop), tG X.K g W vrS (fsL l acc) σ H Q → tJs ts acc σ H Q
theorem dj_nil : DJ X g W [] [] := ⟨[], .nil, fun acc σ H Q ⟨S, R, h⟩ => h acc H (.refl R) rfl⟩
theorem dj_cons {e : Expr} {es : List Expr} {Fd : Dx} {l : List Dx} (he : DD X g W e Fd) (hr : DJ X g W es l) : DJ X g W (e :: es) (Fd :: l) := by
  obtain ⟨ts, hp, hq⟩ := hr
  refine ⟨_, .cons he hp, fun acc σ H Q ⟨S, R, h⟩ => ?_⟩
  refine (Wants.step (vr := vrD X.K) R h).mono fun x H1 ⟨d, S1, A1, r1, h1⟩ => ?_
  cases d with
  | str y =>
    cases (show FD X.K H1 x (.str y) from r1)
    have h1 : Wants X.K g W vrS H σ S1 H1 (if fits ((acc ++ y).length) = true then fsL l (acc ++ y) S1 else .bad) Q := h1
    by_cases z : fits ((acc ++ y).length) = true
    · rw [if_pos z] at h1
      refine ⟨y, rfl, fits_of z, hq (acc ++ y) σ H1 Q ⟨S1, A1.rel, ?_⟩⟩
      exact h1
    · rw [if_neg z] at h1
      exact h1.elim
  | _ => exact h1.elim
theorem dd_tx {e : Expr} {Fd : Dx} (he : DD X g W e Fd) : DD X g W (.FormattedValue e (-1) none pos) (txD Fd) := by
  refine PE.imp (pe_fmt he) ?_
  rintro σ H Q ⟨S, R, h⟩
  unfold txD at h
  refine ⟨S, R, ?_⟩
  cases q : Fd S with
  | bad => rw [q] at h; exact h
  | exc x S1 => rw [q] at h; exact h
  | ok d S1 =>
    rw [q] at h
    intro v H1 A1 r1
    cases d with
    | str s =>
      cases (show FD X.K H1 v (.str s) from r1)
      have h : Wants X.K g W (vrD X.K) H σ S H (if fits s.length = true then .ok (.str s) S1 else .bad) Q := h
      by_cases z : fits s.length = true
      · rw [if_pos z] at h
        exact .inl ⟨s, rfl, fits_of z, h _ H1 A1 (.str s)⟩
      · rw [if_neg z] at h; exact h.elim
    | _ => exact h.elim
theorem de_fs {v1 v2 : Expr} {rest : List Expr} {l : List Dx} (h : DJ X g W (v1 :: v2 :: rest) l) : DE X g W (.JoinedStr (v1 :: v2 :: rest) pos) (eFs l) := by
  obtain ⟨ts, hp, hq⟩ := h
  refine PE.imp (pe_joined hp) ?_
  rintro σ H Q ⟨S, R, h⟩
  refine hq _ σ H _ ?_
  refine (Wants.step (vr := vrS) R h).mono fun s H1 ⟨x, S1, A1, r1, h1⟩ => ?_
  cases (show s = x from r1)
  exact Yields.same (Wants.yields (rv := .d (.str s)) A1.rel A1.step.trk h1) (.str s)
end
end Fm

/-! FmH: the law's end. What the top leaves, told by a part of the heap without lists; the script is frozen data. -/
namespace Fm
open PySem L2 PySem.Spec PyProof.Rows

/-! ### small things -/
theorem fxL_lt {l : List Nat} {n : Nat} (h : l.all (fun i => decide (i < n)) = true) (i : Nat) (e : fxL l i = true) : i < n := by
  unfold fxL at e
  have m : i ∈ l := by simpa using e
  exact of_decide_eq_true (List.all_eq_true.mp h i m)
theorem fx_no {f : Nat → Bool} {l : List Nat} (h : l.all (fun i => !f i) = true) : ∀ i ∈ l, f i = false := fun i m => by
  have := List.all_eq_true.mp h i m
  simpa using this
theorem ok_eqX {X : Cx} {n : Nat} (ok : Okh X n) : OpOk X (compareOp .Eq) eqD := ok_eq (by have := ok.un; omega)
theorem ok_neX {X : Cx} {n : Nat} (ok : Okh X n) : OpOk X (compareOp .NotEq) neD := ok_ne (by have := ok.un; omega)
theorem set_all : ∀ (is : List Nat) (vs : List V) (σ : L2.St) (H : Hp) (Q : L2.St → Hp → Prop), vs.length = is.length → Q (setsV is vs σ) H → (is.foldr (fun i t => gCons (L2.gName i) t) gNil) vs σ H Q
  | [], [], σ, H, Q, _, h => ⟨rfl, h⟩
  | [], _ :: _, _, _, _, e, _ => by simp at e
  | _ :: _, [], _, _, _, e, _ => by simp at e
  | i :: is, v :: vs, σ, H, Q, e, h => ⟨v, vs, rfl, set_all is vs _ H Q (by simpa using e) h⟩
theorem bt_len : bootBuiltins "len" = some (.builtin "len") := by decide +kernel
theorem bt_abs : bootBuiltins "abs" = some (.builtin "abs") := by decide +kernel
theorem bt_sorted : bootBuiltins "sorted" = some (.builtin "sorted") := by decide +kernel
theorem bt_max : bootBuiltins "max" = some (.builtin "max") := by decide +kernel
theorem bt_min : bootBuiltins "min" = some (.builtin "min") := by decide +kernel
theorem bt_divmod : bootBuiltins "divmod" = some (.builtin "divmod") := by decide +kernel
theorem bt_all : bootBuiltins "all" = some (.builtin "all") := by decide +kernel
theorem bt_any : bootBuiltins "any" = some (.builtin "any") := by decide +kernel
theorem bt_sum : bootBuiltins "sum" = some (.builtin "sum") := by decide +kernel
theorem bt_repr : bootBuiltins "repr" = some (.builtin "repr") := by decide +kernel
theorem bt_isinstance : bootBuiltins "isinstance" = some (.builtin "isinstance") := by decide +kernel
theorem bt_tuple : bootBuiltins "tuple" = some (.type "tuple") := by decide +kernel
theorem bt_list : bootBuiltins "list" = some (.type "list") := by decide +kernel
theorem bt_int : bootBuiltins "int" = some (.type "int") := by decide +kernel
theorem bt_bool : bootBuiltins "bool" = some (.type "bool") := by decide +kernel
theorem bt_str : bootBuiltins "str" = some (.type "str") := by decide +kernel
theorem bt_dict : bootBuiltins "dict" = some (.type "dict") := by decide +kernel
theorem bt_set : bootBuiltins "set" = some (.type "set") := by decide +kernel
theorem bt_range : bootBuiltins "range" = some (.type "range") := by decide +kernel
theorem bt_enumerate : bootBuiltins "enumerate" = some (.type "enumerate") := by decide +kernel
theorem bt_zip : bootBuiltins "zip" = some (.type "zip") := by decide +kernel
theorem bt_type : bootBuiltins "type" = some (.type "type") := by decide +kernel
/-! ### what the top leaves -/
theorem fd_tupF {K : PySem.W.Frag} {x : Str} {ss : List Str} (h : tupF K (x, ss) = true) (hne : isKyL (ss.map PyData.str) = false) (H : Hp) : FD K H (.ref (He.ga K x)) (.tuple (ss.map PyData.str)) := by
  have z := He.tupB_ok h H
  rw [List.map_map] at z
  refine .tup ⟨z, fun w => ?_⟩ ?_
  · rw [hne] at w
    cases w
  clear hne
  induction ss with
  | nil => exact .nil
  | cons a r ih => exact .cons (.str a) (by clear ih z h; induction r with | nil => exact .nil | cons b r ih => exact .cons (.str b) ih)
/-! ### a def from the facts -/
theorem fun_of {K : PySem.W.Frag} {x : Str} {st : Stmt} {f : Addr} {fd : FuncData} (F : FunD K x x (defArgs st) (defBody st) (defScope st) [] [] f fd) : Fun K x x st f fd := by
  obtain ⟨oc, od, dV, kV, doc, pm, an, cdv, ct, osl, e, lk, hcd, hD, _⟩ := F.ex
  rcases hD with ⟨_, rfl⟩ | ⟨z, _⟩
  · exact ⟨⟨oc, od, kV, doc, pm, an, cdv, ct, osl, e, lk, hcd⟩, F.kp⟩
  · exact absurd rfl z
theorem fds_script {K : PySem.W.Frag} {H : Hp} : ∀ ns : List Int, FDs K H (ns.map V.int) (ns.map PyData.int) := fds_ints

/-! ### a def that calls itself: no fuel, no meaning -/
theorem fnG_bad {P : Program} {w : World} {K : PySem.W.Frag} {mg : Str → Option Value} {base : Heap} {cl : Str → Option Addr} {k : Nat} {f : Addr} {fd : FuncData} {ps : List Str} : FnG P w K mg base cl k f fd ps (fun _ => .bad) :=
  ⟨fun A outer s H args us vs Q E _ _ _ _ _ _ h => by
    obtain ⟨as, _, z⟩ := h
    exact z.elim⟩
/-! ### the call of the law -/
theorem law_callF {P : Program} {w : World} {K : PySem.W.Frag} {mg mb : Str → Option Value} {cl : Str → Option Addr} {k : Nat} {fa a : Addr} {y x : Str} {st : Stmt} {F : Fn} {s₁ : Shared} {vs : List Value} {ns : List Int} {os0 : List (Option SV)}
    (KX : K.In s₁.heap) (NL : NoLists K) (hns : s₁.heap.Ns mainGlobals mg) (hb : s₁.heap.Ns builtinsNs mb) (hbb : ∀ x : Str, x ≠ "__name__" → mb x = bootBuiltins x) (hlim : s₁.heap.NoLimit) (hg : s₁.gens = #[])
    (ha : s₁.heap.get? a = some { cls := .type "list", data := .seq vs.toArray }) (hi : IntsAre vs ns) (hl : ns.length ≤ sizeLine) (hr : Room k callerA) (hy : mg y = some (.ref fa))
    (Df : ∀ base : Heap, K.In base → base.Ns mainGlobals mg → Def P w K mg base cl y st k [x] F) (hF : F [.d (.list (ns.map .int))] = .ok (.d (.bool true)) os0) :
    codeAny (model P w) callerA (.call (.ref fa) ⟨[.ref a], []⟩) (fun r s' => r = .ok (.ret (.bool true)) ∧ OldK s₁.heap s'.heap ∧ s'.os = s₁.os ∧ AllBare s'.gens) s₁ := by
  have rv := vals_ints hi
  have hk : K.lookup a = none := by
    cases q : K.lookup a with
    | none => rfl
    | some o =>
      have e := KX a o q
      rw [ha] at e
      cases e
      exact absurd rfl (NL a _ q)
  let u0 : HO := .frz { cls := .type "list", data := .seq vs.toArray } (.lst (ns.map V.int))
  let H : Hp := fun b => if b = a then some u0 else none
  have Ha : H a = some u0 := if_pos rfl
  have Hn : ∀ b, b ≠ a → H b = none := fun b h => if_neg h
  have Ho : ∀ b u, H b = some u → b = a ∧ u = u0 := fun b u e => by
    by_cases z : b = a
    · subst z
      rw [Ha] at e
      cases e
      exact ⟨rfl, rfl⟩
    · rw [Hn b z] at e; cases e
  have hok : HOk P w H s₁.heap := fun b u e => by
    obtain ⟨rfl, rfl⟩ := Ho b u e
    exact ⟨ha, by rw [List.length_map]; exact hl, vs, _, rv, ha⟩
  have up : ∀ {b : Addr} {o : Obj}, s₁.heap.get? b = some o → b ≠ a → (hidT s₁.heap H).get? b = some o := fun e n => hidT_get e (Hn _ n)
  have nd : ∀ {b : Addr} {o : Obj} {es : Array DictEntry} {ep : Nat}, s₁.heap.get? b = some o → o.data = .dict es ep → b ≠ a := fun {b o es ep} e d z => by
    subst z
    rw [ha] at e
    cases e
    cases d
  have ns' : ∀ {b : Addr} {m : Str → Option Value}, s₁.heap.Ns b m → (hidT s₁.heap H).Ns b m := fun {b m} ⟨o, es, ep, e, d, r⟩ => ⟨o, es, ep, up e (nd e d), d, r⟩
  have kb : K.In (hidT s₁.heap H) := fun b o e => up (KX b o e) fun z => by rw [z, hk] at e; cases e
  have hM : Mod K mg (hidT s₁.heap H) := by
    obtain ⟨mc, h1, h2⟩ := hlim
    exact ⟨kb, ns' hns, ⟨mb, ns' hb, hbb⟩, mc, ns' h1, h2⟩
  have e0 : Env0 P w K mg (hidT s₁.heap H) callerA [] s₁ H := ⟨rfl, hM, fun b o e => of_hidT e, Nat.le_of_eq (hidT_size _ _), trivial, fun b hb => absurd (show b ∈ ([] : List Addr) from hb) (by simp), hok, .of_eq hg⟩
  obtain ⟨f, fd, hf, _, G, B⟩ := (Df _ kb (ns' hns)).ex
  rw [hy] at hf
  cases hf
  have fdH : FD K H (.ref a) (.list (ns.map .int)) := .lst Ha (fds_script ns)
  have sp : spD K cl F [.ref a] H (fun v _ => v = .bl true) fun _ _ _ => False := by
    refine ⟨[.d (.list (ns.map .int))], ⟨.cons fdH .nil, .nil⟩, ?_⟩
    rw [hF]
    intro v H' _ _ r
    cases (show FD K H' v (.bool true) from r)
    rfl
  refine codeAny_mono (G.run callerA [] s₁ H ⟨[.ref a], []⟩ [.ref a] [.ref a] _ _ hr rfl e0 rfl (B s₁ [.ref a] KX rfl) (.cons rfl .nil) sp) fun r s' h => ?_
  cases r with
  | error e =>
    obtain ⟨_, _, _, _, _, _, _, _, _, _, _, _, z⟩ := h
    exact z.elim
  | ok fl =>
    cases fl with
    | next => exact False.elim h
    | brk => exact False.elim h
    | cont => exact False.elim h
    | ret u =>
      obtain ⟨v, H', os, bare, un, hok', r', q⟩ := h
      obtain rfl : v = .bl true := q
      obtain rfl : u = Value.bool true := r'
      refine ⟨rfl, OldK.of_keep fun b o e => ?_, os, bare⟩
      by_cases z : b = a
      · subst z
        have z2 := un.frzs b _ _ Ha
        obtain ⟨e2, _⟩ := hok' b _ z2
        rw [ha] at e
        cases e
        exact e2
      · exact un.keep b o e (Hn b z) (by intro z; exact absurd (show b ∈ ([] : List Addr) from z) (by simp)) (by simp)
/-- THE END: what k_head leaves -/
theorem walk_F {l : PySem.W.OpenLaw} {n k : Nat} {q : Program} {loose : List Str} {XP : (Str → Option Value) → Heap → Prop} {fs : List He.Fa} {fn : List He.DefD} {tf : PySem.W.Frag → Bool} {N : Reach} {d : DefRec} {x y : Str} {st : Stmt} {F : Fn}
    (hn : l.most = some n) (hn2 : n ≤ sizeLine) (hdf : d.params.defaults = []) (hdn : d.name = y) (hr : Room k callerA)
    (Df : ∀ (w : World) (K : PySem.W.Frag) (mg : Str → Option Value) (h : Heap), K.In h → h.Ns mainGlobals mg → He.SaysD fs fn K → tf K = true → ∃ cl, ∀ base : Heap, K.In base → base.Ns mainGlobals mg → Def l.prog w K mg base cl y st k [x] F)
    (hF : ∀ ns : List Int, ns.length ≤ n → ∃ os, F [.d (.list (ns.map .int))] = .ok (.d (.bool true)) os) :
    PySem.W.WalkO q loose XP (hookF N fs fn tf).says l.row.toRowW d [] (fun f vs => PySem.call f vs) := by
  refine Att.attach_call hn hdf fun w s₀ s₁ mg mb fa o pm cd doc a vs ns G Y ho hd hcd hmg hobj hints hlen hg => ?_
  obtain ⟨K, KX, ⟨sd, tu⟩, nl⟩ := Y
  obtain ⟨cl, D⟩ := Df w K mg _ KX G.T.g sd tu
  obtain ⟨os, e⟩ := hF ns hlen
  rw [hdn] at hmg
  exact law_callF KX nl G.T.g G.T.b G.T.builtins G.T.nolimit hg hobj hints (Nat.le_trans hlen hn2) hr hmg D e
end Fm

/-! FmWe: errors, plainly: raise, try, what an except suite asks of the error that it holds. -/
namespace Fm
open PySem
/-- raise x(e, ..) -/
def sRaise (x : Str) (fs : List Str) (a : Lx) : Sx := fun S => (a S).out fun ds S1 => if ds.length = fs.length then .exc ⟨x, (fs.zip ds).reverse⟩ S1 else .bad
def Out.catch (o : Out) (cs : List Str) (f : Exn → Sl → Out) : Out := match o with
  | .exc x S => if cs.any (subX x.cls) = true then f x S else .exc x S
  | o => o
@[simp] theorem catch_nx (S : Sl) (cs : List Str) (f : Exn → Sl → Out) : Out.catch (.nx S) cs f = .nx S := nr rfl
@[simp] theorem catch_rt (v : RV) (S : Sl) (cs : List Str) (f : Exn → Sl → Out) : Out.catch (.rt v S) cs f = .rt v S := nr rfl
@[simp] theorem catch_bk (S : Sl) (cs : List Str) (f : Exn → Sl → Out) : Out.catch (.bk S) cs f = .bk S := nr rfl
@[simp] theorem catch_ct (S : Sl) (cs : List Str) (f : Exn → Sl → Out) : Out.catch (.ct S) cs f = .ct S := nr rfl
@[simp] theorem catch_exc (x : Exn) (S : Sl) (cs : List Str) (f : Exn → Sl → Out) : Out.catch (.exc x S) cs f = if cs.any (subX x.cls) = true then f x S else .exc x S := nr rfl
@[simp] theorem catch_bad (cs : List Str) (f : Exn → Sl → Out) : Out.catch .bad cs f = .bad := nr rfl
/-- slot i's name goes -/
def Out.off (o : Out) (i : Nat) : Out := match o with
  | .nx S => .nx (S.set i none)
  | .rt v S => .rt v (S.set i none)
  | .bk S => .bk (S.set i none)
  | .ct S => .ct (S.set i none)
  | _ => .bad
@[simp] theorem off_nx (S : Sl) (i : Nat) : Out.off (.nx S) i = .nx (S.set i none) := nr rfl
@[simp] theorem off_rt (v : RV) (S : Sl) (i : Nat) : Out.off (.rt v S) i = .rt v (S.set i none) := nr rfl
@[simp] theorem off_bk (S : Sl) (i : Nat) : Out.off (.bk S) i = .bk (S.set i none) := nr rfl
@[simp] theorem off_ct (S : Sl) (i : Nat) : Out.off (.ct S) i = .ct (S.set i none) := nr rfl
/-- try: body; except cs as slot i: h of the error -/
def sTry (i : Nat) (cs : List Str) (body : Sx) (h : Exn → Sx) : Sx := fun S => (body S).catch cs fun x S1 => (h x (S1.set i none)).off i
/-- try: body; except c: h -/
def sTry1 (c : Str) (body h : Sx) : Sx := fun S => (body S).catch [c] fun _ S1 => (h S1).off S1.length
/-- what a suite asks of its error: a field, a class, what a def of it yields -/
def eFld (x : Exn) (f : Str) : Ex := fun S => onO ((x.fs.find? fun p => decide (p.1 = f)).map (·.2)) fun d => .ok (.d d) S
def eIsX (x : Exn) (c : Str) : Ex := eC (.bool (subX x.cls c))
def eCallX (F : Exn → CRes) (x : Exn) : Ex := fun S => (match F x with
  | .ok (.d d) _ => .ok (.d d) S
  | _ => .bad)
/-- xs.index(y) -/
def indexD : D → D → Option RV
  | .list xs, y => if (flat y && xs.all flat) = true then (xs.findIdx? fun x => PyData.eqv x y).map fun j => .d (.int (j : Nat)) else none
  | _, _ => none
/-- a def of an error alone, by its body of m slots -/
def fnX (m : Nat) (body : Exn → Sx) : Exn → CRes := fun x => (body x (List.replicate m none)).ends 1
/-- x = y, y's object goes over to x: y is not asked again -/
def moveAt (i j : Nat) (S : Sl) : Option SV → Out
  | some (.d d) => .nx (S.set i (some (.d d)))
  | some (.live o) => .nx ((S.set j none).set i (some (.live o)))
  | none => .bad
@[simp] theorem moveAt_d (i j : Nat) (S : Sl) (d : D) : moveAt i j S (some (.d d)) = .nx (S.set i (some (.d d))) := nr rfl
@[simp] theorem moveAt_l (i j : Nat) (S : Sl) (o : Ob) : moveAt i j S (some (.live o)) = .nx ((S.set j none).set i (some (.live o))) := nr rfl
def sMove (i j : Nat) : Sx := fun S => moveAt i j S (at? S j)
@[simp] theorem sMove_ap (i j : Nat) (S : Sl) : sMove i j S = moveAt i j S (at? S j) := nr rfl
/-- i << j -/
def shlD : D → D → Option RV
  | .int i, .int j => if 0 ≤ j ∧ j ≤ 1000000 ∧ i.natAbs < 2 ^ 64 then iD (i * 2 ^ j.toNat) else none
  | _, _ => none
/-- x *= e, of an int -/
def sAugM (i : Nat) (e : Ex) : Sx := fun S => match at? S i with
  | some (.d (.int n)) => (e S).out fun y S2 => (give S2 ((view S2 y).bind fun dy => mulD (.int n) dy)).out fun v S3 => ofO (put S3 i v)
  | _ => .bad
/-- {k: v for ..}, the keys tuples of ints -/
def dcTL (g : Tt) (t : Tx) (k e : Dx) (vs : List Nat) : List D → List (List Ky × D) → Sl → Res (List (List Ky × D))
  | [], acc, S => .ok acc S
  | x :: xs, acc, S => onO (g.run x (wipeL vs S)) fun S1 => (t S1).calm fun c S2 => if c = true then
      (k S2).calm fun q S3 => (e S3).calm fun y S4 => if (keyT q).isSome = true ∧ acc.length < sizeLine then dcTL g t k e vs xs (tPut acc ((keyT q).getD []) y) S4 else .bad
    else dcTL g t k e vs xs acc S2
def eDcT (w : Wx) (g : Tt) (t : Tx) (k e : Dx) (vs : List Nat) : Ex := fun S => (w S).bind fun xs S1 => if vs.all (isD S1) = true then (dcTL g t k e vs xs [] S1).bind fun ys S2 => .ok (.fr (.dtt ys)) (backL S1 vs S2) else .bad
/-- d[k], the keys tuples of ints -/
def eIxT (o : Ex) (k : Dx) : Ex := fun S => (o S).bind fun x S1 => onO (tdOf S1 x) fun _ => (k S1).bind fun y S2 => give S2 ((tdOf S2 x).bind fun ds => (keyT y).bind fun q => (tGet ds q).map RV.d)
/-- sorted(set(xs)), of a list of texts -/
def sortSetD : D → Option RV
  | .list xs => (strsD xs).bind fun ss => if ss.length ≤ 1000 then sortedD (.list ((dstS ss).map PyData.str)) else none
  | _ => none
/-- sorted texts, each once -/
def sortTs (ts : List Str) : Option RV := if ts.length ≤ 1000 then sortedD (.list ((dstS ts).map PyData.str)) else none
/-- the texts of {x for a in A for x in B} -/
def scL (g : Tt) (t : Tx) (e : Dx) (vs : List Nat) : List D → List Str → Sl → Res (List Str)
  | [], acc, S => .ok acc S
  | x :: xs, acc, S => onO (g.run x (wipeL vs S)) fun S1 => (t S1).calm fun c S2 => if c = true then
      (e S2).calm fun y S3 => (match y with | .str s => if acc.length < 1000 then scL g t e vs xs (acc ++ [s]) S3 else .bad | _ => .bad)
    else scL g t e vs xs acc S2
def scL2 (g : Tt) (t : Tx) (w1 : Wx) (g1 : Tt) (t1 : Tx) (e : Dx) (vs vs1 : List Nat) : List D → List Str → Sl → Res (List Str)
  | [], acc, S => .ok acc S
  | x :: xs, acc, S => onO (g.run x (wipeL vs S)) fun S1 => (t S1).calm fun c S2 => if c = true then
      (w1 S2).calm fun ys S3 => (scL g1 t1 e vs1 ys acc S3).calm fun acc2 S4 => scL2 g t w1 g1 t1 e vs vs1 xs acc2 S4
    else scL2 g t w1 g1 t1 e vs vs1 xs acc S2
def eSortSc2 (w : Wx) (g : Tt) (t : Tx) (w1 : Wx) (g1 : Tt) (t1 : Tx) (e : Dx) (vs vs1 : List Nat) : Ex := fun S => (w S).bind fun xs S1 => if vs.all (isD S1) = true then (scL2 g t w1 g1 t1 e vs vs1 xs [] S1).bind fun ts S2 => give (backL S1 vs S2) (sortTs ts) else .bad
end Fm

/-! FmWf: more constructs, plainly: len(set(t)) of a tuple of texts. -/
namespace Fm
open PySem
/-- len(set(t)), t a tuple of texts -/
def lenSetSTD : D → Option RV
  | .tuple xs => (strsD xs).bind fun ss => if ss.length ≤ 1000 then iD ((dstS ss).length : Nat) else none
  | _ => none
/-- xs.index(y), of any data -/
def indexDD : D → D → Option RV
  | .list xs, y => if (SeqAt.shaped (.list xs) && SeqAt.shaped y) = true then (xs.findIdx? fun x => PyData.eqv x y).map fun j => .d (.int (j : Nat)) else none
  | _, _ => none
/-- i & j, i ^ j of ints -/
def andD : D → D → Option RV
  | .int i, .int j => some (.d (.int (PySem.Builtin.bitAnd i j)))
  | _, _ => none
def xorD : D → D → Option RV
  | .int i, .int j => some (.d (.int (PySem.Builtin.bitXor i j)))
  | _, _ => none
end Fm

set_option maxHeartbeats 4000000
/-! FmJ: defs with parameters by name alone, called with all of them written. -/
namespace Fm
open PySem PySem.W L2
/-- as Def, without the binding by position -/
structure DefK (P : Program) (w : World) (K : PySem.W.Frag) (mg : Str → Option Value) (base : Heap) (cl : Str → Option Addr) (x : Str) (st : Stmt) (k : Nat) (ps : List Str) (F : Fn) : Prop where
  ex : ∃ f fd, mg x = some (.ref f) ∧ Fun K x x st f fd ∧ FnG P w K mg base cl k f fd ps F
section
variable {X : Cx} {g : Gh} {W : WX} {k n : Nat} {x : Str} {st : Stmt} {ps : List Str} {F : Fn} {p pos : Pos} {e : Expr} {es : List Expr} {Fa : Ax}
theorem de_callKK {m : Nat} {ks : List Str} {π : List Nat} {kws : List Keyword} {Fa Fb : Lx} (Df : DefK X.prog X.w X.K X.mg X.base g.cl x st k ps F) (hF : ∀ as, as.length ≠ ps.length → F as = .bad) (ok : Ok X W n) (hg : Gl X x) (ha : DL X g W (e :: es) Fa) (hkw : DK X g W kws Fb)
    (hbind : ∀ (kV doc pm : Value) (an : Option Addr) (cdv ct : Value) (us ws : List Value), us.length = m → ws.length = ks.length → bindArgs (PySem.W.fnOf x x (defArgs st) (defBody st) (defScope st) .none kV doc pm an cdv ct) ⟨us, ks.zip ws⟩ = pure (ps.zip (pick π (us ++ ws))))
    (hk : k ≤ n := by decide) (hall : (backToKw pos (keywordEach kws X.env)).all (·.1.isSome) = true := by rfl) (hks : (backToKw pos (keywordEach kws X.env)).filterMap (·.1) = ks := by rfl) (he : starEach (e :: es) X.env = (false, eval e X.env) :: starEach es X.env := by rfl)
    (hdb : (x == ("__debug__" : Str)) = false := by decide) (hpl : ((backTo pos (starEach (e :: es) X.env)).any (·.1) || (backToKw pos (keywordEach kws X.env)).any (·.1.isNone)) = false := by rfl) : DE X g W (.Call (.Name x p) (e :: es) kws pos) (eCallK F m ks.length π Fa Fb) := by
  obtain ⟨f, fd, hm, fu, Fo⟩ := Df.ex
  obtain ⟨oc, od, kV, doc, pm, an, cdv, ct, osl, rfl, lk, hcd⟩ := fu.ex
  refine ⟨fun pins s σ H Q I h => ?_⟩
  obtain ⟨S, R, h⟩ := h
  refine wpAny_Call_Name_kw (ld_glob I hg hm ?_ hdb)
  refine PySem.W.callWith_KW (h₀ := X.base) I.ok.mod.kin fu.kp hall (thn (ha.run pos pins s σ H _ I (Wants.step R h)) fun us s1 ⟨vs, H1, I1, r, xs, S1, A1, r1, h1⟩ => ?_) hpl he
  refine thn (hkw.run pos pins s1 σ H1 _ I1 (Wants.step A1.rel h1)) fun ws s2 ⟨zs, H2, I2, r', ys, S2, A2, r2, h2⟩ => ⟨I2.kIn, ?_⟩
  have r1 : FDs X.K H1 vs xs := r1
  have r2 : FDs X.K H2 zs ys := r2
  by_cases hl : xs.length = m ∧ ys.length = ks.length
  · rw [if_pos hl] at h2
    have h3 : Wants X.K g W (vrE X.K g) H2 σ S2 H2 ((F (π.filterMap fun i => ((xs ++ ys)[i]?).map SV.d)).plain S2) Q := by
      revert h2
      cases (F (π.filterMap fun i => ((xs ++ ys)[i]?).map SV.d)).plain S2 with
      | bad => exact fun h => h
      | exc _ _ => exact fun h => h
      | ok a S' => exact fun h b H' A r => h b H' A (vrE_mono (fun b e => A1.step.trk b (A2.step.trk b e)) _ _ _ _ r)
    have sp := callK_end (π := π) (.refl A2.rel) ((r1.mono (A1.rel.keeps A2.step)).append r2) h3
    have hlp := spD_len hF sp
    have hu : us.length = m := by rw [← r.length, r1.length, hl.1]
    have hw : ws.length = ks.length := by rw [← r'.length, r2.length, hl.2]
    rw [hks]
    exact run_def (args := ⟨us, ks.zip ws⟩) Fo ok hk I2 hlp (.of_eq (hbind kV doc pm an cdv ct us ws hu hw)) (pick_vals (r.append r') π) sp
  · rw [if_neg hl] at h2
    exact h2.elim
end
section
variable {X : Cx}
theorem ok_band : OpOk X (binaryOp .BitAnd) andD := ok_int op_and fun x y rv e => by
  cases x with
  | int i =>
    cases y with
    | int j => cases e; exact ⟨i, j, rfl, rfl, rfl⟩
    | _ => cases e
  | _ => cases e
theorem ok_bxor : OpOk X (binaryOp .BitXor) xorD := ok_int op_xor fun x y rv e => by
  cases x with
  | int i =>
    cases y with
    | int j => cases e; exact ⟨i, j, rfl, rfl, rfl⟩
    | _ => cases e
  | _ => cases e
end
end Fm

set_option maxHeartbeats 4000000
/-! FmEa: errors of own classes over any built-in base: made by a def __init__ that stores its arguments, raised. -/
namespace Fm
open PySem L2 PySem.Spec PyProof.Rows

structure EBaseOk (b : EBase) : Prop where
  F : ExcBaseFacts b.name b.newId b.initId b.mro
  S : StoreFacts b.name b.mro "object.__setattr__" "object"
theorem baseV : EBaseOk (eBase "ValueError") := ⟨PySem.F.excBase_ValueError, PySem.F.store_ValueError⟩
theorem baseL : EBaseOk (eBase "LookupError") := ⟨PySem.F.excBase_LookupError, PySem.F.store_LookupError⟩
theorem baseA : EBaseOk (eBase "ArithmeticError") := ⟨PySem.F.excBase_ArithmeticError, PySem.F.store_ArithmeticError⟩
/-- what the written part says of an error class with a dict -/
structure ErrC (K : PySem.W.Frag) (C : Addr) (b : EBase) : Prop where
  ini : PySem.W.excInitIn K C b.mro b.newId = true
  ovr : PySem.W.excOver K C b.mro = true
  hd : PySem.W.hasDictIn K C = true
  sa : PySem.W.findIn K (.ref C) "__setattr__" = some (some (.builtin "object.__setattr__"))
  exC : PySem.W.subIn K (.ref C) (.type "BaseException") = some true
  tyC : PySem.W.typeIn K (.ref C) = some (.type "type")
  kC : PySem.W.keepIn K (.ref C) = true
/-! ### self.f = v on an error that has no dict yet, one that has -/
section
open Builtin Builtin.ObjectAttr PySem.W PySem.Calls
variable {prog : Program} {w : World} {A : Around} {E : Value → Shared → Prop} {R : Result → Shared → Prop} {hp : Heap} {g : Array GenState} {d : Drawn} {t : Nat} {os : OsState}
variable {K : Frag} {name : Str} {tk : Tok} {v : Value} {x C : Addr} {fv : Array Value} {b : EBase}
theorem taker_no (ha : findIn K (.ref C) name = some none) : takerIn K C name = some none := by
  unfold takerIn
  rw [ha] <;> rfl
theorem err_osa (B : EBaseOk b) (T : ErrC K C b) (X : K.In hp) (hx : hp.get? x = some { cls := .ref C, data := .fields fv }) (ha : findIn K (.ref C) name = some none)
    (hq : ∀ h' tk' dx, (∀ b o, b ≠ x → hp.get? b = some o → h'.get? b = some o) → hp.objs.size ≤ dx → dx ≠ x → h'.get? x = some { cls := .ref C, dict := some dx, data := .fields fv } →
      h'.Ns1 dx (fun y => if y = name then some v else none) → R (.ok (.ret .none)) ⟨h', g, d, tk', os⟩) :
    codeAny (model prog w) A (.call (.builtin "object.__setattr__") ⟨[.ref x, .str name tk, v], []⟩) R ⟨hp, g, d, t, os⟩ := by
  have I : InstAt hp x { cls := .ref C, data := .fields fv } C none := ⟨hx, rfl, rfl, trivial⟩
  have hxs : x ≠ hp.objs.size := Nat.ne_of_lt (Heap.lt_size hx)
  obtain ⟨cd, hcd, hh⟩ := any_some T.hd
  have hcls : Looks (model prog w) hp (classData C) cd := looks_clsIn X hcd
  refine osa_openX (s := ⟨hp, g, d, t, os⟩) B.S X I T.ovr (taker_no ha) fun b0 => ?_
  dsimp only
  obtain ⟨nm, bs, mro, ns, qn, hd, sn, sb, ab, col, del⟩ := cd
  dsimp only at hh
  subst hh
  unfold storeInOwnDict ownDictForStores
  repeat (first | with_reducible refine HandSPX.store_in_new ?_ ?_ | with_reducible refine wpAny_loadPart_at hx ?_ | with_reducible refine hcls.at ?_ | wp_step)
  · exact ⟨_, #[], _, (Heap.get?_update_ne _ _ _ _ hxs.symm).trans (Heap.get?_push_at rfl rfl), rfl, fun e he => absurd he (by simp), fun _ => rfl⟩
  · intro h' tk' hn' hs
    have hx₁ : (hp.push { cls := .type "dict", data := .dict #[] }).get? x = some { cls := .ref C, data := .fields fv } := Heap.get?_push_of_some _ hx
    refine hq h' tk' hp.objs.size (fun b o hb ho => ?_) (Nat.le_refl _) hxs.symm ?_ hn'
    · exact (hs.2 b (Nat.ne_of_lt (Heap.lt_size ho))).trans ((Heap.get?_update_ne _ _ _ _ hb).trans (Heap.get?_push_of_some _ ho))
    · exact (hs.2 x hxs).trans (Heap.get?_update_self _ hx₁ rfl)
theorem err_osa2 {dx : Addr} {m0 : Str → Option Value} {nl : List Str} (B : EBaseOk b) (T : ErrC K C b) (X : K.In hp) (hx : hp.get? x = some { cls := .ref C, dict := some dx, data := .fields fv }) (hns : hp.Ns1 dx m0) (hw : Within m0 nl) (hz : nl.length ≤ 1000) (ha : findIn K (.ref C) name = some none)
    (hq : ∀ h' tk', (∀ b o, b ≠ dx → hp.get? b = some o → h'.get? b = some o) → h'.Ns1 dx (fun y => if y = name then some v else m0 y) → R (.ok (.ret .none)) ⟨h', g, d, tk', os⟩) :
    codeAny (model prog w) A (.call (.builtin "object.__setattr__") ⟨[.ref x, .str name tk, v], []⟩) R ⟨hp, g, d, t, os⟩ := by
  obtain ⟨oD, esD, epD, hoD, hdD, _⟩ := hns.count hw
  have I : InstAt hp x { cls := .ref C, dict := some dx, data := .fields fv } C (some oD) := ⟨hx, rfl, rfl, hoD⟩
  obtain ⟨cd, hcd, hh⟩ := any_some T.hd
  have hcls : Looks (model prog w) hp (classData C) cd := looks_clsIn X hcd
  refine osa_openX (s := ⟨hp, g, d, t, os⟩) B.S X I T.ovr (taker_no ha) fun b0 => ?_
  dsimp only
  obtain ⟨nm, bs, mro, ns, qn, hd, sn, sb, ab, col, del⟩ := cd
  dsimp only at hh
  subst hh
  unfold storeInOwnDict ownDictForStores
  repeat (first | with_reducible refine OEX.store_in_old hns hw hz ?_ | with_reducible refine wpAny_loadPart_at hx ?_ | with_reducible refine hcls.at ?_ | wp_step)
  intro h' tk' hn' hs
  exact hq h' tk' (fun b o hb ho => (hs.2 b hb).trans ho) hn'
end
/-! ### the same over what is tracked -/
section
variable {X : Cx} {pins : List (Addr × Obj)} {σ : L2.St} {H : Hp} {s : Shared} {a C dx : Addr} {f : Str} {y : V} {u : Value} {fs : List (Str × V)} {Q : Unit → Shared → Prop} {E : Value → Shared → Prop} {A : Around} {b : EBase}
theorem err_st (B : EBaseOk b) (T : ErrC X.K C b) (I : Inv X pins σ H s) (e : H a = some (exo a C none)) (hno : PySem.W.findIn X.K (.ref C) f = some none) (ry : RelV y u)
    (h : ∀ dx s', H dx = none → dx ≠ a → Inv X pins σ (upd (upd H dx (exd dx [(f, y)])) a (exo a C (some dx))) s' → Q () s') : wpAny (model X.prog X.w) A (setAttr (.ref a) f u) Q E s := by
  obtain ⟨t1, ho⟩ := exo_at I.hok e
  obtain ⟨hp, g, d, t, os⟩ := s
  refine PySem.W.set_plain I.kIn (ox := { cls := .ref C, dict := none, data := .fields #[.ref t1, .none, .none, .none, .bool false, .none] }) (od := none) ⟨ho, rfl, rfl, trivial⟩ T.sa ?_
  refine err_osa B T I.kIn ho hno fun h' tk' dx k dn dne hx hn => ?_
  have hnd : H dx = none := I.hok.fresh dn
  have nd : ∀ {b : Addr} {o : Obj}, hp.get? b = some o → b ≠ dx := fun {b o} q => Nat.ne_of_lt (Nat.lt_of_lt_of_le (Heap.lt_size q) dn)
  have na : ∀ {b : Addr}, H b = none → b ≠ a := fun {b} n z => by rw [z, e] at n; cases n
  have two : ∀ {b : Addr}, b ≠ a → b ≠ dx → upd (upd H dx (exd dx [(f, y)])) a (exo a C (some dx)) b = H b := fun h1 h2 => by rw [upd_ne h1, upd_ne h2]
  have un : Un X.fs [] H (upd (upd H dx (exd dx [(f, y)])) a (exo a C (some dx))) hp h' :=
    ⟨fun b o q n _ _ => k b o (na n) q, fun b o q n _ _ => ⟨o.slots, k b o (na n) q⟩, fun b o q n _ => by rw [two (na n) (nd q)]; exact n,
      fun b o q _ => by
        by_cases hb : b = a
        · exact ⟨_, by rw [hb]; exact hx⟩
        · exact ⟨o, k b o hb q⟩,
      fun b xs q => by rw [two (at_ne e q exo_tup) (ne_of_none q hnd)]; exact q, fun b o v q => by rw [two (at_ne e q exo_frz) (ne_of_none q hnd)]; exact q,
      fun b ps q => ⟨#[], by rw [two (at_ne e q exo_tbl) (ne_of_none q hnd), q]; simp⟩⟩
  refine h dx _ hnd dne (I.un (t' := tk') un fun b o q => ?_)
  by_cases hb : b = a
  · subst hb
    rw [upd_same] at q
    cases q
    exact exo_ok hx
  · by_cases hd : b = dx
    · subst hd
      rw [upd_ne hb, upd_same] at q
      cases q
      exact exd_ok hn (relO_put (fs := []) ry fun g => True.intro)
    · rw [two hb hd] at q
      exact (I.hok b o q).stay (fun c v hc z => k c v (hc.elim (fun hc => by rw [hc]; exact hb) fun hc => at_ne e hc exo_own) z)
        (fun c hc => by rw [two (at_ne e hc exo_own) (ne_of_none hc hnd)]; exact hc) fun c xs hc => by rw [two (at_ne e hc exo_tup) (ne_of_none hc hnd)]; exact hc
theorem err_st2 (B : EBaseOk b) (T : ErrC X.K C b) (I : Inv X pins σ H s) (e : H a = some (exo a C (some dx))) (ed : H dx = some (exd dx fs)) (hl : fs.length ≤ 900) (hno : PySem.W.findIn X.K (.ref C) f = some none) (ry : RelV y u)
    (h : ∀ s', Inv X pins σ (upd H dx (exd dx ((f, y) :: fs))) s' → Q () s') : wpAny (model X.prog X.w) A (setAttr (.ref a) f u) Q E s := by
  obtain ⟨t1, ho⟩ := exo_at I.hok e
  obtain ⟨mA, hns, rel⟩ := exd_at I.hok ed
  have hw := within_of rel
  obtain ⟨hp, g, d, t, os⟩ := s
  obtain ⟨oD, _, _, hoD, _, _⟩ := hns.count hw
  refine PySem.W.set_plain I.kIn (ox := { cls := .ref C, dict := some dx, data := .fields #[.ref t1, .none, .none, .none, .bool false, .none] }) (od := some oD) ⟨ho, rfl, rfl, hoD⟩ T.sa ?_
  refine err_osa2 B T I.kIn ho hns hw (by rw [List.length_map]; omega) hno fun h' tk' k hn => ?_
  have hd : ∃ o, h'.get? dx = some o := by
    obtain ⟨o, _, _, e', _⟩ := hn
    exact ⟨o, e'⟩
  exact h _ (I.write (t' := tk') (x := dx) (e := dx) (o := exd dx ((f, y) :: fs)) (by rw [ed]; exact True.intro) (.inl rfl) k hd (exd_ok hn (relO_put ry rel)))
/-- self.f = e -/
def tErr (K : PySem.W.Frag) (b : EBase) (f : Str) (to te : TE) : TS := fun D σ H => te σ H fun y H1 => to σ H1 fun x H2 => ∃ a C : Addr, x = .ref a ∧ ErrC K C b ∧ PySem.W.findIn K (.ref C) f = some none ∧
  ((H2 a = some (exo a C none) ∧ ∀ dx, H2 dx = none → dx ≠ a → D.nx σ (upd (upd H2 dx (exd dx [(f, y)])) a (exo a C (some dx)))) ∨
    ∃ (dx : Addr) (fs : List (Str × V)), H2 a = some (exo a C (some dx)) ∧ H2 dx = some (exd dx fs) ∧ fs.length ≤ 900 ∧ D.nx σ (upd H2 dx (exd dx ((f, y) :: fs))))
theorem ps_err {o e : Expr} {to te : TE} {p' pos : Pos} (B : EBaseOk b) (ho : PE X o to) (he : PE X e te) (hs : swapsWith e (some (.Attribute o f p')) pos.line X.env = pure false := by rfl) : PS X (.Assign [.Attribute o f p'] e pos) (tErr X.K b f to te) := by
  refine ⟨fun pins s σ H D I h => ?_⟩
  refine plainObj_wpAny_Assign_Attribute (thn (he.run pins s σ H _ I h) fun v s1 ⟨y, H1, I1, r1, q1⟩ => thn (ho.run pins s1 σ H1 _ I1 q1) fun u s2 ⟨x, H2, I2, r2, a, C, ex, T, hno, q⟩ => ?_) hs
  subst ex
  obtain rfl : u = Value.ref a := r2
  rcases q with ⟨ea, q⟩ | ⟨dx, fs, ea, ed, hl, q⟩
  · exact err_st B T I2 ea hno r1 fun dx s' n ne J => ⟨σ, _, J, q dx n ne⟩
  · exact err_st2 B T I2 ea ed hl hno r1 fun s' J => ⟨σ, _, J, q⟩
end
end Fm

set_option maxHeartbeats 4000000
/-! FmEb: raise C(e, ..). -/
namespace Fm
open PySem L2 PySem.Spec PyProof.Rows

/-- the promise of an __init__ that stores its arguments under fs -/
def spI (K : PySem.W.Frag) (C : Addr) (fs : List Str) : Sp := fun vs H Q _ => ∃ (a : Addr) (ws : List V), vs = .ref a :: ws ∧ ws.length = fs.length ∧ H a = some (exo a C none) ∧ ∀ d, H d = none → d ≠ a → Q .non (upd (upd H d (exd d (fs.zip ws).reverse)) a (exo a C (some d)))
/-- an error class of the text: the module's name x, what its __init__ stores -/
structure ErrDef (P : Program) (w : World) (K : PySem.W.Frag) (mg : Str → Option Value) (base : Heap) (cl : Str → Option Addr) (x : Str) (fs : List Str) : Prop where
  ex : ∃ (C : Addr) (b : EBase), cl x = some C ∧ mg x = some (.ref C) ∧ EBaseOk b ∧ PySem.W.subIn K (.ref C) (.type "BaseException") = some true ∧ PySem.W.typeIn K (.ref C) = some (.type "type") ∧ PySem.W.keepIn K (.ref C) = true ∧
    ((fs = [] ∧ PySem.W.excIn K C b.mro b.newId = true) ∨
      (fs ≠ [] ∧ ErrC K C b ∧ ∃ (fI : Addr) (fd : FuncData), PySem.W.findIn K (.ref C) "__init__" = some (some (.ref fI)) ∧ PySem.W.typeIn K (.ref fI) = some (.type "function") ∧
        FnOk P w K mg base (L2.CX P w) 1 fI fd ("self" :: fs) (spI K C fs) ∧ Binds K fd ("self" :: fs) []))
section
variable {P : Program} {w : World} {K : PySem.W.Frag} {mg : Str → Option Value} {base : Heap} {C : Addr} {b : EBase} {st : Stmt} {f : Addr} {fd : FuncData} {qual f1 f2 : Str}
/-- def __init__(self, f1): self.f1 = f1 -/
theorem init1_ok (F : Fun K "__init__" qual st f fd) (S : FnScope ["self", f1] ["self", f1] (defScope st)) (B : EBaseOk b) (T : ErrC K C b) (hno : PySem.W.findIn K (.ref C) f1 = some none)
    (hb : ∀ (cdv : Value) (A : Around) (outer : List Env) (s : Shared) (H : Hp) (E : XK), PSs (cxOf (L2.CX P w) P w K mg base ["self", f1] qual (defScope st) f cdv A outer s H E) (defBody st) (tErr K b f1 (tVar 0) (tVar 1))) :
    FnOk P w K mg base (L2.CX P w) 1 f fd ["self", f1] (spI K C [f1]) := by
  refine F.okX S (fun vs H Q E h => ?_) fun cdv A outer s H vs Q E hr h => ⟨_, hb cdv A outer s H E, ?_⟩
  · obtain ⟨a, ws, rfl, hl, _⟩ := h
    simp only [List.length_cons, hl]
  · obtain ⟨a, ws, rfl, hl, ha, q⟩ := h
    match ws, hl with
    | [v], _ => exact ⟨v, rfl, .ref a, rfl, a, C, rfl, T, hno, .inl ⟨ha, fun d hd ne => q d hd ne⟩⟩
end
/-! ### the call of the class -/
section
variable {X : Cx} {b : EBase} {x : Str} {C fI : Addr} {k : Nat} {fd : FuncData} {ps : List Str} {p pos : Pos} {fs : List Str}
/-- C(e, ..), the arguments told by ta -/
def tMkE (C : Addr) (fs : List Str) (ta : TA) : L2.St → Hp → XK → Prop := fun σ H Q => ta σ H fun vs H1 => vs.length = fs.length ∧ ∀ d, H1 d = none → Q (.ref C) (some d) (upd H1 d (.xd (fs.zip vs).reverse))
theorem pmk_err {e : Expr} {es : List Expr} {ta : TA} (B : EBaseOk b) (T : ErrC X.K C b) (iC : PySem.W.findIn X.K (.ref C) "__init__" = some (some (.ref fI))) (tI : PySem.W.typeIn X.K (.ref fI) = some (.type "function"))
    (F1 : FnOk X.prog X.w X.K X.mg X.base (L2.CX X.prog X.w) k fI fd ("self" :: fs) (spI X.K C fs)) (hr : Room (k + 1) X.A) (hb : Binds X.K fd ("self" :: fs) []) (hg : Gl X x) (hm : X.mg x = some (.ref C)) (ha : PA X (e :: es) ta) (hfs : fs.length ≤ 1000)
    (hdb : (x == ("__debug__" : Str)) = false := by decide) (he : starEach (e :: es) X.env = (false, eval e X.env) :: starEach es X.env := by rfl) (hpl : (backTo pos (starEach es X.env)).any (·.1) = false := by rfl) :
    PMk X (.Call (.Name x p) (e :: es) [] pos) (tMkE C fs ta) := by
  intro pins s σ H Q I h
  obtain ⟨nm, N, qn, bs, bm, hdct, sn, sub, ab, col, dd, k0, k1, k2, k3, k5, hC, hT⟩ := PySem.W.excInit_of I.kIn T.ini
  refine wpAny_Call_Name_kw (ld_glob I hg hm ?_ hdb)
  refine PySem.W.callWith_K (h₀ := X.base) I.ok.mod.kin T.kC (thn (ha.run pos pins s σ H _ I h) fun us s1 ⟨vs, H1, I1, r1, hz, q1⟩ => ⟨I1.kIn, ?_⟩) he hpl
  show wpAny _ _ (call (.ref C) us) _ _ _
  obtain ⟨nm, N, qn, bs, bm, hdct, sn, sub, ab, col, dd, k0, k1, k2, k3, k5, hC, hT⟩ := PySem.W.excInit_of I1.kIn T.ini
  obtain ⟨hp, g, dr, tk, os⟩ := s1
  have hsz : hp.objs.size ≤ hp.objs.size + 1 := Nat.le_succ _
  have hn : H1 (hp.objs.size + 1) = none := I1.hok.fresh hsz
  have hlu : us.length = fs.length := by rw [← r1.length]; exact hz
  have hus : us.length ≤ sizeLine := by rw [hlu, sizeLine_eq]; omega
  have kk : ∀ b o, hp.get? b = some o → ((hp.push (PySem.W.kdv_tup us)).push (PySem.HandSPX.excO C hp.objs.size)).get? b = some o := fun b o e => Heap.get?_push_of_some _ (Heap.get?_push_of_some _ e)
  have hget : ((hp.push (PySem.W.kdv_tup us)).push (PySem.HandSPX.excO C hp.objs.size)).get? (hp.objs.size + 1) = some (PySem.HandSPX.excO C hp.objs.size) := by heap_get
  have I2 : Inv X pins σ (upd H1 (hp.objs.size + 1) (exo (hp.objs.size + 1) C none)) ⟨(hp.push (PySem.W.kdv_tup us)).push (PySem.HandSPX.excO C hp.objs.size), g, dr, tk, os⟩ :=
    I1.laid (t' := tk) (a := hp.objs.size + 1) (o := exo (hp.objs.size + 1) C none) (h' := (hp.push (PySem.W.kdv_tup us)).push (PySem.HandSPX.excO C hp.objs.size)) kk hsz (exo_ok hget)
  have r2 : Vals (V.ref (hp.objs.size + 1) :: vs) (Value.ref (hp.objs.size + 1) :: us) := .cons rfl r1
  generalize hA : hp.objs.size + 1 = a at hsz hn hget I2 r2
  let QI : VK := fun v H2 => v = .non ∧ ∃ d, H1 d = none ∧ d ≠ a ∧ H2 = upd (upd (upd H1 a (exo a C none)) d (exd d (fs.zip vs).reverse)) a (exo a C (some d))
  have hsp : spI X.K C fs (V.ref a :: vs) (upd H1 a (exo a C none)) QI fun _ _ _ => False :=
    ⟨a, vs, rfl, hz, upd_same, fun d hd ne => ⟨rfl, d, by rw [upd_ne ne] at hd; exact hd, ne, rfl⟩⟩
  have bt := hb _ (Value.ref a :: us) I2.kIn (by simp only [List.append_nil, List.length_cons, hlu])
  rw [List.append_nil] at bt
  refine wpAny_call (PySem.HandSPX.call_own B.F hT hC (PySem.W.looks_findIn I1.kIn iC) (fun self => PySem.W.bind_fn I1.kIn self tI) hus ?_)
  rw [hA]
  refine codeAny_mono (F1.run _ X.stack _ _ ⟨Value.ref a :: us, []⟩ (Value.ref a :: us) _ _ (fun _ _ _ => False) (hr.make C us []) (I2.env0.make C us []) bt r2 hsp) fun r s' hq' => ?_
  cases r with
  | error er =>
    obtain ⟨_, _, _, _, _, _, _, _, _, _, _, _, z⟩ := hq'
    exact z.elim
  | ok fl =>
    cases fl with
    | next => exact False.elim hq'
    | brk => exact False.elim hq'
    | cont => exact False.elim hq'
    | ret u =>
      obtain ⟨v, H2, os2, bare2, un2, hok2, rv, ev, d, hd1, ne, rfl⟩ := hq'
      subst ev
      obtain ⟨h2, g2, d2, t2, os'⟩ := s'
      refine ⟨rv, mk_end (d := d) (fs := (fs.zip vs).reverse) (raises_own T.exC T.tyC) I1 hsz kk un2 hok2 os2 bare2 upd_same (by rw [upd_ne ne, upd_same]) hd1 ?_⟩
      have e : upd (del (upd (upd (upd H1 a (exo a C none)) d (exd d (fs.zip vs).reverse)) a (exo a C (some d))) a) d (HO.xd (fs.zip vs).reverse) = upd H1 d (.xd (fs.zip vs).reverse) := by
        funext c
        by_cases h1 : c = d
        · rw [h1, upd_same, upd_same]
        · rw [upd_ne h1, upd_ne h1]
          by_cases h2 : c = a
          · rw [h2, del_same, hn]
          · rw [del_ne h2, upd_ne h2, upd_ne h1, upd_ne h2]
      rw [e]
      exact q1 d hd1
/-- C(): a class without an __init__ of its own -/
theorem pmk_err0 {bmB : List Value} {B newId initId : String} (F : ExcBaseFacts B newId initId bmB) (q : PySem.W.excIn X.K C bmB newId = true) (gC : X.mg x = some (.ref C)) (kC : PySem.W.keepIn X.K (.ref C) = true) (r : Raises X (.ref C)) (hg : Gl X x)
    (hdb : (x == ("__debug__" : Str)) = false := by decide) : PMk X (.Call (.Name x p) [] [] pos) (fun _ H Q => Q (.ref C) none H) := by
  intro pins s σ H Q I h
  refine wpAny_Call_Name_kw (ld_glob I hg gC ?_ hdb)
  refine PySem.W.callWith_K0 I.kIn kC ?_
  obtain ⟨bm, N, nm, qn, bs, hdct, sn, sub, ab, col, dd, k0, k1, k2, k3, k5, mN, hC, hN, hni, T⟩ := exc_obj I.kIn q
  refine wpAny_call_exc_subT F T hC hN hni (fun h' e hm => ?_) (by show 0 ≤ sizeLine; omega)
  exact mk_of I hm r h (I.hok.gone hm.new)
end
/-! ### raise -/
section
variable {X : Cx} {g : Gh} {W : WX} {n : Nat} {x : Str} {fs : List Str} {p pos p2 : Pos}
theorem xd_paired {K : PySem.W.Frag} {H : Hp} : ∀ {fs : List Str} {vs : List V} {ds : List D}, FDs K H vs ds → Paired (fun (p : Str × V) (q : Str × D) => p.1 = q.1 ∧ FD K H p.2 q.2) (fs.zip vs) (fs.zip ds)
  | [], _, _, _ => by simp only [List.zip_nil_left]; exact .nil
  | _ :: _, _, _, .nil => .nil
  | f :: fs, _, _, .cons h t => .cons ⟨rfl, h⟩ (xd_paired t)
theorem paired_rev {α β : Type} {R : α → β → Prop} {xs : List α} {ys : List β} (h : Paired R xs ys) : Paired R xs.reverse ys.reverse := by
  induction h with
  | nil => exact .nil
  | cons h _ ih =>
    rw [List.reverse_cons, List.reverse_cons]
    exact ih.snoc h
theorem ds_raise {e : Expr} {es : List Expr} {Fl : Lx} (Df : ErrDef X.prog X.w X.K X.mg X.base g.cl x fs) (ok : Ok X W n) (hg : Gl X x) (ha : DL X g W (e :: es) Fl) (hfs : fs ≠ [] := by decide) (hf2 : fs.length ≤ 1000 := by decide) (hn : 2 ≤ n := by decide)
    (hdb : (x == ("__debug__" : Str)) = false := by decide) (he : starEach (e :: es) X.env = (false, eval e X.env) :: starEach es X.env := by rfl) (hpl : (backTo pos (starEach es X.env)).any (·.1) = false := by rfl) :
    DS X g W (.Raise (some (.Call (.Name x p) (e :: es) [] pos)) none p2) (sRaise x fs Fl) := by
  obtain ⟨C, b, hcl, hm, B, sB, tC, kC, h⟩ := Df.ex
  rcases h with ⟨z, _⟩ | ⟨_, T, fI, fd, iC, tI, F1, hb⟩
  · exact absurd z hfs
  refine PS.imp (ps_raise ok.calm ok.tk (pmk_err B T iC tI F1 (ok.room.mono hn) hb hg hm ha hf2 hdb he hpl)) fun E σ H h => ?_
  obtain ⟨S, R, h⟩ := h
  show tG _ _ _ _ _ σ H _
  refine ⟨S, R, ?_⟩
  unfold sRaise at h
  cases q : Fl S with
  | bad => rw [q] at h; exact h.elim
  | exc y S1 => rw [q] at h; exact fun cls d H' A xr => h σ H' cls d A.step A.rel xr
  | ok ds S1 =>
    rw [q] at h
    intro vs H1 A1 fds
    have fds : FDs X.K H1 vs ds := fds
    have h : Ends X.K g W E σ S H (if ds.length = fs.length then .exc ⟨x, (fs.zip ds).reverse⟩ S1 else .bad) := h
    by_cases hl : ds.length = fs.length
    · rw [if_pos hl] at h
      refine ⟨by rw [fds.length]; exact hl, fun d hd => ?_⟩
      have gr : Grow H1 (upd H1 d (.xd (fs.zip vs).reverse)) := .new hd
      have A2 := A1.trans (After.grow A1.rel gr)
      refine h σ _ _ _ A2.step A2.rel ⟨C, hcl, rfl, .inr ⟨d, _, rfl, upd_same, paired_rev (xd_paired (fds.mono gr.keeps))⟩⟩
    · rw [if_neg hl] at h; exact h.elim
theorem ds_raise0 (Df : ErrDef X.prog X.w X.K X.mg X.base g.cl x []) (ok : Ok X W n) (hg : Gl X x) (hdb : (x == ("__debug__" : Str)) = false := by decide) :
    DS X g W (.Raise (some (.Call (.Name x p) [] [] pos)) none p2) (sRaise x [] lNil) := by
  obtain ⟨C, b, hcl, hm, B, sB, tC, kC, h⟩ := Df.ex
  rcases h with ⟨_, q⟩ | ⟨z, _⟩
  · refine PS.imp (ps_raise ok.calm ok.tk (pmk_err0 B.F q hm kC (raises_own sB tC) hg hdb)) fun E σ H h => ?_
    obtain ⟨S, R, h⟩ := h
    exact h σ H _ _ (.refl _ _ _) R ⟨C, hcl, rfl, .inl ⟨rfl, rfl⟩⟩
  · exact absurd rfl z
end
end Fm

set_option maxHeartbeats 4000000
/-! FmEc: try: .. except (A, B, C) as e: .. -/
namespace Fm
open PySem L2 PySem.Spec PyProof.Rows

theorem flying_kept {base h h' : Heap} {l : List Env} {e : Addr} {Z : Obj → Prop} (x : HandSPX.FlyingZ base l e Z h) (k : ∀ b o, h.get? b = some o → h'.get? b = some o) : HandSPX.FlyingZ base l e Z h' := by
  obtain ⟨st, nb, ff, oe, vs, T, oT, ts, he, hz, hd, h1, hnT, hTe, hT, hdT, h3⟩ := x
  exact ⟨fun b o q => k b o (st b o q), nb, ff.of_keeps fun b o q _ => ⟨o, k b o q, rfl⟩, oe, vs, T, oT, ts, k _ _ he, hz, hd, h1, hnT, hTe, k _ _ hT, hdT, h3⟩
/-- what the clause wishes of an error of the body -/
def wAs3 (K : PySem.W.Frag) (cs : List Value) (i : Nat) (ts : Addr → Value → Option Addr → TS) (Wout : WX) (D : L2.Ends) : WX := fun cls d σ H =>
  ∃ b, PySem.W.exmAny K cls cs = some b ∧ (b = true → i < σ.length → ∀ a, H a = none → ts a cls d { nx := fun σ' H' => D.nx (σ'.set i none) H', rt := D.rt, bk := fun σ' H' => D.bk (σ'.set i none) H', ct := fun σ' H' => D.ct (σ'.set i none) H' } (σ.set i (some (.ref a))) H) ∧
    (b = false → Wout cls d σ H)
/-- the names of the clause -/
def Glb (X : Cx) (x : Str) (C : Addr) : Prop := Gl X x ∧ (x == ("__debug__" : Str)) = false ∧ X.mg x = some (.ref C)
section
variable {X : Cx} {x1 x2 x3 n : Str} {c1 c2 c3 : Addr} {i : Nat} {body suite : List Stmt} {b₀ : Stmt} {p1 p2 p3 tp pos pos' : Pos} {tb : WX → TS} {ts : Addr → Value → Option Addr → TS} {Wout : WX} {kk : Nat}
/-- the clause's three names as a tuple -/
theorem eval_three {pins : List (Addr × Obj)} {σ : L2.St} {H : Hp} {s : Shared} {Q : Value → Shared → Prop} {E : Value → Shared → Prop} (I : Inv X pins σ H s) (h1 : Glb X x1 c1) (h2 : Glb X x2 c2) (h3 : Glb X x3 c3)
    (q : Q (.ref s.heap.objs.size) { s with heap := s.heap.push { cls := .type "tuple", data := .seq [Value.ref c1, .ref c2, .ref c3].toArray } }) :
    wpAny (model X.prog X.w) X.A (eval (.Tuple [.Name x1 p1, .Name x2 p2, .Name x3 p3] kk tp) X.env) Q E s := by
  refine wpAny_Tuple_spliced (wpAny_items_cons (ld_glob I h1.1 h1.2.2 ?_ h1.2.1))
  refine wpAny_items_cons (ld_glob I h2.1 h2.2.2 ?_ h2.2.1)
  refine wpAny_items_cons (ld_glob I h3.1 h3.2.2 ?_ h3.2.1)
  exact wpAny_pure ⟨by show 3 ≤ sizeLine; rw [sizeLine_eq]; omega, q⟩
theorem ps_try3 (hs : X.stack = X.env :: X.outer) (hf : X.env.frame = some X.env.locals) (hN : X.N.Nodup) (hi : X.N[i]? = some n) (hln : X.env.kindOf n = some .local) (h1 : Glb X x1 c1) (h2 : Glb X x2 c2) (h3 : Glb X x3 c3) (tk : Takes X Wout)
    (hb : ∀ (W : WX) (pn : List (Addr × Obj)) (xe : Value → Shared → Prop), Takes (X.tr pn xe) W → PassesOwn (model X.prog X.w) X.A X.env xe → PSs (X.tr pn xe) body (tb W))
    (hsu : ∀ (a : Addr) (oe : Obj) (cls : Value) (d : Option Addr) (pn : List (Addr × Obj)), Zc cls d oe → (∃ vs, oe.data = .fields vs) → PSs (X.suite a ((a, oe) :: pn)) (b₀ :: suite) (ts a cls d)) :
    PS X (.Try body [.ExceptHandler (some (.Tuple [.Name x1 p1, .Name x2 p2, .Name x3 p3] kk tp)) (some n) (b₀ :: suite) pos'] [] [] pos) (fun D σ H => tb (wAs3 X.K [.ref c1, .ref c2, .ref c3] i ts Wout D) D σ H) := by
  refine ⟨fun pins s σ H D I h => ?_⟩
  have ok := I.ok
  have hfr : X.A.frames = some (X.env :: X.outer) := by rw [ok.frames, hs]
  refine wpAny_Try_except ?_
  refine wpAny_mono ((hb (wAs3 X.K [.ref c1, .ref c2, .ref c3] i ts Wout D) (X.pn ++ pins) _ (fun u s' xx => ?_) PassesOwn.looking).run [] s σ H D (I.toTry _) h) (fun f s1 hsp => ?_) (fun e s1 he => he)
  · obtain ⟨a, B, sI, pins', σ', H', cls, d, rfl, J', nb, up, sky, na, os, ag, hit, hx, hyes, hno⟩ := xx
    have J : Inv X pins σ' H' sI := J'.ofTry ok
    rw [show (X.tr _ _).stack = X.env :: X.outer from hs] at sky
    show wpAny (model X.prog X.w) X.A (noteFrame (.ref a) X.env) _ _ _
    refine Sky.land Zc.steady hfr hf sky fun h3' fl3 up3 => ?_
    -- any state that holds the error in hand
    have hand : ∀ {h' : Heap}, HandSPX.FlyingZ B (X.env :: X.outer) a (Zc cls d) h' → sI.heap.UpToSlots h' → ∃ oe, Zc cls d oe ∧ (∃ vs, oe.data = .fields vs) ∧ h'.get? a = some oe ∧ Inv (X.suite a ((a, oe) :: (X.pn ++ pins))) [] σ' H' { s' with heap := h' } := fun {h'} fl u => by
      obtain ⟨oe, vs, he, hz, hd⟩ := fl.there
      have nfr : a ∉ frs (X.env :: X.outer) := fun hm => by
        obtain ⟨_, o, e', hnf⟩ := fl.2.2.1.mem hm
        rw [he] at e'
        cases e'
        exact hnf _ hd
      have nF : a ∉ X.fs := fun hm => by
        obtain ⟨e, hm, q⟩ := List.mem_filterMap.mp hm
        exact nfr (List.mem_filterMap.mpr ⟨e, List.mem_cons_of_mem _ hm, q⟩)
      exact ⟨oe, hz, ⟨vs, hd⟩, he, (J.landed (s' := { s' with heap := h' }) nb fl.1 u os ag).suite he hd na (fun z => nfr (List.mem_filterMap.mpr ⟨X.env, List.mem_cons_self, by rw [hf, z]⟩)) nF⟩
    obtain ⟨oe, hz, _, he, S3⟩ := hand fl3 (up.trans up3)
    refine wpAny_handleBy_cons (codeAny_handlers_test ?_) (by intro q; cases q)
    refine eval_three (X := X.suite a ((a, oe) :: (X.pn ++ pins))) S3 h1 h2 h3 ?_
    have kp : ∀ b o, h3'.get? b = some o → (h3'.push { cls := .type "tuple", data := .seq [Value.ref c1, .ref c2, .ref c3].toArray }).get? b = some o := fun b o e => Heap.get?_push_of_some _ e
    have hT := Heap.get?_push_size h3' (o := { cls := .type "tuple", data := .seq [Value.ref c1, .ref c2, .ref c3].toArray }) rfl
    have fl5 := flying_kept fl3 kp
    have up5 := (up.trans up3).trans (Heap.UpToSlots.of_keeps kp)
    have LT : PySem.W.Looks (model X.prog X.w) (h3'.push { cls := .type "tuple", data := .seq [Value.ref c1, .ref c2, .ref c3].toArray }) (typeOf (.ref a)) cls := fun A Q E s k q => wpAny_typeOf_ref (k _ _ (kp _ _ he)) (by rw [hz.1]; exact q)
    refine (PySem.W.exm_tup3 (M := model X.prog X.w) (S3.kIn.keeps kp) LT hT hx).here ?_
    generalize (h3'.push { cls := .type "tuple", data := .seq [Value.ref c1, .ref c2, .ref c3].toArray }) = h5 at fl5 up5
    cases hit with
    | true =>
      refine codeAny_handlers_suite_as (HandSPX.lands_againZ fl5 fun h6 fl6 up6 => ?_)
      obtain ⟨oe6, hz6, hd6, _, S6⟩ := hand fl6 (up5.trans up6)
      refine store_ok (X := X.suite a ((a, oe6) :: (X.pn ++ pins))) (v := .ref a) S6 hN hi (.inl hln) rfl (fun s7 S7 => ?_) (.inr hln)
      refine wpAny_mono ((hsu a oe6 cls d (X.pn ++ pins) hz6 hd6).run [] s7 _ H' _ S7 (hyes rfl (by rw [J.len]; exact (List.getElem?_eq_some_iff.mp hi).1) a na)) (fun f s8 q8 => ?_) (fun _ _ z => False.elim z)
      have off : ∀ {σ8 : L2.St} {H8 : Hp} {Q : Shared → Prop}, Inv (X.suite a ((a, oe6) :: (X.pn ++ pins))) [] σ8 H8 s8 → (∀ s9, Inv X pins (σ8.set i none) H8 s9 → Q s9) →
          wpAny (model X.prog X.w) X.A (do bindName X.env n .none; unbindBehindTheSuite X.env n pos') (fun _ s9 => Q s9) X.xe s8 := fun S8 q => gone_ok (S8.unsuite ok) hN hi hln q
      cases f with
      | ret u =>
        obtain ⟨v, σ8, H8, S8, rv, q⟩ := q8
        exact off S8 fun s9 J9 => ⟨v, _, H8, J9, rv, q⟩
      | next =>
        obtain ⟨σ8, H8, S8, q⟩ := q8
        exact off S8 fun s9 J9 => ⟨_, H8, J9, q⟩
      | brk =>
        obtain ⟨σ8, H8, S8, q⟩ := q8
        exact off S8 fun s9 J9 => ⟨_, H8, J9, q⟩
      | cont =>
        obtain ⟨σ8, H8, S8, q⟩ := q8
        exact off S8 fun s9 J9 => ⟨_, H8, J9, q⟩
    | false =>
      show wpAny _ X.A (handleBy (.ref a) X.env []) _ _ _
      refine wpAny_handleBy_nil ?_
      obtain ⟨_, _, _, oe', vs, T, oT, ts', he', hz', hd', h1', hr⟩ := id fl5
      unfold PySem.passOn
      refine wpAny_bind (wpAny_field he' hd' h1' ?_)
      rw [if_neg (show ¬ ((Value.ref T == Value.none) = true) from by simp)]
      have fin : wpAny (model X.prog X.w) X.A (setFlight (.ref a) X.env.frame) (fun _ s4 => wpAny (model X.prog X.w) X.A (throw (.ref a) : Sem Flow) (SP X pins D) X.xe s4) X.xe { s' with heap := h5 } := by
        rw [hf]
        refine HandSPX.setFlight_upZ fl5 fun h6 hh6 up6 => wpAny_throw (tk _ _ ?_)
        exact ⟨a, B, sI, pins, σ', H', cls, d, rfl, J, nb, up5.trans up6, .inr (.inr (by rw [hs]; exact hh6)), na, os, ag, hno rfl⟩
      first
        | exact wpAny_bind (wpAny_pure (wpAny_bind fin))
        | exact wpAny_bind fin
  · cases f with
    | ret u =>
      obtain ⟨v, σ', H', J', r, q⟩ := hsp
      exact ⟨v, σ', H', J'.ofTry ok, r, q⟩
    | next =>
      obtain ⟨σ', H', J', q⟩ := hsp
      exact wpAny_execs_nil ⟨σ', H', J'.ofTry ok, q⟩
    | brk =>
      obtain ⟨σ', H', J', q⟩ := hsp
      exact ⟨σ', H', J'.ofTry ok, q⟩
    | cont =>
      obtain ⟨σ', H', J', q⟩ := hsp
      exact ⟨σ', H', J'.ofTry ok, q⟩
end
end Fm

set_option maxHeartbeats 4000000
/-! FmEd: try over slots; an except suite's questions about its error. -/
namespace Fm
open PySem L2 PySem.Spec PyProof.Rows

/-! ### what the written part says of the error classes -/
structure Errs (K : PySem.W.Frag) (cl : Str → Option Addr) (rs ts : List Str) : Prop where
  cl : ∀ x C, cl x = some C → x ∈ rs ∧ C = He.ga K x
  exm : ∀ x ∈ rs, ∀ c ∈ ts, PySem.W.exmOne K (.ref (He.ga K x)) (.ref (He.ga K c)) = some (subX x c)
  kit : ∀ x ∈ rs, ∀ c ∈ ts, PySem.W.kitOne K (.ref (He.ga K x)) (.ref (He.ga K c)) = some (subX x c)
  kib : ∀ x ∈ rs, ∀ T ∈ errB3, PySem.W.kitOne K (.ref (He.ga K x)) (.type T) = some (subX x (Str.ofString T))
  fld : ∀ x ∈ rs, ∀ f ∈ errFs, PySem.W.findIn K (.ref (He.ga K x)) f = some none
  ga : ∀ x ∈ rs, PySem.W.findIn K (.ref (He.ga K x)) "__getattribute__" = some (some (.builtin "BaseException.__getattribute__"))
  gg : ∀ x ∈ rs, PySem.W.findIn K (.ref (He.ga K x)) "__getattr__" = some none
  be : ∀ x ∈ rs, PySem.W.subIn K (.ref (He.ga K x)) (.type "BaseException") = some true
  hd : ∀ x ∈ rs, PySem.W.hasDictIn K (He.ga K x) = true
  ca : ∀ x ∈ rs, PySem.W.findIn K (.ref (He.ga K x)) "__class__" = some (some (.builtin "object.__class__"))
  ob : ∀ x ∈ rs, PySem.W.mroIn K (He.ga K x) (.type "object") = some true
  sp : rs = [] ∨ (PySem.W.specialIn K (.builtin "object.__class__") "__get__" = some (some (.builtin "getset_descriptor.__get__")) ∧ PySem.W.takesIn K (.builtin "object.__class__") = some true)
theorem exmAny_of {K : PySem.W.Frag} {cls : Value} {f : Str → Bool} {ad : Str → Addr} : ∀ (cs : List Str), (∀ c ∈ cs, PySem.W.exmOne K cls (.ref (ad c)) = some (f c)) → PySem.W.exmAny K cls (cs.map fun c => .ref (ad c)) = some (cs.any f)
  | [], _ => rfl
  | c :: cs, h => by
    rw [List.map_cons]
    unfold PySem.W.exmAny
    rw [h c (List.mem_cons_self ..), exmAny_of cs fun x hx => h x (List.mem_cons_of_mem _ hx)]
    rfl
/-! ### the ghost of a suite: slot i is the error's -/
def psHot (ps : List V) (i : Nat) (a : Addr) : List V := (List.range (ps.length + i + 1)).map fun j => if j = i then .ref a else (ps[j]?).getD .non
theorem psHot_self (ps : List V) (i : Nat) (a : Addr) : (psHot ps i a)[i]? = some (.ref a) := by
  unfold psHot
  rw [List.getElem?_map, List.getElem?_range (by omega)]
  simp
theorem psHot_ne {ps : List V} {i j : Nat} {a : Addr} {v : V} (h : j ≠ i) (e : ps[j]? = some v) : (psHot ps i a)[j]? = some v := by
  have hj : j < ps.length := (List.getElem?_eq_some_iff.mp e).1
  unfold psHot
  rw [List.getElem?_map, List.getElem?_range (by omega)]
  simp [h, e]
abbrev Gh.hot (g : Gh) (i : Nat) (a : Addr) (J : Hp → Prop) (m : ∀ H H' : Hp, Keeps H H' → J H → J H') : Gh := ⟨g.H0, psHot g.ps i a, fun j => j == i || g.fx j, g.cl, J, m⟩
/-- the context of a suite bears its error -/
structure HotX (X : Cx) (g : Gh) (i : Nat) (x : Exn) : Prop where
  ex : ∃ (a : Addr) (oe : Obj) (vs : Array Value) (cls : Value) (d : Option Addr), (a, oe) ∈ X.pn ∧ oe.cls = cls ∧ oe.dict = d ∧ oe.data = .fields vs ∧ g.ps[i]? = some (.ref a) ∧ ∀ H, g.inv H → XRel X.K g H x cls d
  fx : g.fx i = true
section
variable {K : PySem.W.Frag} {g : Gh} {σ : L2.St} {H : Hp} {S : Sl} {i : Nat} {a : Addr} {J : Hp → Prop} {m : ∀ H H' : Hp, Keeps H H' → J H → J H'}
theorem Live.hot {b : Addr} {v : Option V} (l : Live (σ.set i v) (S.set i none) b) : Live σ S b := by
  obtain ⟨j, o, e, q⟩ := l
  rcases at_set e with ⟨_, z⟩ | ⟨e', hj⟩
  · cases z
  · have hn : i ≠ j := fun z => by
      subst z
      have hlt := at_lt e
      rw [at_set_self (by simpa using hlt)] at e
      cases e
    rw [List.getElem?_set_ne hn] at q
    exact ⟨j, o, e', q⟩
theorem Step.hot {v : Option V} : Step σ S H (σ.set i v) (S.set i none) H := ⟨fun _ _ h _ => h, fun _ h => h, fun _ l => .inl l.hot⟩
theorem Step.off : Step σ S H σ (S.set i none) H := ⟨fun _ _ h _ => h, fun _ h => h, fun b ⟨j, o, e, q⟩ => .inl (by
  rcases at_set e with ⟨_, z⟩ | ⟨e', _⟩
  · cases z
  · exact ⟨j, o, e', q⟩)⟩
theorem at_none {j : Nat} {w : SV} (e : at? (S.set i none) j = some w) : i ≠ j ∧ at? S j = some w := by
  rcases at_set e with ⟨_, z⟩ | ⟨e', _⟩
  · cases z
  · refine ⟨fun z => ?_, e'⟩
    subst z
    have hlt := at_lt e
    rw [at_set_self (by simpa using hlt)] at e
    cases e
/-- into the suite -/
theorem Rel.hot (R : Rel K g σ H S) (hf : g.fx i = false) (hi : i < σ.length) (j : J H) : Rel K (g.hot i a J m) (σ.set i (some (.ref a))) H (S.set i none) := by
  refine ⟨by rw [List.length_set, List.length_set]; exact R.len, fun k w e => ?_, fun k k' b o o' e e' q q' => ?_, fun k o b e f q => ?_, fun k f => ?_, R.trk, j⟩
  · obtain ⟨n, e⟩ := at_none e
    obtain ⟨u, h1, h2⟩ := R.rel k w e
    exact ⟨u, by rw [List.getElem?_set_ne n]; exact h1, h2⟩
  · obtain ⟨n, e⟩ := at_none e
    obtain ⟨n', e'⟩ := at_none e'
    rw [List.getElem?_set_ne n] at q
    rw [List.getElem?_set_ne n'] at q'
    exact R.inj k k' b o o' e e' q q'
  · obtain ⟨n, e⟩ := at_none e
    rw [List.getElem?_set_ne n] at q
    have f : (k == i || g.fx k) = false := f
    rw [Bool.or_eq_false_iff] at f
    exact R.fresh k o b e f.2 q
  · by_cases hk : k = i
    · subst hk
      exact ⟨.ref a, List.getElem?_set_self hi, psHot_self _ _ _⟩
    · have f : (k == i || g.fx k) = true := f
      have f' : g.fx k = true := by
        rw [Bool.or_eq_true] at f
        exact f.resolve_left fun z => hk (by simpa using z)
      obtain ⟨v, h1, h2⟩ := R.par k f'
      exact ⟨v, by rw [List.getElem?_set_ne (Ne.symm hk)]; exact h1, psHot_ne hk h2⟩
/-- out of it -/
theorem Rel.cool (R : Rel K (g.hot i a J m) σ H S) (hf : g.fx i = false) (hp : ∀ k, g.fx k = true → ∃ v, g.ps[k]? = some v) (hJ : ∀ H, J H → g.inv H) {v : Option V} (hv : v = none ∨ σ[i]? = some v) : Rel K g (σ.set i v) H (S.set i none) := by
  refine ⟨by rw [List.length_set, List.length_set]; exact R.len, fun k w e => ?_, fun k k' b o o' e e' q q' => ?_, fun k o b e f q => ?_, fun k f => ?_, R.trk, hJ _ R.inv⟩
  · obtain ⟨n, e⟩ := at_none e
    obtain ⟨u, h1, h2⟩ := R.rel k w e
    exact ⟨u, by rw [List.getElem?_set_ne n]; exact h1, h2⟩
  · obtain ⟨n, e⟩ := at_none e
    obtain ⟨n', e'⟩ := at_none e'
    rw [List.getElem?_set_ne n] at q
    rw [List.getElem?_set_ne n'] at q'
    exact R.inj k k' b o o' e e' q q'
  · obtain ⟨n, e⟩ := at_none e
    rw [List.getElem?_set_ne n] at q
    exact R.fresh k o b e (by show (k == i || g.fx k) = false; rw [f, Bool.or_false]; simpa using Ne.symm n) q
  · have hk : i ≠ k := fun z => by rw [← z, hf] at f; cases f
    obtain ⟨v', h1, h2⟩ := R.par k (by show (k == i || g.fx k) = true; rw [f, Bool.or_true])
    refine ⟨v', by rw [List.getElem?_set_ne hk]; exact h1, ?_⟩
    have h2 : (psHot g.ps i a)[k]? = some v' := h2
    obtain ⟨u, hu⟩ := hp k f
    rw [psHot_ne (Ne.symm hk) hu] at h2
    rw [hu]
    exact h2
end
/-! ### try -/
theorem PSs.ex {X : Cx} {α : Type} {st : List Stmt} {t : α → TS} (h : ∀ y, PSs X st (t y)) : PSs X st (fun D σ H => ∃ y, t y D σ H) := ⟨fun pins s σ H D I ⟨y, q⟩ => (h y).run pins s σ H D I q⟩
/-- what is known in a suite -/
structure HotJ where
  x : Exn
  J : Hp → Prop
  m : ∀ H H' : Hp, Keeps H H' → J H → J H'
section
variable {X : Cx} {g : Gh} {W : WX} {n i : Nat} {body sts : List Stmt} {b₀ : Stmt} {B : Sx} {h : Exn → Sx} {rs ts : List Str} {x1 x2 x3 nm : Str} {p1 p2 p3 tp pos pos' : Pos} {kk : Nat}
theorem Ok.tr (ok : Ok X W n) {pn : List (Addr × Obj)} {xe : Value → Shared → Prop} {W' : WX} (tk : Takes (X.tr pn xe) W') : Ok (X.tr pn xe) W' n := ⟨ok.room, ok.gd, tk, ok.calm, ok.nd⟩
theorem Ok.toH (ok : Ok X W n) (a : Addr) (pn : List (Addr × Obj)) : Okh (X.suite a pn) n := ⟨ok.h.dp, ok.h.un, ok.h.gd, ok.h.nd⟩
theorem ds_try (Er : Errs X.K g.cl rs ts) (ok : Ok X W n) (hs : X.stack = X.env :: X.outer) (hf : X.env.frame = some X.env.locals) (hfx : g.fx i = false) (hi : X.N[i]? = some nm) (hln : X.env.kindOf nm = some .local)
    (h1 : Glb X x1 (He.ga X.K x1)) (h2 : Glb X x2 (He.ga X.K x2)) (h3 : Glb X x3 (He.ga X.K x3)) (ht : ∀ c ∈ [x1, x2, x3], c ∈ ts)
    (hb : ∀ (W' : WX) (pn : List (Addr × Obj)) (xe : Value → Shared → Prop), Ok (X.tr pn xe) W' n → PassesOwn (model X.prog X.w) X.A X.env xe → DB (X.tr pn xe) g W' body B)
    (hsu : ∀ (a : Addr) (oe : Obj) (pn : List (Addr × Obj)) (j : HotJ), Okh (X.suite a ((a, oe) :: pn)) n → HotX (X.suite a ((a, oe) :: pn)) (g.hot i a j.J j.m) i j.x → DB (X.suite a ((a, oe) :: pn)) (g.hot i a j.J j.m) W0 (b₀ :: sts) (h j.x)) :
    DS X g W (.Try body [.ExceptHandler (some (.Tuple [.Name x1 p1, .Name x2 p2, .Name x3 p3] kk tp)) (some nm) (b₀ :: sts) pos'] [] [] pos) (sTry i [x1, x2, x3] B h) := by
  refine PS.imp (ps_try3 (tb := fun W' => rS X.K g W' B) (Wout := W)
    (ts := fun a cls d D σ H => ∃ j : HotJ, ((∀ H, j.J H → XRel X.K g H j.x cls d)) ∧ rS X.K (g.hot i a j.J j.m) W0 (h j.x) D σ H) hs hf ok.nd hi hln h1 h2 h3 ok.tk
    (fun W' pn xe tk po => hb W' pn xe (ok.tr tk) po) fun a oe cls d pn hz hd => ?_) ?_
  · refine PSs.ex fun j => PSs.on fun hx => ?_
    obtain ⟨vs, hd⟩ := hd
    exact hsu a oe pn j (ok.toH a _) ⟨⟨a, oe, vs, cls, d, List.mem_cons_self .., hz.1, hz.2, hd, psHot_self _ _ _, hx⟩, by show (i == i || g.fx i) = true; simp⟩
  · rintro D σ H ⟨S, R, hE⟩
    refine ⟨S, R, ?_⟩
    unfold sTry at hE
    cases q : B S with
    | nx S1 => rw [q] at hE; exact hE
    | bk S1 => rw [q] at hE; exact hE
    | ct S1 => rw [q] at hE; exact hE
    | rt v S1 => rw [q] at hE; exact hE
    | bad => rw [q] at hE; exact hE.elim
    | exc x S1 =>
      rw [q] at hE
      intro σ1 H1 cls d st1 R1 xr
      obtain ⟨C, hC, ec, _⟩ := id xr
      obtain ⟨hr, rfl⟩ := Er.cl _ _ hC
      subst ec
      have hany := exmAny_of (K := X.K) (cls := .ref (He.ga X.K x.cls)) (f := subX x.cls) (ad := He.ga X.K) [x1, x2, x3] fun c hc => Er.exm _ hr c (ht c hc)
      refine ⟨_, hany, fun hit hi1 a na => ?_, fun hit => ?_⟩
      · have hE : Ends X.K g W D σ S H ((h x (S1.set i none)).off i) := by
          have := hE
          rw [catch_exc, if_pos hit] at this
          exact this
        refine ⟨⟨x, fun H => g.inv H ∧ XRel X.K g H x (.ref (He.ga X.K x.cls)) d, fun H H' k z => ⟨g.mono H H' k z.1, z.2.mono k⟩⟩, fun H z => z.2, S1.set i none, R1.hot hfx hi1 ⟨R1.inv, xr⟩, ?_⟩
        have hp : ∀ k, g.fx k = true → ∃ v, g.ps[k]? = some v := fun k f => by
          obtain ⟨v, _, e⟩ := R.par k f
          exact ⟨v, e⟩
        have st2 := st1.trans (Step.hot (σ := σ1) (S := S1) (H := H1) (i := i) (v := some (.ref a)))
        cases q2 : h x (S1.set i none) with
        | bad => rw [q2] at hE; exact hE.elim
        | exc y S2 => rw [q2] at hE; exact hE.elim
        | nx S2 =>
          rw [q2] at hE
          intro σ2 H2 st3 R3
          exact hE _ _ ((st2.trans st3).trans Step.hot) (R3.cool hfx hp (fun H z => z.1) (.inl rfl))
        | bk S2 =>
          rw [q2] at hE
          intro σ2 H2 st3 R3
          exact hE _ _ ((st2.trans st3).trans Step.hot) (R3.cool hfx hp (fun H z => z.1) (.inl rfl))
        | ct S2 =>
          rw [q2] at hE
          intro σ2 H2 st3 R3
          exact hE _ _ ((st2.trans st3).trans Step.hot) (R3.cool hfx hp (fun H z => z.1) (.inl rfl))
        | rt v S2 =>
          rw [q2] at hE
          intro σ2 H2 u st3 R3 vr
          have hσ : ∃ w, σ2[i]? = some w ∧ σ2.set i w = σ2 := by
            obtain ⟨w, e, _⟩ := R3.par i (by show (i == i || g.fx i) = true; simp)
            refine ⟨some w, e, ?_⟩
            obtain ⟨hl, e⟩ := List.getElem?_eq_some_iff.mp e
            rw [← e]
            simp
          obtain ⟨w, e1, e2⟩ := hσ
          have R4 := R3.cool hfx hp (fun H z => z.1) (v := w) (.inr e1)
          rw [e2] at R4
          refine hE σ2 H2 u ((st2.trans st3).trans Step.off) R4 ?_
          cases v with
          | d y => exact vr
          | br j => exact vr
          | fr o =>
            obtain ⟨b, e, ob, nl, z⟩ := vr
            refine ⟨b, e, ob, fun l => nl ?_, z⟩
            obtain ⟨j, o', h1, h2⟩ := l
            exact ⟨j, o', (at_none h1).2, h2⟩
      · have hE : Ends X.K g W D σ S H (.exc x S1) := by
          have := hE
          rw [catch_exc, if_neg (by rw [hit]; decide)] at this
          exact this
        exact hE σ1 H1 _ d st1 R1 xr
end
end Fm

set_option maxHeartbeats 4000000
/-! FmEe: isinstance(e, C), e.f, f(e) in an except suite and in defs that it calls; xs.index(y). -/
namespace Fm
open PySem L2 PySem.Spec PyProof.Rows

/-! ### xs.index(y) -/
theorem indexD_ty {dx dy : D} {rv : RV} (e : indexD dx dy = some rv) : tyName dx = "list" := by
  cases dx with
  | list xs => rfl
  | _ => cases e
theorem mo_index {X : Cx} : MtOk X "list.index" "list" indexD := by
  intro pins s σ H x xs v us Q I rx rs h
  obtain ⟨y, dx, dy, rv, rfl, tx, ty, _, e, Y⟩ := h
  cases dx with
  | list ds =>
    have e : (if (flat dy && ds.all flat) = true then (ds.findIdx? fun x => PyData.eqv x dy).map fun j => RV.d (.int (j : Nat)) else none) = some rv := e
    by_cases z : (flat dy && ds.all flat) = true
    · rw [if_pos z] at e
      obtain ⟨j, hj, rfl⟩ := Option.map_eq_some_iff.mp e
      rw [Bool.and_eq_true] at z
      obtain ⟨p, vs, rfl, hp, f⟩ := tx.lst
      obtain ⟨h1, h2, h3⟩ := in_core ty f (by rw [Bool.and_eq_true]; exact z)
      have each : ∀ {m : Nat} {u : V} {d : D}, vs[m]? = some u → ds[m]? = some d → eqV u y = PyData.eqv d dy := fun {m u d} q1 q2 => by
        obtain ⟨d', q3, fd⟩ := f.get q1
        rw [q2] at q3
        cases q3
        exact eqV_td (.inl fd) ty (List.all_eq_true.mp z.2 _ (List.mem_of_getElem? q2)) z.1
      obtain ⟨hlt, hjy, hno⟩ := List.findIdx?_eq_some_iff_getElem.mp hj
      obtain ⟨u, hu, _⟩ := f.get' (List.getElem?_eq_getElem hlt)
      refine mt_index pins s σ H _ [y] v us Q I rx rs ⟨p, vs, y, j, u, rfl, rfl, .inl hp, h1, h2, hu, (each hu (List.getElem?_eq_getElem hlt)).trans hjy, fun m z' hm hz => ?_, Y.same (.int _)⟩
      have hml : m < ds.length := by omega
      rw [each hz (List.getElem?_eq_getElem hml)]
      simpa using hno m hm
    · rw [if_neg z] at e; cases e
  | _ => cases e
/-! ### questions about the error at hand -/
section
variable {X : Cx} {g : Gh} {W : WX} {i : Nat} {x : Exn} {rs ts : List Str} {nm c f : Str} {p np cp pos : Pos}
theorem HotX.var (Hx : HotX X g i x) {σ : L2.St} {H : Hp} {S : Sl} (R : Rel X.K g σ H S) : ∃ (a : Addr) (oe : Obj) (vs : Array Value) (cls : Value) (d : Option Addr), (a, oe) ∈ X.pn ∧ oe.cls = cls ∧ oe.dict = d ∧ oe.data = .fields vs ∧ σ[i]? = some (some (.ref a)) ∧ XRel X.K g H x cls d := by
  obtain ⟨a, oe, vs, cls, d, h1, h2, h3, h4, h5, h6⟩ := Hx.ex
  obtain ⟨v, q1, q2⟩ := R.par i Hx.fx
  rw [h5] at q2
  cases q2
  exact ⟨a, oe, vs, cls, d, h1, h2, h3, h4, q1, h6 H R.inv⟩
/-- the error as an instance -/
theorem inst_of {pins : List (Addr × Obj)} {σ : L2.St} {H : Hp} {s : Shared} (I : Inv X pins σ H s) {a : Addr} {oe : Obj} {vs : Array Value} {cls : Value} {d : Option Addr} {C : Addr} (hm : (a, oe) ∈ X.pn) (h1 : oe.cls = cls) (h2 : oe.dict = d) (h3 : oe.data = .fields vs) (hc : cls = .ref C)
    (hx : (x.fs = [] ∧ d = none) ∨ ∃ dd vs, d = some dd ∧ H dd = some (.xd vs) ∧ Paired (fun (p : Str × V) (q : Str × D) => p.1 = q.1 ∧ FD X.K H p.2 q.2) vs x.fs) : ∃ od, PySem.W.InstAt s.heap a oe C od := by
  obtain ⟨ha, _⟩ := I.pin (a, oe) (List.mem_append_left _ hm)
  obtain ⟨oc, odc, oda, osl⟩ := oe
  dsimp only at h1 h2 h3
  subst h1 h2 h3
  rcases hx with ⟨_, rfl⟩ | ⟨dd, us, rfl, hd, _⟩
  · exact ⟨none, ha, hc, rfl, trivial⟩
  · have hx : ObjOk X.prog X.w H s.heap dd (.xd us) := I.hok dd _ hd
    obtain ⟨mA, hns, _⟩ := hx
    obtain ⟨od, ho, _⟩ := lookIn_ns hns
    exact ⟨some od, ha, hc, rfl, ho⟩
theorem call_isX (Er : Errs X.K g.cl rs ts) : CallR X (.builtin "isinstance") (fun xs H Q => ∃ (a : Addr) (oe : Obj) (vs : Array Value) (cls : Value) (d : Option Addr) (v : V) (cv : Value) (b : Bool), xs = [.ref a, v] ∧ (∀ u, RelV v u → u = cv) ∧ (a, oe) ∈ X.pn ∧ oe.cls = cls ∧ oe.dict = d ∧ oe.data = .fields vs ∧ XRel X.K g H x cls d ∧
    PySem.W.kitOne X.K cls cv = some b ∧ Q (.bl b) H) := by
  intro pins s σ H xs us Q I r h
  obtain ⟨a, oe, vs, cls, d, v, cv, b, rfl, hcv, hm, h1, h2, h3, xr, e, q⟩ := h
  cases r with
  | cons rx rr =>
    cases rr with
    | cons rt rr =>
      cases rr
      cases rx
      have ec := hcv _ rt
      subst ec
      obtain ⟨C, hC, rfl, hx⟩ := xr
      obtain ⟨hr, rfl⟩ := Er.cl _ _ hC
      obtain ⟨od, J⟩ := inst_of I hm h1 h2 h3 rfl hx
      obtain ⟨cd, hcd, _⟩ := PySem.W.any_some (Er.hd _ hr)
      rcases Er.sp with z | ⟨s1, s2⟩
      · rw [z] at hr; cases hr
      · exact PySem.W.kia_one (PySem.W.kitx_exc (by rw [hcd]; rfl) (Er.ga _ hr) (Er.gg _ hr) (Er.be _ hr) (Er.ca _ hr) s1 s2 (Er.ob _ hr)) I.kIn J e (fun z => nomatch z) fun tk => ⟨.bl b, H, I.kept (t' := tk) fun _ _ z => z, rfl, q⟩
theorem isX_read {v : V} {cv : Value} {b : Bool} {σ : L2.St} {H : Hp} {Q : VK} (Hx : HotX X g i x) (hcv : ∀ u, RelV v u → u = cv) (hk : ∀ cls d, XRel X.K g H x cls d → PySem.W.kitOne X.K cls cv = some b) (h : rE X.K g W (eC (.bool b)) σ H Q) :
    tCB (fun xs H Q => ∃ (a : Addr) (oe : Obj) (vs : Array Value) (cls : Value) (d : Option Addr) (v : V) (cv : Value) (b : Bool), xs = [.ref a, v] ∧ (∀ u, RelV v u → u = cv) ∧ (a, oe) ∈ X.pn ∧ oe.cls = cls ∧ oe.dict = d ∧ oe.data = .fields vs ∧ XRel X.K g H x cls d ∧
    PySem.W.kitOne X.K cls cv = some b ∧ Q (.bl b) H) (tCons (tVar i) (tCons (tC v) tNil)) σ H Q := by
  obtain ⟨S, R, h⟩ := h
  obtain ⟨a, oe, vs, cls, d, h1, h2, h3, h4, h5, h6⟩ := Hx.var R
  exact ⟨.ref a, h5, a, oe, vs, cls, d, v, cv, b, rfl, hcv, h1, h2, h3, h4, h6, hk _ _ h6, h _ _ (.refl R) ⟨.bl b, trivial⟩⟩
theorem de_isX (Er : Errs X.K g.cl rs ts) (Hx : HotX X g i x) (hc : Glb X c (He.ga X.K c)) (hct : c ∈ ts) (hg : Gl X "isinstance") (hm : X.mg "isinstance" = none) (hN : X.N[i]? = some nm := by rfl)
    (hv : Vis X.env.scope nm := by first | exact Or.inl rfl | exact Or.inr (Or.inl rfl) | exact Or.inr (Or.inr rfl)) (hd : (nm == ("__debug__" : Str)) = false := by decide) (hcd : (nm == ("__classdict__" : Str)) = false := by decide)
    (he : starEach (.Name nm np :: [.Name c cp]) X.env = (false, eval (.Name nm np) X.env) :: starEach [.Name c cp] X.env := by rfl) (he2 : starEach [.Name c cp] X.env = (false, eval (.Name c cp) X.env) :: starEach [] X.env := by rfl) (hpl : (backTo pos (starEach [.Name c cp] X.env)).any (·.1) = false := by rfl) :
    DE X g W (.Call (.Name "isinstance" p) [.Name nm np, .Name c cp] [] pos) (eIsX x c) := by
  refine PE.imp (pe_callB (call_isX (x := x) Er) hg hm (by decide +kernel) (pa_cons (pe_var hN hv hd hcd) (pa_cons (pe_glob (v := .ref (He.ga X.K c)) hc.1 hc.2.2 rfl hc.2.1) pa_nil he2) he) (by decide) (by decide) he hpl) fun σ H Q h => isX_read Hx (fun u r => r) (fun cls d xr => ?_) h
  obtain ⟨C, hC, rfl, _⟩ := xr
  obtain ⟨hr, rfl⟩ := Er.cl _ _ hC
  exact Er.kit _ hr _ hct
theorem de_isXb {T : String} (Er : Errs X.K g.cl rs ts) (Hx : HotX X g i x) (hT : T ∈ errB3) (hcm : Gl X (Str.ofString T)) (hcn : X.mg (Str.ofString T) = none) (hbt : bootBuiltins (Str.ofString T) = some (.type T)) (hg : Gl X "isinstance") (hm : X.mg "isinstance" = none) (hN : X.N[i]? = some nm := by rfl)
    (hv : Vis X.env.scope nm := by first | exact Or.inl rfl | exact Or.inr (Or.inl rfl) | exact Or.inr (Or.inr rfl)) (hd : (nm == ("__debug__" : Str)) = false := by decide) (hcd : (nm == ("__classdict__" : Str)) = false := by decide)
    (hnn : Str.ofString T ≠ "__name__" := by decide) (hdT : (Str.ofString T == ("__debug__" : Str)) = false := by decide)
    (he : starEach (.Name nm np :: [.Name (Str.ofString T) cp]) X.env = (false, eval (.Name nm np) X.env) :: starEach [.Name (Str.ofString T) cp] X.env := by rfl) (he2 : starEach [.Name (Str.ofString T) cp] X.env = (false, eval (.Name (Str.ofString T) cp) X.env) :: starEach [] X.env := by rfl) (hpl : (backTo pos (starEach [.Name (Str.ofString T) cp] X.env)).any (·.1) = false := by rfl) :
    DE X g W (.Call (.Name "isinstance" p) [.Name nm np, .Name (Str.ofString T) cp] [] pos) (eIsX x (Str.ofString T)) := by
  refine PE.imp (pe_callB (call_isX (x := x) Er) hg hm (by decide +kernel) (pa_cons (pe_var hN hv hd hcd) (pa_cons (pe_bltn (v := .ty T) hcm hcn hbt rfl hnn hdT) pa_nil he2) he) (by decide) (by decide) he hpl) fun σ H Q h => isX_read Hx (fun u r => r) (fun cls d xr => ?_) h
  obtain ⟨C, hC, rfl, _⟩ := xr
  obtain ⟨hr, rfl⟩ := Er.cl _ _ hC
  exact Er.kib _ hr _ hT
end
end Fm

set_option maxHeartbeats 4000000
/-! FmEf: e.f; defs of an error; the facts about the classes. -/
namespace Fm
open PySem L2 PySem.Spec PyProof.Rows
section
variable {X : Cx} {g : Gh} {W : WX} {i : Nat} {x : Exn} {rs ts : List Str} {nm c f : Str} {p np cp pos : Pos}
theorem xd_look {K : PySem.W.Frag} {H : Hp} {f : Str} {y : D} : ∀ {vs : List (Str × V)} {l : List (Str × D)}, Paired (fun (p : Str × V) (q : Str × D) => p.1 = q.1 ∧ FD K H p.2 q.2) vs l → (l.find? fun p => decide (p.1 = f)).map (·.2) = some y → ∃ v, vs.lookup f = some v ∧ FD K H v y
  | _, _, .nil, e => by cases e
  | (n, v) :: vs, (n', d) :: l, .cons h t, e => by
    obtain ⟨h1, h2⟩ := h
    dsimp only at h1 h2
    subst h1
    by_cases z : n = f
    · subst z
      simp only [List.find?_cons, decide_true, Option.map_some, Option.some.injEq] at e
      subst e
      exact ⟨v, by simp [List.lookup], h2⟩
    · have z' : (f == n) = false := by simpa using fun q => z q.symm
      simp only [List.find?_cons, decide_eq_false z] at e
      obtain ⟨v', q1, q2⟩ := xd_look t e
      exact ⟨v', by simp [List.lookup, z', q1], q2⟩
/-- e.f -/
theorem de_fld (Er : Errs X.K g.cl rs ts) (Hx : HotX X g i x) (hf : f ∈ errFs) (hN : X.N[i]? = some nm := by rfl)
    (hv : Vis X.env.scope nm := by first | exact Or.inl rfl | exact Or.inr (Or.inl rfl) | exact Or.inr (Or.inr rfl)) (hd : (nm == ("__debug__" : Str)) = false := by decide) (hcd : (nm == ("__classdict__" : Str)) = false := by decide)
    (hb : attributeBase (.Name nm np) f X.env (eval (.Name nm np) X.env) = eval (.Name nm np) X.env := by rfl) : DE X g W (.Attribute (.Name nm np) f pos) (eFld x f) := by
  refine ⟨fun pins s σ H Q I h => ?_⟩
  obtain ⟨S, R, h⟩ := h
  obtain ⟨a, oe, vs, cls, d, h1, h2, h3, h4, h5, xr⟩ := Hx.var R
  have he : PE X (.Name nm np) (tVar i) := pe_var hN hv hd hcd
  refine attr_of hb (thn (he.run pins s σ H (fun v H1 => v = .ref a ∧ H1 = H) I ⟨.ref a, h5, rfl, rfl⟩) fun u s1 hh => ?_)
  obtain ⟨v, H1, I1, rv, rfl, rfl⟩ := hh
  obtain rfl : u = Value.ref a := rv
  unfold eFld at h
  cases e : (x.fs.find? fun p => decide (p.1 = f)).map (·.2) with
  | none => rw [e] at h; exact h.elim
  | some y =>
    rw [e] at h
    obtain ⟨C, hC, rfl, hx⟩ := xr
    obtain ⟨hr, rfl⟩ := Er.cl _ _ hC
    rcases hx with ⟨z, _⟩ | ⟨dd, us, rfl, ed, pd⟩
    · rw [z] at e; cases e
    · obtain ⟨v, hl, fv⟩ := xd_look pd e
      have ho : ObjOk X.prog X.w H1 s1.heap dd (.xd us) := I1.hok dd _ ed
      obtain ⟨mA, hns, hrel⟩ := ho
      obtain ⟨od, hod, hlk⟩ := lookIn_ns hns
      obtain ⟨u, hu, ru⟩ := RelO.some_of (v := v) (o := mA f) (by rw [← hl]; exact hrel f)
      obtain ⟨ha, _⟩ := I1.pin (a, oe) (List.mem_append_left _ h1)
      have J : PySem.W.InstAt s1.heap a oe (He.ga X.K x.cls) (some od) := ⟨ha, h2, by unfold PySem.W.notCls; rw [h4] <;> rfl, by rw [h3]; exact hod⟩
      exact HandSPX.exc_get I1.kIn J (Er.ga _ hr) (Er.gg _ hr) (Er.be _ hr) (PySem.W.findObj_own (Er.hd _ hr) (Er.fld _ hr f hf) rfl (by rw [hlk, hu])) (handed_of ru) ⟨v, H1, I1.tok _, ru, h v H1 (.refl R) ⟨fv, trivial⟩⟩
end
/-! ### a def of an error -/
structure FnE (P : Program) (w : World) (K : PySem.W.Frag) (mg : Str → Option Value) (base : Heap) (cl : Str → Option Addr) (k : Nat) (f : Addr) (fd : FuncData) (ps : List Str) (F : Exn → CRes) : Prop where
  run : ∀ (A : Around) (outer : List Env) (s : Shared) (H : Hp) (args : Args) (Q : VK) (E : XK) (p : Addr × Obj) (vs : Array Value) (x : Exn) (cls : Value) (d : Option Addr), A.depth + 3 * k + 5 < recursionLimit → A.units + 16 * k + 200 < cLine → A.guards = some [] →
    L2H.PinOk outer H s p → p.2.cls = cls → p.2.dict = d → p.2.data = .fields vs → XR K cl H x cls d → Env0 P w K mg base A outer s H → ps.length = 1 → BindsTo s fd args (ps.zip [.ref p.1]) →
    (∃ y os, F x = .ok (.d y) os ∧ ∀ v H', Grow H H' → FD K H' v y → Q v H') → codeAny (model P w) A (.call (.ref f) args) (L2.CR (L2.CX P w) outer P w H s Q E) s
structure DefE (P : Program) (w : World) (K : PySem.W.Frag) (mg : Str → Option Value) (base : Heap) (cl : Str → Option Addr) (x : Str) (st : Stmt) (k : Nat) (F : Exn → CRes) : Prop where
  ex : ∃ f fd ps, mg x = some (.ref f) ∧ Fun K x x st f fd ∧ FnE P w K mg base cl k f fd ps F ∧ ps.length = 1 ∧ Binds K fd ps []
section
variable {P : Program} {w : World} {K : PySem.W.Frag} {mg : Str → Option Value} {base : Heap} {cl : Str → Option Addr}
abbrev ghE (H : Hp) (a : Addr) (cl : Str → Option Addr) (J : Hp → Prop) (m : ∀ H H' : Hp, Keeps H H' → J H → J H') : Gh := ⟨H, [.ref a], fun j => j == 0, cl, J, m⟩
theorem fn_okE {xn : Str} {st : Stmt} {f : Addr} {fd : FuncData} {N ps : List Str} {k m : Nat} {B : Exn → Sx} (F : Fun K xn xn st f fd) (Sc : FnScope N ps (defScope st)) (hn : ps.length = 1) (hm : N.length = m)
    (hbody : ∀ (cd : Value) (A : Around) (outer : List Env) (s : Shared) (H : Hp) (E : XK) (p : Addr × Obj) (j : HotJ), Okh (L2H.cxH (L2.CX P w) P w K mg base N xn (defScope st) f cd A outer s H E p) k → HotX (L2H.cxH (L2.CX P w) P w K mg base N xn (defScope st) f cd A outer s H E p) (ghE H p.1 cl j.J j.m) 0 j.x →
      DB (L2H.cxH (L2.CX P w) P w K mg base N xn (defScope st) f cd A outer s H E p) (ghE H p.1 cl j.J j.m) W0 (defBody st) (B j.x)) :
    FnE P w K mg base cl (k + 1) f fd ps (fnX m B) := by
  obtain ⟨oc, od, kV, doc, pm, an, cdv, ct, osl, rfl, lk, hcd⟩ := F.ex
  refine ⟨fun A outer s H args Q E p vs x cls d hdp hun hgd hpin e1 e2 e3 xr e0 hl hb hq => ?_⟩
  obtain ⟨y, os, hF, hq⟩ := hq
  have KX : K.In s.heap := e0.mod.kin.keeps fun b o e => (e0.bs b o e).1
  have lim : s.heap.NoLimit := e0.mod.nolimit.keeps fun b o e => (e0.bs b o e).1
  have hkind : ∀ y ∈ ps.zip [Value.ref p.1], (defScope st).names.lookup y.1 = some .local ∨ ((defScope st).names.lookup y.1 = some .cell ∧ ((cellsFrom (s.heap.objs.size + 1) (defScope st).names []).lookup y.1).isSome = true) := fun ⟨a, v⟩ hy => by
    rcases Sc.par a (List.of_mem_zip hy).1 with q | q
    · exact .inl q
    · exact .inr ⟨q, PySem.W.cellsFrom_some _ _ _ (.inl q)⟩
  refine codeAny_call_function (by omega) (KX _ _ lk) rfl Sc.co Sc.gen rfl (PySem.W.codeRec_of KX hcd) (hb _ _ _ _ ?_)
  refine wpAny_newFunctionEnv_cells Sc.kind hkind fun env he s1 yc => ?_
  subst he
  refine ⟨lim.keeps yc.toInCall.keep, codeAny_func ?_⟩
  have rh : L2H.RoomH k (A.deeper (envOfC xn (defScope st) s.heap.objs.size f cdv)) := (L2H.RoomH.mk hdp hun).deeper _
  have ok : Okh (L2H.cxH (L2.CX P w) P w K mg base N xn (defScope st) f cdv A outer s H E p) k := ⟨rh.dp, rh.un, by first | exact hgd | (show (A.deeper _).guards = _; simpa [Around.deeper] using hgd), Sc.nd⟩
  let J : Hp → Prop := fun H => XR K cl H x cls d
  have mJ : ∀ H H' : Hp, Keeps H H' → J H → J H' := fun H H' k z => XRel.mono k z
  have ht := hbody cdv A outer s H E p ⟨x, J, mJ⟩ ok ⟨⟨p.1, p.2, vs, cls, d, List.mem_singleton.mpr rfl, e1, e2, e3, rfl, fun H z => z⟩, rfl⟩
  have I : L2.Inv (L2H.cxH (L2.CX P w) P w K mg base N xn (defScope st) f cdv A outer s H E p) [] (L2.start N [V.ref p.1]) H s1 := L2H.inv_startH Sc hpin e0 (by rw [hl]; rfl) (.cons rfl .nil) yc
  have hN : 1 ≤ N.length := by
    have := congrArg List.length Sc.pre
    rw [List.length_take] at this
    omega
  have none_at : ∀ {j : Nat} {v : SV}, at? (List.replicate m none) j = some v → False := fun {j v} e => by
    unfold at? at e
    rw [List.getElem?_replicate] at e
    split at e <;> cases e
  have R : Rel K (ghE H p.1 cl J mJ) (L2.start N [V.ref p.1]) H (List.replicate m none) := by
    refine ⟨?_, fun j v e => (none_at e).elim, fun j j' a o o' e => (none_at e).elim, fun j o a e => (none_at e).elim, fun j hj => ?_, fun b h => h, xr⟩
    · unfold L2.start
      simp only [List.length_append, List.length_map, List.length_replicate, List.length_cons, List.length_nil]
      omega
    · have hj : j = 0 := by simpa using (show (j == 0) = true from hj)
      subst hj
      exact ⟨.ref p.1, start_at rfl, rfl⟩
  have grow : ∀ {σ' : L2.St} {S' : Sl} {H' : Hp}, Step (L2.start N [V.ref p.1]) (List.replicate m none) H σ' S' H' → Grow H H' := fun st b o hb => st.keep b o hb fun l => by
    obtain ⟨j, o', e, _⟩ := l
    exact none_at e
  have hF : (B x (List.replicate m none)).ends 1 = .ok (.d y) os := hF
  have hend : Ends K (ghE H p.1 cl J mJ) W0 { nx := fun _ H' => Q .non H', rt := Q } (L2.start N [V.ref p.1]) (List.replicate m none) H (B x (List.replicate m none)) := by
    cases q : B x (List.replicate m none) with
    | nx S' =>
      rw [q] at hF
      cases hF
      exact fun σ' H' st R' => hq .non H' (grow st) .non
    | bk S' => rw [q] at hF; cases hF
    | ct S' => rw [q] at hF; cases hF
    | exc z S' => rw [q] at hF; cases hF
    | bad => rw [q] at hF; cases hF
    | rt v S' =>
      rw [q] at hF
      intro σ' H' u st R' vr
      cases v with
      | d z =>
        cases hF
        exact hq u H' (grow st) vr
      | fr o => cases hF
      | br j =>
        have hF : (if j < 1 then CRes.bad else match at? S' j with | some v => CRes.ok v (S'.take 1) | none => .bad) = .ok (.d y) os := hF
        by_cases hj : j < 1
        · rw [if_pos hj] at hF; cases hF
        · rw [if_neg hj] at hF
          cases q2 : at? S' j with
          | none => rw [q2] at hF; cases hF
          | some v =>
            rw [q2] at hF
            cases hF
            obtain ⟨u', q3, q4⟩ := R'.rel j _ q2
            have vr : σ'[j]? = some (some u) := vr
            rw [vr] at q3
            cases q3
            exact hq u H' (grow st) q4
  refine wpAny_mono (ht.run [] s1 (L2.start N [V.ref p.1]) H _ I ⟨_, R, hend⟩) (fun fl s' hs => ?_) fun e s' hs => hs
  have fin : ∀ {σ' : L2.St} {H' : Hp} {v : V} {u : Value}, L2.Inv (L2H.cxH (L2.CX P w) P w K mg base N xn (defScope st) f cdv A outer s H E p) [] σ' H' s' → RelV v u → Q v H' → CE outer P w H s Q u s' :=
    fun {σ' H' v u} J rv q => ⟨v, H', J.os, J.bare, J.base, J.hok, rv, q⟩
  cases fl with
  | ret u =>
    obtain ⟨v, σ', H', J, rv, q⟩ := hs
    exact fin J rv q
  | next =>
    obtain ⟨σ', H', J, q⟩ := hs
    exact fin (v := V.non) (u := Value.none) J rfl q
  | brk =>
    obtain ⟨_, _, _, q⟩ := hs
    exact q.elim
  | cont =>
    obtain ⟨_, _, _, q⟩ := hs
    exact q.elim
end
section
variable {X : Cx} {g : Gh} {W : WX} {i n k : Nat} {x : Exn} {rs ts : List Str} {nm c f : Str} {p np cp pos : Pos} {F : Exn → CRes} {st : Stmt}
/-- f(e) -/
theorem de_callX (Df : DefE X.prog X.w X.K X.mg X.base g.cl f st k F) (ok : Okh X n) (Hx : HotX X g i x) (hg : Gl X f) (hk : k ≤ n := by decide) (hN : X.N[i]? = some nm := by rfl)
    (hv : Vis X.env.scope nm := by first | exact Or.inl rfl | exact Or.inr (Or.inl rfl) | exact Or.inr (Or.inr rfl)) (hd : (nm == ("__debug__" : Str)) = false := by decide) (hcd : (nm == ("__classdict__" : Str)) = false := by decide) (hdb : (f == ("__debug__" : Str)) = false := by decide)
    (he : starEach [.Name nm np] X.env = (false, eval (.Name nm np) X.env) :: starEach [] X.env := by rfl) (hpl : (backTo pos (starEach [] X.env)).any (·.1) = false := by rfl) : DE X g W (.Call (.Name f p) [.Name nm np] [] pos) (eCallX F x) := by
  obtain ⟨fa, fd, ps, hm, fu, Fo, hl, hb⟩ := Df.ex
  refine ⟨fun pins s σ H Q I h => ?_⟩
  obtain ⟨S, R, h⟩ := h
  obtain ⟨a, oe, vs, cls, d, h1, h2, h3, h4, h5, xr⟩ := Hx.var R
  have ha : PA X [.Name nm np] (tCons (tVar i) tNil) := pa_cons (pe_var hN hv hd hcd) pa_nil he
  refine wpAny_Call_Name_kw (ld_glob I hg hm ?_ hdb)
  refine PySem.W.callWith_K (h₀ := X.base) I.ok.mod.kin fu.kp (thn (ha.run pos pins s σ H (fun us H1 => us = [V.ref a] ∧ H1 = H) I ⟨.ref a, h5, rfl, rfl⟩) fun us s1 ⟨ws, H1, I1, r, e1, e2⟩ => ⟨I1.kIn, ?_⟩) he hpl
  subst e1 e2
  obtain rfl : us = [Value.ref a] := by
    cases r with
    | cons r rr =>
      cases rr
      cases r
      rfl
  unfold eCallX at h
  have hres : ∃ y os, F x = .ok (.d y) os ∧ Wants X.K g W (vrE X.K g) H1 σ S H1 (.ok (.d y) S) Q := by
    cases q : F x with
    | ok v os =>
      cases v with
      | d y => exact ⟨y, os, rfl, by rw [q] at h; exact h⟩
      | live o => rw [q] at h; exact h.elim
    | exc z os => rw [q] at h; exact h.elim
    | bad => rw [q] at h; exact h.elim
  obtain ⟨y, os, hF, hw⟩ := hres
  have hbt := hb s1 [.ref a] I1.kIn (by simpa using hl.symm)
  rw [List.append_nil] at hbt
  have P1 := I1.pin (a, oe) (List.mem_append_left _ h1)
  have hpin : L2H.PinOk X.stack H1 s1 (a, oe) := ⟨P1.1, P1.2.1, fun hm => (List.mem_cons.mp (I1.stkSub a hm)).elim P1.2.2.1 P1.2.2.2.1, P1.2.2.2.2⟩
  refine wpAny_call (codeAny_mono (Fo.run X.A X.stack s1 H1 ⟨[.ref a], []⟩ Q (fun _ _ _ => False) (a, oe) vs x cls d (by have := ok.dp; omega) (by have := ok.un; omega) ok.gd hpin h2 h3 h4 (XR.of xr) I1.env0 hl hbt
    ⟨y, os, hF, fun v H' gr fd => hw v H' (After.grow R gr) ⟨fd, trivial⟩⟩) fun r s' hq => ?_)
  cases r with
  | error e =>
    obtain ⟨_, _, _, _, _, _, _, _, _, _, _, _, z⟩ := hq
    exact z.elim
  | ok fl =>
    cases fl with
    | ret u => exact I1.after hq
    | next => exact hq.elim
    | brk => exact hq.elim
    | cont => exact hq.elim
end
/-! ### try without a name -/
section
variable {X : Cx} {g : Gh} {W : WX} {n : Nat} {body sts : List Stmt} {b₀ : Stmt} {B h : Sx} {rs ts : List Str} {x1 : Str} {p1 pos pos' : Pos}
theorem ds_try1 (Er : Errs X.K g.cl rs ts) (ok : Ok X W n) (hs : X.stack = X.env :: X.outer) (hf : X.env.frame = some X.env.locals) (h1 : Glb X x1 (He.ga X.K x1)) (ht : x1 ∈ ts)
    (hb : ∀ (W' : WX) (pn : List (Addr × Obj)) (xe : Value → Shared → Prop), Ok (X.tr pn xe) W' n → PassesOwn (model X.prog X.w) X.A X.env xe → DB (X.tr pn xe) g W' body B)
    (hsu : ∀ (a : Addr) (oe : Obj) (pn : List (Addr × Obj)), Okh (X.suite a ((a, oe) :: pn)) n → DB (X.suite a ((a, oe) :: pn)) g W0 (b₀ :: sts) h) :
    DS X g W (.Try body [.ExceptHandler (some (.Name x1 p1)) none (b₀ :: sts) pos'] [] [] pos) (sTry1 x1 B h) := by
  refine PS.imp (ps_try_only (tb := fun W' => rS X.K g W' B) (Wout := W) (ts := fun a cls d D σ H => rS X.K g W0 h D σ H) hs hf ⟨h1.1, h1.2.1, .inl h1.2.2⟩ ok.tk
    (fun W' pn xe tk po => hb W' pn xe (ok.tr tk) po) fun a oe cls d pn hz hd => hsu a oe pn (ok.toH a _)) ?_
  rintro D σ H ⟨S, R, hE⟩
  refine ⟨S, R, ?_⟩
  unfold sTry1 at hE
  cases q : B S with
  | nx S1 => rw [q] at hE; exact hE
  | bk S1 => rw [q] at hE; exact hE
  | ct S1 => rw [q] at hE; exact hE
  | rt v S1 => rw [q] at hE; exact hE
  | bad => rw [q] at hE; exact hE.elim
  | exc x S1 =>
    rw [q] at hE
    intro σ1 H1 cls d st1 R1 xr
    obtain ⟨C, hC, ec, _⟩ := id xr
    obtain ⟨hr, rfl⟩ := Er.cl _ _ hC
    subst ec
    refine ⟨subX x.cls x1, Er.exm _ hr _ ht, fun hit a na => ⟨S1, R1, ?_⟩, fun hit => ?_⟩
    · have hE : Ends X.K g W D σ S H ((h S1).off S1.length) := by
        have := hE
        rw [catch_exc, if_pos (by simpa using hit)] at this
        exact this
      have ns : ∀ S2 : Sl, S2.length = S1.length → S2.set S1.length none = S2 := fun S2 e => by rw [List.set_eq_of_length_le (by omega)]
      have ln : ∀ {σ2 : L2.St} {H2 : Hp} {S2 : Sl}, Rel X.K g σ2 H2 S2 → S2.set S1.length none = S2 ∨ True := fun _ => .inr trivial
      have same : ∀ {σ2 : L2.St} {H2 : Hp} {S2 : Sl}, Rel X.K g σ2 H2 S2 → Rel X.K g σ2 H2 (S2.set S1.length none) := fun {σ2 H2 S2} R2 => by
        refine ⟨by rw [List.length_set]; exact R2.len, fun k w e => R2.rel k w (at_none e).2, fun k k' b o o' e e' => R2.inj k k' b o o' (at_none e).2 (at_none e').2, fun k o b e => R2.fresh k o b (at_none e).2, R2.par, R2.trk, R2.inv⟩
      cases q2 : h S1 with
      | bad => rw [q2] at hE; exact hE.elim
      | exc y S2 => rw [q2] at hE; exact hE.elim
      | nx S2 =>
        rw [q2] at hE
        exact fun σ2 H2 st3 R3 => hE _ _ ((st1.trans st3).trans Step.off) (same R3)
      | bk S2 =>
        rw [q2] at hE
        exact fun σ2 H2 st3 R3 => hE _ _ ((st1.trans st3).trans Step.off) (same R3)
      | ct S2 =>
        rw [q2] at hE
        exact fun σ2 H2 st3 R3 => hE _ _ ((st1.trans st3).trans Step.off) (same R3)
      | rt v S2 =>
        rw [q2] at hE
        intro σ2 H2 u st3 R3 vr
        refine hE σ2 H2 u ((st1.trans st3).trans Step.off) (same R3) ?_
        cases v with
        | d y => exact vr
        | br j => exact vr
        | fr o =>
          obtain ⟨b, e, ob, nl, z⟩ := vr
          refine ⟨b, e, ob, fun l => nl ?_, z⟩
          obtain ⟨j, o', h1, h2⟩ := l
          exact ⟨j, o', (at_none h1).2, h2⟩
    · have hE : Ends X.K g W D σ S H (.exc x S1) := by
        have := hE
        rw [catch_exc, if_neg (by simp [hit])] at this
        exact this
      exact hE σ1 H1 _ d st1 R1 xr
end
end Fm

set_option maxHeartbeats 4000000
/-! FmEg: the facts about the error classes, asked of the written part. -/
namespace Fm
open PySem L2 PySem.Spec PyProof.Rows
/-- the classes that are raised, by their addresses -/
def clF (K : PySem.W.Frag) (rs : List Str) (x : Str) : Option Addr := if x ∈ rs then some (He.ga K x) else none
theorem clF_mem {K : PySem.W.Frag} {rs : List Str} {x : Str} (h : x ∈ rs) : clF K rs x = some (He.ga K x) := if_pos h
theorem and2 {a b : Bool} (h : (a && b) = true) : a = true ∧ b = true := Bool.and_eq_true_iff.mp h
theorem errs_ok {K : PySem.W.Frag} {rs ts : List Str} (h : errsB K rs ts = true) : Errs K (clF K rs) rs ts := by
  obtain ⟨h0, h⟩ := and2 h
  have each : ∀ x ∈ rs, errX K ts x = true := List.all_eq_true.mp h
  have p1 : ∀ x ∈ rs, ∀ c ∈ ts, PySem.W.exmOne K (.ref (He.ga K x)) (.ref (He.ga K c)) = some (subX x c) ∧ PySem.W.kitOne K (.ref (He.ga K x)) (.ref (He.ga K c)) = some (subX x c) := fun x hx c hc => by
    obtain ⟨z1, z2⟩ := and2 (List.all_eq_true.mp (and2 (each x hx)).1 c hc)
    exact ⟨of_decide_eq_true z1, of_decide_eq_true z2⟩
  have p2 := fun x hx => and2 (and2 (each x hx)).2
  have p3 := fun x hx => and2 (p2 x hx).2
  have p4 := fun x hx => and2 (p3 x hx).2
  have p5 := fun x hx => and2 (p4 x hx).2
  have p6 := fun x hx => and2 (p5 x hx).2
  have p7 := fun x hx => and2 (p6 x hx).2
  have p8 := fun x hx => and2 (p7 x hx).2
  refine ⟨fun x C hC => ?_, fun x hx c hc => (p1 x hx c hc).1, fun x hx c hc => (p1 x hx c hc).2, fun x hx T hT => of_decide_eq_true (List.all_eq_true.mp (p2 x hx).1 T hT), fun x hx f hf => of_decide_eq_true (List.all_eq_true.mp (p3 x hx).1 f hf),
    fun x hx => of_decide_eq_true (p4 x hx).1, fun x hx => of_decide_eq_true (p5 x hx).1, fun x hx => of_decide_eq_true (p6 x hx).1, fun x hx => (p7 x hx).1, fun x hx => of_decide_eq_true (p8 x hx).1, fun x hx => of_decide_eq_true (p8 x hx).2,
    .inr ⟨of_decide_eq_true (and2 h0).1, of_decide_eq_true (and2 h0).2⟩⟩
  unfold clF at hC
  by_cases z : x ∈ rs
  · rw [if_pos z] at hC; cases hC; exact ⟨z, rfl⟩
  · rw [if_neg z] at hC; cases hC
/-! ### one class -/
section
variable {P : Program} {w : World} {K : PySem.W.Frag} {mg : Str → Option Value} {base : Heap} {rs : List Str} {x : Str} {b : EBase}
theorem errdef0 (B : EBaseOk b) (h : errD0 K x b = true) (hx : x ∈ rs) (hm : mg x = some (.ref (He.ga K x))) : ErrDef P w K mg base (clF K rs) x [] := by
  obtain ⟨h1, h2⟩ := and2 h
  obtain ⟨a1, h1⟩ := and2 h1
  obtain ⟨a2, a3⟩ := and2 h1
  exact ⟨_, b, clF_mem hx, hm, B, of_decide_eq_true a1, of_decide_eq_true a2, a3, .inl ⟨rfl, h2⟩⟩
theorem fun_ofQ {K : PySem.W.Frag} {x q : Str} {st : Stmt} {f : Addr} {fd : FuncData} (F : FunD K x q (defArgs st) (defBody st) (defScope st) [] [] f fd) : Fun K x q st f fd := by
  obtain ⟨oc, od, dV, kV, doc, pm, an, cdv, ct, osl, e, lk, hcd, hD, _⟩ := F.ex
  rcases hD with ⟨_, rfl⟩ | ⟨z, _⟩
  · exact ⟨⟨oc, od, kV, doc, pm, an, cdv, ct, osl, e, lk, hcd⟩, F.kp⟩
  · exact absurd rfl z
theorem errdef1 {st : Stmt} {qual f : Str} {fd : FuncData} (B : EBaseOk b) (h : errD1 K x [f] b = true) (hx : x ∈ rs) (hm : mg x = some (.ref (He.ga K x))) (F : FunD K "__init__" qual (defArgs st) (defBody st) (defScope st) [] [] (He.ma K (He.ga K x) "__init__") fd) (S : FnScope ["self", f] ["self", f] (defScope st))
    (hbd : ∀ (kV doc pm : Value) (an : Option Addr) (cdv ct : Value) (us : List Value), us.length = (["self", f] : List Str).length → bindArgs (PySem.W.fnOf "__init__" qual (defArgs st) (defBody st) (defScope st) .none kV doc pm an cdv ct) ⟨us, []⟩ = pure ((["self", f] : List Str).zip us))
    (hb : ∀ (cdv : Value) (A : Around) (outer : List Env) (s : Shared) (H : Hp) (E : XK), PSs (cxOf (L2.CX P w) P w K mg base ["self", f] qual (defScope st) (He.ma K (He.ga K x) "__init__") cdv A outer s H E) (defBody st) (tErr K b f (tVar 0) (tVar 1))) : ErrDef P w K mg base (clF K rs) x [f] := by
  obtain ⟨h1, h⟩ := and2 h
  obtain ⟨a1, h1⟩ := and2 h1
  obtain ⟨a2, a3⟩ := and2 h1
  obtain ⟨b1, h⟩ := and2 h
  obtain ⟨b2, h⟩ := and2 h
  obtain ⟨b3, h⟩ := and2 h
  obtain ⟨b4, h⟩ := and2 h
  obtain ⟨b5, h⟩ := and2 h
  obtain ⟨b6, b7⟩ := and2 h
  have a1 := of_decide_eq_true a1
  have a2 := of_decide_eq_true a2
  have F' := fun_ofQ F
  have T : ErrC K (He.ga K x) b := ⟨b1, b2, b3, of_decide_eq_true b4, a1, a2, a3⟩
  exact ⟨_, b, clF_mem hx, hm, B, a1, a2, a3, .inr ⟨by simp, T, _, fd, of_decide_eq_true b5, of_decide_eq_true b6, init1_ok F' S B T (of_decide_eq_true (List.all_eq_true.mp b7 f (List.mem_singleton.mpr rfl))) hb, F'.binds hbd⟩⟩
end
theorem ef_index : ("index" : Str) ∈ errFs := List.mem_of_getElem? (i := 0) rfl
theorem ef_kind : ("kind" : Str) ∈ errFs := List.mem_of_getElem? (i := 1) rfl
theorem ef_number : ("number" : Str) ∈ errFs := List.mem_of_getElem? (i := 2) rfl
theorem ef_value : ("value" : Str) ∈ errFs := List.mem_of_getElem? (i := 3) rfl
theorem ef_text : ("text" : Str) ∈ errFs := List.mem_of_getElem? (i := 4) rfl
theorem ef_step : ("step" : Str) ∈ errFs := List.mem_of_getElem? (i := 5) rfl
theorem ef_size : ("size" : Str) ∈ errFs := List.mem_of_getElem? (i := 6) rfl
theorem ef_height : ("height" : Str) ∈ errFs := List.mem_of_getElem? (i := 7) rfl
theorem ef_share : ("share" : Str) ∈ errFs := List.mem_of_getElem? (i := 8) rfl
theorem ef_line : ("line" : Str) ∈ errFs := List.mem_of_getElem? (i := 9) rfl
theorem ef_command : ("command" : Str) ∈ errFs := List.mem_of_getElem? (i := 10) rfl
theorem ef_name : ("name" : Str) ∈ errFs := List.mem_of_getElem? (i := 11) rfl
theorem ef_one : ("one" : Str) ∈ errFs := List.mem_of_getElem? (i := 12) rfl
theorem ef_other : ("other" : Str) ∈ errFs := List.mem_of_getElem? (i := 13) rfl
theorem ef_count : ("count" : Str) ∈ errFs := List.mem_of_getElem? (i := 14) rfl
theorem eb_ValueError : "ValueError" ∈ errB3 := List.mem_of_getElem? (i := 0) rfl
theorem eb_LookupError : "LookupError" ∈ errB3 := List.mem_of_getElem? (i := 1) rfl
theorem eb_ArithmeticError : "ArithmeticError" ∈ errB3 := List.mem_of_getElem? (i := 2) rfl
theorem mem3 {ts : List Str} {a b c : Str} (ha : a ∈ ts) (hb : b ∈ ts) (hc : c ∈ ts) : ∀ x ∈ [a, b, c], x ∈ ts := fun x hx => by
  rcases List.mem_cons.mp hx with rfl | hx
  · exact ha
  · rcases List.mem_cons.mp hx with rfl | hx
    · exact hb
    · rw [List.mem_singleton.mp hx]; exact hc
/-! x = y -/
section
variable {X : Cx} {g : Gh} {W : WX} {p spos : Pos}
theorem Rel.drop {K : PySem.W.Frag} {σ : L2.St} {H : Hp} {S : Sl} {j : Nat} (R : Rel K g σ H S) : Rel K g σ H (S.set j none) :=
  ⟨by rw [List.length_set]; exact R.len, fun k w e => R.rel k w (at_none e).2, fun k k' b o o' e e' => R.inj k k' b o o' (at_none e).2 (at_none e').2, fun k o b e => R.fresh k o b (at_none e).2, R.par, R.trk, R.inv⟩
theorem ds_move (i j : Nat) {x y : Str} {px py : Pos} (hf : g.fx i = false) (hf2 : g.fx j = false) (hij : i ≠ j) (hN : X.N.Nodup) (hi : X.N[i]? = some x := by rfl) (hl : Loc X.env.scope x := by first | exact Or.inl rfl | exact Or.inr rfl) (hj : X.N[j]? = some y := by rfl)
    (hv : Vis X.env.scope y := by first | exact Or.inl rfl | exact Or.inr (Or.inl rfl) | exact Or.inr (Or.inr rfl)) (hd : (y == ("__debug__" : Str)) = false := by decide) (hcd : (y == ("__classdict__" : Str)) = false := by decide)
    (hs : swapsWith (.Name y py) (some (.Name x px)) spos.line X.env = pure false := by rfl) (hfn : X.fn x = true ∨ X.env.scope.names.lookup x = some .local := by first | exact .inl rfl | exact .inr rfl) : DS X g W (.Assign [.Name x px] (.Name y py) spos) (sMove i j) := by
  refine PS.imp (ps_set hN hi hl (pe_var hj hv hd hcd) hs hfn) ?_
  rintro D σ H ⟨S, R, h⟩
  unfold sMove at h
  cases q : at? S j with
  | none => rw [q] at h; exact h.elim
  | some w =>
    rw [q] at h
    obtain ⟨u, hu, r⟩ := R.rel j w q
    refine ⟨u, hu, ?_⟩
    cases w with
    | d z =>
      have h : Ends X.K g W D σ S H (.nx (S.set i (some (.d z)))) := h
      have R2 := R.set hf (v := u) (s := .d z) ⟨r, fun o a e => by cases e⟩
      refine h _ _ ⟨fun _ _ h _ => h, fun _ h => h, fun b l => ?_⟩ R2
      rcases Live.set R.len l with l | ⟨⟨o, e⟩, _⟩
      · exact .inl l
      · cases e
    | live o =>
      have h : Ends X.K g W D σ S H (.nx ((S.set j none).set i (some (.live o)))) := h
      obtain ⟨a, rfl, ob⟩ := r
      have R1 : Rel X.K g σ H (S.set j none) := R.drop
      have nl : ¬ Live σ (S.set j none) a := fun l => by
        obtain ⟨k, o', e, e2⟩ := l
        obtain ⟨n, e⟩ := at_none e
        exact n (R.inj j k a _ _ q e hu e2)
      have R2 := R1.set hf (v := .ref a) (s := .live o) ⟨⟨a, rfl, ob⟩, fun o' a' e e' => by
        cases e
        cases e'
        exact ⟨nl, R.fresh j o a q hf2 hu⟩⟩
      refine h _ _ ⟨fun _ _ h _ => h, fun _ h => h, fun b l => ?_⟩ R2
      rcases Live.set R1.len l with l | ⟨_, e⟩
      · obtain ⟨k, o', e, e2⟩ := l
        exact .inl ⟨k, o', (at_none e).2, e2⟩
      · cases e
        exact .inl ⟨j, o, q, hu⟩
end
end Fm

/-! FmK: tools for the plain laws. Each combinator applied to slots, step by step (no binder is entered ahead of its value). -/
namespace Fm
open PySem
section
variable {α β : Type} {a x : α} {r q : List α} {n : Nat} {f : α → Option β} {h : α → β} {i : Nat} {vs : List RV} {d : D} {o : Ob}
@[simp] theorem obind : (some a).bind f = f a := nr rfl
@[simp] theorem omap : (some a).map h = some (h a) := nr rfl
@[simp] theorem set0 : (x :: r).set 0 a = a :: r := nr rfl
@[simp] theorem setS : (x :: r).set (n + 1) a = x :: r.set n a := nr rfl
@[simp] theorem take0 : r.take 0 = [] := by cases r <;> rfl
@[simp] theorem takeS : (x :: r).take (n + 1) = x :: r.take n := nr rfl
@[simp] theorem takeN : ([] : List α).take n = [] := by cases n <;> rfl
@[simp] theorem len0 : ([] : List α).length = 0 := nr rfl
@[simp] theorem lenS : (x :: r).length = r.length + 1 := nr rfl
@[simp] theorem app0 : [] ++ r = r := nr rfl
@[simp] theorem appS : x :: r ++ q = x :: (r ++ q) := nr rfl
@[simp] theorem brs0 : brs [] = [] := nr rfl
@[simp] theorem brsB : brs (.br i :: vs) = i :: brs vs := nr rfl
@[simp] theorem brsD : brs (.d d :: vs) = brs vs := nr rfl
@[simp] theorem brsF : brs (.fr o :: vs) = brs vs := nr rfl
@[simp] theorem nod0 : nodup [] = true := nr rfl
@[simp] theorem nod1 : nodup [i] = true := nr rfl
theorem nod2 {j : Nat} (e : (i == j) = false) : nodup [i, j] = true := by
  show (!((match i == j with | true => true | false => List.elem i [])) && true) = true
  rw [e]
  rfl
end
section
variable {α β : Type} {S : Sl} {a b c : Ex} {f f' : D → D → Option RV} {u : D → Option RV} {h : List D → Option RV} {x y z : RV} {T U : Tx} {l : Lx} {A : Ax} {dx : Dx} {sa sb : Sx} {e : Exn}
@[simp] theorem at_zero {v : Option SV} : at? (v :: S) 0 = v := by simp [at?]
@[simp] theorem at_succ {v : Option SV} {n : Nat} : at? (v :: S) (n + 1) = at? S n := by simp [at?]
def rdV (i : Nat) (S : Sl) : Option SV → Res RV
  | some (.d x) => .ok (.d x) S
  | some (.live _) => .ok (.br i) S
  | none => .bad
@[simp] theorem rdV_d {i : Nat} {x : D} : rdV i S (some (.d x)) = .ok (.d x) S := nr rfl
@[simp] theorem rdV_l {i : Nat} {o : Ob} : rdV i S (some (.live o)) = .ok (.br i) S := nr rfl
@[simp] theorem eC_ap {d : D} : eC d S = .ok (.d d) S := nr rfl
@[simp] theorem eVar_ap {i : Nat} : eVar i S = rdV i S (at? S i) := by
  unfold eVar rdV
  cases at? S i with
  | none => rfl
  | some v => cases v <;> rfl
/-- the second value of an operation -/
def op1 (f : D → D → Option RV) (b : Ex) : Res RV → Res RV := fun r => r.bind fun x S1 => (b S1).bind fun y S2 => give S2 ((view S2 x).bind fun dx => (view S2 y).bind fun dy => f dx dy)
def opv (f : D → D → Option RV) : Option D → Option D → Option RV
  | some x, some y => f x y
  | _, _ => none
@[simp] theorem opv_some {x y : D} : opv f (some x) (some y) = f x y := nr rfl
def op2 (f : D → D → Option RV) (x : RV) : Res RV → Res RV := fun r => r.bind fun y S2 => give S2 (opv f (view S2 x) (view S2 y))
@[simp] theorem eOp_ap : eOp f a b S = op1 f b (a S) := nr rfl
@[simp] theorem op1_ok : op1 f b (.ok x S) = op2 f x (b S) := by
  unfold op1 op2 opv
  simp only [bind_ok]
  cases b S with
  | ok y S2 =>
    simp only [bind_ok]
    cases view S2 x <;> cases view S2 y <;> rfl
  | _ => rfl
@[simp] theorem op2_ok : op2 f x (.ok y S) = give S (opv f (view S x) (view S y)) := nr rfl
@[simp] theorem op1_exc : op1 f b (.exc e S) = .exc e S := nr rfl
@[simp] theorem op2_exc : op2 f x (.exc e S) = .exc e S := nr rfl
@[simp] theorem view_br_ap {i : Nat} : view S (.br i) = (at? S i).bind SV.dat := nr rfl
def un1 (u : D → Option RV) : Res RV → Res RV := fun r => r.bind fun x S1 => give S1 ((view S1 x).bind u)
@[simp] theorem eUn_ap : eUn u a S = un1 u (a S) := nr rfl
@[simp] theorem un1_ok : un1 u (.ok x S) = give S ((view S x).bind u) := nr rfl
@[simp] theorem un1_exc : un1 u (.exc e S) = .exc e S := nr rfl
def fn1 (h : List D → Option RV) : Res (List RV) → Res RV := fun r => r.bind fun xs S1 => give S1 ((views S1 xs).bind h)
@[simp] theorem eFn_ap : eFn h A S = fn1 h (A S) := nr rfl
@[simp] theorem fn1_ok {xs : List RV} : fn1 h (.ok xs S) = give S ((views S xs).bind h) := nr rfl
@[simp] theorem fn1_exc : fn1 h (.exc e S) = .exc e S := nr rfl
@[simp] theorem views_nil : views S [] = some [] := nr rfl
def vcons : Option D → Option (List D) → Option (List D)
  | some x, some xs => some (x :: xs)
  | _, _ => none
@[simp] theorem vcons_some {x : D} {xs : List D} : vcons (some x) (some xs) = some (x :: xs) := nr rfl
@[simp] theorem views_cons {xs : List RV} : views S (x :: xs) = vcons (view S x) (views S xs) := by
  unfold vcons
  rw [views]
  cases view S x <;> cases views S xs <;> rfl
@[simp] theorem on1_one {d : D} : on1 u [d] = u d := nr rfl
@[simp] theorem aNil_ap : aNil S = .ok [] S := nr rfl
def ac1 (A : Ax) : Res RV → Res (List RV) := fun r => r.bind fun x S1 => (A S1).bind fun xs S2 => .ok (x :: xs) S2
def ac2 (x : RV) : Res (List RV) → Res (List RV) := fun r => r.bind fun xs S2 => .ok (x :: xs) S2
@[simp] theorem aCons_ap : aCons a A S = ac1 A (a S) := nr rfl
@[simp] theorem ac1_ok : ac1 A (.ok x S) = ac2 x (A S) := nr rfl
@[simp] theorem ac2_ok {xs : List RV} : ac2 x (.ok xs S) = .ok (x :: xs) S := nr rfl
@[simp] theorem ac1_exc : ac1 A (.exc e S) = .exc e S := nr rfl
@[simp] theorem ac2_exc : ac2 x (.exc e S) = .exc e S := nr rfl
def if1 (a b : Ex) : Res Bool → Res RV := fun r => r.bind fun c S1 => if c = true then a S1 else b S1
@[simp] theorem eIf_ap : eIf T a b S = if1 a b (T S) := nr rfl
@[simp] theorem if1_t : if1 a b (.ok true S) = a S := nr rfl
@[simp] theorem if1_f : if1 a b (.ok false S) = b S := nr rfl
@[simp] theorem if1_exc : if1 a b (.exc e S) = .exc e S := nr rfl
def fz1 : Res RV → Res D := fun r => r.bind fun v S1 => onO (frz S1 v) fun p => .ok p.1 p.2
@[simp] theorem eFrz_ap : eFrz a S = fz1 (a S) := nr rfl
@[simp] theorem fz1_d {d : D} : fz1 (.ok (.d d) S) = .ok d S := nr rfl
def fzo (S : Sl) : Option D → Res D
  | some x => .ok x S
  | none => .bad
@[simp] theorem fzo_some {x : D} : fzo S (some x) = .ok x S := nr rfl
@[simp] theorem fz1_fr {o : Ob} : fz1 (.ok (.fr o) S) = fzo S o.dat := by
  unfold fz1 fzo
  simp only [bind_ok, frz_fr]
  cases o.dat <;> rfl
def fzs (i : Nat) (S : Sl) : Option D → Res D
  | some x => .ok x (S.set i (some (.d x)))
  | none => .bad
@[simp] theorem fzs_some {i : Nat} {x : D} : fzs i S (some x) = .ok x (S.set i (some (.d x))) := nr rfl
def fzb (i : Nat) (S : Sl) : Option SV → Res D
  | some v => fzs i S v.dat
  | none => .bad
@[simp] theorem fzb_some {i : Nat} {v : SV} : fzb i S (some v) = fzs i S v.dat := nr rfl
@[simp] theorem fz1_br {i : Nat} : fz1 (.ok (.br i) S) = fzb i S (at? S i) := by
  unfold fz1 fzb frz
  simp only [bind_ok]
  cases at? S i with
  | none => rfl
  | some v =>
    show onO (v.dat.map _) _ = fzs i S v.dat
    cases v.dat <;> rfl
@[simp] theorem fz1_exc : fz1 (.exc e S) = .exc e S := nr rfl
@[simp] theorem lNil_ap : lNil S = .ok [] S := nr rfl
def lc1 (l : Lx) : Res D → Res (List D) := fun r => r.bind fun x S1 => (l S1).bind fun xs S2 => .ok (x :: xs) S2
def lc2 (x : D) : Res (List D) → Res (List D) := fun r => r.bind fun xs S2 => .ok (x :: xs) S2
@[simp] theorem lCons_ap : lCons dx l S = lc1 l (dx S) := nr rfl
@[simp] theorem lc1_ok {d : D} : lc1 l (.ok d S) = lc2 d (l S) := nr rfl
@[simp] theorem lc2_ok {d : D} {ds : List D} : lc2 d (.ok ds S) = .ok (d :: ds) S := nr rfl
@[simp] theorem lc1_exc : lc1 l (.exc e S) = .exc e S := nr rfl
@[simp] theorem lc2_exc {d : D} : lc2 d (.exc e S) = .exc e S := nr rfl
def tp1 : Res (List D) → Res RV := fun r => r.bind fun ds S1 => if ds.length ≤ sizeLine then .ok (.d (.tuple ds)) S1 else .bad
@[simp] theorem eTup_ap : eTup l S = tp1 (l S) := nr rfl
theorem tp1_ok {ds : List D} (h : ds.length ≤ sizeLine) : tp1 (.ok ds S) = .ok (.d (.tuple ds)) S := if_pos h
@[simp] theorem tp1_lit {ds : List D} (h : decide (ds.length ≤ 1000) = true) : tp1 (.ok ds S) = .ok (.d (.tuple ds)) S := if_pos (Nat.le_trans (of_decide_eq_true h) (by decide))
def ls1 : Res (List D) → Res RV := fun r => r.bind fun ds S1 => if ds.length ≤ sizeLine then .ok (.fr (.lst ds)) S1 else .bad
@[simp] theorem eLst_ap : eLst l S = ls1 (l S) := nr rfl
@[simp] theorem ls1_lit {ds : List D} (h : decide (ds.length ≤ 1000) = true) : ls1 (.ok ds S) = .ok (.fr (.lst ds)) S := if_pos (Nat.le_trans (of_decide_eq_true h) (by decide))
/-! tests -/
def tt1 : Res RV → Res Bool := fun r => r.bind fun x S1 => onO ((view S1 x).bind truth) fun b => .ok b S1
@[simp] theorem tTru_ap : tTru a S = tt1 (a S) := nr rfl
def tro (S : Sl) : Option Bool → Res Bool
  | some b => .ok b S
  | none => .bad
@[simp] theorem tro_some {k : Bool} : tro S (some k) = .ok k S := nr rfl
@[simp] theorem tt1_ok : tt1 (.ok x S) = tro S ((view S x).bind truth) := by
  unfold tt1 tro
  simp only [bind_ok]
  cases (view S x).bind truth <;> rfl
@[simp] theorem tt1_exc : tt1 (.exc e S) = .exc e S := nr rfl
def tb1 : Res RV → Res Bool := fun r => r.bind fun x S1 => onO (isBl x) fun k => .ok k S1
@[simp] theorem tBl_ap : tBl a S = tb1 (a S) := nr rfl
@[simp] theorem tb1_ok {k : Bool} : tb1 (.ok (.d (.bool k)) S) = .ok k S := nr rfl
@[simp] theorem tb1_exc : tb1 (.exc e S) = .exc e S := nr rfl
def ta1 (U : Tx) : Res Bool → Res Bool := fun r => r.bind fun c S1 => if c = true then U S1 else .ok false S1
def to1 (U : Tx) : Res Bool → Res Bool := fun r => r.bind fun c S1 => if c = true then .ok true S1 else U S1
def tn1 : Res Bool → Res Bool := fun r => r.bind fun c S1 => .ok (!c) S1
@[simp] theorem tAnd_ap : tAnd T U S = ta1 U (T S) := nr rfl
@[simp] theorem ta1_t : ta1 U (.ok true S) = U S := nr rfl
@[simp] theorem ta1_f : ta1 U (.ok false S) = .ok false S := nr rfl
@[simp] theorem ta1_exc : ta1 U (.exc e S) = .exc e S := nr rfl
@[simp] theorem tOr_ap : tOr T U S = to1 U (T S) := nr rfl
@[simp] theorem to1_t : to1 U (.ok true S) = .ok true S := nr rfl
@[simp] theorem to1_f : to1 U (.ok false S) = U S := nr rfl
@[simp] theorem to1_exc : to1 U (.exc e S) = .exc e S := nr rfl
@[simp] theorem tNot_ap : tNot T S = tn1 (T S) := nr rfl
@[simp] theorem tn1_ok {k : Bool} : tn1 (.ok k S) = .ok (!k) S := nr rfl
@[simp] theorem tn1_exc : tn1 (.exc e S) = .exc e S := nr rfl
@[simp] theorem tYes_ap : tYes S = .ok true S := nr rfl
/-! and, or, not, chains as values -/
def ea1 (b : Ex) : Res RV → Res RV := fun r => r.bind fun x S1 => onO ((view S1 x).bind truth) fun k => if k = true then b S1 else .ok x S1
def eo1 (b : Ex) : Res RV → Res RV := fun r => r.bind fun x S1 => onO ((view S1 x).bind truth) fun k => if k = true then .ok x S1 else b S1
def en1 : Res RV → Res RV := fun r => r.bind fun x S1 => onO ((view S1 x).bind truth) fun k => .ok (.d (.bool (!k))) S1
@[simp] theorem eAnd_ap : eAnd a b S = ea1 b (a S) := nr rfl
@[simp] theorem eOr_ap : eOr a b S = eo1 b (a S) := nr rfl
@[simp] theorem eNot_ap : eNot a S = en1 (a S) := nr rfl
@[simp] theorem ea1_t : ea1 b (.ok (.d (.bool true)) S) = b S := nr rfl
@[simp] theorem ea1_f : ea1 b (.ok (.d (.bool false)) S) = .ok (.d (.bool false)) S := nr rfl
@[simp] theorem eo1_t : eo1 b (.ok (.d (.bool true)) S) = .ok (.d (.bool true)) S := nr rfl
@[simp] theorem eo1_f : eo1 b (.ok (.d (.bool false)) S) = b S := nr rfl
@[simp] theorem en1_b {k : Bool} : en1 (.ok (.d (.bool k)) S) = .ok (.d (.bool (!k))) S := nr rfl
def ch1 (f f' : D → D → Option RV) (b c : Ex) : Res RV → Res RV := fun r => r.bind fun x S1 => (b S1).bind fun y S2 => onO (((view S2 x).bind fun dx => (view S2 y).bind fun dy => f dx dy).bind isBl) fun k =>
  if k = true then (c S2).bind fun z S3 => give S3 ((view S3 y).bind fun dy => (view S3 z).bind fun dz => f' dy dz) else .ok (.d (.bool false)) S2
def ch2 (f f' : D → D → Option RV) (x : RV) (c : Ex) : Res RV → Res RV := fun r => r.bind fun y S2 => onO ((opv f (view S2 x) (view S2 y)).bind isBl) fun k =>
  if k = true then op2 f' y (c S2) else .ok (.d (.bool false)) S2
def ch3 (f' : D → D → Option RV) (y : RV) (c : Ex) (S : Sl) : Option RV → Res RV
  | some (.d (.bool true)) => op2 f' y (c S)
  | some (.d (.bool false)) => .ok (.d (.bool false)) S
  | _ => .bad
@[simp] theorem eChain_ap : eChain f f' a b c S = ch1 f f' b c (a S) := nr rfl
theorem opv_eq {o p : Option D} : (o.bind fun dx => p.bind fun dy => f dx dy) = opv f o p := by cases o <;> cases p <;> rfl
@[simp] theorem ch1_ok : ch1 f f' b c (.ok x S) = ch2 f f' x c (b S) := by
  unfold ch1 ch2 op2
  simp only [bind_ok, opv_eq]
@[simp] theorem ch2_ok : ch2 f f' x c (.ok y S) = ch3 f' y c S (opv f (view S x) (view S y)) := by
  unfold ch2 ch3
  simp only [bind_ok]
  cases opv f (view S x) (view S y) with
  | none => rfl
  | some r =>
    cases r with
    | d q =>
      cases q with
      | bool k => cases k <;> rfl
      | _ => rfl
    | _ => rfl
@[simp] theorem ch3_t : ch3 f' y c S (some (.d (.bool true))) = op2 f' y (c S) := nr rfl
@[simp] theorem ch3_f : ch3 f' y c S (some (.d (.bool false))) = .ok (.d (.bool false)) S := nr rfl
/-! statements -/
@[simp] theorem sNext_ap : sNext S = .nx S := nr rfl
@[simp] theorem sSeq_ap : sSeq sa sb S = (sa S).next sb := nr rfl
def ex1 : Res RV → Out := fun r => r.out fun _ S1 => .nx S1
@[simp] theorem sExpr_ap : sExpr a S = ex1 (a S) := nr rfl
@[simp] theorem ex1_ok : ex1 (.ok x S) = .nx S := nr rfl
@[simp] theorem ex1_exc : ex1 (.exc e S) = .exc e S := nr rfl
def rt1 : Res RV → Out := fun r => r.out fun v S1 => .rt v S1
@[simp] theorem sRet_ap : sRet a S = rt1 (a S) := nr rfl
@[simp] theorem rt1_ok : rt1 (.ok x S) = .rt x S := nr rfl
@[simp] theorem rt1_exc : rt1 (.exc e S) = .exc e S := nr rfl
def sf1 (sa sb : Sx) : Res Bool → Out := fun r => r.out fun c S1 => if c = true then sa S1 else sb S1
@[simp] theorem sIf_ap : sIf T sa sb S = sf1 sa sb (T S) := nr rfl
@[simp] theorem sf1_t : sf1 sa sb (.ok true S) = sa S := nr rfl
@[simp] theorem sf1_f : sf1 sa sb (.ok false S) = sb S := nr rfl
@[simp] theorem sf1_exc : sf1 sa sb (.exc e S) = .exc e S := nr rfl
@[simp] theorem sBad_ap : sBad S = .bad := nr rfl
def st1 (i : Nat) : Res RV → Out := fun r => r.out fun v S1 => ofO (put S1 i v)
@[simp] theorem sSet_ap {i : Nat} : sSet i a S = st1 i (a S) := nr rfl
@[simp] theorem st1_d {i : Nat} {d : D} : st1 i (.ok (.d d) S) = .nx (S.set i (some (.d d))) := nr rfl
@[simp] theorem st1_fr {i : Nat} {o : Ob} : st1 i (.ok (.fr o) S) = .nx (S.set i (some (.live o))) := nr rfl
@[simp] theorem st1_exc {i : Nat} : st1 i (.exc e S) = .exc e S := nr rfl
def pr1 (is : List Nat) : Res (List RV) → Out := fun r => r.out fun vs S1 => ofO (putAll is vs S1)
@[simp] theorem sPar_ap {is : List Nat} : sPar is A S = pr1 is (A S) := nr rfl
@[simp] theorem pr1_ok {is : List Nat} {vs : List RV} : pr1 is (.ok vs S) = ofO (putAll is vs S) := nr rfl
@[simp] theorem putAll_nil : putAll [] [] S = some S := nr rfl
@[simp] theorem putAll_d {i : Nat} {is : List Nat} {d : D} {vs : List RV} : putAll (i :: is) (.d d :: vs) S = putAll is vs (S.set i (some (.d d))) := nr rfl
@[simp] theorem putAll_fr {i : Nat} {is : List Nat} {o : Ob} {vs : List RV} : putAll (i :: is) (.fr o :: vs) S = putAll is vs (S.set i (some (.live o))) := nr rfl
def as1 (G : Tg) : Res D → Out := fun r => r.out fun x S1 => ofO (G x S1)
@[simp] theorem sAsg_ap {G : Tg} : sAsg G dx S = as1 G (dx S) := nr rfl
@[simp] theorem as1_ok {G : Tg} {d : D} : as1 G (.ok d S) = ofO (G d S) := nr rfl
@[simp] theorem gName_ap {i : Nat} {d : D} : gName i d S = some (S.set i (some (.d d))) := nr rfl
@[simp] theorem gTup_ap {gs : List Tg} {ds : List D} : gTup gs (.tuple ds) S = gAll gs ds S := nr rfl
@[simp] theorem gAll_nil : gAll [] [] S = some S := nr rfl
def ga1 (gs : List Tg) (ds : List D) : Option Sl → Option Sl
  | some S => gAll gs ds S
  | none => none
@[simp] theorem gAll_cons {G : Tg} {gs : List Tg} {d : D} {ds : List D} : gAll (G :: gs) (d :: ds) S = ga1 gs ds (G d S) := by
  rw [gAll]
  cases G d S <;> rfl
@[simp] theorem ga1_some {gs : List Tg} {ds : List D} : ga1 gs ds (some S) = gAll gs ds S := nr rfl
def gs1 (ix : Ex) (d : D) : Res RV → Option Sl
  | .ok (.br k) S1 => (match ix S1 with
    | .ok (.d key) S2 => setAt S2 k key d
    | _ => none)
  | _ => none
def gs2 (k : Nat) (d : D) : Res RV → Option Sl
  | .ok (.d key) S2 => setAt S2 k key d
  | _ => none
@[simp] theorem gSub_ap {d : D} : gSub a b d S = gs1 b d (a S) := nr rfl
@[simp] theorem gs1_ok {d : D} {k : Nat} : gs1 b d (.ok (.br k) S) = gs2 k d (b S) := nr rfl
@[simp] theorem gs2_ok {d : D} {k : Nat} {key : D} : gs2 k d (.ok (.d key) S) = setAt S k key d := nr rfl
def sa1 (S : Sl) (k : Nat) (key : D) (d : D) : Option SV → Option Sl
  | some (.live o) => (setOb key d o).map fun o' => S.set k (some (.live o'))
  | _ => none
@[simp] theorem setAt_ap {d : D} {k : Nat} {key : D} : setAt S k key d = sa1 S k key d (at? S k) := by
  unfold setAt sa1
  rfl
def sa2 (S : Sl) (k : Nat) (xs : List D) (d : D) : Option Nat → Option Sl
  | some n => some (S.set k (some (.live (.lst (xs.set n d)))))
  | none => none
@[simp] theorem sa1_ok {d : D} {k : Nat} {j : Int} {xs : List D} : sa1 S k (.int j) d (some (.live (.lst xs))) = sa2 S k xs d (ixD xs.length j) := by
  show (Option.map _ ((ixD xs.length j).map _)) = _
  cases ixD xs.length j <;> rfl
@[simp] theorem sa2_some {d : D} {k n : Nat} {xs : List D} : sa2 S k xs d (some n) = some (S.set k (some (.live (.lst (xs.set n d))))) := nr rfl
theorem sa1_d {d key : D} {k : Nat} {ds : List (D × D)} (h : ((kyOf key).isSome && decide (ds.length < 1000)) = true) : sa1 S k key d (some (.live (.dct ds))) = some (S.set k (some (.live (.dct (dPut ds key d))))) := by
  rw [Bool.and_eq_true, decide_eq_true_iff] at h
  show Option.map _ (if (kyOf key).isSome = true ∧ ds.length < sizeLine then some (Ob.dct (dPut ds key d)) else none) = _
  rw [if_pos ⟨h.1, Nat.lt_trans h.2 (by decide)⟩]
  rfl
def fr1 (G : Tg) (B : Sx) : Res (List D) → Out := fun r => r.out fun xs S1 => forL G B xs S1
@[simp] theorem sFor_ap {w : Wx} {G : Tg} {B : Sx} : sFor w G B S = fr1 G B (w S) := nr rfl
@[simp] theorem fr1_ok {G : Tg} {B : Sx} {xs : List D} : fr1 G B (.ok xs S) = forL G B xs S := nr rfl
theorem sWhile_ap {n : Nat} {B : Sx} : sWhile n T B S = whileL T B n S := rfl
/-! what is walked -/
def wi (S : Sl) : Option (List D) → Res (List D)
  | some xs => .ok xs S
  | none => .bad
@[simp] theorem wi_some {xs : List D} : wi S (some xs) = .ok xs S := nr rfl
def ws1 : Res D → Res (List D) := fun r => r.bind fun x S1 => wi S1 (items x)
@[simp] theorem wSeq_ap : wSeq dx S = ws1 (dx S) := by
  unfold wSeq ws1
  cases dx S with
  | ok x S1 =>
    simp only [bind_ok]
    cases items x <;> rfl
  | _ => rfl
@[simp] theorem ws1_ok {d : D} : ws1 (.ok d S) = wi S (items d) := nr rfl
@[simp] theorem items_l {xs : List D} : items (.list xs) = some xs := nr rfl
@[simp] theorem items_t {xs : List D} : items (.tuple xs) = some xs := nr rfl
def wr1 (f : List D → Option (List D)) : Res (List RV) → Res (List D) := fun r => r.bind fun vs S1 => wi S1 ((views S1 vs).bind f)
@[simp] theorem wRange_ap {f : List D → Option (List D)} : wRange f A S = wr1 f (A S) := by
  unfold wRange wr1
  cases A S with
  | ok x S1 =>
    simp only [bind_ok]
    cases (views S1 x).bind f <;> rfl
  | _ => rfl
@[simp] theorem wr1_ok {f : List D → Option (List D)} {vs : List RV} : wr1 f (.ok vs S) = wi S ((views S vs).bind f) := nr rfl
def we1 : Res D → Res (List D) := fun r => r.bind fun x S1 => wi S1 ((seqs x).map (enumL 0))
@[simp] theorem wEnum_ap : wEnum dx S = we1 (dx S) := by
  unfold wEnum we1
  cases dx S with
  | ok x S1 =>
    simp only [bind_ok]
    cases seqs x <;> rfl
  | _ => rfl
@[simp] theorem we1_ok {d : D} : we1 (.ok d S) = wi S ((seqs d).map (enumL 0)) := nr rfl
@[simp] theorem seqs_l {xs : List D} : seqs (.list xs) = some xs := nr rfl
@[simp] theorem seqs_t {xs : List D} : seqs (.tuple xs) = some xs := nr rfl
@[simp] theorem items_s {z : Str} : items (.str z) = some (signs z) := nr rfl
def lr1 : Res (List D) → Res RV := fun r => r.bind fun xs S1 => if range24 xs = true then .ok (.fr (.lst xs)) S1 else .bad
@[simp] theorem eListRange_ap {w : Wx} : eListRange w S = lr1 (w S) := nr rfl
theorem lr1_ok {xs : List D} (h : range24 xs = true) : lr1 (.ok xs S) = .ok (.fr (.lst xs)) S := if_pos h
def tr1 : Res (List D) → Res RV := fun r => r.bind fun xs S1 => if range24 xs = true then .ok (.d (.tuple xs)) S1 else .bad
@[simp] theorem eTupRange_ap {w : Wx} : eTupRange w S = tr1 (w S) := nr rfl
theorem tr1_ok {xs : List D} (h : range24 xs = true) : tr1 (.ok xs S) = .ok (.d (.tuple xs)) S := if_pos h
/-! slices -/
def sl1 (lo hi : Px) : Res RV → Res RV := fun r => r.bind fun x S1 => (lo S1).bind fun l S2 => (hi S2).bind fun h S3 => give S3 ((view S3 x).bind (sliceD l h))
def sl2 (x : RV) (hi : Px) : Res (Option Int) → Res RV := fun r => r.bind fun l S2 => (hi S2).bind fun h S3 => give S3 ((view S3 x).bind (sliceD l h))
def sl3 (x : RV) (l : Option Int) : Res (Option Int) → Res RV := fun r => r.bind fun h S3 => give S3 ((view S3 x).bind (sliceD l h))
@[simp] theorem eSlice_ap {lo hi : Px} : eSlice a lo hi S = sl1 lo hi (a S) := nr rfl
@[simp] theorem sl1_ok {lo hi : Px} : sl1 lo hi (.ok x S) = sl2 x hi (lo S) := nr rfl
@[simp] theorem sl2_ok {hi : Px} {l : Option Int} : sl2 x hi (.ok l S) = sl3 x l (hi S) := nr rfl
@[simp] theorem sl3_ok {l h : Option Int} : sl3 x l (.ok h S) = give S ((view S x).bind (sliceD l h)) := nr rfl
@[simp] theorem pNone_ap : pNone S = .ok none S := nr rfl
def ps1 : Res RV → Res (Option Int) := fun r => r.bind fun x S1 => onO ((view S1 x).bind asInt) fun i => .ok (some i) S1
@[simp] theorem pSome_ap : pSome a S = ps1 (a S) := nr rfl
@[simp] theorem ps1_i {i : Int} : ps1 (.ok (.d (.int i)) S) = .ok (some i) S := nr rfl
/-! methods -/
def em1 (m : List D → List D → Option (List D × D)) (i : Nat) (l : Lx) (S : Sl) : Option SV → Res RV
  | some (.live (.lst _)) => (l S).bind fun ds S1 => mutAt m S1 i ds
  | _ => .bad
def em2 (m : List D → List D → Option (List D × D)) (i : Nat) : Res (List D) → Res RV := fun r => r.bind fun ds S1 => mutAt m S1 i ds
variable {m : List D → List D → Option (List D × D)} {i : Nat}
@[simp] theorem eMut_ap : eMut m i l S = em1 m i l S (at? S i) := by
  unfold eMut em1
  rfl
@[simp] theorem em1_ok {xs : List D} : em1 m i l S (some (.live (.lst xs))) = em2 m i (l S) := nr rfl
def mu1 (m : List D → List D → Option (List D × D)) (S : Sl) (i : Nat) (ds : List D) : Option SV → Res RV
  | some (.live (.lst xs)) => onO (m xs ds) fun p => .ok (.d p.2) (S.set i (some (.live (.lst p.1))))
  | _ => .bad
@[simp] theorem em2_ok {ds : List D} : em2 m i (.ok ds S) = mu1 m S i ds (at? S i) := nr rfl
def mu2 (S : Sl) (i : Nat) : Option (List D × D) → Res RV
  | some p => .ok (.d p.2) (S.set i (some (.live (.lst p.1))))
  | none => .bad
@[simp] theorem mu1_ok {ds xs : List D} : mu1 m S i ds (some (.live (.lst xs))) = mu2 S i (m xs ds) := by
  show onO (m xs ds) _ = _
  cases m xs ds <;> rfl
@[simp] theorem mu2_some {p : List D × D} : mu2 S i (some p) = .ok (.d p.2) (S.set i (some (.live (.lst p.1)))) := nr rfl
/-! comprehensions -/
def co1 (g : Tt) (t : Tx) (ev : Dx) (vs : List Nat) : Res (List D) → Res RV := fun r => r.bind fun xs S1 => if vs.all (isD S1) then (lcL g t ev vs xs [] S1).bind fun ys S2 => .ok (.fr (.lst ys)) (backL S1 vs S2) else .bad
def co2 (S1 : Sl) (vs : List Nat) : Res (List D) → Res RV := fun r => r.bind fun ys S2 => .ok (.fr (.lst ys)) (backL S1 vs S2)
@[simp] theorem eLc_ap {w : Wx} {g : Tt} {t : Tx} {ev : Dx} {vs : List Nat} : eLc w g t ev vs S = co1 g t ev vs (w S) := nr rfl
@[simp] theorem co1_ok {g : Tt} {t : Tx} {ev : Dx} {vs : List Nat} {xs : List D} (h : vs.all (isD S) = true) : co1 g t ev vs (.ok xs S) = co2 S vs (lcL g t ev vs xs [] S) := if_pos h
@[simp] theorem co2_ok {S1 : Sl} {vs : List Nat} {ys : List D} : co2 S1 vs (.ok ys S) = .ok (.fr (.lst ys)) (backL S1 vs S) := nr rfl
/-! calls -/
def cl1 (F : Fn) : Res (List RV) → Res RV := fun r => r.bind fun vs S1 => if nodup (brs vs) = true then onO (hand S1 vs) fun as => (F as).res S1 vs as else .bad
def cl2 (F : Fn) (S : Sl) (vs : List RV) : Option (List SV) → Res RV
  | some as => (F as).res S vs as
  | none => .bad
@[simp] theorem eCall_ap {F : Fn} : eCall F A S = cl1 F (A S) := nr rfl
@[simp] theorem cl1_ok {F : Fn} {vs : List RV} (h : nodup (brs vs) = true) : cl1 F (.ok vs S) = cl2 F S vs (hand S vs) := by
  unfold cl1 cl2
  simp only [bind_ok, if_pos h]
  cases hand S vs <;> rfl
@[simp] theorem cl2_some {F : Fn} {vs : List RV} {as : List SV} : cl2 F S vs (some as) = (F as).res S vs as := nr rfl
@[simp] theorem res_bad {vs : List RV} {as : List SV} : CRes.bad.res S vs as = .bad := nr rfl
def tb2 (v : SV) : Option Sl → Res RV
  | some S => .ok v.rv S
  | none => .bad
@[simp] theorem res_ok {v : SV} {os : List (Option SV)} {vs : List RV} {as : List SV} : (CRes.ok v os).res S vs as = tb2 v (takeBack S vs as os) := by
  show onO _ _ = _
  cases takeBack S vs as os <;> rfl
@[simp] theorem tb2_some {v : SV} : tb2 v (some S) = .ok v.rv S := nr rfl
def hc1 (a : SV) : Option (List SV) → Option (List SV)
  | some as => some (a :: as)
  | none => none
@[simp] theorem hc1_some {a : SV} {as : List SV} : hc1 a (some as) = some (a :: as) := nr rfl
@[simp] theorem hand_nil : hand S [] = some [] := nr rfl
@[simp] theorem hand_d {d : D} {vs : List RV} : hand S (.d d :: vs) = hc1 (.d d) (hand S vs) := by
  rw [hand]
  cases hand S vs <;> rfl
@[simp] theorem hand_fr {o : Ob} {vs : List RV} : hand S (.fr o :: vs) = hc1 (.live o) (hand S vs) := by
  rw [hand]
  cases hand S vs <;> rfl
def hc2 (os : Option (List SV)) : Option SV → Option (List SV)
  | some a => hc1 a os
  | none => none
@[simp] theorem hc2_some {a : SV} {os : Option (List SV)} : hc2 os (some a) = hc1 a os := nr rfl
@[simp] theorem hand_br {j : Nat} {vs : List RV} : hand S (.br j :: vs) = hc2 (hand S vs) (at? S j) := by
  rw [hand]
  cases at? S j <;> cases hand S vs <;> rfl
@[simp] theorem takeBack_nil {as : List SV} {os : List (Option SV)} : takeBack S [] as os = some S := by
  cases as <;> cases os <;> rfl
@[simp] theorem takeBack_d {d : D} {vs : List RV} {a : SV} {as : List SV} {o : Option SV} {os : List (Option SV)} : takeBack S (.d d :: vs) (a :: as) (o :: os) = takeBack S vs as os := by
  cases a <;> rfl
@[simp] theorem takeBack_fr {q : Ob} {vs : List RV} {a : SV} {as : List SV} {o : Option SV} {os : List (Option SV)} : takeBack S (.fr q :: vs) (a :: as) (o :: os) = takeBack S vs as os := by
  cases a <;> rfl
def tbk (j : Nat) (w : SV) : Option Sl → Option Sl
  | some S => some (S.set j (some w))
  | none => none
@[simp] theorem tbk_some {j : Nat} {w : SV} : tbk j w (some S) = some (S.set j (some w)) := nr rfl
@[simp] theorem takeBack_br {j : Nat} {vs : List RV} {q : Ob} {as : List SV} {w : SV} {os : List (Option SV)} : takeBack S (.br j :: vs) (.live q :: as) (some w :: os) = tbk j w (takeBack S vs as os) := by
  rw [takeBack]
  cases takeBack S vs as os <;> rfl
def ck1 (F : Fn) (n k : Nat) (π : List Nat) (lb : Lx) : Res (List D) → Res RV := fun r => r.bind fun xs S1 => (lb S1).bind fun ys S2 => if xs.length = n ∧ ys.length = k then (F (π.filterMap fun i => ((xs ++ ys)[i]?).map SV.d)).plain S2 else .bad
def ck2 (F : Fn) (n k : Nat) (π : List Nat) (xs : List D) : Res (List D) → Res RV := fun r => r.bind fun ys S2 => if xs.length = n ∧ ys.length = k then (F (π.filterMap fun i => ((xs ++ ys)[i]?).map SV.d)).plain S2 else .bad
@[simp] theorem eCallK_ap {F : Fn} {n k : Nat} {π : List Nat} {la lb : Lx} : eCallK F n k π la lb S = ck1 F n k π lb (la S) := nr rfl
@[simp] theorem ck1_ok {F : Fn} {n k : Nat} {π : List Nat} {lb : Lx} {xs : List D} : ck1 F n k π lb (.ok xs S) = ck2 F n k π xs (lb S) := nr rfl
@[simp] theorem ck2_ok {F : Fn} {n k : Nat} {π : List Nat} {xs ys : List D} (h : xs.length = n ∧ ys.length = k) : ck2 F n k π xs (.ok ys S) = (F (π.filterMap fun i => ((xs ++ ys)[i]?).map SV.d)).plain S := if_pos h
@[simp] theorem plain_ok {v : SV} {os : List (Option SV)} : (CRes.ok v os).plain S = .ok v.rv S := nr rfl
@[simp] theorem plain_exc {os : List (Option SV)} : (CRes.exc e os).plain S = .exc e S := nr rfl
/-! the def's end -/
@[simp] theorem ends_nx {n : Nat} : Out.ends (.nx S) n = .ok (.d .none) (S.take n) := nr rfl
@[simp] theorem ends_d {n : Nat} {d : D} : Out.ends (.rt (.d d) S) n = .ok (.d d) (S.take n) := nr rfl
@[simp] theorem ends_fr {n : Nat} {o : Ob} : Out.ends (.rt (.fr o) S) n = .ok (.live o) (S.take n) := nr rfl
@[simp] theorem ends_exc {n : Nat} : Out.ends (.exc e S) n = .exc e (S.take n) := nr rfl
def eb1 (S : Sl) (n : Nat) : Option SV → CRes
  | some v => .ok v (S.take n)
  | none => .bad
@[simp] theorem eb1_some {n : Nat} {v : SV} : eb1 S n (some v) = .ok v (S.take n) := nr rfl
@[simp] theorem ends_br {n j : Nat} (h : n ≤ j) : Out.ends (.rt (.br j) S) n = eb1 S n (at? S j) := by
  show (if j < n then _ else _) = _
  rw [if_neg (Nat.not_lt.mpr h)]
  unfold eb1
  cases at? S j <;> rfl
theorem fnOf_ap {n k : Nat} {fx : Nat → Bool} {B : Sx} {as : List SV} (h : (decide (as.length = n) && (List.range n).all (fun i => fx i || isD (as.map some) i)) = true) : fnOf n k fx B as = (B (as.map some ++ List.replicate (k - n) none)).ends n := by
  unfold fnOf
  simp only [Bool.and_eq_true, decide_eq_true_eq] at h
  exact if_pos h
/-- every parameter is fixed -/
theorem fnOf_all {n k : Nat} {l : List Nat} {B : Sx} {as : List SV} (h1 : as.length = n) (h : (List.range n).all (fun i => fxL l i) = true) : fnOf n k (fxL l) B as = (B (as.map some ++ List.replicate (k - n) none)).ends n :=
  if_pos ⟨h1, List.all_eq_true.mpr fun i hi => by rw [List.all_eq_true.mp h i hi]; rfl⟩
end
/-! operations on data -/
section
variable {i j : Int} {a b : Str} {k l : Bool} {xs ys : List D} {x y z w : D} {n : Nat}
@[simp] theorem addD_i : addD (.int i) (.int j) = some (.d (.int (i + j))) := nr rfl
@[simp] theorem subD_i : subD (.int i) (.int j) = some (.d (.int (i - j))) := nr rfl
@[simp] theorem negD_i : negD (.int i) = some (.d (.int (-i))) := nr rfl
theorem mulD_l (h : -18446744073709551616 < i ∧ i < 18446744073709551616) : mulD (.int i) (.int j) = some (.d (.int (i * j))) := by
  have : small64 i = true := by
    unfold small64
    simp only [Bool.and_eq_true, decide_eq_true_eq]
    omega
  show (if (small64 i || small64 j) = true then _ else _) = _
  rw [this]
  rfl
theorem mulD_r (h : -18446744073709551616 < j ∧ j < 18446744073709551616) : mulD (.int i) (.int j) = some (.d (.int (i * j))) := by
  have : small64 j = true := by
    unfold small64
    simp only [Bool.and_eq_true, decide_eq_true_eq]
    omega
  show (if (small64 i || small64 j) = true then _ else _) = _
  rw [this, Bool.or_true]
  rfl
theorem modD_i (h : 0 < j) : modD (.int i) (.int j) = some (.d (.int (i % j))) := if_pos h
theorem fdivD_i (h : 0 < j) (h' : j < 18446744073709551616) : fdivD (.int i) (.int j) = some (.d (.int (i / j))) := if_pos ⟨h, h'⟩
theorem divmodD_i (h : 0 < j) (h' : j < 18446744073709551616) : divmodD [.int i, .int j] = some (.d (.tuple [.int (i / j), .int (i % j)])) := if_pos ⟨h, h'⟩
@[simp] theorem eqD_i : eqD (.int i) (.int j) = some (.d (.bool (i == j))) := nr rfl
@[simp] theorem eqD_s : eqD (.str a) (.str b) = some (.d (.bool (a == b))) := nr rfl
@[simp] theorem eqD_b : eqD (.bool k) (.bool l) = some (.d (.bool (k == l))) := nr rfl
@[simp] theorem neD_i : neD (.int i) (.int j) = some (.d (.bool (!(i == j)))) := nr rfl
@[simp] theorem neD_s : neD (.str a) (.str b) = some (.d (.bool (!(a == b)))) := nr rfl
@[simp] theorem neD_b : neD (.bool k) (.bool l) = some (.d (.bool (!(k == l)))) := nr rfl
@[simp] theorem ltD_i : ltD (.int i) (.int j) = some (.d (.bool (decide (i < j)))) := nr rfl
@[simp] theorem leD_i : leD (.int i) (.int j) = some (.d (.bool (decide (i ≤ j)))) := nr rfl
@[simp] theorem gtD_i : gtD (.int i) (.int j) = some (.d (.bool (decide (j < i)))) := nr rfl
@[simp] theorem geD_i : geD (.int i) (.int j) = some (.d (.bool (decide (j ≤ i)))) := nr rfl
@[simp] theorem lenD_l : lenD (.list xs) = some (.d (.int xs.length)) := nr rfl
@[simp] theorem lenD_t : lenD (.tuple xs) = some (.d (.int xs.length)) := nr rfl
@[simp] theorem absD_i : absD (.int i) = some (.d (.int (if i < 0 then -i else i))) := nr rfl
@[simp] theorem max2D_i : max2D [.int i, .int j] = some (.d (.int (if j > i then j else i))) := nr rfl
@[simp] theorem min2D_i : min2D [.int i, .int j] = some (.d (.int (if j < i then j else i))) := nr rfl
@[simp] theorem tupleD_l : tupleD (.list xs) = some (.d (.tuple xs)) := nr rfl
@[simp] theorem tupleD_t : tupleD (.tuple xs) = some (.d (.tuple xs)) := nr rfl
@[simp] theorem listD_l : listD (.list xs) = some (.fr (.lst xs)) := nr rfl
@[simp] theorem listD_t : listD (.tuple xs) = some (.fr (.lst xs)) := nr rfl
@[simp] theorem revD_l : revD (.list xs) = some (.fr (.lst xs.reverse)) := nr rfl
@[simp] theorem sliceD_l {lo hi : Option Int} : sliceD lo hi (.list xs) = some (.fr (.lst (cutL xs lo hi))) := nr rfl
@[simp] theorem sliceD_t {lo hi : Option Int} : sliceD lo hi (.tuple xs) = some (.d (.tuple (cutL xs lo hi))) := nr rfl
@[simp] theorem truth_b : truth (.bool k) = some k := nr rfl
@[simp] theorem truth_n : truth .none = some false := nr rfl
@[simp] theorem truth_i : truth (.int i) = some (i != 0) := nr rfl
@[simp] theorem truth_l : truth (.list xs) = some (!xs.isEmpty) := nr rfl
@[simp] theorem truth_t : truth (.tuple xs) = some (!xs.isEmpty) := nr rfl
def mapD : Option D → Option RV
  | some x => some (.d x)
  | none => none
@[simp] theorem mapD_some : mapD (some x) = some (.d x) := nr rfl
@[simp] theorem ixOp_l : ixOp (.list xs) (.int i) = mapD (atD xs i) := by
  show (atD xs i).map _ = _
  cases atD xs i <;> rfl
@[simp] theorem ixOp_t : ixOp (.tuple xs) (.int i) = mapD (atD xs i) := by
  show (atD xs i).map _ = _
  cases atD xs i <;> rfl
theorem ixD_nat (h : n < m) : ixD m ((n : Nat) : Int) = some n := by
  unfold ixD
  rw [if_pos (Int.natCast_nonneg n), if_pos (by omega)]
  simp
theorem ixD_neg (h : 0 < m) : ixD m (-1) = some (m - 1) := by
  unfold ixD
  rw [if_neg (by decide), if_pos (by omega)]
  congr 1
  omega
@[simp] theorem ixD_0 : ixD (n + 1) 0 = some 0 := ixD_nat (n := 0) (by omega)
@[simp] theorem ixD_1 : ixD (n + 2) 1 = some 1 := ixD_nat (n := 1) (by omega)
@[simp] theorem ixD_2 : ixD (n + 3) 2 = some 2 := ixD_nat (n := 2) (by omega)
@[simp] theorem ixD_m : ixD (n + 1) (-1) = some n := ixD_neg (by omega)
theorem atD_nat {α : Type} {xs : List α} (n : Nat) : atD xs ((n : Nat) : Int) = xs[n]? := by
  unfold atD
  by_cases h : n < xs.length
  · rw [ixD_nat h]
    rfl
  · have : ixD xs.length ((n : Nat) : Int) = none := by
      unfold ixD
      rw [if_pos (Int.natCast_nonneg n), if_neg (by omega)]
    rw [this, List.getElem?_eq_none (by omega)]
    rfl
section
variable {α : Type} {r : List α} {p q s t u : α}
@[simp] theorem atD_0 : atD (p :: r) 0 = some p := atD_nat 0
@[simp] theorem atD_1 : atD (p :: q :: r) 1 = some q := atD_nat 1
@[simp] theorem atD_2 : atD (p :: q :: s :: r) 2 = some s := atD_nat 2
@[simp] theorem atD_3 : atD (p :: q :: s :: t :: r) 3 = some t := atD_nat 3
@[simp] theorem atD_4 : atD (p :: q :: s :: t :: u :: r) 4 = some u := atD_nat 4
@[simp] theorem atD_m : atD (r ++ [p]) (-1) = some p := by
  unfold atD
  rw [ixD_neg (by simp)]
  simp
end
@[simp] theorem isOp_n {x : D} : isOp x .none = some (.d (.bool (isN x))) := by cases x <;> rfl
@[simp] theorem isNotOp_n {x : D} : isNotOp x .none = some (.d (.bool (!isN x))) := by cases x <;> rfl
@[simp] theorem isOp_b : isOp (.bool k) (.bool l) = some (.d (.bool (k == l))) := nr rfl
@[simp] theorem isNotOp_b : isNotOp (.bool k) (.bool l) = some (.d (.bool (!(k == l)))) := nr rfl
@[simp] theorem sliceD_s {lo hi : Option Int} {z : Str} (h : decide (z.cps.size ≤ 1000) = true) : sliceD lo hi (.str z) = some (.d (.str (cutSt z lo hi))) := if_pos (decide_eq_true (Nat.le_trans (of_decide_eq_true h) (by decide)))
theorem isi_int_i : isiD "int" (.int i) = some (.d (.bool true)) := rfl
end
/-! loops -/
theorem forL_nil {g : Tg} {B : Sx} {S : Sl} : forL g B [] S = .nx S := rfl
theorem forL_cons {g : Tg} {B : Sx} {x : D} {xs : List D} {S : Sl} : forL g B (x :: xs) S = onU (g x S) fun S1 => (B S1).turn (forL g B xs) := rfl
/-- a loop that runs through, I at each turn (the items ahead, the slots) -/
theorem forL_inv {g : Tg} {B : Sx} (I : List D → Sl → Prop) (h : ∀ x xs S, I (x :: xs) S → ∃ S1 S2, g x S = some S1 ∧ B S1 = .nx S2 ∧ I xs S2) : ∀ xs S, I xs S → ∃ S', forL g B xs S = .nx S' ∧ I [] S'
  | [], S, i => ⟨S, rfl, i⟩
  | x :: xs, S, i => by
    obtain ⟨S1, S2, e1, e2, i2⟩ := h x xs S i
    obtain ⟨S', e, i'⟩ := forL_inv I h xs S2 i2
    refine ⟨S', ?_, i'⟩
    rw [forL_cons, e1]
    show (B S1).turn _ = _
    rw [e2]
    exact e
/-- a comprehension without a test -/
theorem lcL_inv {g : Tt} {e : Dx} {vs : List Nat} (I : List D → List D → Sl → Prop) (h : ∀ x xs acc S, I (x :: xs) acc S → acc.length < sizeLine ∧ ∃ S1 y S2, g.run x (wipeL vs S) = some S1 ∧ e S1 = .ok y S2 ∧ I xs (acc ++ [y]) S2) :
    ∀ xs acc S, I xs acc S → ∃ ys S', lcL g tYes e vs xs acc S = .ok ys S' ∧ I [] ys S'
  | [], acc, S, i => ⟨acc, S, rfl, i⟩
  | x :: xs, acc, S, i => by
    obtain ⟨hl, S1, y, S2, e1, e2, i2⟩ := h x xs acc S i
    obtain ⟨ys, S', e', i'⟩ := lcL_inv I h xs (acc ++ [y]) S2 i2
    refine ⟨ys, S', ?_, i'⟩
    rw [lcL, e1]
    rw [onO_some, tYes_ap, calm_ok, if_pos rfl, e2, calm_ok, if_pos hl]
    exact e'
end Fm

/-! FmL: plain lemmas on data that the laws share: rows of integers, ranges, pops, sorted, repr, equality. -/
namespace Fm
open PySem
abbrev iL (l : List Int) : List D := l.map PyData.int
def rgI (lo hi : Int) : List Int := (List.range (hi - lo).toNat).map fun k => lo + (k : Nat)
theorem rangeL_eq (lo hi : Int) : rangeL lo hi = (rgI lo hi).map PyData.int := by
  unfold rangeL rgI
  rw [List.map_map]
  rfl
theorem rgI_len (lo hi : Int) : (rgI lo hi).length = (hi - lo).toNat := by simp [rgI]
theorem rgI_mem {lo hi x : Int} (h : x ∈ rgI lo hi) : lo ≤ x ∧ x < hi := by
  unfold rgI at h
  simp only [List.mem_map, List.mem_range] at h
  obtain ⟨k, hk, rfl⟩ := h
  omega
theorem rgI_nodup (lo hi : Int) : (rgI lo hi).Nodup := by
  unfold rgI
  refine List.pairwise_map.mpr (List.Pairwise.imp ?_ List.nodup_range)
  intro a b h z
  omega
theorem range1_i {j : Int} (h : -4611686018427387904 ≤ j ∧ j < 4611686018427387904) : range1 [.int j] = some (rangeL 0 j) := by
  have : inR j = true := by
    unfold inR
    simp only [Bool.and_eq_true, decide_eq_true_eq]
    omega
  exact if_pos this
theorem range2_i {i j : Int} (h : -4611686018427387904 ≤ i ∧ i < 4611686018427387904) (h' : -4611686018427387904 ≤ j ∧ j < 4611686018427387904) : range2 [.int i, .int j] = some (rangeL i j) := by
  have : (inR i && inR j) = true := by
    unfold inR
    simp only [Bool.and_eq_true, decide_eq_true_eq]
    omega
  exact if_pos this
theorem lr1_rg {lo hi : Int} {S : Sl} (h : hi - lo ≤ 16777216) : lr1 (.ok (rangeL lo hi) S) = .ok (.fr (.lst ((rgI lo hi).map PyData.int))) S := by
  rw [lr1_ok, rangeL_eq]
  unfold range24
  rw [rangeL_eq, List.length_map, rgI_len]
  exact decide_eq_true (by omega)
theorem intsD_map : ∀ l : List Int, intsD (l.map PyData.int) = some l
  | [] => rfl
  | i :: r => by
    show (intsD (r.map PyData.int)).map _ = _
    rw [intsD_map r]
    rfl
theorem boolsD_map : ∀ l : List Bool, boolsD (l.map PyData.bool) = some l
  | [] => rfl
  | i :: r => by
    show (boolsD (r.map PyData.bool)).map _ = _
    rw [boolsD_map r]
    rfl
def sortI (is : List Int) : List Int := is.mergeSort (fun a b => decide (a ≤ b))
theorem sortI_perm (l : List Int) : (sortI l).Perm l := List.mergeSort_perm _ _
theorem sortI_sorted (l : List Int) : (sortI l).Pairwise (· ≤ ·) := by
  have := List.pairwise_mergeSort (le := fun a b : Int => decide (a ≤ b)) (fun a b c h1 h2 => by simp at h1 h2 ⊢; omega) (fun a b => by simp; omega) l
  exact this.imp fun h => of_decide_eq_true h
theorem ordOk_of {xs : List D} (h1 : ∀ x ∈ xs, ∀ y ∈ xs, PySem.W.alike x y = true) (h2 : ∀ x ∈ xs, x ≠ .none) (h3 : PyData.canLayAll0 xs = true) (h4 : PyData.depthAll xs ≤ 60) : ordOk xs = true := by
  unfold ordOk
  rw [Bool.and_eq_true, Bool.and_eq_true, Bool.and_eq_true]
  refine ⟨⟨⟨List.all_eq_true.mpr fun x hx => List.all_eq_true.mpr (h1 x hx), List.all_eq_true.mpr fun x hx => ?_⟩, h3⟩, decide_eq_true h4⟩
  have := h2 x hx
  cases x <;> first | rfl | exact absurd rfl this
theorem canLay_ints (l : List Int) : PyData.canLayAll0 (l.map PyData.int) = true := by
  induction l with
  | nil => rfl
  | cons i r ih => simp [PyData.canLayAll0, PyData.canLay0, ih]
theorem ordOk_ints (l : List Int) : ordOk (l.map PyData.int) = true := by
  refine ordOk_of (fun x hx y hy => ?_) (fun x hx => ?_) (canLay_ints l) (by rw [PySem.W.depth_ints]; omega)
  · obtain ⟨i, _, rfl⟩ := List.mem_map.mp hx
    obtain ⟨j, _, rfl⟩ := List.mem_map.mp hy
    rfl
  · obtain ⟨i, _, rfl⟩ := List.mem_map.mp hx
    exact fun z => nomatch z
theorem sortL_ints (l : List Int) : sortL (l.map PyData.int) = (sortI l).map PyData.int := by
  unfold sortL sortI
  refine (List.map_mergeSort fun a _ b _ => ?_).symm
  have := congrFun (congrFun (PySem.W.dataLe_int (fun i : Int => i)) a) b
  exact this.symm
theorem sortedD_i {l : List Int} (h : l.length ≤ 16777216) : sortedD (.list (l.map PyData.int)) = some (.fr (.lst ((sortI l).map PyData.int))) := by
  show (if sortOk _ = true then _ else _) = _
  rw [if_pos, sortL_ints]
  unfold sortOk fits
  rw [ordOk_ints, List.length_map, decide_eq_true (show l.length ≤ sizeLine from h), Bool.true_and, Bool.and_true, Bool.or_eq_true]
  refine .inr (List.all_eq_true.mpr fun x hx => ?_)
  obtain ⟨i, _, rfl⟩ := List.mem_map.mp hx
  rfl
theorem allD_map {l : List Bool} : allD (.list (l.map PyData.bool)) = some (.d (.bool (l.all id))) := by
  show (boolsD _).bind _ = _
  rw [boolsD_map]
  rfl
theorem anyD_map {l : List Bool} : anyD (.list (l.map PyData.bool)) = some (.d (.bool (l.any id))) := by
  show (boolsD _).bind _ = _
  rw [boolsD_map]
  rfl
theorem erase_map {α β : Type} (f : α → β) : ∀ (l : List α) (k : Nat), (l.map f).eraseIdx k = (l.eraseIdx k).map f
  | [], _ => rfl
  | _ :: _, 0 => rfl
  | x :: r, k + 1 => by
    show f x :: (r.map f).eraseIdx k = f x :: (r.eraseIdx k).map f
    rw [erase_map f r k]
theorem erase_perm {α : Type} : ∀ (l : List α) (k : Nat) (h : k < l.length), (l[k] :: l.eraseIdx k).Perm l
  | [], _, h => by simp at h
  | x :: r, 0, h => .refl _
  | x :: r, k + 1, h => by
    have ih := erase_perm r k (by simpa using h)
    show (r[k]'(by simpa using h) :: x :: r.eraseIdx k).Perm (x :: r)
    exact (List.Perm.swap ..).trans (.cons x ih)
theorem popAt_i {L : List Int} {v : Int} (h0 : 0 ≤ v) (h1 : v < L.length) (h2 : L.length < 9223372036854775808) : ∃ (k : Nat) (hk : k < L.length), popAtL (L.map PyData.int) [.int v] = some ((L.eraseIdx k).map PyData.int, .int L[k]) := by
  obtain ⟨k, rfl⟩ : ∃ k : Nat, v = k := ⟨v.toNat, by omega⟩
  have hk : k < L.length := by omega
  refine ⟨k, hk, ?_⟩
  have e1 : inIx (k : Int) = true := by
    unfold inIx
    simp only [Bool.and_eq_true, decide_eq_true_eq]
    omega
  unfold popAtL
  simp only [if_pos e1]
  rw [ixD_nat (by simpa using hk), Option.bind_some, List.getElem?_map, List.getElem?_eq_getElem hk]
  simp only [Option.map_some, erase_map]
theorem nodup_pop {A L : List Int} {k : Nat} (hk : k < L.length) (h : (A ++ L).Nodup) : ((A ++ [L[k]]) ++ L.eraseIdx k).Nodup ∧ ∀ x, x ∈ (A ++ [L[k]]) ++ L.eraseIdx k ↔ x ∈ A ++ L := by
  have p : ((A ++ [L[k]]) ++ L.eraseIdx k).Perm (A ++ L) := by
    rw [List.append_assoc]
    exact List.Perm.append_left A (erase_perm L k hk)
  exact ⟨p.nodup_iff.mpr h, fun x => p.mem_iff⟩
theorem appendL_ok {xs : List D} {y : D} (h : xs.length < sizeLine) : appendL xs [y] = some (xs ++ [y], .none) := if_pos h
/-- x in a row of integers -/
theorem inB_iL {x : Int} {l : List Int} : inB (.int x) (.tuple (l.map PyData.int)) = some (decide (x ∈ l)) := by
  have h : inOk (.int x) (l.map PyData.int) = true := by
    unfold inOk
    rw [Bool.or_eq_true]
    exact .inl (by simp [flat])
  show (if _ then _ else _) = _
  rw [if_pos h]
  congr 1
  rw [List.any_map]
  rw [Bool.eq_iff_iff]
  simp only [List.any_eq_true, Function.comp, PyData.eqv, beq_iff_eq, decide_eq_true_eq]
  constructor
  · rintro ⟨y, hy, rfl⟩
    exact hy
  · intro hx
    exact ⟨x, hx, rfl⟩
theorem inD_iL {x : Int} {l : List Int} : inD (.int x) (.tuple (l.map PyData.int)) = some (.d (.bool (decide (x ∈ l)))) := by
  unfold inD
  rw [inB_iL]
  rfl
theorem notInD_iL {x : Int} {l : List Int} : notInD (.int x) (.tuple (l.map PyData.int)) = some (.d (.bool (!decide (x ∈ l)))) := by
  unfold notInD
  rw [inB_iL]
  rfl
theorem cutL_take {α : Type} {xs : List α} {k : Nat} : cutL xs none (some (k : Int)) = xs.take k := by
  unfold cutL sIx
  simp only [List.drop_zero, Nat.sub_zero]
  rw [if_neg (by omega)]
  simp only [Int.toNat_natCast]
  rw [List.take_eq_take_iff]
  omega
theorem cutL_seg {α : Type} {xs : List α} {a b : Nat} (h : a ≤ xs.length) (hb : b ≤ xs.length) : cutL xs (some (a : Int)) (some (b : Int)) = (xs.drop a).take (b - a) := by
  have e : ∀ (c : Nat) (d : Nat), c ≤ xs.length → sIx xs.length d (some (c : Int)) = c := fun c d hc => by
    simp only [sIx]
    rw [if_neg (by omega), Int.toNat_natCast, Nat.min_eq_left hc]
  unfold cutL
  rw [e a _ h, e b _ hb]
end Fm

/-! FmM: loops and comprehensions in plain form, over typed lists. -/
namespace Fm
open PySem
section
variable {α β : Type} {enc : α → D} {g : Tg} {B : Sx} {S : Sl} {l : List α} {o : Out}
/-- one turn -/
def turn1 (g : Tg) (B : Sx) (x : D) (S : Sl) : Out := onU (g x S) B
theorem turn1_ap {x : D} : turn1 g B x S = onU (g x S) B := rfl
theorem forL_turn {x : D} {xs : List D} : forL g B (x :: xs) S = (turn1 g B x S).turn (forL g B xs) := by
  rw [forL_cons, turn1_ap]
  cases g x S <;> rfl
/-- a loop that runs through -/
theorem for_at (hE : forL g B (l.map enc) S = o) (I : List α → Sl → Prop) (step : ∀ a r S, I (a :: r) S → ∃ S2, (turn1 g B (enc a) S = .nx S2 ∨ turn1 g B (enc a) S = .ct S2) ∧ I r S2) (init : I l S) : ∃ S', o = .nx S' ∧ I [] S' := by
  subst hE
  induction l generalizing S with
  | nil => exact ⟨S, rfl, init⟩
  | cons a r ih =>
    obtain ⟨S2, e, i2⟩ := step a r S init
    obtain ⟨S', e', i'⟩ := ih i2
    refine ⟨S', ?_, i'⟩
    rw [List.map_cons, forL_turn]
    rcases e with e | e <;> rw [e] <;> exact e'
/-- the same, each item one of the list -/
theorem for_mem (hE : forL g B (l.map enc) S = o) (I : List α → Sl → Prop) (step : ∀ a r S, a ∈ l → I (a :: r) S → ∃ S2, (turn1 g B (enc a) S = .nx S2 ∨ turn1 g B (enc a) S = .ct S2) ∧ I r S2) (init : I l S) : ∃ S', o = .nx S' ∧ I [] S' := by
  obtain ⟨S', e, h, _⟩ := for_at hE (fun r S => I r S ∧ ∀ a ∈ r, a ∈ l) (fun a r S ⟨h, hm⟩ => by
    obtain ⟨S2, e, i⟩ := step a r S (hm a (by simp)) h
    exact ⟨S2, e, i, fun b hb => hm b (by simp [hb])⟩) ⟨init, fun _ h => h⟩
  exact ⟨S', e, h⟩
/-- by places -/
theorem for_idx (hE : forL g B (l.map enc) S = o) (I : Nat → Sl → Prop) (step : ∀ i (h : i < l.length) S, I i S → ∃ S2, (turn1 g B (enc l[i]) S = .nx S2 ∨ turn1 g B (enc l[i]) S = .ct S2) ∧ I (i + 1) S2) (init : I 0 S) : ∃ S', o = .nx S' ∧ I l.length S' := by
  obtain ⟨S', e, i, ⟨h1, h2⟩⟩ := for_at hE (fun r S => ∃ i, I i S ∧ r = l.drop i ∧ i + r.length = l.length) (fun a r S ⟨i, h, hr, hn⟩ => by
    simp only [List.length_cons] at hn
    have hi : i < l.length := by omega
    rw [List.drop_eq_getElem_cons hi, List.cons.injEq] at hr
    obtain ⟨S2, e, i2⟩ := step i hi S h
    exact ⟨S2, by rw [hr.1]; exact e, i + 1, i2, hr.2, by omega⟩) ⟨0, init, rfl, by simp⟩
  simp only [List.length_nil, Nat.add_zero] at h2
  exact ⟨S', e, by rw [← h2.2]; exact h1⟩
theorem for_range {n : Nat} (hE : forL g B (rangeL 0 n) S = o) (I : Nat → Sl → Prop) (step : ∀ i S, i < n → I i S → ∃ S2, (turn1 g B (.int (i : Nat)) S = .nx S2 ∨ turn1 g B (.int (i : Nat)) S = .ct S2) ∧ I (i + 1) S2) (init : I 0 S) : ∃ S', o = .nx S' ∧ I n S' := by
  have e : rangeL 0 n = (List.range n).map fun i : Nat => .int (i : Int) := by
    unfold rangeL
    simp
  rw [e] at hE
  have := for_idx hE I (fun i h S hi => by
    simp only [List.length_range] at h
    simp only [List.getElem_range]
    exact step i S h hi) init
  simpa using this
/-- a loop that runs through, or returns -/
theorem for_or (hE : forL g B (l.map enc) S = o) (I : List α → Sl → Prop) (J : Out → Prop) (step : ∀ a r S, I (a :: r) S → (∃ S2, (turn1 g B (enc a) S = .nx S2 ∨ turn1 g B (enc a) S = .ct S2) ∧ I r S2) ∨ ((∀ f, (turn1 g B (enc a) S).turn f = turn1 g B (enc a) S) ∧ J (turn1 g B (enc a) S))) (init : I l S) : (∃ S', o = .nx S' ∧ I [] S') ∨ J o := by
  subst hE
  induction l generalizing S with
  | nil => exact .inl ⟨S, rfl, init⟩
  | cons a r ih =>
    rw [List.map_cons, forL_turn]
    rcases step a r S init with ⟨S2, e, i2⟩ | ⟨h1, h2⟩
    · rcases e with e | e <;> rw [e] <;> exact ih i2
    · rw [h1]
      exact .inr h2
/-- a while, k turns at most -/
theorem while_at {t : Tx} {n : Nat} (hE : whileL t B n S = o) (I : Nat → Sl → Prop) (J : Sl → Prop) (step : ∀ k S, I k S → (∃ S1, t S = .ok false S1 ∧ J S1) ∨ ∃ S1, t S = .ok true S1 ∧ ∃ S2, (B S1 = .nx S2 ∨ B S1 = .ct S2) ∧ ∃ k', k' < k ∧ I k' S2) {k : Nat} (init : I k S) (hk : k < n) : ∃ S', o = .nx S' ∧ J S' := by
  subst hE
  induction n generalizing k S with
  | zero => omega
  | succ n ih =>
    rw [whileL]
    rcases step k S init with ⟨S1, e, j⟩ | ⟨S1, e, S2, b, k', hk', i2⟩
    · rw [e]
      exact ⟨S1, rfl, j⟩
    · rw [e]
      rcases b with b | b
      · rw [out_ok, if_pos rfl, b]
        exact ih i2 (by omega)
      · rw [out_ok, if_pos rfl, b]
        exact ih i2 (by omega)
end
/-! comprehensions -/
section
variable {α β : Type} {enc : α → D} {g : Tt} {t : Tx} {e : Dx} {vs : List Nat} {S : Sl} {l : List α} {r : Res (List D)}
def lcT (g : Tt) (t : Tx) (e : Dx) (vs : List Nat) (x : D) (acc : List D) (S : Sl) : Res (List D) := onO (g.run x (wipeL vs S)) fun S1 => (t S1).calm fun c S2 => if c = true then
      (e S2).calm fun y S3 => if acc.length < sizeLine then .ok (acc ++ [y]) S3 else .bad
    else .ok acc S2
theorem lcL_cons {x : D} {xs acc : List D} : lcL g t e vs (x :: xs) acc S = (lcT g t e vs x acc S).bind fun acc S => lcL g t e vs xs acc S := by
  rw [lcL]
  unfold lcT
  cases g.run x (wipeL vs S) with
  | none => rfl
  | some S1 =>
    simp only [onO_some]
    cases t S1 with
    | bad => rfl
    | exc x S => rfl
    | ok c S2 =>
      simp only [calm_ok]
      cases c with
      | false => rfl
      | true =>
        simp only [if_pos]
        cases e S2 with
        | bad => rfl
        | exc x S => rfl
        | ok y S3 =>
          simp only [calm_ok]
          by_cases h : acc.length < sizeLine
          · simp only [if_pos h, bind_ok]
          · simp only [if_neg h, bind_bad]
/-- a turn of a comprehension without a test -/
theorem lcT_yes {x y : D} {acc : List D} {S1 S2 : Sl} (h1 : g.run x (wipeL vs S) = some S1) (h2 : e S1 = .ok y S2) (h3 : acc.length < sizeLine) : lcT g tYes e vs x acc S = .ok (acc ++ [y]) S2 := by
  unfold lcT
  rw [h1]
  simp only [onO_some, tYes_ap, calm_ok, h2, if_pos h3, if_pos]
theorem lc_at (hE : lcL g t e vs (l.map enc) acc S = r) (I : List α → List D → Sl → Prop) (step : ∀ a q acc S, I (a :: q) acc S → ∃ acc2 S2, lcT g t e vs (enc a) acc S = .ok acc2 S2 ∧ I q acc2 S2) (init : I l acc S) : ∃ ys S', r = .ok ys S' ∧ I [] ys S' := by
  subst hE
  induction l generalizing acc S with
  | nil => exact ⟨acc, S, rfl, init⟩
  | cons a q ih =>
    obtain ⟨acc2, S2, e1, i2⟩ := step a q acc S init
    obtain ⟨ys, S', e', i'⟩ := ih i2
    refine ⟨ys, S', ?_, i'⟩
    rw [List.map_cons, lcL_cons, e1]
    exact e'
end
section
variable {α : Type} {g : Tt} {t : Tx} {e : Dx} {vs : List Nat} {S : Sl} {x y : D} {acc : List D}
def lcA (e : Dx) : Option Sl → Res D
  | some S => e S
  | none => .bad
def lcB (acc : List D) : Res D → Res (List D) := fun r => r.calm fun y S3 => if acc.length < sizeLine then .ok (acc ++ [y]) S3 else .bad
theorem lcA_some : lcA e (some S) = e S := nr rfl
theorem lcB_ok (h : acc.length < sizeLine) : lcB acc (.ok y S) = .ok (acc ++ [y]) S := if_pos h
theorem lcT_y : lcT g tYes e vs x acc S = lcB acc (lcA e (g.run x (wipeL vs S))) := by
  unfold lcT lcB lcA
  cases g.run x (wipeL vs S) <;> rfl
def lcC (t : Tx) (e : Dx) (acc : List D) : Option Sl → Res (List D)
  | some S1 => (t S1).calm fun c S2 => if c = true then lcB acc (e S2) else .ok acc S2
  | none => .bad
def lcD (e : Dx) (acc : List D) : Res Bool → Res (List D) := fun r => r.calm fun c S2 => if c = true then lcB acc (e S2) else .ok acc S2
theorem lcT_t : lcT g t e vs x acc S = lcC t e acc (g.run x (wipeL vs S)) := by
  unfold lcT lcC lcB
  cases g.run x (wipeL vs S) <;> rfl
theorem lcC_some : lcC t e acc (some S) = lcD e acc (t S) := nr rfl
theorem lcD_t : lcD e acc (.ok true S) = lcB acc (e S) := nr rfl
theorem lcD_f : lcD e acc (.ok false S) = .ok acc S := nr rfl
theorem run_nm {i : Nat} : (Tt.nm i).run x S = some (S.set i (some (.d x))) := nr rfl
theorem run_tp {is : List Nat} {xs : List D} : (Tt.tp is).run (.tuple xs) S = setD is xs S := nr rfl
theorem setD_nil : setD [] [] S = some S := nr rfl
theorem setD_cons {i : Nat} {is : List Nat} {xs : List D} : setD (i :: is) (x :: xs) S = setD is xs (S.set i (some (.d x))) := nr rfl
theorem wipe_nil : wipeL [] S = S := nr rfl
theorem wipe_cons {i : Nat} {is : List Nat} : wipeL (i :: is) S = (wipeL is S).set i none := nr rfl
theorem back_nil {S0 : Sl} : backL S0 [] S = S := nr rfl
theorem back_cons {S0 : Sl} {i : Nat} {is : List Nat} : backL S0 (i :: is) S = (backL S0 is S).set i (at? S0 i) := by
  show (backL S0 is S).set i ((S0[i]?).getD none) = _
  unfold at?
  cases S0[i]? <;> rfl
end
theorem lcL_nil {g : Tt} {t : Tx} {e : Dx} {vs : List Nat} {acc : List D} {S : Sl} : lcL g t e vs [] acc S = .ok acc S := nr rfl
theorem rep1 {x : D} {n : Nat} : (List.replicate n [x]).flatten = List.replicate n x := by
  induction n with
  | zero => rfl
  | succ n ih => rw [List.replicate_succ, List.flatten_cons, ih]; rfl
theorem mulD_rep {x : D} {n : Nat} (h : n ≤ 1000) : mulD (.list [x]) (.int (n : Nat)) = some (.fr (.lst (List.replicate n x))) := by
  have h1 : (inIx (n : Int) && fits ([x].length * (n : Int).toNat)) = true := by
    unfold inIx fits
    rw [sz]
    simp only [Bool.and_eq_true, decide_eq_true_eq, List.length_cons, List.length_nil]
    omega
  unfold mulD
  simp only [h1, if_true]
  rw [Int.toNat_natCast, rep1]
theorem mulD_3 {x : D} : mulD (.list [x]) (.int 3) = some (.fr (.lst [x, x, x])) := mulD_rep (n := 3) (by decide)
theorem mulD_2 {x : D} : mulD (.list [x]) (.int 2) = some (.fr (.lst [x, x])) := mulD_rep (n := 2) (by decide)
theorem nod2b {i j : Nat} : nodup [i, j] = !(i == j) := by
  show (!(match i == j with | true => true | false => false) && true) = _
  cases i == j <;> rfl
theorem nod3b {i j k : Nat} : nodup [i, j, k] = (!(i == j) && !(i == k) && !(j == k)) := by
  show (!(match i == j with | true => true | false => match i == k with | true => true | false => false) && (!(match j == k with | true => true | false => false) && true)) = _
  cases i == j <;> cases i == k <;> cases j == k <;> rfl
def lcK (g : Tt) (t : Tx) (e : Dx) (vs : List Nat) (xs : List D) : Res (List D) → Res (List D) := fun r => r.bind fun acc S => lcL g t e vs xs acc S
theorem lcL_k {g : Tt} {t : Tx} {e : Dx} {vs : List Nat} {x : D} {xs acc : List D} {S : Sl} : lcL g t e vs (x :: xs) acc S = lcK g t e vs xs (lcT g t e vs x acc S) := lcL_cons
theorem lcK_ok {g : Tt} {t : Tx} {e : Dx} {vs : List Nat} {xs acc : List D} {S : Sl} : lcK g t e vs xs (.ok acc S) = lcL g t e vs xs acc S := nr rfl
theorem lcB_lit {acc : List D} {y : D} {S : Sl} (h : decide (acc.length < 1000) = true) : lcB acc (.ok y S) = .ok (acc ++ [y]) S := if_pos (Nat.lt_trans (of_decide_eq_true h) (by decide))
def eM1 (T : String) (f : D → D → Option RV) (b : Ex) : Res RV → Res RV := fun r => r.bind fun x S1 => onO (view S1 x) fun dx => if tyName dx = T then (b S1).bind fun y S2 => give S2 ((view S2 x).bind fun dx => (view S2 y).bind fun dy => f dx dy) else .bad
theorem eM_ap {T : String} {f : D → D → Option RV} {a b : Ex} {S : Sl} : eM T f a b S = eM1 T f b (a S) := nr rfl
theorem eM1_ok {T : String} {f : D → D → Option RV} {b : Ex} {x : RV} {dx : D} {S : Sl} (h1 : view S x = some dx) (h2 : tyName dx = T) : eM1 T f b (.ok x S) = op2 f x (b S) := by
  unfold eM1 op2
  simp only [bind_ok, h1, onO_some, if_pos h2]
  cases b S with
  | ok y S2 => simp only [bind_ok, opv_eq]
  | _ => rfl
theorem eM1_d {T : String} {f : D → D → Option RV} {b : Ex} {dx : D} {S : Sl} (h2 : (tyName dx == T) = true) : eM1 T f b (.ok (.d dx) S) = op2 f (.d dx) (b S) := eM1_ok rfl (beq_iff_eq.mp h2)
theorem eM1_br {f : D → D → Option RV} {b : Ex} {i : Nat} {xs : List D} {S : Sl} (h : at? S i = some (.live (.lst xs))) : eM1 "list" f b (.ok (.br i) S) = op2 f (.br i) (b S) := eM1_ok (dx := .list xs) (by rw [view_br_ap, h]; rfl) rfl
theorem eM1_s {f : D → D → Option RV} {b : Ex} {s : Str} {S : Sl} : eM1 "str" f b (.ok (.d (.str s)) S) = op2 f (.d (.str s)) (b S) := eM1_ok rfl rfl
theorem eM1_l {f : D → D → Option RV} {b : Ex} {s : List D} {S : Sl} : eM1 "list" f b (.ok (.d (.list s)) S) = op2 f (.d (.list s)) (b S) := eM1_ok rfl rfl
def eMb (f : D → D → Option RV) (b : Ex) (i : Nat) (S : Sl) : Option SV → Res RV
  | some (.live (.lst _)) => op2 f (.br i) (b S)
  | _ => eM1 "list" f b (.ok (.br i) S)
theorem eM1_b {f : D → D → Option RV} {b : Ex} {i : Nat} {S : Sl} : eM1 "list" f b (.ok (.br i) S) = eMb f b i S (at? S i) := by
  unfold eMb
  split
  · rename_i e
    exact eM1_br e
  · rfl
theorem eMb_l {f : D → D → Option RV} {b : Ex} {i : Nat} {xs : List D} {S : Sl} : eMb f b i S (some (.live (.lst xs))) = op2 f (.br i) (b S) := nr rfl
theorem ty_str {s : Str} : (tyName (.str s) == "str") = true := rfl
def co21 (g : Tt) (t : Tx) (w1 : Wx) (g1 : Tt) (t1 : Tx) (e : Dx) (vs vs1 : List Nat) : Res (List D) → Res RV := fun r => r.bind fun xs S1 =>
  if vs.all (isD S1) then (lcL2 g t w1 g1 t1 e vs vs1 xs [] S1).bind fun ys S2 => .ok (.fr (.lst ys)) (backL S1 vs S2) else .bad
theorem eLc2_ap {w : Wx} {g : Tt} {t : Tx} {w1 : Wx} {g1 : Tt} {t1 : Tx} {e : Dx} {vs vs1 : List Nat} {S : Sl} : eLc2 w g t w1 g1 t1 e vs vs1 S = co21 g t w1 g1 t1 e vs vs1 (w S) := nr rfl
theorem co21_ok {g : Tt} {t : Tx} {w1 : Wx} {g1 : Tt} {t1 : Tx} {e : Dx} {vs vs1 : List Nat} {xs : List D} {S : Sl} (h : vs.all (isD S) = true) : co21 g t w1 g1 t1 e vs vs1 (.ok xs S) = co2 S vs (lcL2 g t w1 g1 t1 e vs vs1 xs [] S) := if_pos h
def isDv : Option SV → Bool
  | some (.live _) => false
  | _ => true
theorem isD_ap {i : Nat} {S : Sl} : isD S i = isDv (at? S i) := by
  unfold isD isDv
  rfl
theorem isDv_d {x : D} : isDv (some (.d x)) = true := nr rfl
theorem isDv_n : isDv none = true := nr rfl
theorem isDv_m {x : Option D} : isDv (x.map SV.d) = true := by cases x <;> rfl
theorem all_nil {α : Type} {f : α → Bool} : [].all f = true := nr rfl
theorem all_cons {α : Type} {f : α → Bool} {x : α} {xs : List α} : (x :: xs).all f = (f x && xs.all f) := nr rfl
abbrev ins2 (S : Sl) (i j : Nat) (x y : D) : Sl := (S.set i (some (.d x))).set j (some (.d y))
/-! the step tactic -/
/-! dicts -/
section
variable {S : Sl} {k f : Dx} {x : RV} {y z : D} {ds : List (D × D)}
theorem eDct0_ap : eDct0 S = .ok (.fr (.dct [])) S := nr rfl
def gt1 (k f : Dx) : Res RV → Res RV := fun r => r.bind fun x S1 => onO ((view S1 x).bind asDct) fun _ => (k S1).bind fun y S2 => (f S2).bind fun z S3 => give S3 ((view S3 x).bind fun dx => getK dx y z)
def gt2 (x : RV) (k f : Dx) (S1 : Sl) : Option D → Res RV := fun o => onO (o.bind asDct) fun _ => (k S1).bind fun y S2 => (f S2).bind fun z S3 => give S3 ((view S3 x).bind fun dx => getK dx y z)
def gt3 (x : RV) (f : Dx) : Res D → Res RV := fun r => r.bind fun y S2 => (f S2).bind fun z S3 => give S3 ((view S3 x).bind fun dx => getK dx y z)
def gt4 (x : RV) (y : D) : Res D → Res RV := fun r => r.bind fun z S3 => give S3 ((view S3 x).bind fun dx => getK dx y z)
def gt5 (S3 : Sl) (y z : D) : Option D → Res RV := fun o => give S3 (o.bind fun dx => getK dx y z)
theorem eGet2_ap {o : Ex} : eGet2 o k f S = gt1 k f (o S) := nr rfl
theorem gt1_ok : gt1 k f (.ok x S) = gt2 x k f S (view S x) := nr rfl
theorem gt3_ok : gt3 x f (.ok y S) = gt4 x y (f S) := nr rfl
theorem gt4_ok : gt4 x y (.ok z S) = gt5 S y z (view S x) := nr rfl
def gn1 (k : Dx) : Res RV → Res RV := fun r => r.bind fun x S1 => onO ((view S1 x).bind asDct) fun _ => (k S1).bind fun y S2 => give S2 ((view S2 x).bind fun dx => getK dx y .none)
def gn2 (x : RV) (k : Dx) (S1 : Sl) : Option D → Res RV := fun o => onO (o.bind asDct) fun _ => (k S1).bind fun y S2 => give S2 ((view S2 x).bind fun dx => getK dx y .none)
def gn3 (x : RV) : Res D → Res RV := fun r => r.bind fun y S2 => give S2 ((view S2 x).bind fun dx => getK dx y .none)
theorem eGet1_ap {o : Ex} : eGet1 o k S = gn1 k (o S) := nr rfl
theorem gn1_ok : gn1 k (.ok x S) = gn2 x k S (view S x) := nr rfl
theorem gn3_ok : gn3 x (.ok y S) = gt5 S y .none (view S x) := nr rfl
def hT1 (k f : Dx) : Res RV → Res RV := fun r => r.bind fun x S1 => onO (tdOf S1 x) fun _ => (k S1).bind fun y S2 => (f S2).bind fun z S3 => give S3 ((tdOf S3 x).bind fun ds => getT ds y z)
def hT2 (x : RV) (k f : Dx) (S1 : Sl) : Option SV → Res RV
  | some (.live (.dtt _)) => (k S1).bind fun y S2 => (f S2).bind fun z S3 => give S3 ((tdOf S3 x).bind fun ds => getT ds y z)
  | _ => .bad
def hT3 (x : RV) (f : Dx) : Res D → Res RV := fun r => r.bind fun y S2 => (f S2).bind fun z S3 => give S3 ((tdOf S3 x).bind fun ds => getT ds y z)
def hT4 (x : RV) (y : D) : Res D → Res RV := fun r => r.bind fun z S3 => give S3 ((tdOf S3 x).bind fun ds => getT ds y z)
def hT5 (S3 : Sl) (y z : D) : Option SV → Res RV
  | some (.live (.dtt ds)) => give S3 (getT ds y z)
  | _ => .bad
theorem eDctT_ap : eDctT S = .ok (.fr (.dtt [])) S := nr rfl
theorem eGetT_ap {o : Ex} : eGetT o k f S = hT1 k f (o S) := nr rfl
theorem hT1_ok {i : Nat} : hT1 k f (.ok (.br i) S) = hT2 (.br i) k f S (at? S i) := by
  unfold hT1 hT2
  rw [bind_ok]
  show onO (match at? S i with | some (.live (.dtt ds)) => some ds | _ => none) _ = _
  cases at? S i with
  | none => rfl
  | some v =>
    cases v with
    | d x => rfl
    | live o => cases o <;> rfl
theorem hT2_t {ts : List (List Ky × D)} : hT2 x k f S (some (.live (.dtt ts))) = hT3 x f (k S) := nr rfl
theorem hT3_ok : hT3 x f (.ok y S) = hT4 x y (f S) := nr rfl
theorem hT4_ok {i : Nat} : hT4 (.br i) y (.ok z S) = hT5 S y z (at? S i) := by
  unfold hT4 hT5
  rw [bind_ok]
  show give S ((match at? S i with | some (.live (.dtt ds)) => some ds | _ => none : Option (List (List Ky × D))).bind _) = _
  cases at? S i with
  | none => rfl
  | some v =>
    cases v with
    | d x => rfl
    | live o => cases o <;> rfl
theorem numsD_map {is : List Int} : numsD (is.map PyData.int) = some is := by
  induction is with
  | nil => rfl
  | cons a r ih =>
    show (numsD (r.map PyData.int)).map _ = _
    rw [ih]
    rfl
theorem keyT_map {is : List Int} : keyT (.tuple (is.map PyData.int)) = some (is.map Sum.inl) := by
  have e : ∀ xs : List D, (∀ a b, xs ≠ [.str a, .str b]) → keyL xs = (numsD xs).map fun is => is.map Sum.inl := fun xs h => by
    unfold keyL
    split
    · exact absurd rfl (h _ _)
    · rfl
  show keyL (is.map PyData.int) = _
  rw [e _ (fun a b z => by
    match is, z with
    | [], z => cases z
    | _ :: _, z => injection z with z _; cases z), numsD_map]
  rfl
theorem keyT_ss {a b : Str} : keyT (.tuple [.str a, .str b]) = some [.inr a, .inr b] := rfl
theorem hT5_s {ts : List (List Ky × D)} {a b : Str} : hT5 S (.tuple [.str a, .str b]) z (some (.live (.dtt ts))) = .ok (.d ((tGet ts [.inr a, .inr b]).getD z)) S := rfl
theorem sa1_s {ts : List (List Ky × D)} {a b : Str} {j : Nat} (h : decide (ts.length < 1000) = true) : sa1 S j (.tuple [.str a, .str b]) y (some (.live (.dtt ts))) = some (S.set j (some (.live (.dtt (tPut ts [.inr a, .inr b] y))))) := by
  show Option.map _ (if ts.length < sizeLine then some (Ob.dtt (tPut ts [.inr a, .inr b] y)) else none) = _
  rw [if_pos (Nat.lt_of_lt_of_le (of_decide_eq_true h) (by decide))]
  rfl
theorem hT5_t {ts : List (List Ky × D)} {is : List Int} : hT5 S (.tuple (is.map PyData.int)) z (some (.live (.dtt ts))) = .ok (.d ((tGet ts (is.map Sum.inl)).getD z)) S := by
  show give S ((keyT (.tuple (is.map PyData.int))).map _) = _
  rw [keyT_map]
  rfl
theorem sa1_t {ts : List (List Ky × D)} {is : List Int} {j : Nat} (h : decide (ts.length < 1000) = true) : sa1 S j (.tuple (is.map PyData.int)) y (some (.live (.dtt ts))) = some (S.set j (some (.live (.dtt (tPut ts (is.map Sum.inl) y))))) := by
  show Option.map _ (match keyT (.tuple (is.map PyData.int)) with | some q => if ts.length < sizeLine then some (Ob.dtt (tPut ts q y)) else none | none => none) = _
  rw [keyT_map]
  show Option.map _ (if ts.length < sizeLine then some (Ob.dtt (tPut ts (is.map Sum.inl) y)) else none) = _
  rw [if_pos (Nat.lt_of_lt_of_le (of_decide_eq_true h) (by decide))]
  rfl
def wv1 : Res D → Res (List D) := fun r => r.bind fun x S1 => onO (asDct x) fun ds => .ok (ds.map (·.2)) S1
def wt1 : Res D → Res (List D) := fun r => r.bind fun x S1 => onO (asDct x) fun ds => .ok (ds.map fun p => .tuple [p.1, p.2]) S1
theorem wVals_ap : wVals k S = wv1 (k S) := nr rfl
theorem wItems_ap : wItems k S = wt1 (k S) := nr rfl
def cd1 (g : Tt) (t : Tx) (k ev : Dx) (vs : List Nat) : Res (List D) → Res RV := fun r => r.bind fun xs S1 => if vs.all (isD S1) then (dcL g t k ev vs xs [] S1).bind fun ys S2 => .ok (.fr (.dct ys)) (backL S1 vs S2) else .bad
def cd2 (S1 : Sl) (vs : List Nat) : Res (List (D × D)) → Res RV := fun r => r.bind fun ys S2 => .ok (.fr (.dct ys)) (backL S1 vs S2)
def cd21 (g : Tt) (t : Tx) (w1 : Wx) (g1 : Tt) (t1 : Tx) (k ev : Dx) (vs vs1 : List Nat) : Res (List D) → Res RV := fun r => r.bind fun xs S1 => if vs.all (isD S1) then (dcL2 g t w1 g1 t1 k ev vs vs1 xs [] S1).bind fun ys S2 => .ok (.fr (.dct ys)) (backL S1 vs S2) else .bad
theorem eDc2_ap {w w1 : Wx} {g g1 : Tt} {t t1 : Tx} {ev : Dx} {vs vs1 : List Nat} : eDc2 w g t w1 g1 t1 k ev vs vs1 S = cd21 g t w1 g1 t1 k ev vs vs1 (w S) := nr rfl
theorem cd21_ok {g g1 : Tt} {t t1 : Tx} {w1 : Wx} {ev : Dx} {vs vs1 : List Nat} {xs : List D} (h : vs.all (isD S) = true) : cd21 g t w1 g1 t1 k ev vs vs1 (.ok xs S) = cd2 S vs (dcL2 g t w1 g1 t1 k ev vs vs1 xs [] S) := if_pos h
theorem eDc_ap {w : Wx} {g : Tt} {t : Tx} {ev : Dx} {vs : List Nat} : eDc w g t k ev vs S = cd1 g t k ev vs (w S) := nr rfl
theorem cd1_ok {g : Tt} {t : Tx} {ev : Dx} {vs : List Nat} {xs : List D} (h : vs.all (isD S) = true) : cd1 g t k ev vs (.ok xs S) = cd2 S vs (dcL g t k ev vs xs [] S) := if_pos h
theorem cd2_ok {S1 : Sl} {vs : List Nat} : cd2 S1 vs (.ok ds S) = .ok (.fr (.dct ds)) (backL S1 vs S) := nr rfl
end
section
variable {S : Sl} {a : Lx} {xs ys : List D}
def wz1 : Res (List D) → Res (List D) := fun r => r.bind fun vs S1 => onO (zip2 vs) fun xs => .ok xs S1
theorem wZip_ap : wZip a S = wz1 (a S) := nr rfl
theorem wz1_l : wz1 (.ok [.list xs, .list ys] S) = .ok (zipL xs ys) S := nr rfl
theorem wz1_t : wz1 (.ok [.tuple xs, .tuple ys] S) = .ok (zipL xs ys) S := nr rfl
end
end Fm
local macro_rules | `(tactic| simp_arith [$hs,*]) => `(tactic| simp only [Fm.dat_lst, Fm.fzo_some, Fm.fzs_some, Fm.sv_d, Fm.sv_live, Fm.view_d, Fm.view_fr, Fm.next_nx, Fm.next_rt, Fm.next_bk, Fm.next_ct, Fm.next_exc, Fm.turn_nx, Fm.turn_ct, Fm.turn_bk, Fm.turn_rt, Fm.turn_exc, Fm.onU_some, Fm.give_some, Fm.onO_some, Fm.ofO_some, Fm.rv_d, Fm.rv_live, Fm.calm_ok, Fm.bind_ok, Fm.obind, Fm.omap, Fm.set0, Fm.setS, Fm.take0, Fm.takeS, Fm.takeN, Fm.len0, Fm.lenS, Fm.app0, Fm.appS, Fm.brs0, Fm.brsB, Fm.brsD, Fm.brsF, Fm.nod0, Fm.nod1, Fm.at_zero, Fm.at_succ, Fm.rdV_d, Fm.rdV_l, Fm.eC_ap, Fm.eVar_ap, Fm.opv_some, Fm.eOp_ap, Fm.op1_ok, Fm.op2_ok, Fm.op1_exc, Fm.op2_exc, Fm.view_br_ap, Fm.eUn_ap, Fm.un1_ok, Fm.un1_exc, Fm.eFn_ap, Fm.fn1_ok, Fm.fn1_exc, Fm.views_nil, Fm.vcons_some, Fm.views_cons, Fm.on1_one, Fm.aNil_ap, Fm.aCons_ap, Fm.ac1_ok, Fm.ac2_ok, Fm.ac1_exc, Fm.ac2_exc, Fm.eIf_ap, Fm.if1_t, Fm.if1_f, Fm.if1_exc, Fm.eFrz_ap, Fm.fz1_d, Fm.fz1_fr, Fm.fzb_some, Fm.fz1_br, Fm.fz1_exc, Fm.lNil_ap, Fm.lCons_ap, Fm.lc1_ok, Fm.lc2_ok, Fm.lc1_exc, Fm.lc2_exc, Fm.eTup_ap, Fm.tp1_lit, Fm.eLst_ap, Fm.ls1_lit, Fm.tTru_ap, Fm.tro_some, Fm.tt1_ok, Fm.tt1_exc, Fm.tBl_ap, Fm.tb1_ok, Fm.tb1_exc, Fm.tAnd_ap, Fm.ta1_t, Fm.ta1_f, Fm.ta1_exc, Fm.tOr_ap, Fm.to1_t, Fm.to1_f, Fm.to1_exc, Fm.tNot_ap, Fm.tn1_ok, Fm.tn1_exc, Fm.tYes_ap, Fm.eAnd_ap, Fm.eOr_ap, Fm.eNot_ap, Fm.ea1_t, Fm.ea1_f, Fm.eo1_t, Fm.eo1_f, Fm.en1_b, Fm.eChain_ap, Fm.ch1_ok, Fm.ch2_ok, Fm.ch3_t, Fm.ch3_f, Fm.sNext_ap, Fm.sSeq_ap, Fm.sExpr_ap, Fm.ex1_ok, Fm.ex1_exc, Fm.sRet_ap, Fm.rt1_ok, Fm.rt1_exc, Fm.sIf_ap, Fm.sf1_t, Fm.sf1_f, Fm.sf1_exc, Fm.sBad_ap, Fm.sSet_ap, Fm.st1_d, Fm.st1_fr, Fm.st1_exc, Fm.sPar_ap, Fm.pr1_ok, Fm.putAll_nil, Fm.putAll_d, Fm.putAll_fr, Fm.sAsg_ap, Fm.as1_ok, Fm.gName_ap, Fm.gTup_ap, Fm.gAll_nil, Fm.gAll_cons, Fm.ga1_some, Fm.gSub_ap, Fm.gs1_ok, Fm.gs2_ok, Fm.setAt_ap, Fm.sa1_ok, Fm.sa2_some, Fm.sFor_ap, Fm.fr1_ok, Fm.wi_some, Fm.wSeq_ap, Fm.ws1_ok, Fm.items_l, Fm.items_t, Fm.items_s, Fm.seqs_l, Fm.seqs_t, Fm.wRange_ap, Fm.wr1_ok, Fm.wEnum_ap, Fm.we1_ok, Fm.eListRange_ap, Fm.eTupRange_ap, Fm.eSlice_ap, Fm.sl1_ok, Fm.sl2_ok, Fm.sl3_ok, Fm.pNone_ap, Fm.pSome_ap, Fm.ps1_i, Fm.eMut_ap, Fm.em1_ok, Fm.em2_ok, Fm.mu1_ok, Fm.mu2_some, Fm.eLc_ap, Fm.co1_ok, Fm.co2_ok, Fm.eCall_ap, Fm.cl1_ok, Fm.cl2_some, Fm.res_bad, Fm.res_ok, Fm.tb2_some, Fm.hc1_some, Fm.hand_nil, Fm.hand_d, Fm.hand_fr, Fm.hc2_some, Fm.hand_br, Fm.takeBack_nil, Fm.takeBack_d, Fm.takeBack_fr, Fm.tbk_some, Fm.takeBack_br, Fm.eCallK_ap, Fm.ck1_ok, Fm.ck2_ok, Fm.plain_ok, Fm.plain_exc, Fm.ends_nx, Fm.ends_d, Fm.ends_fr, Fm.ends_exc, Fm.eb1_some, Fm.ends_br, Fm.addD_i, Fm.subD_i, Fm.negD_i, Fm.eqD_i, Fm.eqD_s, Fm.eqD_b, Fm.neD_i, Fm.neD_s, Fm.neD_b, Fm.ltD_i, Fm.leD_i, Fm.gtD_i, Fm.geD_i, Fm.lenD_l, Fm.lenD_t, Fm.absD_i, Fm.max2D_i, Fm.min2D_i, Fm.tupleD_l, Fm.tupleD_t, Fm.listD_l, Fm.listD_t, Fm.revD_l, Fm.sliceD_l, Fm.sliceD_t, Fm.truth_b, Fm.truth_n, Fm.truth_i, Fm.truth_l, Fm.truth_t, Fm.mapD_some, Fm.ixOp_l, Fm.ixOp_t, Fm.ixD_0, Fm.ixD_1, Fm.ixD_2, Fm.ixD_m, Fm.atD_0, Fm.atD_1, Fm.atD_2, Fm.atD_3, Fm.atD_4, Fm.atD_m, Fm.modD_i, Fm.fdivD_i, Fm.divmodD_i, Fm.mulD_l, Fm.mulD_r, Int.reduceLT, Int.reduceLE, Int.reduceNeg, Int.reduceAdd, Int.reduceSub, Int.reduceMul, Nat.reduceAdd, Nat.reduceLT, Nat.reduceLeDiff, Nat.reduceSub, and_self, and_true, decide_true, decide_false, Bool.not_true, Bool.not_false, Bool.and_true, Bool.true_and, Bool.or_true, Bool.true_or, Bool.or_false, Bool.false_or, Bool.and_self, Fm.turn1_ap, Fm.lcT_y, Fm.lcA_some, Fm.lcB_ok, Fm.run_nm, Fm.run_tp, Fm.setD_nil, Fm.setD_cons, Fm.wipe_nil, Fm.wipe_cons, Fm.back_nil, Fm.back_cons, Fm.isD_ap, Fm.isDv_d, Fm.isDv_n, Fm.isDv_m, Fm.all_nil, Fm.all_cons, Fm.lcL_k, Fm.lcK_ok, Fm.lcB_lit, Fm.lcC_some, Fm.lcD_t, Fm.lcD_f, Fm.lcL_nil, Fm.forL_turn, Fm.forL_nil, Fm.mulD_2, Fm.mulD_3, Fm.ins2, Fm.nod2b, Fm.nod3b, Nat.reduceBEq, Fm.eM_ap, Fm.eM1_s, Fm.eM1_l, Fm.eM1_b, Fm.eMb_l, Fm.eLc2_ap, Fm.co21_ok, Fm.isOp_n, Fm.isNotOp_n, Fm.isOp_b, Fm.isNotOp_b, Fm.sliceD_s, Fm.dat_dct, Fm.eDct0_ap, Fm.eGet2_ap, Fm.gt1_ok, Fm.gt3_ok, Fm.gt4_ok, Fm.eGet1_ap, Fm.gn1_ok, Fm.gn3_ok, Fm.wVals_ap, Fm.wItems_ap, Fm.eDc_ap, Fm.cd1_ok, Fm.cd2_ok, Fm.wZip_ap, Fm.wz1_l, Fm.wz1_t, Fm.eDctT_ap, Fm.eGetT_ap, Fm.hT1_ok, Fm.hT2_t, Fm.hT3_ok, Fm.hT4_ok, Fm.hT5_t, Fm.eDc2_ap, Fm.cd21_ok, $hs,*])
namespace Fm
open PySem
/-! comprehensions whose parts change no slot -/
theorem set_set_back {S : Sl} {i : Nat} {v : Option SV} : backL S [i] (S.set i v) = S := by
  show (S.set i v).set i ((S[i]?).getD none) = S
  rw [List.set_set]
  by_cases h : i < S.length
  · rw [List.getElem?_eq_getElem h, Option.getD_some, List.set_getElem_self]
  · exact List.set_eq_of_length_le (by omega)
theorem back_self {S : Sl} {i : Nat} : backL S [i] S = S := by
  show S.set i ((S[i]?).getD none) = S
  by_cases h : i < S.length
  · rw [List.getElem?_eq_getElem h, Option.getD_some, List.set_getElem_self]
  · exact List.set_eq_of_length_le (by omega)
section
variable {α : Type} {enc : α → D} {t : Tx} {e : Dx} {i j : Nat} {S : Sl}
theorem lc_filt_go (f : α → D) (p : α → Bool) : ∀ (l : List α) (acc : List D) (S' : Sl), (S' = S ∨ ∃ v, S' = S.set i v) → acc.length + l.length ≤ sizeLine → (∀ a ∈ l, t (S.set i (some (.d (enc a)))) = .ok (p a) (S.set i (some (.d (enc a))))) → (∀ a ∈ l, p a = true → e (S.set i (some (.d (enc a)))) = .ok (f a) (S.set i (some (.d (enc a))))) →
    ∃ S'', lcL (.nm i) t e [i] (l.map enc) acc S' = .ok (acc ++ (l.filter p).map f) S'' ∧ (S'' = S ∨ ∃ v, S'' = S.set i v)
  | [], acc, S', hS, _, _, _ => ⟨S', by simp [lcL], hS⟩
  | a :: r, acc, S', hS, hl, h1, h2 => by
    have hw : (Tt.nm i).run (enc a) (wipeL [i] S') = some (S.set i (some (.d (enc a)))) := by
      show some ((S'.set i none).set i (some (.d (enc a)))) = _
      rw [List.set_set]
      rcases hS with rfl | ⟨v, rfl⟩
      · rfl
      · rw [List.set_set]
    rw [List.map_cons, lcL, hw, onO_some, h1 a (by simp), calm_ok]
    simp only [List.length_cons] at hl
    cases hp : p a with
    | false =>
      obtain ⟨S'', e1, h⟩ := lc_filt_go f p r acc _ (.inr ⟨_, rfl⟩) (by omega) (fun b hb => h1 b (by simp [hb])) (fun b hb => h2 b (by simp [hb]))
      refine ⟨S'', ?_, h⟩
      rw [List.filter_cons, hp]
      exact e1
    | true =>
      obtain ⟨S'', e1, h⟩ := lc_filt_go f p r (acc ++ [f a]) _ (.inr ⟨_, rfl⟩) (by simp; omega) (fun b hb => h1 b (by simp [hb])) (fun b hb => h2 b (by simp [hb]))
      refine ⟨S'', ?_, h⟩
      rw [if_pos rfl, h2 a (by simp) hp, calm_ok, if_pos (by omega), e1, List.filter_cons, hp]
      simp
/-- [f(x) for x in l if p(x)] -/
theorem lc_filt (l : List α) (f : α → D) (p : α → Bool) (hl : l.length ≤ sizeLine) (h1 : ∀ a ∈ l, t (S.set i (some (.d (enc a)))) = .ok (p a) (S.set i (some (.d (enc a))))) (h2 : ∀ a ∈ l, p a = true → e (S.set i (some (.d (enc a)))) = .ok (f a) (S.set i (some (.d (enc a))))) :
    co2 S [i] (lcL (.nm i) t e [i] (l.map enc) [] S) = .ok (.fr (.lst ((l.filter p).map f))) S := by
  obtain ⟨S'', e1, h⟩ := lc_filt_go f p l [] S (.inl rfl) (by simpa using hl) h1 h2
  rw [e1, co2_ok, List.nil_append]
  rcases h with rfl | ⟨v, rfl⟩
  · rw [back_self]
  · rw [set_set_back]
/-- [f(x) for x in l] -/
theorem lc_map (l : List α) (f : α → D) (hl : l.length ≤ sizeLine) (h2 : ∀ a ∈ l, e (S.set i (some (.d (enc a)))) = .ok (f a) (S.set i (some (.d (enc a))))) :
    co2 S [i] (lcL (.nm i) tYes e [i] (l.map enc) [] S) = .ok (.fr (.lst (l.map f))) S := by
  have := lc_filt (S := S) (i := i) (e := e) (t := tYes) (enc := enc) l f (fun _ => true) hl (fun a _ => rfl) (fun a ha _ => h2 a ha)
  rwa [List.filter_eq_self.mpr (fun _ _ => rfl)] at this
end
/-! the same with a pair as the target -/
section
variable {α : Type} {a b : α → D} {t : Tx} {e : Dx} {i j : Nat} {S : Sl}
theorem run2 (hij : i ≠ j) {S' : Sl} (hS : S' = S ∨ ∃ v w, S' = (S.set i v).set j w) {x y : D} : (Tt.tp [i, j]).run (.tuple [x, y]) (wipeL [i, j] S') = some (ins2 S i j x y) := by
  show some ((((S'.set j none).set i none).set i (some (.d x))).set j (some (.d y))) = _
  rw [List.set_set]
  rcases hS with rfl | ⟨v, w, rfl⟩
  · rw [List.set_comm _ _ (Ne.symm hij), List.set_set]
  · rw [List.set_set, List.set_comm _ _ (Ne.symm hij), List.set_set, List.set_set]
theorem back2 (hij : i ≠ j) {S' : Sl} (hS : S' = S ∨ ∃ v w, S' = (S.set i v).set j w) : backL S [i, j] S' = S := by
  show (S'.set j ((S[j]?).getD none)).set i ((S[i]?).getD none) = S
  have key : ∀ n (T : Sl), T.length = S.length → (∀ m, m ≠ n → T[m]? = S[m]?) → T.set n ((S[n]?).getD none) = S := by
    intro n T hl h
    refine List.ext_getElem? fun m => ?_
    by_cases hm : n = m
    · subst hm
      by_cases hn : n < S.length
      · rw [List.getElem?_set_self (by omega), List.getElem?_eq_getElem hn]
        rfl
      · rw [List.getElem?_eq_none (by simp; omega), List.getElem?_eq_none (by omega)]
    · rw [List.getElem?_set_ne hm]
      exact h m (Ne.symm hm)
  have hl : S'.length = S.length := by
    rcases hS with rfl | ⟨v, w, rfl⟩
    · rfl
    · simp
  have hS' : ∀ m, m ≠ i → m ≠ j → S'[m]? = S[m]? := fun m h1 h2 => by
    rcases hS with rfl | ⟨v, w, rfl⟩
    · rfl
    · rw [List.getElem?_set_ne (Ne.symm h2), List.getElem?_set_ne (Ne.symm h1)]
  refine key i _ (by simp [hl]) fun m hm => ?_
  by_cases hmj : m = j
  · subst hmj
    by_cases hn : m < S.length
    · rw [List.getElem?_set_self (by omega), List.getElem?_eq_getElem hn]
      rfl
    · rw [List.getElem?_eq_none (by simp; omega), List.getElem?_eq_none (by omega)]
  · rw [List.getElem?_set_ne (Ne.symm hmj)]
    exact hS' m hm hmj
theorem lc_filt2_go (hij : i ≠ j) (f : α → D) (p : α → Bool) : ∀ (l : List α) (acc : List D) (S' : Sl), (S' = S ∨ ∃ v w, S' = (S.set i v).set j w) → acc.length + l.length ≤ sizeLine → (∀ c ∈ l, t (ins2 S i j (a c) (b c)) = .ok (p c) (ins2 S i j (a c) (b c))) → (∀ c ∈ l, p c = true → e (ins2 S i j (a c) (b c)) = .ok (f c) (ins2 S i j (a c) (b c))) →
    ∃ S'', lcL (.tp [i, j]) t e [i, j] (l.map fun c => .tuple [a c, b c]) acc S' = .ok (acc ++ (l.filter p).map f) S'' ∧ (S'' = S ∨ ∃ v w, S'' = (S.set i v).set j w)
  | [], acc, S', hS, _, _, _ => ⟨S', by simp [lcL], hS⟩
  | c :: r, acc, S', hS, hl, h1, h2 => by
    rw [List.map_cons, lcL, run2 hij hS, onO_some, h1 c (by simp), calm_ok]
    simp only [List.length_cons] at hl
    cases hp : p c with
    | false =>
      obtain ⟨S'', e1, h⟩ := lc_filt2_go hij f p r acc _ (.inr ⟨_, _, rfl⟩) (by omega) (fun b hb => h1 b (by simp [hb])) (fun b hb => h2 b (by simp [hb]))
      refine ⟨S'', ?_, h⟩
      rw [List.filter_cons, hp]
      exact e1
    | true =>
      obtain ⟨S'', e1, h⟩ := lc_filt2_go hij f p r (acc ++ [f c]) _ (.inr ⟨_, _, rfl⟩) (by simp; omega) (fun b hb => h1 b (by simp [hb])) (fun b hb => h2 b (by simp [hb]))
      refine ⟨S'', ?_, h⟩
      rw [if_pos rfl, h2 c (by simp) hp, calm_ok, if_pos (by omega), e1, List.filter_cons, hp]
      simp
/-- [f(x, y) for x, y in l if p(x, y)] -/
theorem lc_filt2 (hij : i ≠ j) (l : List α) (a b : α → D) (f : α → D) (p : α → Bool) (hl : l.length ≤ sizeLine) (h1 : ∀ c ∈ l, t (ins2 S i j (a c) (b c)) = .ok (p c) (ins2 S i j (a c) (b c))) (h2 : ∀ c ∈ l, p c = true → e (ins2 S i j (a c) (b c)) = .ok (f c) (ins2 S i j (a c) (b c))) :
    co2 S [i, j] (lcL (.tp [i, j]) t e [i, j] (l.map fun c => .tuple [a c, b c]) [] S) = .ok (.fr (.lst ((l.filter p).map f))) S := by
  obtain ⟨S'', e1, h⟩ := lc_filt2_go hij f p l [] S (.inl rfl) (by simpa using hl) h1 h2
  rw [e1, co2_ok, List.nil_append, back2 hij h]
theorem lc_map2 (hij : i ≠ j) (l : List α) (a b : α → D) (f : α → D) (hl : l.length ≤ sizeLine) (h2 : ∀ c ∈ l, e (ins2 S i j (a c) (b c)) = .ok (f c) (ins2 S i j (a c) (b c))) :
    co2 S [i, j] (lcL (.tp [i, j]) tYes e [i, j] (l.map fun c => .tuple [a c, b c]) [] S) = .ok (.fr (.lst (l.map f))) S := by
  have := lc_filt2 (S := S) (e := e) (t := tYes) hij l a b f (fun _ => true) hl (fun a _ => rfl) (fun a ha _ => h2 a ha)
  rwa [List.filter_eq_self.mpr (fun _ _ => rfl)] at this
end
/-! two clauses, no slot changed -/
section
variable {α β : Type} {enc : α → D} {enc2 : β → D} {w1 : Wx} {t1 : Tx} {e : Dx} {i j : Nat} {S : Sl}
abbrev at2 (S : Sl) (i j : Nat) (x : D) : Sl := (S.set j none).set i (some (.d x))
theorem lc2_go (hij : i ≠ j) (zs : α → List β) (p : α → β → Bool) (f : α → β → D) (N : Nat) : ∀ (l : List α) (acc : List D) (S' : Sl), (∀ a ∈ l, (zs a).length ≤ N) → (S' = S ∨ ∃ v w, S' = (S.set i v).set j w) → acc.length + l.length * N ≤ sizeLine →
    (∀ a ∈ l, w1 (at2 S i j (enc a)) = .ok ((zs a).map enc2) (at2 S i j (enc a))) → (∀ a ∈ l, ∀ b ∈ zs a, t1 ((at2 S i j (enc a)).set j (some (.d (enc2 b)))) = .ok (p a b) ((at2 S i j (enc a)).set j (some (.d (enc2 b))))) →
    (∀ a ∈ l, ∀ b ∈ zs a, p a b = true → e ((at2 S i j (enc a)).set j (some (.d (enc2 b)))) = .ok (f a b) ((at2 S i j (enc a)).set j (some (.d (enc2 b))))) →
    ∃ S'', lcL2 (.nm i) tYes w1 (.nm j) t1 e [i, j] [j] (l.map enc) acc S' = .ok (acc ++ l.flatMap fun a => ((zs a).filter (p a)).map (f a)) S'' ∧ (S'' = S ∨ ∃ v w, S'' = (S.set i v).set j w)
  | [], acc, S', _, hS, _, _, _, _ => ⟨S', by simp [lcL2], hS⟩
  | a :: r, acc, S', hz, hS, hl, h1, h2, h3 => by
    have hw : (Tt.nm i).run (enc a) (wipeL [i, j] S') = some (at2 S i j (enc a)) := by
      show some (((S'.set j none).set i none).set i (some (.d (enc a)))) = _
      rw [List.set_set]
      rcases hS with rfl | ⟨v, w, rfl⟩
      · rfl
      · rw [List.set_set, List.set_comm _ _ hij, List.set_set]
    simp only [List.length_cons, Nat.add_mul, Nat.one_mul] at hl
    have hza := hz a (by simp)
    obtain ⟨S1, e1, hS1⟩ := lc_filt_go (S := at2 S i j (enc a)) (i := j) (t := t1) (e := e) (enc := enc2) (f a) (p a) (zs a) acc (at2 S i j (enc a)) (.inl rfl) (by omega) (h2 a (by simp)) (h3 a (by simp))
    have hS1' : S1 = S ∨ ∃ v w, S1 = (S.set i v).set j w := by
      rcases hS1 with rfl | ⟨v, rfl⟩
      · exact .inr ⟨some (.d (enc a)), none, List.set_comm _ _ (Ne.symm hij)⟩
      · refine .inr ⟨some (.d (enc a)), v, ?_⟩
        show ((S.set j none).set i (some (.d (enc a)))).set j v = _
        rw [List.set_comm _ _ hij, List.set_set, List.set_comm _ _ (Ne.symm hij)]
    have hlen : (acc ++ ((zs a).filter (p a)).map (f a)).length + r.length * N ≤ sizeLine := by
      have := List.length_filter_le (p a) (zs a)
      rw [List.length_append, List.length_map]
      omega
    obtain ⟨S2, e2, hS2⟩ := lc2_go hij zs p f N r (acc ++ ((zs a).filter (p a)).map (f a)) S1 (fun b hb => hz b (by simp [hb])) hS1' hlen (fun b hb => h1 b (by simp [hb])) (fun b hb => h2 b (by simp [hb])) (fun b hb => h3 b (by simp [hb]))
    refine ⟨S2, ?_, hS2⟩
    rw [List.map_cons, lcL2, hw, onO_some, tYes_ap, calm_ok, if_pos rfl, h1 a (by simp), calm_ok, e1, calm_ok, e2, List.flatMap_cons, List.append_assoc]
/-- [f(a, b) for a in l for b in zs(a) if p(a, b)] -/
theorem lc2_filt (hij : i ≠ j) (l : List α) (zs : α → List β) (p : α → β → Bool) (f : α → β → D) (N : Nat) (hz : ∀ a ∈ l, (zs a).length ≤ N) (hl : l.length * N ≤ sizeLine)
    (h1 : ∀ a ∈ l, w1 (at2 S i j (enc a)) = .ok ((zs a).map enc2) (at2 S i j (enc a))) (h2 : ∀ a ∈ l, ∀ b ∈ zs a, t1 ((at2 S i j (enc a)).set j (some (.d (enc2 b)))) = .ok (p a b) ((at2 S i j (enc a)).set j (some (.d (enc2 b)))))
    (h3 : ∀ a ∈ l, ∀ b ∈ zs a, p a b = true → e ((at2 S i j (enc a)).set j (some (.d (enc2 b)))) = .ok (f a b) ((at2 S i j (enc a)).set j (some (.d (enc2 b))))) :
    co2 S [i, j] (lcL2 (.nm i) tYes w1 (.nm j) t1 e [i, j] [j] (l.map enc) [] S) = .ok (.fr (.lst (l.flatMap fun a => ((zs a).filter (p a)).map (f a)))) S := by
  obtain ⟨S'', e1, h⟩ := lc2_go hij zs p f N l [] S hz (.inl rfl) (by simpa using hl) h1 h2 h3
  rw [e1, co2_ok, List.nil_append, back2 hij h]
theorem lc2_map (hij : i ≠ j) (l : List α) (zs : α → List β) (f : α → β → D) (N : Nat) (hz : ∀ a ∈ l, (zs a).length ≤ N) (hl : l.length * N ≤ sizeLine)
    (h1 : ∀ a ∈ l, w1 (at2 S i j (enc a)) = .ok ((zs a).map enc2) (at2 S i j (enc a)))
    (h3 : ∀ a ∈ l, ∀ b ∈ zs a, e ((at2 S i j (enc a)).set j (some (.d (enc2 b)))) = .ok (f a b) ((at2 S i j (enc a)).set j (some (.d (enc2 b))))) :
    co2 S [i, j] (lcL2 (.nm i) tYes w1 (.nm j) tYes e [i, j] [j] (l.map enc) [] S) = .ok (.fr (.lst (l.flatMap fun a => (zs a).map (f a)))) S := by
  have := lc2_filt (S := S) (e := e) (t1 := tYes) (w1 := w1) (enc := enc) (enc2 := enc2) hij l zs (fun _ _ => true) f N hz hl h1 (fun _ _ _ _ => rfl) (fun a ha b hb _ => h3 a ha b hb)
  rw [this]
  have hf : (fun a => ((zs a).filter fun _ => true).map (f a)) = fun a => (zs a).map (f a) := funext fun a => by rw [List.filter_eq_self.mpr fun _ _ => rfl]
  rw [hf]
end
end Fm

/-! FmN: data that can be shown and compared. -/
namespace Fm
open PySem PySem.Builtin PySem.Builtin.Str
theorem Nc.shaped {n b : Nat} {x : D} (h : Nc n b x) (hn : n ≤ 64) : SeqAt.shaped x = true := by
  unfold SeqAt.shaped
  rw [h.lay, decide_eq_true (Nat.le_trans h.dep hn)]
  rfl
theorem Nc.sh {n b : Nat} {x : D} (h : Nc n b x) : Sh n x := ⟨h.lay, h.dep⟩
theorem Sh.shaped {n : Nat} {x : D} (h : Sh n x) (hn : n ≤ 64) : SeqAt.shaped x = true := by
  unfold SeqAt.shaped
  rw [h.lay, decide_eq_true (Nat.le_trans h.dep hn)]
  rfl
theorem eqB_of {x y : D} (hx : SeqAt.shaped x = true) (hy : SeqAt.shaped y = true) : eqB x y = some (PyData.eqv x y) := by
  have gen : (if (SeqAt.shaped x && SeqAt.shaped y) = true then some (PyData.eqv x y) else none) = some (PyData.eqv x y) := by rw [hx, hy]; rfl
  unfold eqB
  split
  · rfl
  · rfl
  · rfl
  · exact gen
theorem eqD_nc {n b n' b' : Nat} {x y : D} (h : Nc n b x) (h' : Nc n' b' y) (hn : n ≤ 64) (hn' : n' ≤ 64) : eqD x y = some (.d (.bool (PyData.eqv x y))) := by
  unfold eqD
  rw [eqB_of (h.shaped hn) (h'.shaped hn')]
  rfl
theorem neD_nc {n b n' b' : Nat} {x y : D} (h : Nc n b x) (h' : Nc n' b' y) (hn : n ≤ 64) (hn' : n' ≤ 64) : neD x y = some (.d (.bool (!PyData.eqv x y))) := by
  unfold neD
  rw [eqB_of (h.shaped hn) (h'.shaped hn')]
  rfl
theorem eqD_sh {n n' : Nat} {x y : D} (h : Sh n x) (h' : Sh n' y) (hn : n ≤ 64) (hn' : n' ≤ 64) : eqD x y = some (.d (.bool (PyData.eqv x y))) := by
  unfold eqD
  rw [eqB_of (h.shaped hn) (h'.shaped hn')]
  rfl
theorem neD_sh {n n' : Nat} {x y : D} (h : Sh n x) (h' : Sh n' y) (hn : n ≤ 64) (hn' : n' ≤ 64) : neD x y = some (.d (.bool (!PyData.eqv x y))) := by
  unfold neD
  rw [eqB_of (h.shaped hn) (h'.shaped hn')]
  rfl
/-- a tuple against () -/
theorem eqD_nil {xs : List D} : eqD (.tuple xs) (.tuple []) = some (.d (.bool xs.isEmpty)) := by
  have e : eqB (.tuple xs) (.tuple []) = if (SeqAt.shaped (.tuple xs) && SeqAt.shaped (.tuple [])) = true then some (PyData.eqv (.tuple xs) (.tuple [])) else none := rfl
  unfold eqD
  rw [e]
  by_cases h : (SeqAt.shaped (.tuple xs) && SeqAt.shaped (.tuple [])) = true
  · rw [if_pos h]
    cases xs <;> simp [PyData.eqv, PyData.eqvAll]
  · rw [if_neg h]
    cases xs with
    | nil => exact absurd (by decide +kernel) h
    | cons a r => rfl
theorem eqD_self {n : Nat} {x : D} (h : Sh n x) (hn : n ≤ 64) : eqD x x = some (.d (.bool true)) := by
  rw [eqD_sh h h hn hn, SeqAt.eqv_refl x h.lay]
theorem neD_self {n : Nat} {x : D} (h : Sh n x) (hn : n ≤ 64) : neD x x = some (.d (.bool false)) := by
  rw [neD_sh h h hn hn, SeqAt.eqv_refl x h.lay]
  rfl
theorem eqv_list_nil {xs : List D} : PyData.eqv (.list xs) (.list []) = xs.isEmpty := by
  cases xs <;> simp [PyData.eqv, PyData.eqvAll]
theorem eqv_tuple_nil {xs : List D} : PyData.eqv (.tuple xs) (.tuple []) = xs.isEmpty := by
  cases xs <;> simp [PyData.eqv, PyData.eqvAll]
theorem eqD_same {n b : Nat} {x : D} (h : Nc n b x) (hn : n ≤ 64) : eqD x x = some (.d (.bool true)) := by
  rw [eqD_nc h h hn hn, SeqAt.eqv_refl x h.lay]
theorem neD_same {n b : Nat} {x : D} (h : Nc n b x) (hn : n ≤ 64) : neD x x = some (.d (.bool false)) := by
  rw [neD_nc h h hn hn, SeqAt.eqv_refl x h.lay]
  rfl
/-! integers in a row -/
section
variable {l m : List Int} {x : Int} {k : Nat}
theorem iL_len : (iL l).length = l.length := List.length_map _
theorem iL_rev : (iL l).reverse = iL l.reverse := List.map_reverse.symm
theorem iL_app : iL l ++ iL m = iL (l ++ m) := List.map_append.symm
theorem iL_take : (iL l).take k = iL (l.take k) := List.map_take.symm
theorem iL_drop : (iL l).drop k = iL (l.drop k) := List.map_drop.symm
theorem iL_cut {lo hi : Option Int} : cutL (iL l) lo hi = iL (cutL l lo hi) := by
  unfold cutL
  rw [iL_len, iL_drop, iL_take]
theorem iL_at {i : Int} : atD (iL l) i = (atD l i).map .int := by
  unfold atD
  rw [iL_len]
  cases ixD l.length i with
  | none => rfl
  | some j => show (iL l)[j]? = _; rw [List.getElem?_map]; rfl
end
theorem enumL_zip : ∀ (xs : List D) (n : Nat), enumL n xs = (xs.zipIdx n).map fun p => .tuple [.int (p.2 : Nat), p.1]
  | [], _ => rfl
  | x :: xs, n => by
    rw [List.zipIdx_cons, List.map_cons, enumL, enumL_zip xs (n + 1)]
theorem enum_iL (l : List Int) : enumL 0 (iL l) = l.zipIdx.map fun p => .tuple [.int (p.2 : Nat), .int p.1] := by
  rw [enumL_zip, List.zipIdx_map, List.map_map]
  rfl
theorem mem_zip {α : Type} {l : List α} {p : α × Nat} (h : p ∈ l.zipIdx) : l[p.2]? = some p.1 := by
  exact List.mk_mem_zipIdx_iff_getElem?.mp h
/-- an item of a list without repetition is not ahead of its place -/
theorem not_ahead {l : List Int} (h : l.Nodup) {k : Nat} {x : Int} (e : l[k]? = some x) : x ∉ l.take k := by
  intro hm
  obtain ⟨i, hi, e2⟩ := List.getElem_of_mem hm
  rw [List.length_take] at hi
  rw [List.getElem_take] at e2
  have hk : k < l.length := (List.getElem?_eq_some_iff.mp e).1
  have e3 : l[k] = x := (List.getElem?_eq_some_iff.mp e).2
  have := (List.getElem_inj h).mp (e2.trans e3.symm)
  omega
abbrev nats (l : List Nat) : List D := l.map fun i : Nat => .int (i : Int)
theorem rangeL_nats (n : Nat) : rangeL 0 n = nats (List.range n) := by
  unfold rangeL
  simp
theorem nats_len {l : List Nat} : (nats l).length = l.length := List.length_map _
theorem nats_at {l : List Nat} {i : Nat} (h : i < l.length) : atD (nats l) (i : Int) = some (.int ((l.getD i 0 : Nat) : Int)) := by
  rw [atD_nat, List.getElem?_map, List.getElem?_eq_getElem h]
  simp [h]
theorem iL_atN {l : List Int} {i : Nat} (h : i < l.length) : atD (iL l) (i : Int) = some (.int (l.getD i 0)) := by
  rw [atD_nat, List.getElem?_map, List.getElem?_eq_getElem h]
  simp [h]
theorem nats_set {l : List Nat} {i g : Nat} : (nats l).set i (.int (g : Nat)) = nats (l.set i g) := List.map_set.symm
theorem nats_app {l : List Nat} {g : Nat} : nats l ++ [.int (g : Nat)] = nats (l ++ [g]) := by simp
theorem iL_snoc {l : List Int} {x : Int} : iL l ++ [.int x] = iL (l ++ [x]) := by simp
theorem sumD_nats (l : List Nat) : sumD (.list (nats l)) = some (.d (.int (l.sum : Nat))) := by
  show (intsD _).bind _ = _
  have e : nats l = (l.map fun i : Nat => (i : Int)).map PyData.int := by rw [List.map_map]; rfl
  have hs : ∀ l : List Nat, (l.map fun i : Nat => (i : Int)).sum = ((l.sum : Nat) : Int) := by
    intro l
    induction l with
    | nil => rfl
    | cons a r ih => simp [ih]
  rw [e, intsD_map]
  show iD _ = _
  rw [hs]
/-! pairs of a height and a place -/
def encP (p : Int × Nat) : D := .tuple [.int p.1, .int (p.2 : Nat)]
def better (k : Bool) (y a : Int × Nat) : Bool := if k then decide (y.1 < a.1 ∨ (y.1 = a.1 ∧ (y.2 : Int) < a.2)) else decide (a.1 < y.1 ∨ (a.1 = y.1 ∧ (a.2 : Int) < y.2))
def bestP (k : Bool) (p : Int × Nat) (ps : List (Int × Nat)) : Int × Nat := ps.foldl (fun a y => if better k y a = true then y else a) p
theorem ordOk_pairs (ps : List (Int × Nat)) : ordOk (ps.map encP) = true := by
  have hs : ∀ x ∈ ps.map encP, Sh 1 x := fun x hx => by
    obtain ⟨p, _, rfl⟩ := List.mem_map.mp hx
    exact Sh.tuple (n := 0) fun y hy => by
      simp only [List.mem_cons, List.not_mem_nil, or_false] at hy
      rcases hy with rfl | rfl <;> exact Sh.int _
  obtain ⟨h1, h2⟩ := shAll hs
  refine ordOk_of (fun x hx y hy => ?_) (fun x hx => ?_) h1 (by omega)
  · obtain ⟨i, _, rfl⟩ := List.mem_map.mp hx
    obtain ⟨j, _, rfl⟩ := List.mem_map.mp hy
    simp [encP, PySem.W.alike, PySem.W.alikeAll]
  · obtain ⟨i, _, rfl⟩ := List.mem_map.mp hx
    exact fun z => nomatch z
theorem min_pairs (p : Int × Nat) (ps : List (Int × Nat)) : min2D [.list (encP p :: ps.map encP)] = some (.d (encP (bestP true p ps))) := by
  show (if ordOk _ = true then _ else _) = _
  rw [if_pos (by simpa using ordOk_pairs (p :: ps))]
  congr 2
  unfold PySem.W.minD bestP
  induction ps generalizing p with
  | nil => rfl
  | cons y r ih =>
    rw [List.map_cons, List.foldl_cons, List.foldl_cons]
    have e : PySem.W.dataLt (encP y) (encP p) = better true y p := by
      unfold encP better
      rw [PySem.W.dataLt_ii]
      simp
    rw [e]
    cases better true y p
    · exact ih p
    · exact ih y
theorem max_pairs (p : Int × Nat) (ps : List (Int × Nat)) : max2D [.list (encP p :: ps.map encP)] = some (.d (encP (bestP false p ps))) := by
  show (if ordOk _ = true then _ else _) = _
  rw [if_pos (by simpa using ordOk_pairs (p :: ps))]
  congr 2
  unfold PySem.W.maxD bestP
  induction ps generalizing p with
  | nil => rfl
  | cons y r ih =>
    rw [List.map_cons, List.foldl_cons, List.foldl_cons]
    have e : PySem.W.dataLt (encP p) (encP y) = better false y p := by
      unfold encP better
      rw [PySem.W.dataLt_ii]
      simp
    rw [e]
    cases better false y p
    · exact ih p
    · exact ih y
theorem best_spec (k : Bool) : ∀ (ps : List (Int × Nat)) (p : Int × Nat), bestP k p ps ∈ p :: ps ∧ ∀ y ∈ p :: ps, better k y (bestP k p ps) = false
  | [], p => ⟨by simp [bestP], fun y hy => by
      rw [List.mem_singleton.mp hy]
      cases k <;> simp [bestP, better]⟩
  | q :: r, p => by
    have e : bestP k p (q :: r) = bestP k (if better k q p = true then q else p) r := rfl
    rw [e]
    obtain ⟨h1, h2⟩ := best_spec k r (if better k q p = true then q else p)
    generalize hb : bestP k (if better k q p = true then q else p) r = b at h1 h2
    have ht : ∀ x y z : Int × Nat, better k x y = false → better k y z = false → better k x z = false := by
      intro x y z a b
      cases k <;> simp [better] at a b ⊢ <;> omega
    have has : better k q p = true → better k p q = false := by
      intro a
      cases k <;> simp [better] at a ⊢ <;> omega
    by_cases hq : better k q p = true
    · rw [if_pos hq] at h1 h2
      refine ⟨List.mem_cons_of_mem _ h1, fun y hy => ?_⟩
      rcases List.mem_cons.mp hy with rfl | hy
      · exact ht _ _ _ (has hq) (h2 q (by simp))
      · exact h2 y hy
    · rw [if_neg hq] at h1 h2
      rw [Bool.not_eq_true] at hq
      refine ⟨?_, fun y hy => ?_⟩
      · rcases List.mem_cons.mp h1 with h | h
        · rw [h]; simp
        · simp [h]
      · rcases List.mem_cons.mp hy with rfl | hy
        · exact h2 y (by simp)
        · rcases List.mem_cons.mp hy with rfl | hy
          · exact ht _ _ _ hq (h2 p (by simp))
          · exact h2 y (by simp [hy])
theorem popAt_m {α : Type} {enc : α → D} {L : List α} {v : Int} (h0 : 0 ≤ v) (h1 : v < L.length) (h2 : L.length < 9223372036854775808) : ∃ (k : Nat) (hk : k < L.length), popAtL (L.map enc) [.int v] = some ((L.eraseIdx k).map enc, enc L[k]) := by
  obtain ⟨k, rfl⟩ : ∃ k : Nat, v = k := ⟨v.toNat, by omega⟩
  have hk : k < L.length := by omega
  refine ⟨k, hk, ?_⟩
  have e1 : inIx (k : Int) = true := by
    unfold inIx
    simp only [Bool.and_eq_true, decide_eq_true_eq]
    omega
  unfold popAtL
  simp only [if_pos e1]
  rw [ixD_nat (by simpa using hk), Option.bind_some, List.getElem?_map, List.getElem?_eq_getElem hk]
  simp only [Option.map_some, erase_map]
/-- a call without arguments that yields True -/
def okT : CRes → Bool
  | .ok (.d (.bool true)) [] => true
  | _ => false
theorem okT_eq {r : CRes} (h : okT r = true) : r = .ok (.d (.bool true)) [] := by
  unfold okT at h
  split at h
  · rfl
  · cases h
theorem cutL_mid {α : Type} {xs : List α} {a b : Nat} (h : a ≤ b) : cutL xs (some (a : Int)) (some (b : Int)) = (xs.drop a).take (b - a) := by
  have e : ∀ (c : Nat) (d : Nat), sIx xs.length d (some (c : Int)) = min c xs.length := fun c d => by
    simp only [sIx]
    rw [if_neg (by omega), Int.toNat_natCast]
  unfold cutL
  rw [e, e]
  by_cases h1 : a ≤ xs.length
  · rw [Nat.min_eq_left h1]
    by_cases h2 : b ≤ xs.length
    · rw [Nat.min_eq_left h2]
    · rw [Nat.min_eq_right (by omega), List.take_of_length_le (by simp), List.take_of_length_le (by simp; omega)]
  · rw [Nat.min_eq_right (by omega), List.drop_eq_nil_of_le (by omega), List.drop_eq_nil_of_le (by omega)]
    simp
theorem cutL_drop {α : Type} {xs : List α} {k : Nat} : cutL xs (some (k : Int)) none = xs.drop k := by
  unfold cutL sIx
  simp only
  rw [if_neg (by omega), Int.toNat_natCast]
  by_cases h : k ≤ xs.length
  · rw [Nat.min_eq_left h, List.take_of_length_le (by simp)]
  · rw [Nat.min_eq_right (by omega), List.drop_eq_nil_of_le (by omega), List.drop_eq_nil_of_le (by omega)]
    simp
abbrev tupI (l : List Int) : D := .tuple (iL l)
theorem sh_row {n : Nat} {l : List Int} : Sh (n + 1) (tupI l) := Sh.tuple fun x hx => by
  obtain ⟨i, hi, rfl⟩ := List.mem_map.mp hx
  exact Sh.int i
theorem sh_rows {n : Nat} {ts : List (List Int)} : Sh (n + 2) (.list (ts.map tupI)) := Sh.list fun x hx => by
  obtain ⟨i, hi, rfl⟩ := List.mem_map.mp hx
  exact sh_row
theorem sh_rowsT {n : Nat} {ts : List (List Int)} : Sh (n + 2) (.tuple (ts.map tupI)) := Sh.tuple fun x hx => by
  obtain ⟨i, hi, rfl⟩ := List.mem_map.mp hx
  exact sh_row
theorem sh_nats {n : Nat} {l : List Nat} : Sh (n + 1) (.tuple (nats l)) := Sh.tuple fun x hx => by
  obtain ⟨i, hi, rfl⟩ := List.mem_map.mp hx
  exact Sh.int _
theorem atD_last {α : Type} {xs : List α} {x : α} (h : xs.getLast? = some x) : atD xs (-1) = some x := by
  obtain ⟨ys, rfl⟩ := List.getLast?_eq_some_iff.mp h
  exact atD_m
theorem nc_row {n : Nat} {l : List Int} (h : ∀ x ∈ l, x.natAbs < 10 ^ 60) : Nc (n + 1) l.length (tupI l) := Nc.tuple (c := 0) (fun x hx => by
  obtain ⟨i, hi, rfl⟩ := List.mem_map.mp hx
  exact Nc.int (h i hi)) (by simp)
end Fm

set_option maxHeartbeats 4000000
/-! FmXa: the call of an error class with keywords. -/
namespace PySem
open Sem (wp)
namespace HandSPX
section
variable {M : Model} {prog : Program} {w : World} {A : Around} {E : Value → Shared → Prop} {R : Result → Shared → Prop} {hp : Heap} {gs : Array GenState} {dr : Drawn} {tk : Nat} {oz : OsState}
variable {cn qn : Str} {C N : Addr} {bs mr mB : List Value} {hd : Bool} {sl : List Str} {sb : List Value} {ab : Bool} {co : Option Bool} {de : Option Addr} {y0 y1 y2 y3 y5 : Option Value} {B nI iI : String}
variable {us : List Value} {kw : List (Str × Value)}
/-- the class, as it lies -/
abbrev ClsAt (hp : Heap) (C : Addr) (cn qn : Str) (N : Addr) (bs mr : List Value) (hd : Bool) (sl : List Str) (sb : List Value) (ab : Bool) (co : Option Bool) (de : Option Addr) (y0 y1 y2 y3 y5 : Option Value) (nI : String) : Prop :=
  hp.get? C = some (excClassObj cn qn C N bs mr hd sl sb ab co de y0 y1 y2 y3 y5 nI)
theorem kw_check_new (Fx : ExcBaseFacts B nI iI mB) (hm : ∀ X : String, mr.contains (.type X) = mB.contains (.type X)) {Q : Unit → Shared → Prop}
    (hC : ClsAt hp C cn qn N bs mr hd sl sb ab co de y0 y1 y2 y3 y5 nI) (z : Q () ⟨hp, gs, dr, tk, oz⟩) : wpAny M A (checkBuiltinCall nI ⟨.ref C :: us, kw⟩) Q E ⟨hp, gs, dr, tk, oz⟩ := by
  have c1 : (Value.ref C :: mr).contains (.type B) = true := by rw [List.contains_cons, hm, Fx.hasB, Bool.or_true]
  have c2 := Fx.noStar
  simp only [checkBuiltinCall, Fx.newKind, Fx.newSplit, Fx.newRow]
  repeat (first
    | refine wpAny_loadPart_at hC ?_
    | (refine wpAny_isSubtype_exc hC ?_; rw [c1])
    | refine wpAny_staticBase_exc hC ?_
    | refine wpAny_madeBy_exc hC ?_
    | simp only [bne_self_eq_false, Bool.false_eq_true, if_false]
    | wp_step)
  exact z
theorem kw_check_type (hC : ClsAt hp C cn qn N bs mr hd sl sb ab co de y0 y1 y2 y3 y5 nI) {Q : Unit → Shared → Prop} (z : Q () ⟨hp, gs, dr, tk, oz⟩) :
    wpAny M A (checkBuiltinCall "type.__call__" ⟨.ref C :: us, kw⟩) Q E ⟨hp, gs, dr, tk, oz⟩ := by
  have c3 := tc_sub
  have ty : (⟨hp, gs, dr, tk, oz⟩ : Shared).TypeIs (.ref C) "type" := ⟨_, hC, rfl⟩
  simp only [checkBuiltinCall, tc_kind, tc_split]
  repeat (any_goals (first
    | assumption
    | with_reducible refine wpAny_loadPart_at hC ?_
    | with_reducible refine wpAny_onRaise ?_
    | with_reducible refine wpAny_map ?_
    | wp_step))
theorem kw_new (Fx : ExcBaseFacts B nI iI mB) (hm : ∀ X : String, mr.contains (.type X) = mB.contains (.type X))
    (hC : ClsAt hp C cn qn N bs mr hd sl sb ab co de y0 y1 y2 y3 y5 nI) (hz : us.length ≤ sizeLine)
    (z : R (.ok (.ret (.ref (hp.objs.size + 1)))) ⟨(hp.push (W.kdv_tup us)).push (excO C hp.objs.size), gs, dr, tk, oz⟩) :
    codeAny (model prog w) A (.builtin nI ⟨.ref C :: us, kw⟩) R ⟨hp, gs, dr, tk, oz⟩ := by
  have e1 := Fx.ends
  have e2 : (Value.ref C :: mr).contains (.type B) = true := by rw [List.contains_cons, hm, Fx.hasB, Bool.or_true]
  have e3 : (Value.ref C :: mr).contains (.type "AttributeError") = false := by rw [List.contains_cons, hm, Fx.noAttr]; rfl
  have e4 : (Value.ref C :: mr).contains (.type "NameError") = false := by rw [List.contains_cons, hm, Fx.noName]; rfl
  refine codeAny_builtinAt Fx.entry ?_
  unfold Builtin.«BaseException.__new__»
  refine wpAt_bind ?_
  show wpAt _ _ _ (stack >>= _) _ _ _
  refine wpAt_bind (wpAt_stack fun p below => wpAt_of_wpAny ?_)
  wp_walk
  refine wpAt_of_wpAny ?_
  rw [Fx.owner]
  repeat (first
    | with_reducible refine wpAny_madeHere_exc Fx.canon hC ?_
    | with_reducible refine wpAny_loadPart_at hC ?_
    | (with_reducible refine wpAny_isSubtype_exc hC ?_
       first | rw [e2] | rw [e3] | rw [e4])
    | wp_step)
  show R _ _
  rw [Heap.size_push]
  exact z
theorem kw_type (Fx : ExcBaseFacts B nI iI mB) (hm : ∀ X : String, mr.contains (.type X) = mB.contains (.type X)) {fI : Addr} {Q : Fin → Shared → Prop}
    (hC : ClsAt hp C cn qn N bs mr hd sl sb ab co de y0 y1 y2 y3 y5 nI) (hz : us.length ≤ sizeLine)
    (li : W.Looks (model prog w) hp (typeLookup (.ref C) "__init__") (some (.ref fI))) (lb : ∀ me, W.Looks (model prog w) hp (bindSpecial (.ref fI) me) (.ref fI, [me]))
    (z : codeAny (model prog w) A (.call (.ref fI) ⟨.ref (hp.objs.size + 1) :: us, kw⟩)
      (fun r s' => match r with | .ok (.ret v) => v = .none ∧ Q (.done (.ret (.ref (hp.objs.size + 1)))) s' | .ok _ => False | .error e => E e s')
      ⟨(hp.push (W.kdv_tup us)).push (excO C hp.objs.size), gs, dr, tk, oz⟩) :
    wpAny (model prog w) A (Builtin.«type.__call__» ⟨.ref C :: us, kw⟩) Q E ⟨hp, gs, dr, tk, oz⟩ := by
  repeat (first
    | with_reducible refine wpAny_loadPart_at hC ?_
    | with_reducible refine wpAny_madeBy_exc hC ?_
    | wp_step)
  refine codeAny_call_builtin_code (Code.quiet_builtin _ Fx.quiet) (kw_check_new Fx hm hC ?_)
  refine kw_new Fx hm hC hz ?_
  show wpAny _ _ _ _ _ _
  have kk : ∀ b o, hp.get? b = some o → ((hp.push (W.kdv_tup us)).push (excO C hp.objs.size)).get? b = some o := fun b o e => Heap.get?_push_of_some _ (Heap.get?_push_of_some _ e)
  have hC1 := kk _ _ hC
  have at1 : ((hp.push (W.kdv_tup us)).push (excO C hp.objs.size)).get? (hp.objs.size + 1) = some (excO C hp.objs.size) := by heap_get
  have inC : (Value.ref C :: mr).contains (.ref C) = true := by simp
  have l1 := li.keeps kk
  have l2 := (lb (.ref (hp.objs.size + 1))).keeps kk
  unfold isInstance
  repeat (first
    | with_reducible refine wpAny_loadPart_at at1 ?_
    | (with_reducible refine wpAny_isSubtype_exc hC1 ?_
       rw [inC])
    | wp_step)
  show wpAny _ _ (typeLookup (.ref C) _) _ _ _
  refine l1.at ?_
  refine wpAny_holding (wpAny_bind (l2.at ?_))
  refine wpAny_bind (wpAny_call (codeAny_mono z fun r s' y => ?_))
  rcases r with e | (v | _ | _ | _) <;> first | exact y | exact y.elim | skip
  obtain ⟨rfl, y⟩ := y
  first
    | exact wpAny_pure (wpAny_pure y)
    | (wp_walk; exact y)
theorem kw_call (Fx : ExcBaseFacts B nI iI mB) (hm : ∀ X : String, mr.contains (.type X) = mB.contains (.type X)) {fI : Addr}
    (hC : ClsAt hp C cn qn N bs mr hd sl sb ab co de y0 y1 y2 y3 y5 nI) (hz : us.length ≤ sizeLine)
    (li : W.Looks (model prog w) hp (typeLookup (.ref C) "__init__") (some (.ref fI))) (lb : ∀ me, W.Looks (model prog w) hp (bindSpecial (.ref fI) me) (.ref fI, [me]))
    (z : codeAny (model prog w) (A.under (.builtin "type.__call__" ⟨.ref C :: us, kw⟩)) (.call (.ref fI) ⟨.ref (hp.objs.size + 1) :: us, kw⟩) (W.InitBack (hp.objs.size + 1) R)
      ⟨(hp.push (W.kdv_tup us)).push (excO C hp.objs.size), gs, dr, tk, oz⟩) :
    codeAny (model prog w) A (.call (.ref C) ⟨us, kw⟩) R ⟨hp, gs, dr, tk, oz⟩ := by
  have c1 := tc_lookup
  have c2 := tc_bind (.ref C)
  have ty : (⟨hp, gs, dr, tk, oz⟩ : Shared).TypeIs (.ref C) "type" := ⟨_, hC, rfl⟩
  refine codeAny_of_tree ?_
  show wpAny _ _ (callAny (.ref C) _) _ _ _
  repeat (any_goals (first
    | assumption
    | with_reducible refine wpAny_loadPart_at hC ?_
    | wp_step))
  refine ⟨rfl, ?_⟩
  refine codeAny_call_builtin_at (Code.quiet_builtin _ (by decide +kernel)) entry_typeCall (kw_check_type hC (kw_type Fx hm hC hz li lb ?_))
  refine codeAny_mono z fun r s' y => ?_
  rcases r with e | (v | _ | _ | _) <;> exact y
end
end HandSPX
end PySem

set_option maxHeartbeats 4000000
/-! FmXb: errors as data: C(e, ..), C(f = e), isinstance(e, C), e.f. -/
namespace Fm
open PySem L2 PySem.Spec PyProof.Rows
/-! ### plain -/
def errV (c : Str) (fs : List (Str × D)) : D := .dict ((.none, .str c) :: fs.map fun p => (.str p.1, p.2))
/-- C(e, ..) -/
def eMkE (c : Str) (fs : List Str) (a : Lx) : Ex := fun S => (a S).bind fun ds S1 => if ds.length = fs.length then .ok (.d (errV c (fs.zip ds).reverse)) S1 else .bad
/-- C(f = e, ..): the i-th field is the π-i-th argument -/
def eMkEK (c : Str) (fs : List Str) (π : List Nat) (a : Lx) : Ex := fun S => (a S).bind fun ds S1 => if ds.length = fs.length ∧ (pick π ds).length = fs.length then .ok (.d (errV c (fs.zip (pick π ds)).reverse)) S1 else .bad
/-- isinstance(e, C) -/
def isED (T : Str) : D → Option RV
  | .dict ((.none, .str c) :: _) => if c ∈ errN then some (.d (.bool (subX c T))) else none
  | _ => none
def dlook (f : Str) : List (D × D) → Option D
  | [] => none
  | (.str k, x) :: r => if k = f then some x else dlook f r
  | _ :: r => dlook f r
/-- e.f -/
def flED (f : Str) : D → Option RV
  | .dict ((.none, .str c) :: ds) => if c ∈ errN then (dlook f ds).map .d else none
  | _ => none
section
variable {X : Cx} {g : Gh} {W : WX} {e : Expr} {Fe : Ex} {pos : Pos}
/-! ### an expression that makes an error, as a value -/
def tMkV (t : L2.St → Hp → XK → Prop) : TE := fun σ H Q => t σ H fun cls d H' => ∀ a oe us, H' a = none → Zc cls d oe → oe.data = .fields us → Q (.ref a) (upd H' a (.frz oe (.ext fun _ => True)))
theorem pe_mk {t : L2.St → Hp → XK → Prop} (he : PMk X e t) : PE X e (tMkV t) := by
  refine ⟨fun pins s σ H Q I h => thn (he pins s σ H _ I h) fun u s1 hu => ?_⟩
  obtain ⟨a, oe, us, sI, H', cls, d, rfl, J, k, hne, ha, hz, hd, h1, na, os, ag, r, q⟩ := hu
  have J2 := J.laidN (t' := s1.toks) (a := a) (o := .frz oe (.ext fun _ => True)) k hne na ⟨ha, trivial, ⟨oe, ha⟩, fun _ _ _ _ => trivial⟩
  exact ⟨.ref a, _, ⟨J2.ok, os.trans J2.os, ag, J2.base, J2.loc, J2.cell, J2.free, J2.freeC, J2.pin, J2.hok, J2.len⟩, rfl, q a oe us na hz hd⟩
theorem fxs_zip {K : PySem.W.Frag} {H : Hp} : ∀ {fs : List Str} {vs : List V} {ds : List D}, FDs K H vs ds → FXs K H (fs.zip vs) ((fs.zip ds).map fun p => (.str p.1, p.2))
  | [], _, _, _ => .nil
  | _ :: _, _, _, .nil => .nil
  | f :: fs, _, _, .cons h t => .cons h (fxs_zip t)
theorem FXs.rev {K : PySem.W.Frag} {H : Hp} : ∀ {vs : List (Str × V)} {ds : List (D × D)}, FXs K H vs ds → FXs K H vs.reverse ds.reverse
  | _, _, .nil => .nil
  | _, _, .cons h t => by
    rw [List.reverse_cons, List.reverse_cons]
    exact (FXs.rev t).snoc h
theorem FXs.look {K : PySem.W.Frag} {H : Hp} {f : Str} {x : D} : ∀ {vs : List (Str × V)} {ds : List (D × D)}, FXs K H vs ds → dlook f ds = some x → ∃ v, vs.lookup f = some v ∧ FD K H v x
  | _, _, .nil, e => by cases e
  | _, _, .cons (k := k) (v := v) h t, e => by
    rw [dlook] at e
    by_cases z : k = f
    · rw [if_pos z] at e
      cases e
      subst z
      exact ⟨v, by rw [List.lookup_cons, beq_self_eq_true], h⟩
    · rw [if_neg z] at e
      obtain ⟨v', h1, h2⟩ := FXs.look t e
      refine ⟨v', ?_, h2⟩
      rw [List.lookup_cons, beq_eq_false_iff_ne.mpr fun q => z q.symm]
      exact h1
/-! ### the classes -/
structure ErrDX (P : Program) (w : World) (K : PySem.W.Frag) (mg : Str → Option Value) (base : Heap) (x : Str) (qual : Str) (st : Stmt) (fs : List Str) : Prop where
  ex : ∃ (b : EBase), mg x = some (.ref (He.ga K x)) ∧ EBaseOk b ∧ PySem.W.subIn K (.ref (He.ga K x)) (.type "BaseException") = some true ∧ PySem.W.typeIn K (.ref (He.ga K x)) = some (.type "type") ∧ PySem.W.keepIn K (.ref (He.ga K x)) = true ∧
    ((fs = [] ∧ PySem.W.excIn K (He.ga K x) b.mro b.newId = true) ∨
      (fs ≠ [] ∧ ErrC K (He.ga K x) b ∧ ∃ (fI : Addr) (fd : FuncData), PySem.W.findIn K (.ref (He.ga K x)) "__init__" = some (some (.ref fI)) ∧ PySem.W.typeIn K (.ref fI) = some (.type "function") ∧
        FnOk P w K mg base (L2.CX P w) 1 fI fd ("self" :: fs) (spI K (He.ga K x) fs) ∧ Binds K fd ("self" :: fs) [] ∧ Fun K "__init__" qual st fI fd))
variable {n : Nat} {x qual : Str} {st : Stmt} {fs : List Str} {p : Pos}
theorem mk_read {c : Str} {ds : List D} {σ : L2.St} {H0 H1 : Hp} {S0 S1 : Sl} {vs : List V} {Q : VK} (A1 : After X.K g σ S0 H0 S1 H1) (hn : ds.length = fs.length) (fds : FDs X.K H1 vs ds) (h1 : Wants X.K g W (vrE X.K g) H0 σ S1 H1 (.ok (.d (errV c (fs.zip ds).reverse)) S1) Q)
    {d a : Addr} {oe : Obj} {us : Array Value} (hd : H1 d = none) (na : upd H1 d (.xd (fs.zip vs).reverse) a = none) (hz : Zc (.ref (He.ga X.K c)) (some d) oe) (hf : oe.data = .fields us) :
    Q (.ref a) (upd (upd H1 d (.xd (fs.zip vs).reverse)) a (.frz oe (.ext fun _ => True))) := by
  have Y := Wants.yields (rv := .d (errV c (fs.zip ds).reverse)) A1.rel A1.step.trk h1
  have g1 : Grow H1 (upd H1 d (.xd (fs.zip vs).reverse)) := .new hd
  have g2 : Grow (upd H1 d (.xd (fs.zip vs).reverse)) (upd (upd H1 d (.xd (fs.zip vs).reverse)) a (.frz oe (.ext fun _ => True))) := .new na
  have ne : d ≠ a := fun z => by
    subst z
    rw [upd_same] at na
    cases na
  refine Y _ _ (g1.trans g2) (.err upd_same hz hf (by rw [upd_ne ne, upd_same]) ?_)
  have := ((fxs_zip (fs := fs) ((fds.mono g1.keeps).mono g2.keeps)).rev)
  rw [← List.map_reverse] at this
  exact this
theorem de_mkE {es : List Expr} {Fl : Lx} (Df : ErrDX X.prog X.w X.K X.mg X.base x qual st fs) (ok : Ok X W n) (hg : Gl X x) (ha : DL X g W (e :: es) Fl) (hfs : fs ≠ [] := by decide) (hf2 : fs.length ≤ 1000 := by decide) (hn : 2 ≤ n := by decide)
    (hdb : (x == ("__debug__" : Str)) = false := by decide) (he : starEach (e :: es) X.env = (false, eval e X.env) :: starEach es X.env := by rfl) (hpl : (backTo pos (starEach es X.env)).any (·.1) = false := by rfl) :
    DE X g W (.Call (.Name x p) (e :: es) [] pos) (eMkE x fs Fl) := by
  obtain ⟨b, hm, B, sB, tC, kC, h⟩ := Df.ex
  rcases h with ⟨z, _⟩ | ⟨_, T, fI, fd, iC, tI, F1, hb, _⟩
  · exact absurd z hfs
  refine PE.imp (pe_mk (pmk_err B T iC tI F1 (ok.room.mono hn) hb hg hm ha hf2 hdb he hpl)) fun σ H Q h => ?_
  obtain ⟨S, R, h⟩ := h
  refine (Wants.step (vr := vrL X.K) R h).mono fun vs H1 ⟨ds, S1, A1, fds, h1⟩ => ?_
  have fds : FDs X.K H1 vs ds := fds
  have h1 : Wants X.K g W (vrE X.K g) H σ S1 H1 (if ds.length = fs.length then .ok (.d (errV x (fs.zip ds).reverse)) S1 else .bad) Q := h1
  by_cases hl : ds.length = fs.length
  · rw [if_pos hl] at h1
    exact ⟨by rw [fds.length]; exact hl, fun d hd a oe us na hz hf => mk_read A1 hl fds h1 hd na hz hf⟩
  · rw [if_neg hl] at h1; exact h1.elim
theorem de_mkE0 (Df : ErrDX X.prog X.w X.K X.mg X.base x qual st []) (ok : Ok X W n) (hg : Gl X x) (hdb : (x == ("__debug__" : Str)) = false := by decide) :
    DE X g W (.Call (.Name x p) [] [] pos) (eMkE x [] lNil) := by
  obtain ⟨b, hm, B, sB, tC, kC, h⟩ := Df.ex
  rcases h with ⟨_, q⟩ | ⟨z, _⟩
  · refine PE.imp (pe_mk (pmk_err0 B.F q hm kC (raises_own sB tC) hg hdb)) fun σ H Q h => ?_
    obtain ⟨S, R, h⟩ := h
    intro a oe us na hz hf
    have h : Wants X.K g W (vrE X.K g) H σ S H (.ok (.d (errV x [])) S) Q := h
    exact Wants.yields R (fun _ z => z) h _ _ (.new na) (.err0 upd_same hz hf)
  · exact absurd rfl z
/-! ### by name -/
def tMkEK (C : Addr) (fs : List Str) (π : List Nat) (tk : TA) : L2.St → Hp → XK → Prop := fun σ H Q => tk σ H fun vs H1 => (pick π vs).length = fs.length ∧ vs.length = fs.length ∧ ∀ d, H1 d = none → Q (.ref C) (some d) (upd H1 d (.xd (fs.zip (pick π vs)).reverse))
theorem pmk_errK {b : EBase} {C fI : Addr} {k : Nat} {fd : FuncData} {kws : List Keyword} {ks : List Str} {π : List Nat} {tk : TA} (B : EBaseOk b) (T : ErrC X.K C b) (iC : PySem.W.findIn X.K (.ref C) "__init__" = some (some (.ref fI))) (tI : PySem.W.typeIn X.K (.ref fI) = some (.type "function"))
    (F1 : FnOk X.prog X.w X.K X.mg X.base (L2.CX X.prog X.w) k fI fd ("self" :: fs) (spI X.K C fs)) (fu : Fun X.K "__init__" qual st fI fd) (hr : Room (k + 1) X.A) (hg : Gl X x) (hm : X.mg x = some (.ref C)) (hkw : PK X kws tk)
    (hbind : ∀ (kV doc pm : Value) (an : Option Addr) (cdv ct me : Value) (ws : List Value), ws.length = fs.length → bindArgs (PySem.W.fnOf "__init__" qual (defArgs st) (defBody st) (defScope st) .none kV doc pm an cdv ct) ⟨[me], ks.zip ws⟩ = pure ((("self" : Str) :: fs).zip (me :: pick π ws)))
    (hall : (backToKw pos (keywordEach kws X.env)).all (·.1.isSome) = true := by rfl) (hks : (backToKw pos (keywordEach kws X.env)).filterMap (·.1) = ks := by rfl)
    (hdb : (x == ("__debug__" : Str)) = false := by decide) (hpl : ((backTo pos (starEach [] X.env)).any (·.1) || (backToKw pos (keywordEach kws X.env)).any (·.1.isNone)) = false := by rfl) :
    PMk X (.Call (.Name x p) [] kws pos) (tMkEK C fs π tk) := by
  obtain ⟨oc, od, kV, doc, pm, an, cdv, ct, osl, rfl, lk, hcd⟩ := fu.ex
  intro pins s σ H Q I h
  refine wpAny_Call_Name_kw (ld_glob I hg hm ?_ hdb)
  refine PySem.W.callWith_KW0 (h₀ := X.base) I.ok.mod.kin T.kC hall (thn (hkw.run pos pins s σ H _ I h) fun ws s1 ⟨vs, H1, I1, r1, hz, hz2, q1⟩ => ⟨I1.kIn, ?_⟩) hpl
  rw [hks]
  show wpAny _ _ (call (.ref C) [] (ks.zip ws)) _ _ _
  obtain ⟨nm, N, qn, bs, bm, hdct, sn, sub, ab, col, dd, k0, k1, k2, k3, k5, hC, hT⟩ := PySem.W.excInit_of I1.kIn T.ini
  obtain ⟨hp, g, dr, tk', os⟩ := s1
  have hsz : hp.objs.size ≤ hp.objs.size + 1 := Nat.le_succ _
  have hn : H1 (hp.objs.size + 1) = none := I1.hok.fresh hsz
  have hlw : ws.length = fs.length := by rw [← r1.length]; exact hz2
  have kk : ∀ b o, hp.get? b = some o → ((hp.push (PySem.W.kdv_tup [])).push (PySem.HandSPX.excO C hp.objs.size)).get? b = some o := fun b o e => Heap.get?_push_of_some _ (Heap.get?_push_of_some _ e)
  have hget : ((hp.push (PySem.W.kdv_tup [])).push (PySem.HandSPX.excO C hp.objs.size)).get? (hp.objs.size + 1) = some (PySem.HandSPX.excO C hp.objs.size) := by heap_get
  have I2 : Inv X pins σ (upd H1 (hp.objs.size + 1) (exo (hp.objs.size + 1) C none)) ⟨(hp.push (PySem.W.kdv_tup [])).push (PySem.HandSPX.excO C hp.objs.size), g, dr, tk', os⟩ :=
    I1.laid (t' := tk') (a := hp.objs.size + 1) (o := exo (hp.objs.size + 1) C none) (h' := (hp.push (PySem.W.kdv_tup [])).push (PySem.HandSPX.excO C hp.objs.size)) kk hsz (exo_ok hget)
  have r2 : Vals (V.ref (hp.objs.size + 1) :: pick π vs) (Value.ref (hp.objs.size + 1) :: pick π ws) := .cons rfl (pick_vals r1 π)
  generalize hA : hp.objs.size + 1 = a at hsz hn hget I2 r2
  let QI : VK := fun v H2 => v = .non ∧ ∃ d, H1 d = none ∧ d ≠ a ∧ H2 = upd (upd (upd H1 a (exo a C none)) d (exd d (fs.zip (pick π vs)).reverse)) a (exo a C (some d))
  have hsp : spI X.K C fs (V.ref a :: pick π vs) (upd H1 a (exo a C none)) QI fun _ _ _ => False :=
    ⟨a, pick π vs, rfl, hz, upd_same, fun d hd ne => ⟨rfl, d, by rw [upd_ne ne] at hd; exact hd, ne, rfl⟩⟩
  refine wpAny_call (PySem.HandSPX.kw_call (us := []) (kw := ks.zip ws) B.F hT hC (Nat.zero_le _) (PySem.W.looks_findIn I1.kIn iC) (fun self => PySem.W.bind_fn I1.kIn self tI) ?_)
  rw [hA]
  refine codeAny_mono (F1.run _ X.stack _ _ ⟨[Value.ref a], ks.zip ws⟩ (Value.ref a :: pick π ws) _ _ (fun _ _ _ => False) (hr.make C [] (ks.zip ws)) (I2.env0.make C [] (ks.zip ws)) (.of_eq (hbind kV doc pm an cdv ct (.ref a) ws hlw)) r2 hsp) fun r s' hq' => ?_
  cases r with
  | error er =>
    obtain ⟨_, _, _, _, _, _, _, _, _, _, _, _, z⟩ := hq'
    exact z.elim
  | ok fl =>
    cases fl with
    | next => exact False.elim hq'
    | brk => exact False.elim hq'
    | cont => exact False.elim hq'
    | ret u =>
      obtain ⟨v, H2, os2, bare2, un2, hok2, rv, ev, d, hd1, ne, rfl⟩ := hq'
      subst ev
      obtain ⟨h2, g2, d2, t2, os'⟩ := s'
      refine ⟨rv, mk_end (d := d) (fs := (fs.zip (pick π vs)).reverse) (raises_own T.exC T.tyC) I1 hsz kk un2 hok2 os2 bare2 upd_same (by rw [upd_ne ne, upd_same]) hd1 ?_⟩
      have e : upd (del (upd (upd (upd H1 a (exo a C none)) d (exd d (fs.zip (pick π vs)).reverse)) a (exo a C (some d))) a) d (HO.xd (fs.zip (pick π vs)).reverse) = upd H1 d (.xd (fs.zip (pick π vs)).reverse) := by
        funext c
        by_cases h1 : c = d
        · rw [h1, upd_same, upd_same]
        · rw [upd_ne h1, upd_ne h1]
          by_cases h2 : c = a
          · rw [h2, del_same, hn]
          · rw [del_ne h2, upd_ne h2, upd_ne h1, upd_ne h2]
      rw [e]
      exact q1 d hd1
theorem fds_get {K : PySem.W.Frag} {H : Hp} : ∀ {vs : List V} {ds : List D} (_ : FDs K H vs ds) (i : Nat) (hv : i < vs.length) (hi : i < ds.length), FD K H vs[i] ds[i]
  | _, _, .nil, i, hv, _ => by simp at hv
  | _, _, .cons h t, 0, _, _ => h
  | _, _, .cons h t, i + 1, hv, hi => fds_get t i (by simpa using hv) (by simpa using hi)
theorem pick_fds {K : PySem.W.Frag} {H : Hp} {vs : List V} {ds : List D} (h : FDs K H vs ds) : ∀ π : List Nat, FDs K H (pick π vs) (pick π ds)
  | [] => .nil
  | i :: π => by
    unfold pick
    rw [List.filterMap_cons, List.filterMap_cons]
    have e := h.length
    by_cases hi : i < ds.length
    · have hv : i < vs.length := by omega
      rw [List.getElem?_eq_getElem hi, List.getElem?_eq_getElem hv]
      exact .cons (fds_get h i hv hi) (pick_fds h π)
    · rw [List.getElem?_eq_none (by omega), List.getElem?_eq_none (by omega)]
      exact pick_fds h π
theorem de_mkEK {kws : List Keyword} {ks : List Str} {π : List Nat} {Fb : Lx} (Df : ErrDX X.prog X.w X.K X.mg X.base x qual st fs) (ok : Ok X W n) (hg : Gl X x) (hkw : DK X g W kws Fb)
    (hbind : ∀ (kV doc pm : Value) (an : Option Addr) (cdv ct me : Value) (ws : List Value), ws.length = fs.length → bindArgs (PySem.W.fnOf "__init__" qual (defArgs st) (defBody st) (defScope st) .none kV doc pm an cdv ct) ⟨[me], ks.zip ws⟩ = pure ((("self" : Str) :: fs).zip (me :: pick π ws)))
    (hfs : fs ≠ [] := by decide) (hn : 2 ≤ n := by decide)
    (hall : (backToKw pos (keywordEach kws X.env)).all (·.1.isSome) = true := by rfl) (hks : (backToKw pos (keywordEach kws X.env)).filterMap (·.1) = ks := by rfl)
    (hdb : (x == ("__debug__" : Str)) = false := by decide) (hpl : ((backTo pos (starEach [] X.env)).any (·.1) || (backToKw pos (keywordEach kws X.env)).any (·.1.isNone)) = false := by rfl) :
    DE X g W (.Call (.Name x p) [] kws pos) (eMkEK x fs π Fb) := by
  obtain ⟨b, hm, B, sB, tC, kC, h⟩ := Df.ex
  rcases h with ⟨z, _⟩ | ⟨_, T, fI, fd, iC, tI, F1, hb, fu⟩
  · exact absurd z hfs
  refine PE.imp (pe_mk (pmk_errK B T iC tI F1 fu (ok.room.mono hn) hg hm hkw hbind hall hks hdb hpl)) fun σ H Q h => ?_
  obtain ⟨S, R, h⟩ := h
  refine (Wants.step (vr := vrL X.K) R h).mono fun vs H1 ⟨ds, S1, A1, fds, h1⟩ => ?_
  have fds : FDs X.K H1 vs ds := fds
  have h1 : Wants X.K g W (vrE X.K g) H σ S1 H1 (if ds.length = fs.length ∧ (pick π ds).length = fs.length then .ok (.d (errV x (fs.zip (pick π ds)).reverse)) S1 else .bad) Q := h1
  have fp := pick_fds fds π
  by_cases hl : ds.length = fs.length ∧ (pick π ds).length = fs.length
  · rw [if_pos hl] at h1
    exact ⟨by rw [fp.length]; exact hl.2, by rw [fds.length]; exact hl.1, fun d hd a oe us na hz hf => mk_read A1 hl.2 fp h1 hd na hz hf⟩
  · rw [if_neg hl] at h1; exact h1.elim
end
end Fm

set_option maxHeartbeats 4000000
/-! FmXc: isinstance(e, C), e.f of an error that is data; the classes. -/
namespace Fm
open PySem L2 PySem.Spec PyProof.Rows
section
variable {K : PySem.W.Frag} {H : Hp} {v : V}
theorem td_err {c : Str} {ds : List (D × D)} (h : TD K H v (.dict ((.none, .str c) :: ds))) : ∃ (a : Addr) (oe : Obj) (u : HO) (us : Array Value) (d : Option Addr), v = .ref a ∧ H a = some (.frz oe u) ∧ Zc (.ref (He.ga K c)) d oe ∧ oe.data = .fields us ∧
    ((d = none ∧ ds = []) ∨ ∃ dd vs, d = some dd ∧ H dd = some (.xd vs) ∧ FXs K H vs ds) := by
  rcases h with h | ⟨a, vs, ds', rfl, e, h, f⟩ | ⟨a, vs, ds', rfl, e, h, f⟩
  · cases h with
    | dct h f => cases f with
      | cons e _ _ => cases e
    | err h z d q hs => exact ⟨_, _, _, _, _, rfl, h, z, d, .inr ⟨_, _, rfl, q, hs⟩⟩
    | err0 h z d => exact ⟨_, _, _, _, _, rfl, h, z, d, .inl ⟨rfl, rfl⟩⟩
  · cases e
  · cases e
    cases f with
    | cons e _ _ => cases e
end
section
variable {X : Cx} {g : Gh} {W : WX} {rs ts : List Str}
theorem instV {pins : List (Addr × Obj)} {σ : L2.St} {H : Hp} {s : Shared} {a C : Addr} {oe : Obj} {u : HO} {us : Array Value} {d : Option Addr} (I : Inv X pins σ H s) (h1 : H a = some (.frz oe u)) (h2 : Zc (.ref C) d oe) (h3 : oe.data = .fields us)
    (hx : d = none ∨ ∃ dd vs, d = some dd ∧ H dd = some (.xd vs)) : ∃ od, PySem.W.InstAt s.heap a oe C od := by
  have ha : s.heap.get? a = some oe := (I.hok a _ h1).1
  obtain ⟨oc, odc, oda, osl⟩ := oe
  obtain ⟨z1, z2⟩ := h2
  dsimp only at z1 z2 h3
  subst z1 z2 h3
  rcases hx with rfl | ⟨dd, vs, rfl, hd⟩
  · exact ⟨none, ha, rfl, rfl, trivial⟩
  · have hx : ObjOk X.prog X.w H s.heap dd (.xd vs) := I.hok dd _ hd
    obtain ⟨mA, hns, _⟩ := hx
    obtain ⟨od, ho, _⟩ := lookIn_ns hns
    exact ⟨some od, ha, rfl, rfl, ho⟩
def rIsV (K : PySem.W.Frag) (rs : List Str) : List V → Hp → VK → Prop := fun xs H Q => ∃ (a : Addr) (oe : Obj) (u : HO) (us : Array Value) (c : Str) (d : Option Addr) (v : V) (cv : Value) (b : Bool), xs = [.ref a, v] ∧ (∀ u, RelV v u → u = cv) ∧
  H a = some (.frz oe u) ∧ Zc (.ref (He.ga K c)) d oe ∧ oe.data = .fields us ∧ (d = none ∨ ∃ dd vs, d = some dd ∧ H dd = some (.xd vs)) ∧ c ∈ rs ∧ PySem.W.kitOne K (.ref (He.ga K c)) cv = some b ∧ Q (.bl b) H
theorem call_isV (Er : Errs X.K g.cl rs ts) : CallR X (.builtin "isinstance") (rIsV X.K rs) := by
  intro pins s σ H xs us Q I r h
  obtain ⟨a, oe, u, vs, c, d, v, cv, b, rfl, hcv, h1, h2, h3, hx, hr, e, q⟩ := h
  cases r with
  | cons rx rr =>
    cases rr with
    | cons rt rr =>
      cases rr
      cases rx
      have ec := hcv _ rt
      subst ec
      obtain ⟨od, J⟩ := instV I h1 h2 h3 hx
      obtain ⟨cd, hcd, _⟩ := PySem.W.any_some (Er.hd _ hr)
      rcases Er.sp with z | ⟨s1, s2⟩
      · rw [z] at hr; cases hr
      · exact PySem.W.kia_one (PySem.W.kitx_exc (by rw [hcd]; rfl) (Er.ga _ hr) (Er.gg _ hr) (Er.be _ hr) (Er.ca _ hr) s1 s2 (Er.ob _ hr)) I.kIn J e (fun z => nomatch z) fun tk => ⟨.bl b, H, I.kept (t' := tk) fun _ _ z => z, rfl, q⟩
theorem isV_read {Fe : Ex} {T : Str} {v : V} {cv : Value} {σ : L2.St} {H : Hp} {Q : VK} (hN : ∀ c ∈ errN, c ∈ rs) (hcv : ∀ u, RelV v u → u = cv) (hk : ∀ c ∈ rs, PySem.W.kitOne X.K (.ref (He.ga X.K c)) cv = some (subX c T)) (h : rE X.K g W (eUn (isED T) Fe) σ H Q) :
    tCB (rIsV X.K rs) (tCons (rE X.K g W Fe) (tCons (tC v) tNil)) σ H Q := by
  obtain ⟨S, R, h⟩ := h
  refine (Wants.step (vr := vrE X.K g) R h).mono fun x H1 ⟨vx, S1, A1, r1, h1⟩ => ?_
  show rIsV X.K rs [x, v] H1 Q
  cases e1 : view S1 vx with
  | none => rw [e1] at h1; exact h1.elim
  | some dx =>
    rw [e1] at h1
    have h1 : Wants X.K g W (vrE X.K g) H σ S1 H1 (give S1 (isED T dx)) Q := h1
    have td := r1.1.td A1.rel e1
    unfold isED at h1
    split at h1
    · rename_i c ds hqq
      by_cases hc : c ∈ errN
      · rw [if_pos hc] at h1
        obtain ⟨a, oe, u, us, d, rfl, z1, z2, z3, z4⟩ := td_err td
        have Y := Wants.yields (rv := .d (.bool (subX c T))) A1.rel A1.step.trk h1
        exact ⟨a, oe, u, us, c, d, v, cv, subX c T, rfl, hcv, z1, z2, z3, z4.elim (fun q => .inl q.1) (fun ⟨dd, vs, q1, q2, _⟩ => .inr ⟨dd, vs, q1, q2⟩), hN c hc, hk c (hN c hc), Y.same (.bl _)⟩
      · rw [if_neg hc] at h1; exact h1.elim
    · exact h1.elim
variable {e : Expr} {Fe : Ex} {c : Str} {p cp pos : Pos}
theorem de_isV (Er : Errs X.K g.cl rs ts) (hN : ∀ c ∈ errN, c ∈ rs) (he' : DE X g W e Fe) (hc : Glb X c (He.ga X.K c)) (hct : c ∈ ts) (hg : Gl X "isinstance") (hm : X.mg "isinstance" = none)
    (he : starEach (e :: [.Name c cp]) X.env = (false, eval e X.env) :: starEach [.Name c cp] X.env := by rfl) (he2 : starEach [.Name c cp] X.env = (false, eval (.Name c cp) X.env) :: starEach [] X.env := by rfl) (hpl : (backTo pos (starEach [.Name c cp] X.env)).any (·.1) = false := by rfl) :
    DE X g W (.Call (.Name "isinstance" p) [e, .Name c cp] [] pos) (eUn (isED c) Fe) :=
  PE.imp (pe_callB (call_isV Er) hg hm (by decide +kernel) (pa_cons he' (pa_cons (pe_glob (v := .ref (He.ga X.K c)) hc.1 hc.2.2 rfl hc.2.1) pa_nil he2) he) (by decide) (by decide) he hpl) fun σ H Q h => isV_read hN (fun u r => r) (fun x hx => Er.kit _ hx _ hct) h
theorem de_isVb {T : String} (Er : Errs X.K g.cl rs ts) (hN : ∀ c ∈ errN, c ∈ rs) (he' : DE X g W e Fe) (hT : T ∈ errB3) (hcm : Gl X (Str.ofString T)) (hcn : X.mg (Str.ofString T) = none) (hbt : bootBuiltins (Str.ofString T) = some (.type T)) (hg : Gl X "isinstance") (hm : X.mg "isinstance" = none)
    (hnn : Str.ofString T ≠ "__name__" := by decide) (hdT : (Str.ofString T == ("__debug__" : Str)) = false := by decide)
    (he : starEach (e :: [.Name (Str.ofString T) cp]) X.env = (false, eval e X.env) :: starEach [.Name (Str.ofString T) cp] X.env := by rfl) (he2 : starEach [.Name (Str.ofString T) cp] X.env = (false, eval (.Name (Str.ofString T) cp) X.env) :: starEach [] X.env := by rfl) (hpl : (backTo pos (starEach [.Name (Str.ofString T) cp] X.env)).any (·.1) = false := by rfl) :
    DE X g W (.Call (.Name "isinstance" p) [e, .Name (Str.ofString T) cp] [] pos) (eUn (isED (Str.ofString T)) Fe) :=
  PE.imp (pe_callB (call_isV Er) hg hm (by decide +kernel) (pa_cons he' (pa_cons (pe_bltn (v := .ty T) hcm hcn hbt rfl hnn hdT) pa_nil he2) he) (by decide) (by decide) he hpl) fun σ H Q h => isV_read hN (fun u r => r) (fun x hx => Er.kib _ hx _ hT) h
/-! ### a field -/
def tXfV (K : PySem.W.Frag) (rs : List Str) (f : Str) (te : TE) : TE := fun σ H Q => te σ H fun x H1 => ∃ (a : Addr) (oe : Obj) (u : HO) (us : Array Value) (c : Str) (dd : Addr) (vs : List (Str × V)) (v : V), x = .ref a ∧ H1 a = some (.frz oe u) ∧ Zc (.ref (He.ga K c)) (some dd) oe ∧ oe.data = .fields us ∧ c ∈ rs ∧ H1 dd = some (.xd vs) ∧ vs.lookup f = some v ∧ Q v H1
theorem pe_xfV {f : Str} {te : TE} (Er : Errs X.K g.cl rs ts) (hf : f ∈ errFs) (he : PE X e te) (hb : attributeBase e f X.env (eval e X.env) = eval e X.env := by rfl) : PE X (.Attribute e f pos) (tXfV X.K rs f te) := by
  refine ⟨fun pins s σ H Q I h => ?_⟩
  refine attr_of hb (thn (he.run pins s σ H _ I h) fun u s1 hh => ?_)
  obtain ⟨x, H1, I1, rx, a, oe, uo, us, c, dd, vs, v, ex, ha, hz, hd, hr, ea, l, q⟩ := hh
  subst ex
  obtain rfl : u = Value.ref a := rx
  have ha' : s1.heap.get? a = some oe := (I1.hok a _ ha).1
  have hx : ObjOk X.prog X.w H1 s1.heap dd (.xd vs) := I1.hok dd _ ea
  obtain ⟨mA, hns, hr'⟩ := hx
  obtain ⟨od, ho, hl⟩ := lookIn_ns hns
  obtain ⟨u, hu, ru⟩ := RelO.some_of (v := v) (o := mA f) (by rw [← l]; exact hr' f)
  have J : PySem.W.InstAt s1.heap a oe (He.ga X.K c) (some od) := ⟨ha', hz.1, by unfold PySem.W.notCls; rw [hd] <;> rfl, by rw [hz.2]; exact ho⟩
  exact HandSPX.exc_get I1.kIn J (Er.ga _ hr) (Er.gg _ hr) (Er.be _ hr) (PySem.W.findObj_own (Er.hd _ hr) (Er.fld _ hr _ hf) rfl (by rw [hl, hu])) (handed_of ru) ⟨v, H1, I1.tok _, ru, q⟩
theorem de_flV {f : Str} (Er : Errs X.K g.cl rs ts) (hN : ∀ c ∈ errN, c ∈ rs) (hf : f ∈ errFs) (he : DE X g W e Fe) (hb : attributeBase e f X.env (eval e X.env) = eval e X.env := by rfl) : DE X g W (.Attribute e f pos) (eUn (flED f) Fe) := by
  refine PE.imp (pe_xfV Er hf he hb) ?_
  rintro σ H Q ⟨S, R, h⟩
  refine (Wants.step (vr := vrE X.K g) R h).mono fun x H1 ⟨vx, S1, A1, r1, h1⟩ => ?_
  cases e1 : view S1 vx with
  | none => rw [e1] at h1; exact h1.elim
  | some dx =>
    rw [e1] at h1
    have h1 : Wants X.K g W (vrE X.K g) H σ S1 H1 (give S1 (flED f dx)) Q := h1
    have td := r1.1.td A1.rel e1
    unfold flED at h1
    split at h1
    · rename_i c ds hqq
      by_cases hc : c ∈ errN
      · rw [if_pos hc] at h1
        cases q : dlook f ds with
        | none => rw [q] at h1; exact h1.elim
        | some y =>
          rw [q] at h1
          obtain ⟨a, oe, u, us, d, rfl, z1, z2, z3, z4⟩ := td_err td
          have Y := Wants.yields (rv := .d y) A1.rel A1.step.trk h1
          rcases z4 with ⟨_, rfl⟩ | ⟨dd, vs, rfl, q1, q2⟩
          · cases q
          · obtain ⟨v, l, fv⟩ := q2.look q
            exact ⟨a, oe, u, us, c, dd, vs, v, rfl, z1, z2, z3, hN c hc, q1, l, Y.same fv⟩
      · rw [if_neg hc] at h1; exact h1.elim
    · exact h1.elim
end
end Fm

set_option maxHeartbeats 4000000
/-! FmXd: the error classes that are called for a value: none, one, two fields. -/
namespace Fm
open PySem L2 PySem.Spec PyProof.Rows
section
variable {P : Program} {w : World} {K : PySem.W.Frag} {mg : Str → Option Value} {base : Heap} {x : Str} {b : EBase} {C : Addr} {qual : Str} {st : Stmt} {f : Addr} {fd : FuncData} {f1 f2 : Str}
/-- def __init__(self, f1, f2): self.f1 = f1; self.f2 = f2 -/
theorem init2_ok (F : Fun K "__init__" qual st f fd) (S : FnScope ["self", f1, f2] ["self", f1, f2] (defScope st)) (B : EBaseOk b) (T : ErrC K C b) (hn1 : PySem.W.findIn K (.ref C) f1 = some none) (hn2 : PySem.W.findIn K (.ref C) f2 = some none)
    (hb : ∀ (cdv : Value) (A : Around) (outer : List Env) (s : Shared) (H : Hp) (E : XK), PSs (cxOf (L2.CX P w) P w K mg base ["self", f1, f2] qual (defScope st) f cdv A outer s H E) (defBody st) (tSeq (tErr K b f1 (tVar 0) (tVar 1)) (tErr K b f2 (tVar 0) (tVar 2)))) :
    FnOk P w K mg base (L2.CX P w) 1 f fd ["self", f1, f2] (spI K C [f1, f2]) := by
  refine F.okX S (fun vs H Q E h => ?_) fun cdv A outer s H vs Q E hr h => ⟨_, hb cdv A outer s H E, ?_⟩
  · obtain ⟨a, ws, rfl, hl, _⟩ := h
    simp only [List.length_cons, hl]
  · obtain ⟨a, ws, rfl, hl, ha, q⟩ := h
    match ws, hl with
    | [v1, v2], _ =>
      refine ⟨v1, rfl, .ref a, rfl, a, C, rfl, T, hn1, .inl ⟨ha, fun d hd ne => ⟨v2, rfl, .ref a, rfl, a, C, rfl, T, hn2, .inr ⟨d, [(f1, v1)], upd_same, by rw [upd_ne ne, upd_same], by simp, ?_⟩⟩⟩⟩
      have e : upd (upd (upd H d (exd d [(f1, v1)])) a (exo a C (some d))) d (exd d [(f2, v2), (f1, v1)]) = upd (upd H d (exd d (([f1, f2] : List Str).zip [v1, v2]).reverse)) a (exo a C (some d)) := by
        funext c
        by_cases h1 : c = d
        · rw [h1, upd_same, upd_ne ne, upd_same]
          rfl
        · rw [upd_ne h1]
          by_cases h2 : c = a
          · rw [h2, upd_same, upd_same]
          · rw [upd_ne h2, upd_ne h1, upd_ne h2, upd_ne h1]
      rw [e]
      exact q d hd ne
theorem errdx0 (B : EBaseOk b) (h : errD0 K x b = true) (hm : mg x = some (.ref (He.ga K x))) : ErrDX P w K mg base x qual st [] := by
  obtain ⟨h1, h2⟩ := and2 h
  obtain ⟨a1, h1⟩ := and2 h1
  obtain ⟨a2, a3⟩ := and2 h1
  exact ⟨b, hm, B, of_decide_eq_true a1, of_decide_eq_true a2, a3, .inl ⟨rfl, h2⟩⟩
theorem errdx1 (B : EBaseOk b) (h : errD1 K x [f1] b = true) (hm : mg x = some (.ref (He.ga K x))) (F : FunD K "__init__" qual (defArgs st) (defBody st) (defScope st) [] [] (He.ma K (He.ga K x) "__init__") fd) (S : FnScope ["self", f1] ["self", f1] (defScope st))
    (hbd : ∀ (kV doc pm : Value) (an : Option Addr) (cdv ct : Value) (us : List Value), us.length = (["self", f1] : List Str).length → bindArgs (PySem.W.fnOf "__init__" qual (defArgs st) (defBody st) (defScope st) .none kV doc pm an cdv ct) ⟨us, []⟩ = pure ((["self", f1] : List Str).zip us))
    (hb : ∀ (cdv : Value) (A : Around) (outer : List Env) (s : Shared) (H : Hp) (E : XK), PSs (cxOf (L2.CX P w) P w K mg base ["self", f1] qual (defScope st) (He.ma K (He.ga K x) "__init__") cdv A outer s H E) (defBody st) (tErr K b f1 (tVar 0) (tVar 1))) : ErrDX P w K mg base x qual st [f1] := by
  obtain ⟨h1, h⟩ := and2 h
  obtain ⟨a1, h1⟩ := and2 h1
  obtain ⟨a2, a3⟩ := and2 h1
  obtain ⟨b1, h⟩ := and2 h
  obtain ⟨b2, h⟩ := and2 h
  obtain ⟨b3, h⟩ := and2 h
  obtain ⟨b4, h⟩ := and2 h
  obtain ⟨b5, h⟩ := and2 h
  obtain ⟨b6, b7⟩ := and2 h
  have a1 := of_decide_eq_true a1
  have a2 := of_decide_eq_true a2
  have F' := fun_ofQ F
  have T : ErrC K (He.ga K x) b := ⟨b1, b2, b3, of_decide_eq_true b4, a1, a2, a3⟩
  exact ⟨b, hm, B, a1, a2, a3, .inr ⟨by simp, T, _, fd, of_decide_eq_true b5, of_decide_eq_true b6, init1_ok F' S B T (of_decide_eq_true (List.all_eq_true.mp b7 f1 (List.mem_singleton.mpr rfl))) hb, F'.binds hbd, F'⟩⟩
theorem errdx2 (B : EBaseOk b) (h : errD1 K x [f1, f2] b = true) (hm : mg x = some (.ref (He.ga K x))) (F : FunD K "__init__" qual (defArgs st) (defBody st) (defScope st) [] [] (He.ma K (He.ga K x) "__init__") fd) (S : FnScope ["self", f1, f2] ["self", f1, f2] (defScope st))
    (hbd : ∀ (kV doc pm : Value) (an : Option Addr) (cdv ct : Value) (us : List Value), us.length = (["self", f1, f2] : List Str).length → bindArgs (PySem.W.fnOf "__init__" qual (defArgs st) (defBody st) (defScope st) .none kV doc pm an cdv ct) ⟨us, []⟩ = pure ((["self", f1, f2] : List Str).zip us))
    (hb : ∀ (cdv : Value) (A : Around) (outer : List Env) (s : Shared) (H : Hp) (E : XK), PSs (cxOf (L2.CX P w) P w K mg base ["self", f1, f2] qual (defScope st) (He.ma K (He.ga K x) "__init__") cdv A outer s H E) (defBody st) (tSeq (tErr K b f1 (tVar 0) (tVar 1)) (tErr K b f2 (tVar 0) (tVar 2)))) : ErrDX P w K mg base x qual st [f1, f2] := by
  obtain ⟨h1, h⟩ := and2 h
  obtain ⟨a1, h1⟩ := and2 h1
  obtain ⟨a2, a3⟩ := and2 h1
  obtain ⟨b1, h⟩ := and2 h
  obtain ⟨b2, h⟩ := and2 h
  obtain ⟨b3, h⟩ := and2 h
  obtain ⟨b4, h⟩ := and2 h
  obtain ⟨b5, h⟩ := and2 h
  obtain ⟨b6, b7⟩ := and2 h
  have a1 := of_decide_eq_true a1
  have a2 := of_decide_eq_true a2
  have F' := fun_ofQ F
  have T : ErrC K (He.ga K x) b := ⟨b1, b2, b3, of_decide_eq_true b4, a1, a2, a3⟩
  have b7 := List.all_eq_true.mp b7
  exact ⟨b, hm, B, a1, a2, a3, .inr ⟨by simp, T, _, fd, of_decide_eq_true b5, of_decide_eq_true b6, init2_ok F' S B T (of_decide_eq_true (b7 f1 (by simp))) (of_decide_eq_true (b7 f2 (by simp))) hb, F'.binds hbd, F'⟩⟩
end
end Fm

namespace F
noncomputable section
open PySem Fm
/-- _law_cell (_law_script, _law_k); slots: _law_script, _law_k, _law_state, _law_number_here -/
def b_cell_1 : Sx := (sSet 2 (eOp modD (eOp addD (eOp mulD (eVar 2) (eC (.int 42013))) (eVar 3)) (eC (.int 2147483387))))
def m_cell : Sx := (sSeq (sIf (tBl (eOp ltD (eVar 1) (eFn (on1 lenD) (aCons (eVar 0) aNil)))) (sRet (eOp ixOp (eVar 0) (eVar 1))) sNext) (sSeq (sSet 2 (eOp modD (eOp mulD (eC (.int 70003)) (eOp addD (eOp addD (eOp mulD (eVar 1) (eVar 1)) (eOp mulD (eC (.int 13)) (eVar 1))) (eC (.int 11)))) (eC (.int 2147483387)))) (sSeq (sFor (wSeq (eFrz (eSlice (eVar 0) pNone (pSome (eC (.int 3)))))) (gName 3) b_cell_1) (sRet (eVar 2)))))
def f_cell : Fn := fnOf 2 4 (fxL [0, 1]) m_cell
theorem a_cell (x0 : SV) (x1 : SV) : f_cell [x0, x1] = (m_cell [some x0, some x1, none, none]).ends 2 := fnOf_ap rfl
/-- _law_pool (_law_cell_here); slots: _law_cell_here, _law_digits -/
def m_pool : Sx := (sSeq (sSet 1 (eIf (tOr (tBl (eOp ltD (eVar 0) (eC (.int 0)))) (tBl (eOp geD (eVar 0) (eOp powD (eC (.int 10)) (eC (.int 18)))))) (eFn (on1 absD) (aCons (eVar 0) aNil)) (eC (.int 0)))) (sRet (eLst (lCons (eFrz (eOp modD (eVar 0) (eC (.int 2147483387)))) (lCons (eFrz (eVar 1)) (lCons (eFrz (eC (.int 0))) lNil))))))
def f_pool : Fn := fnOf 1 2 (fxL [0]) m_pool
theorem a_pool (x0 : SV) : f_pool [x0] = (m_pool [some x0, none]).ends 1 := fnOf_ap rfl
/-- _law_draw (_law_pool_here, _law_upto); slots: _law_pool_here, _law_upto, _law_state, _law_digit -/
def m_draw : Sx := (sSeq (sAsg (gSub (eVar 0) (eC (.int 2))) (eFrz (eOp addD (eOp ixOp (eVar 0) (eC (.int 2))) (eC (.int 1))))) (sSeq (sSet 2 (eOp ixOp (eVar 0) (eC (.int 0)))) (sSeq (sAsg (gSub (eVar 0) (eC (.int 0))) (eFrz (eOp modD (eOp addD (eOp addD (eOp mulD (eVar 2) (eOp addD (eOp modD (eVar 2) (eC (.int 43019))) (eC (.int 28001)))) (eOp mulD (eC (.int 80021)) (eOp ixOp (eVar 0) (eC (.int 2))))) (eC (.int 7))) (eC (.int 2147483387))))) (sSeq (sIf (tBl (eOp gtD (eOp ixOp (eVar 0) (eC (.int 1))) (eC (.int 0)))) (sSeq (sAsg (gTup [(gSub (eVar 0) (eC (.int 1))), (gName 3)]) (eFrz (eFn divmodD (aCons (eOp ixOp (eVar 0) (eC (.int 1))) (aCons (eVar 1) aNil))))) (sRet (eVar 3))) sNext) (sRet (eOp modD (eOp fdivD (eOp ixOp (eVar 0) (eC (.int 0))) (eC (.int 64))) (eVar 1)))))))
def f_draw : Fn := fnOf 2 4 (fxL [0, 1]) m_draw
theorem a_draw (x0 : SV) (x1 : SV) : f_draw [x0, x1] = (m_draw [some x0, some x1, none, none]).ends 2 := fnOf_ap rfl
/-- _law_error (_law_e); slots: _law_e, _law_kinds_here, _law_bases, _law_own, _law_at -/
def m_error_87 : Sx := (sSeq (sSet 1 (eLst (lCons (eFrz (eUn (isED "InvalidRow") (eVar 0))) (lCons (eFrz (eUn (isED "InvalidKind") (eVar 0))) (lCons (eFrz (eUn (isED "InvalidRows") (eVar 0))) lNil))))) (sSeq (sSet 1 (eOp addD (eVar 1) (eLst (lCons (eFrz (eUn (isED "InvalidNumber") (eVar 0))) (lCons (eFrz (eUn (isED "InvalidPlan") (eVar 0))) (lCons (eFrz (eUn (isED "InvalidNames") (eVar 0))) lNil)))))) (sSeq (sSet 1 (eOp addD (eVar 1) (eLst (lCons (eFrz (eUn (isED "InvalidText") (eVar 0))) (lCons (eFrz (eUn (isED "InvalidStep") (eVar 0))) (lCons (eFrz (eUn (isED "InvalidSize") (eVar 0))) lNil)))))) (sSeq (sSet 1 (eOp addD (eVar 1) (eLst (lCons (eFrz (eUn (isED "InvalidTable") (eVar 0))) (lCons (eFrz (eUn (isED "InvalidCrowd") (eVar 0))) (lCons (eFrz (eUn (isED "InvalidHeight") (eVar 0))) lNil)))))) (sSeq (sSet 1 (eOp addD (eVar 1) (eLst (lCons (eFrz (eUn (isED "InvalidSources") (eVar 0))) (lCons (eFrz (eUn (isED "InvalidKnown") (eVar 0))) (lCons (eFrz (eUn (isED "InvalidRecord") (eVar 0))) lNil)))))) (sSeq (sSet 1 (eOp addD (eVar 1) (eLst (lCons (eFrz (eUn (isED "InvalidRun") (eVar 0))) (lCons (eFrz (eUn (isED "InvalidShare") (eVar 0))) (lCons (eFrz (eUn (isED "InvalidLine") (eVar 0))) lNil)))))) (sSeq (sSet 1 (eOp addD (eVar 1) (eLst (lCons (eFrz (eUn (isED "InvalidDeed") (eVar 0))) (lCons (eFrz (eUn (isED "InvalidCommand") (eVar 0))) (lCons (eFrz (eUn (isED "UnknownLine") (eVar 0))) lNil)))))) (sSeq (sSet 1 (eOp addD (eVar 1) (eLst (lCons (eFrz (eUn (isED "UnknownHeight") (eVar 0))) (lCons (eFrz (eUn (isED "UnknownName") (eVar 0))) (lCons (eFrz (eUn (isED "OtherLines") (eVar 0))) lNil)))))) (sSeq (sSet 1 (eOp addD (eVar 1) (eLst (lCons (eFrz (eUn (isED "OtherPeople") (eVar 0))) (lCons (eFrz (eUn (isED "NotSame") (eVar 0))) (lCons (eFrz (eUn (isED "NoOrder") (eVar 0))) lNil)))))) (sSeq (sSet 1 (eOp addD (eVar 1) (eLst (lCons (eFrz (eUn (isED "LineTaken") (eVar 0))) (lCons (eFrz (eUn (isED "HeightTaken") (eVar 0))) (lCons (eFrz (eUn (isED "LineInUse") (eVar 0))) lNil)))))) (sSeq (sSet 1 (eOp addD (eVar 1) (eLst (lCons (eFrz (eUn (isED "LastLine") (eVar 0))) (lCons (eFrz (eUn (isED "NobodyWaits") (eVar 0))) (lCons (eFrz (eUn (isED "NothingToUndo") (eVar 0))) lNil)))))) (sSeq (sSet 1 (eOp addD (eVar 1) (eLst (lCons (eFrz (eUn (isED "TooManyPeople") (eVar 0))) (lCons (eFrz (eUn (isED "TooManyLines") (eVar 0))) (lCons (eFrz (eUn (isED "TooManyDeeds") (eVar 0))) lNil)))))) (sSeq (sSet 2 (eLst (lCons (eFrz (eUn (isED "MeetError") (eVar 0))) (lCons (eFrz (eUn (isED "FindError") (eVar 0))) (lCons (eFrz (eUn (isED "LimitError") (eVar 0))) lNil))))) (sSeq (sSet 3 (eLst (lCons (eFrz (eUn (isED "ValueError") (eVar 0))) (lCons (eFrz (eUn (isED "LookupError") (eVar 0))) (lCons (eFrz (eUn (isED "ArithmeticError") (eVar 0))) lNil))))) (sSeq (sIf (tOr (tBl (eOp neD (eM "list" countD (eVar 1) (eC (.bool true))) (eC (.int 1)))) (tBl (eOp neD (eVar 3) (eVar 2)))) (sRet (eOp subD (eC (.int 0)) (eC (.int 1)))) sNext) (sSeq (sSet 4 (eM "list" indexD (eVar 1) (eC (.bool true)))) (sRet (eIf (tBl (eOp eqD (eVar 2) (eLst (lCons (eFrz (eOp ltD (eVar 4) (eC (.int 20)))) (lCons (eFrz (eChain ltD ltD (eC (.int 19)) (eVar 4) (eC (.int 33)))) (lCons (eFrz (eOp gtD (eVar 4) (eC (.int 32)))) lNil)))))) (eVar 4) (eOp subD (eC (.int 0)) (eC (.int 1)))))))))))))))))))))
def f_error_87 : Fn := fnOf 1 5 (fxL [0]) m_error_87
theorem a_error_87 (x0 : SV) : f_error_87 [x0] = (m_error_87 [some x0, none, none, none, none]).ends 1 := fnOf_ap rfl
/-- _law_made (_law_thing, _law_mate); slots: _law_thing, _law_mate, _law_found -/
def m_made_4 : Sx := (sSeq (sSet 2 (eLst (lCons (eFrz (eTup (lCons (eFrz (eMkE "InvalidRow" [("index" : Str)] (lCons (eFrz (eVar 0)) lNil))) (lCons (eFrz (eMkEK "InvalidRow" [("index" : Str)] [0] (lCons (eFrz (eVar 0)) lNil))) lNil)))) (lCons (eFrz (eTup (lCons (eFrz (eMkE "InvalidKind" [("kind" : Str)] (lCons (eFrz (eVar 0)) lNil))) (lCons (eFrz (eMkEK "InvalidKind" [("kind" : Str)] [0] (lCons (eFrz (eVar 0)) lNil))) lNil)))) lNil)))) (sSeq (sSet 2 (eOp addD (eVar 2) (eLst (lCons (eFrz (eTup (lCons (eFrz (eMkE "InvalidRows" [("index" : Str)] (lCons (eFrz (eVar 0)) lNil))) (lCons (eFrz (eMkEK "InvalidRows" [("index" : Str)] [0] (lCons (eFrz (eVar 0)) lNil))) lNil)))) lNil)))) (sSeq (sSet 2 (eOp addD (eVar 2) (eLst (lCons (eFrz (eTup (lCons (eFrz (eMkE "InvalidNumber" [("number" : Str)] (lCons (eFrz (eVar 0)) lNil))) (lCons (eFrz (eMkEK "InvalidNumber" [("number" : Str)] [0] (lCons (eFrz (eVar 0)) lNil))) lNil)))) lNil)))) (sSeq (sSet 2 (eOp addD (eVar 2) (eLst (lCons (eFrz (eTup (lCons (eFrz (eMkE "InvalidPlan" [("value" : Str)] (lCons (eFrz (eVar 0)) lNil))) (lCons (eFrz (eMkEK "InvalidPlan" [("value" : Str)] [0] (lCons (eFrz (eVar 0)) lNil))) lNil)))) (lCons (eFrz (eTup (lCons (eFrz (eMkE "InvalidNames" [("index" : Str)] (lCons (eFrz (eVar 0)) lNil))) (lCons (eFrz (eMkEK "InvalidNames" [("index" : Str)] [0] (lCons (eFrz (eVar 0)) lNil))) lNil)))) lNil))))) (sSeq (sSet 2 (eOp addD (eVar 2) (eLst (lCons (eFrz (eTup (lCons (eFrz (eMkE "InvalidText" [("text" : Str)] (lCons (eFrz (eVar 0)) lNil))) (lCons (eFrz (eMkEK "InvalidText" [("text" : Str)] [0] (lCons (eFrz (eVar 0)) lNil))) lNil)))) (lCons (eFrz (eTup (lCons (eFrz (eMkE "InvalidStep" [("step" : Str)] (lCons (eFrz (eVar 0)) lNil))) (lCons (eFrz (eMkEK "InvalidStep" [("step" : Str)] [0] (lCons (eFrz (eVar 0)) lNil))) lNil)))) lNil))))) (sSeq (sSet 2 (eOp addD (eVar 2) (eLst (lCons (eFrz (eTup (lCons (eFrz (eMkE "InvalidSize" [("size" : Str)] (lCons (eFrz (eVar 0)) lNil))) (lCons (eFrz (eMkEK "InvalidSize" [("size" : Str)] [0] (lCons (eFrz (eVar 0)) lNil))) lNil)))) (lCons (eFrz (eTup (lCons (eFrz (eMkE "InvalidTable" [("index" : Str)] (lCons (eFrz (eVar 0)) lNil))) (lCons (eFrz (eMkEK "InvalidTable" [("index" : Str)] [0] (lCons (eFrz (eVar 0)) lNil))) lNil)))) lNil))))) (sSeq (sSet 2 (eOp addD (eVar 2) (eLst (lCons (eFrz (eTup (lCons (eFrz (eMkE "InvalidCrowd" [("index" : Str)] (lCons (eFrz (eVar 0)) lNil))) (lCons (eFrz (eMkEK "InvalidCrowd" [("index" : Str)] [0] (lCons (eFrz (eVar 0)) lNil))) lNil)))) lNil)))) (sSeq (sSet 2 (eOp addD (eVar 2) (eLst (lCons (eFrz (eTup (lCons (eFrz (eMkE "InvalidHeight" [("height" : Str)] (lCons (eFrz (eVar 0)) lNil))) (lCons (eFrz (eMkEK "InvalidHeight" [("height" : Str)] [0] (lCons (eFrz (eVar 0)) lNil))) lNil)))) lNil)))) (sSeq (sSet 2 (eOp addD (eVar 2) (eLst (lCons (eFrz (eTup (lCons (eFrz (eMkE "InvalidSources" [("index" : Str)] (lCons (eFrz (eVar 0)) lNil))) (lCons (eFrz (eMkEK "InvalidSources" [("index" : Str)] [0] (lCons (eFrz (eVar 0)) lNil))) lNil)))) lNil)))) (sSeq (sSet 2 (eOp addD (eVar 2) (eLst (lCons (eFrz (eTup (lCons (eFrz (eMkE "InvalidKnown" [("index" : Str)] (lCons (eFrz (eVar 0)) lNil))) (lCons (eFrz (eMkEK "InvalidKnown" [("index" : Str)] [0] (lCons (eFrz (eVar 0)) lNil))) lNil)))) lNil)))) (sSeq (sSet 2 (eOp addD (eVar 2) (eLst (lCons (eFrz (eTup (lCons (eFrz (eMkE "InvalidRecord" [("index" : Str)] (lCons (eFrz (eVar 0)) lNil))) (lCons (eFrz (eMkEK "InvalidRecord" [("index" : Str)] [0] (lCons (eFrz (eVar 0)) lNil))) lNil)))) lNil)))) (sSeq (sSet 2 (eOp addD (eVar 2) (eLst (lCons (eFrz (eTup (lCons (eFrz (eMkE "InvalidRun" [("index" : Str)] (lCons (eFrz (eVar 0)) lNil))) (lCons (eFrz (eMkEK "InvalidRun" [("index" : Str)] [0] (lCons (eFrz (eVar 0)) lNil))) lNil)))) (lCons (eFrz (eTup (lCons (eFrz (eMkE "InvalidShare" [("share" : Str)] (lCons (eFrz (eVar 0)) lNil))) (lCons (eFrz (eMkEK "InvalidShare" [("share" : Str)] [0] (lCons (eFrz (eVar 0)) lNil))) lNil)))) lNil))))) (sSeq (sSet 2 (eOp addD (eVar 2) (eLst (lCons (eFrz (eTup (lCons (eFrz (eMkE "InvalidLine" [("line" : Str)] (lCons (eFrz (eVar 0)) lNil))) (lCons (eFrz (eMkEK "InvalidLine" [("line" : Str)] [0] (lCons (eFrz (eVar 0)) lNil))) lNil)))) (lCons (eFrz (eTup (lCons (eFrz (eMkE "InvalidDeed" [("index" : Str)] (lCons (eFrz (eVar 0)) lNil))) (lCons (eFrz (eMkEK "InvalidDeed" [("index" : Str)] [0] (lCons (eFrz (eVar 0)) lNil))) lNil)))) lNil))))) (sSeq (sSet 2 (eOp addD (eVar 2) (eLst (lCons (eFrz (eTup (lCons (eFrz (eMkE "InvalidCommand" [("command" : Str)] (lCons (eFrz (eVar 0)) lNil))) (lCons (eFrz (eMkEK "InvalidCommand" [("command" : Str)] [0] (lCons (eFrz (eVar 0)) lNil))) lNil)))) lNil)))) (sSeq (sSet 2 (eOp addD (eVar 2) (eLst (lCons (eFrz (eTup (lCons (eFrz (eMkE "UnknownLine" [("line" : Str)] (lCons (eFrz (eVar 0)) lNil))) (lCons (eFrz (eMkEK "UnknownLine" [("line" : Str)] [0] (lCons (eFrz (eVar 0)) lNil))) lNil)))) lNil)))) (sSeq (sSet 2 (eOp addD (eVar 2) (eLst (lCons (eFrz (eTup (lCons (eFrz (eMkE "UnknownHeight" [("height" : Str)] (lCons (eFrz (eVar 0)) lNil))) (lCons (eFrz (eMkEK "UnknownHeight" [("height" : Str)] [0] (lCons (eFrz (eVar 0)) lNil))) lNil)))) (lCons (eFrz (eTup (lCons (eFrz (eMkE "UnknownName" [("name" : Str)] (lCons (eFrz (eVar 0)) lNil))) (lCons (eFrz (eMkEK "UnknownName" [("name" : Str)] [0] (lCons (eFrz (eVar 0)) lNil))) lNil)))) lNil))))) (sSeq (sSet 2 (eOp addD (eVar 2) (eLst (lCons (eFrz (eTup (lCons (eFrz (eMkE "OtherLines" [] lNil)) (lCons (eFrz (eMkE "OtherLines" [] lNil)) lNil)))) (lCons (eFrz (eTup (lCons (eFrz (eMkE "OtherPeople" [] lNil)) (lCons (eFrz (eMkE "OtherPeople" [] lNil)) lNil)))) lNil))))) (sSeq (sSet 2 (eOp addD (eVar 2) (eLst (lCons (eFrz (eTup (lCons (eFrz (eMkE "NotSame" [("one" : Str), ("other" : Str)] (lCons (eFrz (eVar 0)) (lCons (eFrz (eVar 1)) lNil)))) (lCons (eFrz (eMkEK "NotSame" [("one" : Str), ("other" : Str)] [1, 0] (lCons (eFrz (eVar 1)) (lCons (eFrz (eVar 0)) lNil)))) lNil)))) (lCons (eFrz (eTup (lCons (eFrz (eMkE "NoOrder" [] lNil)) (lCons (eFrz (eMkE "NoOrder" [] lNil)) lNil)))) lNil))))) (sSeq (sSet 2 (eOp addD (eVar 2) (eLst (lCons (eFrz (eTup (lCons (eFrz (eMkE "LineTaken" [("line" : Str)] (lCons (eFrz (eVar 0)) lNil))) (lCons (eFrz (eMkEK "LineTaken" [("line" : Str)] [0] (lCons (eFrz (eVar 0)) lNil))) lNil)))) (lCons (eFrz (eTup (lCons (eFrz (eMkE "HeightTaken" [("height" : Str)] (lCons (eFrz (eVar 0)) lNil))) (lCons (eFrz (eMkEK "HeightTaken" [("height" : Str)] [0] (lCons (eFrz (eVar 0)) lNil))) lNil)))) lNil))))) (sSeq (sSet 2 (eOp addD (eVar 2) (eLst (lCons (eFrz (eTup (lCons (eFrz (eMkE "LineInUse" [("line" : Str)] (lCons (eFrz (eVar 0)) lNil))) (lCons (eFrz (eMkEK "LineInUse" [("line" : Str)] [0] (lCons (eFrz (eVar 0)) lNil))) lNil)))) (lCons (eFrz (eTup (lCons (eFrz (eMkE "LastLine" [] lNil)) (lCons (eFrz (eMkE "LastLine" [] lNil)) lNil)))) lNil))))) (sSeq (sSet 2 (eOp addD (eVar 2) (eLst (lCons (eFrz (eTup (lCons (eFrz (eMkE "NobodyWaits" [] lNil)) (lCons (eFrz (eMkE "NobodyWaits" [] lNil)) lNil)))) (lCons (eFrz (eTup (lCons (eFrz (eMkE "NothingToUndo" [] lNil)) (lCons (eFrz (eMkE "NothingToUndo" [] lNil)) lNil)))) lNil))))) (sSeq (sSet 2 (eOp addD (eVar 2) (eLst (lCons (eFrz (eTup (lCons (eFrz (eMkE "TooManyPeople" [("count" : Str)] (lCons (eFrz (eVar 0)) lNil))) (lCons (eFrz (eMkEK "TooManyPeople" [("count" : Str)] [0] (lCons (eFrz (eVar 0)) lNil))) lNil)))) lNil)))) (sSeq (sSet 2 (eOp addD (eVar 2) (eLst (lCons (eFrz (eTup (lCons (eFrz (eMkE "TooManyLines" [("count" : Str)] (lCons (eFrz (eVar 0)) lNil))) (lCons (eFrz (eMkEK "TooManyLines" [("count" : Str)] [0] (lCons (eFrz (eVar 0)) lNil))) lNil)))) (lCons (eFrz (eTup (lCons (eFrz (eMkE "TooManyDeeds" [("count" : Str)] (lCons (eFrz (eVar 0)) lNil))) (lCons (eFrz (eMkEK "TooManyDeeds" [("count" : Str)] [0] (lCons (eFrz (eVar 0)) lNil))) lNil)))) lNil))))) (sRet (eVar 2)))))))))))))))))))))))))
def f_made_4 : Fn := fnOf 2 3 (fxL [0, 1]) m_made_4
theorem a_made_4 (x0 : SV) (x1 : SV) : f_made_4 [x0, x1] = (m_made_4 [some x0, some x1, none]).ends 2 := fnOf_ap rfl
/-- _law_attributes (_law_e, _law_at); slots: _law_e, _law_at -/
def m_attributes : Sx := (sSeq (sIf (tBl (eOp inD (eVar 1) (eLst (lCons (eFrz (eC (.int 0))) (lCons (eFrz (eC (.int 2))) (lCons (eFrz (eC (.int 5))) (lCons (eFrz (eC (.int 9))) (lCons (eFrz (eC (.int 10))) (lCons (eFrz (eC (.int 12))) (lCons (eFrz (eC (.int 13))) (lCons (eFrz (eC (.int 14))) (lCons (eFrz (eC (.int 15))) (lCons (eFrz (eC (.int 18))) lNil))))))))))))) (sRet (eLst (lCons (eFrz (eUn (flED "index") (eVar 0))) lNil))) sNext) (sSeq (sIf (tBl (eOp inD (eVar 1) (eLst (lCons (eFrz (eC (.int 1))) (lCons (eFrz (eC (.int 3))) (lCons (eFrz (eC (.int 4))) lNil)))))) (sRet (eLst (lCons (eFrz (eIf (tBl (eOp eqD (eVar 1) (eC (.int 1)))) (eUn (flED "kind") (eVar 0)) (eIf (tBl (eOp eqD (eVar 1) (eC (.int 3)))) (eUn (flED "number") (eVar 0)) (eUn (flED "value") (eVar 0))))) lNil))) sNext) (sSeq (sIf (tBl (eOp inD (eVar 1) (eLst (lCons (eFrz (eC (.int 6))) (lCons (eFrz (eC (.int 7))) (lCons (eFrz (eC (.int 8))) lNil)))))) (sRet (eLst (lCons (eFrz (eIf (tBl (eOp eqD (eVar 1) (eC (.int 6)))) (eUn (flED "text") (eVar 0)) (eIf (tBl (eOp eqD (eVar 1) (eC (.int 7)))) (eUn (flED "step") (eVar 0)) (eUn (flED "size") (eVar 0))))) lNil))) sNext) (sSeq (sIf (tBl (eOp inD (eVar 1) (eLst (lCons (eFrz (eC (.int 11))) (lCons (eFrz (eC (.int 21))) (lCons (eFrz (eC (.int 28))) lNil)))))) (sRet (eLst (lCons (eFrz (eUn (flED "height") (eVar 0))) lNil))) sNext) (sSeq (sIf (tBl (eOp inD (eVar 1) (eLst (lCons (eFrz (eC (.int 17))) (lCons (eFrz (eC (.int 20))) (lCons (eFrz (eC (.int 27))) (lCons (eFrz (eC (.int 29))) lNil))))))) (sRet (eLst (lCons (eFrz (eUn (flED "line") (eVar 0))) lNil))) sNext) (sSeq (sIf (tBl (eOp inD (eVar 1) (eLst (lCons (eFrz (eC (.int 16))) (lCons (eFrz (eC (.int 19))) (lCons (eFrz (eC (.int 22))) lNil)))))) (sRet (eLst (lCons (eFrz (eIf (tBl (eOp eqD (eVar 1) (eC (.int 16)))) (eUn (flED "share") (eVar 0)) (eIf (tBl (eOp eqD (eVar 1) (eC (.int 19)))) (eUn (flED "command") (eVar 0)) (eUn (flED "name") (eVar 0))))) lNil))) sNext) (sSeq (sIf (tBl (eOp inD (eVar 1) (eLst (lCons (eFrz (eC (.int 33))) (lCons (eFrz (eC (.int 34))) (lCons (eFrz (eC (.int 35))) lNil)))))) (sRet (eLst (lCons (eFrz (eUn (flED "count") (eVar 0))) lNil))) sNext) (sRet (eIf (tBl (eOp eqD (eVar 1) (eC (.int 25)))) (eLst (lCons (eFrz (eUn (flED "one") (eVar 0))) (lCons (eFrz (eUn (flED "other") (eVar 0))) lNil))) (eLst lNil))))))))))
def f_attributes : Fn := fnOf 2 2 (fxL [0, 1]) m_attributes
theorem a_attributes (x0 : SV) (x1 : SV) : f_attributes [x0, x1] = (m_attributes [some x0, some x1]).ends 2 := fnOf_ap rfl
/-- _law_right (_law_pool_here); slots: _law_pool_here, _law_some, _law_thing, _law_mate, _law_pairs, _law_at, _law_due, _law_e -/
def b_right_87_2 : Sx := (sIf (tOr (tBl (eOp neD (eCall f_error_87 (aCons (eVar 7) aNil)) (eVar 5))) (tBl (eOp neD (eFn (on1 reprD) (aCons (eCall f_attributes (aCons (eVar 7) (aCons (eVar 5) aNil))) aNil)) (eFn (on1 reprD) (aCons (eVar 6) aNil))))) (sRet (eC (.bool false))) sNext)
def b_right_87_1 : Sx := (sSeq (sSet 6 (eIf (tBl (eOp inD (eVar 5) (eLst (lCons (eFrz (eC (.int 23))) (lCons (eFrz (eC (.int 24))) (lCons (eFrz (eC (.int 26))) (lCons (eFrz (eC (.int 30))) (lCons (eFrz (eC (.int 31))) (lCons (eFrz (eC (.int 32))) lNil))))))))) (eLst lNil) (eIf (tBl (eOp eqD (eVar 5) (eC (.int 25)))) (eLst (lCons (eFrz (eVar 2)) (lCons (eFrz (eVar 3)) lNil))) (eLst (lCons (eFrz (eVar 2)) lNil))))) (sFor (wSeq (eFrz (eOp ixOp (eVar 4) (eVar 5)))) (gName 7) b_right_87_2))
def m_right_87 : Sx := (sSeq (sSet 1 (eLst (lCons (eFrz (eC .none)) (lCons (eFrz (eC (.int 0))) (lCons (eFrz (eUn negD (eC (.int 1)))) (lCons (eFrz (eC (.bool true))) (lCons (eFrz (eC (.str ""))) (lCons (eFrz (eC (.str "low"))) (lCons (eFrz (eTup lNil)) (lCons (eFrz (eLst lNil)) (lCons (eFrz eDct0) (lCons (eFrz (eTup (lCons (eFrz (eC (.int 1))) (lCons (eFrz (eC (.str "a"))) lNil)))) (lCons (eFrz (eOp powD (eC (.int 10)) (eC (.int 30)))) (lCons (eFrz (eLst (lCons (eFrz (eC .none)) lNil))) (lCons (eFrz (eC (.str "a b"))) (lCons (eFrz (eTup (lCons (eFrz (eTup lNil)) lNil))) (lCons (eFrz (eC (.bool false))) (lCons (eFrz (eC (.int 7))) lNil)))))))))))))))))) (sSeq (sPar [2, 3] (aCons (eOp ixOp (eVar 1) (eCall f_draw (aCons (eVar 0) (aCons (eC (.int 16)) aNil)))) (aCons (eOp ixOp (eVar 1) (eCall f_draw (aCons (eVar 0) (aCons (eC (.int 16)) aNil)))) aNil))) (sSeq (sSet 4 (eCall f_made_4 (aCons (eVar 2) (aCons (eVar 3) aNil)))) (sSeq (sFor (wRange range1 (aCons (eFn (on1 lenD) (aCons (eVar 4) aNil)) aNil)) (gName 5) b_right_87_1) (sRet (eOp eqD (eFn (on1 lenD) (aCons (eVar 4) aNil)) (eC (.int 36))))))))
def f_right_87 : Fn := fnOf 1 8 (fxL [0]) m_right_87
theorem a_right_87 (x0 : SV) : f_right_87 [x0] = (m_right_87 [some x0, none, none, none, none, none, none, none]).ends 1 := fnOf_ap rfl
/-- law (_law_script); slots: _law_script, _law_k -/
def m_law_87 : Sx := (sSeq (sIf (tBl (eOp neD (eLst (lCons (eFrz (eC (.int 999))) (lCons (eFrz (eC (.int 40))) (lCons (eFrz (eC (.int 8))) (lCons (eFrz (eC (.int 12))) (lCons (eFrz (eC (.int 1000))) lNil)))))) (eLst (lCons (eFrz (eC (.int 999))) (lCons (eFrz (eC (.int 40))) (lCons (eFrz (eC (.int 8))) (lCons (eFrz (eC (.int 12))) (lCons (eFrz (eC (.int 1000))) lNil)))))))) (sRet (eC (.bool false))) sNext) (sRet (eFn (on1 allD) (aCons (eLc (wRange range1 (aCons (eFn max2D (aCons (eC (.int 2)) (aCons (eFn min2D (aCons (eFn (on1 lenD) (aCons (eVar 0) aNil)) (aCons (eC (.int 4)) aNil))) aNil))) aNil)) (.nm 1) tYes (eFrz (eCall f_right_87 (aCons (eCall f_pool (aCons (eCall f_cell (aCons (eVar 0) (aCons (eVar 1) aNil))) aNil)) aNil))) [1]) aNil))))
def f_law_87 : Fn := fnOf 1 2 (fxL [0]) m_law_87
theorem a_law_87 (x0 : SV) : f_law_87 [x0] = (m_law_87 [some x0, none]).ends 1 := fnOf_ap rfl
end
end F
/-! Sp1: cells, pools, draws, heights, rows. -/
namespace F
open PySem Fm
structure Pool where
  s : Int
  d : Int
  n : Int
abbrev pl (p : Pool) : SV := .live (.lst [.int p.s, .int p.d, .int p.n])
theorem draw (p : Pool) (u : Int) (h0 : 0 < u) (h1 : u < 18446744073709551616) : ∃ v p', 0 ≤ v ∧ v < u ∧ f_draw [pl p, .d (.int u)] = .ok (.d (.int v)) [some (pl p'), some (.d (.int u))] := by
  rw [a_draw]
  unfold m_draw
  have m3 : ∀ i : Int, mulD (.int i) (.int (i % 43019 + 28001)) = some (.d (.int (i * (i % 43019 + 28001)))) := fun i => mulD_r (by omega)
  by_cases h : 0 < p.d
  · simp_arith [m3, h, h0, h1]
    exact ⟨_, ⟨_, _, _⟩, Int.emod_nonneg _ (by omega), Int.emod_lt_of_pos _ h0, rfl⟩
  · simp_arith [m3, h, h0, h1]
    exact ⟨_, ⟨_, _, _⟩, Int.emod_nonneg _ (by omega), Int.emod_lt_of_pos _ h0, rfl⟩
theorem pool (c : Int) : ∃ p, f_pool [.d (.int c)] = .ok (pl p) [some (.d (.int c))] := by
  rw [a_pool]
  unfold m_pool
  have hp : powD (.int 10) (.int 18) = some (.d (.int 1000000000000000000)) := by rfl
  by_cases h : c < 0
  · simp_arith [hp, h]
    exact ⟨⟨_, _, _⟩, rfl⟩
  · by_cases h' : 1000000000000000000 ≤ c
    · simp_arith [hp, h, h']
      exact ⟨⟨_, _, _⟩, rfl⟩
    · simp_arith [hp, h, h']
      exact ⟨⟨_, _, _⟩, rfl⟩
theorem cell (ns : List Int) (k : Nat) (hk : k < 1000) : ∃ c, f_cell [.d (.list (iL ns)), .d (.int k)] = .ok (.d (.int c)) [some (.d (.list (iL ns))), some (.d (.int k))] := by
  rw [a_cell]
  unfold m_cell b_cell_1
  have mk : mulD (.int k) (.int k) = some (.d (.int (k * k))) := mulD_l (by omega)
  by_cases h : k < ns.length
  · have h' : (k : Int) < (ns.length : Int) := by omega
    simp_arith [h', List.length_map, atD_nat, List.getElem?_map, List.getElem?_eq_getElem h, Option.map_some]
    exact ⟨_, rfl⟩
  · have h' : ¬ (k : Int) < (ns.length : Int) := by omega
    have hc : cutL (iL ns) none (some 3) = iL (ns.take 3) := by
      rw [show (3 : Int) = ((3 : Nat) : Int) from rfl, cutL_take]
      exact List.map_take.symm
    simp_arith [h', List.length_map, mk, hc]
    generalize 70003 * ((k : Int) * k + 13 * k + 11) % 2147483387 = z
    generalize hE : forL _ _ _ _ = o
    obtain ⟨S', rfl, c, x, rfl⟩ := for_at hE (fun _ S => ∃ c x, S = [some (.d (.list (iL ns))), some (.d (.int k)), some (.d (.int c)), x])
      (fun i r S ⟨c, y, hS⟩ => by subst hS; simp_arith [true_and]; exact ⟨_, .inl rfl, _, _, rfl⟩) ⟨z, none, rfl⟩
    simp_arith [true_and]
    exact ⟨_, rfl⟩
end F

set_option maxHeartbeats 4000000
/-! Sp260: the errors, made and told (k87). -/
namespace F
open PySem Fm
def due87E : Ex := (eIf (tBl (eOp inD (eVar 5) (eLst (lCons (eFrz (eC (.int 23))) (lCons (eFrz (eC (.int 24))) (lCons (eFrz (eC (.int 26))) (lCons (eFrz (eC (.int 30))) (lCons (eFrz (eC (.int 31))) (lCons (eFrz (eC (.int 32))) lNil))))))))) (eLst lNil) (eIf (tBl (eOp eqD (eVar 5) (eC (.int 25)))) (eLst (lCons (eFrz (eVar 2)) (lCons (eFrz (eVar 3)) lNil))) (eLst (lCons (eFrz (eVar 2)) lNil))))
theorem b87 : b_right_87_1 = sSeq (sSet 6 due87E) (sFor (wSeq (eFrz (eOp ixOp (eVar 4) (eVar 5)))) (gName 7) b_right_87_2) := rfl
/-- the k-th error of x and y -/
def er87 (x y : D) : Nat → D
  | 0 => errV "InvalidRow" [(("index" : Str), x)]
  | 1 => errV "InvalidKind" [(("kind" : Str), x)]
  | 2 => errV "InvalidRows" [(("index" : Str), x)]
  | 3 => errV "InvalidNumber" [(("number" : Str), x)]
  | 4 => errV "InvalidPlan" [(("value" : Str), x)]
  | 5 => errV "InvalidNames" [(("index" : Str), x)]
  | 6 => errV "InvalidText" [(("text" : Str), x)]
  | 7 => errV "InvalidStep" [(("step" : Str), x)]
  | 8 => errV "InvalidSize" [(("size" : Str), x)]
  | 9 => errV "InvalidTable" [(("index" : Str), x)]
  | 10 => errV "InvalidCrowd" [(("index" : Str), x)]
  | 11 => errV "InvalidHeight" [(("height" : Str), x)]
  | 12 => errV "InvalidSources" [(("index" : Str), x)]
  | 13 => errV "InvalidKnown" [(("index" : Str), x)]
  | 14 => errV "InvalidRecord" [(("index" : Str), x)]
  | 15 => errV "InvalidRun" [(("index" : Str), x)]
  | 16 => errV "InvalidShare" [(("share" : Str), x)]
  | 17 => errV "InvalidLine" [(("line" : Str), x)]
  | 18 => errV "InvalidDeed" [(("index" : Str), x)]
  | 19 => errV "InvalidCommand" [(("command" : Str), x)]
  | 20 => errV "UnknownLine" [(("line" : Str), x)]
  | 21 => errV "UnknownHeight" [(("height" : Str), x)]
  | 22 => errV "UnknownName" [(("name" : Str), x)]
  | 23 => errV "OtherLines" []
  | 24 => errV "OtherPeople" []
  | 25 => errV "NotSame" [(("other" : Str), y), (("one" : Str), x)]
  | 26 => errV "NoOrder" []
  | 27 => errV "LineTaken" [(("line" : Str), x)]
  | 28 => errV "HeightTaken" [(("height" : Str), x)]
  | 29 => errV "LineInUse" [(("line" : Str), x)]
  | 30 => errV "LastLine" []
  | 31 => errV "NobodyWaits" []
  | 32 => errV "NothingToUndo" []
  | 33 => errV "TooManyPeople" [(("count" : Str), x)]
  | 34 => errV "TooManyLines" [(("count" : Str), x)]
  | 35 => errV "TooManyDeeds" [(("count" : Str), x)]
  | _ => .none
def due87 (x y : D) : Nat → List D
  | 0 => [x]
  | 1 => [x]
  | 2 => [x]
  | 3 => [x]
  | 4 => [x]
  | 5 => [x]
  | 6 => [x]
  | 7 => [x]
  | 8 => [x]
  | 9 => [x]
  | 10 => [x]
  | 11 => [x]
  | 12 => [x]
  | 13 => [x]
  | 14 => [x]
  | 15 => [x]
  | 16 => [x]
  | 17 => [x]
  | 18 => [x]
  | 19 => [x]
  | 20 => [x]
  | 21 => [x]
  | 22 => [x]
  | 23 => []
  | 24 => []
  | 25 => [x, y]
  | 26 => []
  | 27 => [x]
  | 28 => [x]
  | 29 => [x]
  | 30 => []
  | 31 => []
  | 32 => []
  | 33 => [x]
  | 34 => [x]
  | 35 => [x]
  | _ => []
theorem due87_cases (x y : D) (k : Nat) : due87 x y k = [] ∨ due87 x y k = [x] ∨ due87 x y k = [x, y] := by
  unfold due87
  split <;> simp
theorem e87_0 (x y : D) : f_error_87 [.d (er87 x y 0)] = .ok (.d (.int 0)) [some (.d (er87 x y 0))] := by kernel_rfl
theorem t87_0 (x y : D) : f_attributes [.d (er87 x y 0), .d (.int 0)] = .ok (.live (.lst (due87 x y 0))) [some (.d (er87 x y 0)), some (.d (.int 0))] := by kernel_rfl
theorem u87_0 (x0 x1 x4 x6 x7 : Option SV) (x y : D) : due87E [x0, x1, some (.d x), some (.d y), x4, some (.d (.int 0)), x6, x7] = .ok (.fr (.lst (due87 x y 0))) [x0, x1, some (.d x), some (.d y), x4, some (.d (.int 0)), x6, x7] := by kernel_rfl
theorem e87_1 (x y : D) : f_error_87 [.d (er87 x y 1)] = .ok (.d (.int 1)) [some (.d (er87 x y 1))] := by kernel_rfl
theorem t87_1 (x y : D) : f_attributes [.d (er87 x y 1), .d (.int 1)] = .ok (.live (.lst (due87 x y 1))) [some (.d (er87 x y 1)), some (.d (.int 1))] := by kernel_rfl
theorem u87_1 (x0 x1 x4 x6 x7 : Option SV) (x y : D) : due87E [x0, x1, some (.d x), some (.d y), x4, some (.d (.int 1)), x6, x7] = .ok (.fr (.lst (due87 x y 1))) [x0, x1, some (.d x), some (.d y), x4, some (.d (.int 1)), x6, x7] := by kernel_rfl
theorem e87_2 (x y : D) : f_error_87 [.d (er87 x y 2)] = .ok (.d (.int 2)) [some (.d (er87 x y 2))] := by kernel_rfl
theorem t87_2 (x y : D) : f_attributes [.d (er87 x y 2), .d (.int 2)] = .ok (.live (.lst (due87 x y 2))) [some (.d (er87 x y 2)), some (.d (.int 2))] := by kernel_rfl
theorem u87_2 (x0 x1 x4 x6 x7 : Option SV) (x y : D) : due87E [x0, x1, some (.d x), some (.d y), x4, some (.d (.int 2)), x6, x7] = .ok (.fr (.lst (due87 x y 2))) [x0, x1, some (.d x), some (.d y), x4, some (.d (.int 2)), x6, x7] := by kernel_rfl
theorem e87_3 (x y : D) : f_error_87 [.d (er87 x y 3)] = .ok (.d (.int 3)) [some (.d (er87 x y 3))] := by kernel_rfl
theorem t87_3 (x y : D) : f_attributes [.d (er87 x y 3), .d (.int 3)] = .ok (.live (.lst (due87 x y 3))) [some (.d (er87 x y 3)), some (.d (.int 3))] := by kernel_rfl
theorem u87_3 (x0 x1 x4 x6 x7 : Option SV) (x y : D) : due87E [x0, x1, some (.d x), some (.d y), x4, some (.d (.int 3)), x6, x7] = .ok (.fr (.lst (due87 x y 3))) [x0, x1, some (.d x), some (.d y), x4, some (.d (.int 3)), x6, x7] := by kernel_rfl
theorem e87_4 (x y : D) : f_error_87 [.d (er87 x y 4)] = .ok (.d (.int 4)) [some (.d (er87 x y 4))] := by kernel_rfl
theorem t87_4 (x y : D) : f_attributes [.d (er87 x y 4), .d (.int 4)] = .ok (.live (.lst (due87 x y 4))) [some (.d (er87 x y 4)), some (.d (.int 4))] := by kernel_rfl
theorem u87_4 (x0 x1 x4 x6 x7 : Option SV) (x y : D) : due87E [x0, x1, some (.d x), some (.d y), x4, some (.d (.int 4)), x6, x7] = .ok (.fr (.lst (due87 x y 4))) [x0, x1, some (.d x), some (.d y), x4, some (.d (.int 4)), x6, x7] := by kernel_rfl
theorem e87_5 (x y : D) : f_error_87 [.d (er87 x y 5)] = .ok (.d (.int 5)) [some (.d (er87 x y 5))] := by kernel_rfl
theorem t87_5 (x y : D) : f_attributes [.d (er87 x y 5), .d (.int 5)] = .ok (.live (.lst (due87 x y 5))) [some (.d (er87 x y 5)), some (.d (.int 5))] := by kernel_rfl
theorem u87_5 (x0 x1 x4 x6 x7 : Option SV) (x y : D) : due87E [x0, x1, some (.d x), some (.d y), x4, some (.d (.int 5)), x6, x7] = .ok (.fr (.lst (due87 x y 5))) [x0, x1, some (.d x), some (.d y), x4, some (.d (.int 5)), x6, x7] := by kernel_rfl
theorem e87_6 (x y : D) : f_error_87 [.d (er87 x y 6)] = .ok (.d (.int 6)) [some (.d (er87 x y 6))] := by kernel_rfl
theorem t87_6 (x y : D) : f_attributes [.d (er87 x y 6), .d (.int 6)] = .ok (.live (.lst (due87 x y 6))) [some (.d (er87 x y 6)), some (.d (.int 6))] := by kernel_rfl
theorem u87_6 (x0 x1 x4 x6 x7 : Option SV) (x y : D) : due87E [x0, x1, some (.d x), some (.d y), x4, some (.d (.int 6)), x6, x7] = .ok (.fr (.lst (due87 x y 6))) [x0, x1, some (.d x), some (.d y), x4, some (.d (.int 6)), x6, x7] := by kernel_rfl
theorem e87_7 (x y : D) : f_error_87 [.d (er87 x y 7)] = .ok (.d (.int 7)) [some (.d (er87 x y 7))] := by kernel_rfl
theorem t87_7 (x y : D) : f_attributes [.d (er87 x y 7), .d (.int 7)] = .ok (.live (.lst (due87 x y 7))) [some (.d (er87 x y 7)), some (.d (.int 7))] := by kernel_rfl
theorem u87_7 (x0 x1 x4 x6 x7 : Option SV) (x y : D) : due87E [x0, x1, some (.d x), some (.d y), x4, some (.d (.int 7)), x6, x7] = .ok (.fr (.lst (due87 x y 7))) [x0, x1, some (.d x), some (.d y), x4, some (.d (.int 7)), x6, x7] := by kernel_rfl
theorem e87_8 (x y : D) : f_error_87 [.d (er87 x y 8)] = .ok (.d (.int 8)) [some (.d (er87 x y 8))] := by kernel_rfl
theorem t87_8 (x y : D) : f_attributes [.d (er87 x y 8), .d (.int 8)] = .ok (.live (.lst (due87 x y 8))) [some (.d (er87 x y 8)), some (.d (.int 8))] := by kernel_rfl
theorem u87_8 (x0 x1 x4 x6 x7 : Option SV) (x y : D) : due87E [x0, x1, some (.d x), some (.d y), x4, some (.d (.int 8)), x6, x7] = .ok (.fr (.lst (due87 x y 8))) [x0, x1, some (.d x), some (.d y), x4, some (.d (.int 8)), x6, x7] := by kernel_rfl
theorem e87_9 (x y : D) : f_error_87 [.d (er87 x y 9)] = .ok (.d (.int 9)) [some (.d (er87 x y 9))] := by kernel_rfl
theorem t87_9 (x y : D) : f_attributes [.d (er87 x y 9), .d (.int 9)] = .ok (.live (.lst (due87 x y 9))) [some (.d (er87 x y 9)), some (.d (.int 9))] := by kernel_rfl
theorem u87_9 (x0 x1 x4 x6 x7 : Option SV) (x y : D) : due87E [x0, x1, some (.d x), some (.d y), x4, some (.d (.int 9)), x6, x7] = .ok (.fr (.lst (due87 x y 9))) [x0, x1, some (.d x), some (.d y), x4, some (.d (.int 9)), x6, x7] := by kernel_rfl
theorem e87_10 (x y : D) : f_error_87 [.d (er87 x y 10)] = .ok (.d (.int 10)) [some (.d (er87 x y 10))] := by kernel_rfl
theorem t87_10 (x y : D) : f_attributes [.d (er87 x y 10), .d (.int 10)] = .ok (.live (.lst (due87 x y 10))) [some (.d (er87 x y 10)), some (.d (.int 10))] := by kernel_rfl
theorem u87_10 (x0 x1 x4 x6 x7 : Option SV) (x y : D) : due87E [x0, x1, some (.d x), some (.d y), x4, some (.d (.int 10)), x6, x7] = .ok (.fr (.lst (due87 x y 10))) [x0, x1, some (.d x), some (.d y), x4, some (.d (.int 10)), x6, x7] := by kernel_rfl
theorem e87_11 (x y : D) : f_error_87 [.d (er87 x y 11)] = .ok (.d (.int 11)) [some (.d (er87 x y 11))] := by kernel_rfl
theorem t87_11 (x y : D) : f_attributes [.d (er87 x y 11), .d (.int 11)] = .ok (.live (.lst (due87 x y 11))) [some (.d (er87 x y 11)), some (.d (.int 11))] := by kernel_rfl
theorem u87_11 (x0 x1 x4 x6 x7 : Option SV) (x y : D) : due87E [x0, x1, some (.d x), some (.d y), x4, some (.d (.int 11)), x6, x7] = .ok (.fr (.lst (due87 x y 11))) [x0, x1, some (.d x), some (.d y), x4, some (.d (.int 11)), x6, x7] := by kernel_rfl
theorem e87_12 (x y : D) : f_error_87 [.d (er87 x y 12)] = .ok (.d (.int 12)) [some (.d (er87 x y 12))] := by kernel_rfl
theorem t87_12 (x y : D) : f_attributes [.d (er87 x y 12), .d (.int 12)] = .ok (.live (.lst (due87 x y 12))) [some (.d (er87 x y 12)), some (.d (.int 12))] := by kernel_rfl
theorem u87_12 (x0 x1 x4 x6 x7 : Option SV) (x y : D) : due87E [x0, x1, some (.d x), some (.d y), x4, some (.d (.int 12)), x6, x7] = .ok (.fr (.lst (due87 x y 12))) [x0, x1, some (.d x), some (.d y), x4, some (.d (.int 12)), x6, x7] := by kernel_rfl
theorem e87_13 (x y : D) : f_error_87 [.d (er87 x y 13)] = .ok (.d (.int 13)) [some (.d (er87 x y 13))] := by kernel_rfl
theorem t87_13 (x y : D) : f_attributes [.d (er87 x y 13), .d (.int 13)] = .ok (.live (.lst (due87 x y 13))) [some (.d (er87 x y 13)), some (.d (.int 13))] := by kernel_rfl
theorem u87_13 (x0 x1 x4 x6 x7 : Option SV) (x y : D) : due87E [x0, x1, some (.d x), some (.d y), x4, some (.d (.int 13)), x6, x7] = .ok (.fr (.lst (due87 x y 13))) [x0, x1, some (.d x), some (.d y), x4, some (.d (.int 13)), x6, x7] := by kernel_rfl
theorem e87_14 (x y : D) : f_error_87 [.d (er87 x y 14)] = .ok (.d (.int 14)) [some (.d (er87 x y 14))] := by kernel_rfl
theorem t87_14 (x y : D) : f_attributes [.d (er87 x y 14), .d (.int 14)] = .ok (.live (.lst (due87 x y 14))) [some (.d (er87 x y 14)), some (.d (.int 14))] := by kernel_rfl
theorem u87_14 (x0 x1 x4 x6 x7 : Option SV) (x y : D) : due87E [x0, x1, some (.d x), some (.d y), x4, some (.d (.int 14)), x6, x7] = .ok (.fr (.lst (due87 x y 14))) [x0, x1, some (.d x), some (.d y), x4, some (.d (.int 14)), x6, x7] := by kernel_rfl
theorem e87_15 (x y : D) : f_error_87 [.d (er87 x y 15)] = .ok (.d (.int 15)) [some (.d (er87 x y 15))] := by kernel_rfl
theorem t87_15 (x y : D) : f_attributes [.d (er87 x y 15), .d (.int 15)] = .ok (.live (.lst (due87 x y 15))) [some (.d (er87 x y 15)), some (.d (.int 15))] := by kernel_rfl
theorem u87_15 (x0 x1 x4 x6 x7 : Option SV) (x y : D) : due87E [x0, x1, some (.d x), some (.d y), x4, some (.d (.int 15)), x6, x7] = .ok (.fr (.lst (due87 x y 15))) [x0, x1, some (.d x), some (.d y), x4, some (.d (.int 15)), x6, x7] := by kernel_rfl
theorem e87_16 (x y : D) : f_error_87 [.d (er87 x y 16)] = .ok (.d (.int 16)) [some (.d (er87 x y 16))] := by kernel_rfl
theorem t87_16 (x y : D) : f_attributes [.d (er87 x y 16), .d (.int 16)] = .ok (.live (.lst (due87 x y 16))) [some (.d (er87 x y 16)), some (.d (.int 16))] := by kernel_rfl
theorem u87_16 (x0 x1 x4 x6 x7 : Option SV) (x y : D) : due87E [x0, x1, some (.d x), some (.d y), x4, some (.d (.int 16)), x6, x7] = .ok (.fr (.lst (due87 x y 16))) [x0, x1, some (.d x), some (.d y), x4, some (.d (.int 16)), x6, x7] := by kernel_rfl
theorem e87_17 (x y : D) : f_error_87 [.d (er87 x y 17)] = .ok (.d (.int 17)) [some (.d (er87 x y 17))] := by kernel_rfl
theorem t87_17 (x y : D) : f_attributes [.d (er87 x y 17), .d (.int 17)] = .ok (.live (.lst (due87 x y 17))) [some (.d (er87 x y 17)), some (.d (.int 17))] := by kernel_rfl
theorem u87_17 (x0 x1 x4 x6 x7 : Option SV) (x y : D) : due87E [x0, x1, some (.d x), some (.d y), x4, some (.d (.int 17)), x6, x7] = .ok (.fr (.lst (due87 x y 17))) [x0, x1, some (.d x), some (.d y), x4, some (.d (.int 17)), x6, x7] := by kernel_rfl
theorem e87_18 (x y : D) : f_error_87 [.d (er87 x y 18)] = .ok (.d (.int 18)) [some (.d (er87 x y 18))] := by kernel_rfl
theorem t87_18 (x y : D) : f_attributes [.d (er87 x y 18), .d (.int 18)] = .ok (.live (.lst (due87 x y 18))) [some (.d (er87 x y 18)), some (.d (.int 18))] := by kernel_rfl
theorem u87_18 (x0 x1 x4 x6 x7 : Option SV) (x y : D) : due87E [x0, x1, some (.d x), some (.d y), x4, some (.d (.int 18)), x6, x7] = .ok (.fr (.lst (due87 x y 18))) [x0, x1, some (.d x), some (.d y), x4, some (.d (.int 18)), x6, x7] := by kernel_rfl
theorem e87_19 (x y : D) : f_error_87 [.d (er87 x y 19)] = .ok (.d (.int 19)) [some (.d (er87 x y 19))] := by kernel_rfl
theorem t87_19 (x y : D) : f_attributes [.d (er87 x y 19), .d (.int 19)] = .ok (.live (.lst (due87 x y 19))) [some (.d (er87 x y 19)), some (.d (.int 19))] := by kernel_rfl
theorem u87_19 (x0 x1 x4 x6 x7 : Option SV) (x y : D) : due87E [x0, x1, some (.d x), some (.d y), x4, some (.d (.int 19)), x6, x7] = .ok (.fr (.lst (due87 x y 19))) [x0, x1, some (.d x), some (.d y), x4, some (.d (.int 19)), x6, x7] := by kernel_rfl
theorem e87_20 (x y : D) : f_error_87 [.d (er87 x y 20)] = .ok (.d (.int 20)) [some (.d (er87 x y 20))] := by kernel_rfl
theorem t87_20 (x y : D) : f_attributes [.d (er87 x y 20), .d (.int 20)] = .ok (.live (.lst (due87 x y 20))) [some (.d (er87 x y 20)), some (.d (.int 20))] := by kernel_rfl
theorem u87_20 (x0 x1 x4 x6 x7 : Option SV) (x y : D) : due87E [x0, x1, some (.d x), some (.d y), x4, some (.d (.int 20)), x6, x7] = .ok (.fr (.lst (due87 x y 20))) [x0, x1, some (.d x), some (.d y), x4, some (.d (.int 20)), x6, x7] := by kernel_rfl
theorem e87_21 (x y : D) : f_error_87 [.d (er87 x y 21)] = .ok (.d (.int 21)) [some (.d (er87 x y 21))] := by kernel_rfl
theorem t87_21 (x y : D) : f_attributes [.d (er87 x y 21), .d (.int 21)] = .ok (.live (.lst (due87 x y 21))) [some (.d (er87 x y 21)), some (.d (.int 21))] := by kernel_rfl
theorem u87_21 (x0 x1 x4 x6 x7 : Option SV) (x y : D) : due87E [x0, x1, some (.d x), some (.d y), x4, some (.d (.int 21)), x6, x7] = .ok (.fr (.lst (due87 x y 21))) [x0, x1, some (.d x), some (.d y), x4, some (.d (.int 21)), x6, x7] := by kernel_rfl
theorem e87_22 (x y : D) : f_error_87 [.d (er87 x y 22)] = .ok (.d (.int 22)) [some (.d (er87 x y 22))] := by kernel_rfl
theorem t87_22 (x y : D) : f_attributes [.d (er87 x y 22), .d (.int 22)] = .ok (.live (.lst (due87 x y 22))) [some (.d (er87 x y 22)), some (.d (.int 22))] := by kernel_rfl
theorem u87_22 (x0 x1 x4 x6 x7 : Option SV) (x y : D) : due87E [x0, x1, some (.d x), some (.d y), x4, some (.d (.int 22)), x6, x7] = .ok (.fr (.lst (due87 x y 22))) [x0, x1, some (.d x), some (.d y), x4, some (.d (.int 22)), x6, x7] := by kernel_rfl
theorem e87_23 (x y : D) : f_error_87 [.d (er87 x y 23)] = .ok (.d (.int 23)) [some (.d (er87 x y 23))] := by kernel_rfl
theorem t87_23 (x y : D) : f_attributes [.d (er87 x y 23), .d (.int 23)] = .ok (.live (.lst (due87 x y 23))) [some (.d (er87 x y 23)), some (.d (.int 23))] := by kernel_rfl
theorem u87_23 (x0 x1 x4 x6 x7 : Option SV) (x y : D) : due87E [x0, x1, some (.d x), some (.d y), x4, some (.d (.int 23)), x6, x7] = .ok (.fr (.lst (due87 x y 23))) [x0, x1, some (.d x), some (.d y), x4, some (.d (.int 23)), x6, x7] := by kernel_rfl
theorem e87_24 (x y : D) : f_error_87 [.d (er87 x y 24)] = .ok (.d (.int 24)) [some (.d (er87 x y 24))] := by kernel_rfl
theorem t87_24 (x y : D) : f_attributes [.d (er87 x y 24), .d (.int 24)] = .ok (.live (.lst (due87 x y 24))) [some (.d (er87 x y 24)), some (.d (.int 24))] := by kernel_rfl
theorem u87_24 (x0 x1 x4 x6 x7 : Option SV) (x y : D) : due87E [x0, x1, some (.d x), some (.d y), x4, some (.d (.int 24)), x6, x7] = .ok (.fr (.lst (due87 x y 24))) [x0, x1, some (.d x), some (.d y), x4, some (.d (.int 24)), x6, x7] := by kernel_rfl
theorem e87_25 (x y : D) : f_error_87 [.d (er87 x y 25)] = .ok (.d (.int 25)) [some (.d (er87 x y 25))] := by kernel_rfl
theorem t87_25 (x y : D) : f_attributes [.d (er87 x y 25), .d (.int 25)] = .ok (.live (.lst (due87 x y 25))) [some (.d (er87 x y 25)), some (.d (.int 25))] := by kernel_rfl
theorem u87_25 (x0 x1 x4 x6 x7 : Option SV) (x y : D) : due87E [x0, x1, some (.d x), some (.d y), x4, some (.d (.int 25)), x6, x7] = .ok (.fr (.lst (due87 x y 25))) [x0, x1, some (.d x), some (.d y), x4, some (.d (.int 25)), x6, x7] := by kernel_rfl
theorem e87_26 (x y : D) : f_error_87 [.d (er87 x y 26)] = .ok (.d (.int 26)) [some (.d (er87 x y 26))] := by kernel_rfl
theorem t87_26 (x y : D) : f_attributes [.d (er87 x y 26), .d (.int 26)] = .ok (.live (.lst (due87 x y 26))) [some (.d (er87 x y 26)), some (.d (.int 26))] := by kernel_rfl
theorem u87_26 (x0 x1 x4 x6 x7 : Option SV) (x y : D) : due87E [x0, x1, some (.d x), some (.d y), x4, some (.d (.int 26)), x6, x7] = .ok (.fr (.lst (due87 x y 26))) [x0, x1, some (.d x), some (.d y), x4, some (.d (.int 26)), x6, x7] := by kernel_rfl
theorem e87_27 (x y : D) : f_error_87 [.d (er87 x y 27)] = .ok (.d (.int 27)) [some (.d (er87 x y 27))] := by kernel_rfl
theorem t87_27 (x y : D) : f_attributes [.d (er87 x y 27), .d (.int 27)] = .ok (.live (.lst (due87 x y 27))) [some (.d (er87 x y 27)), some (.d (.int 27))] := by kernel_rfl
theorem u87_27 (x0 x1 x4 x6 x7 : Option SV) (x y : D) : due87E [x0, x1, some (.d x), some (.d y), x4, some (.d (.int 27)), x6, x7] = .ok (.fr (.lst (due87 x y 27))) [x0, x1, some (.d x), some (.d y), x4, some (.d (.int 27)), x6, x7] := by kernel_rfl
theorem e87_28 (x y : D) : f_error_87 [.d (er87 x y 28)] = .ok (.d (.int 28)) [some (.d (er87 x y 28))] := by kernel_rfl
theorem t87_28 (x y : D) : f_attributes [.d (er87 x y 28), .d (.int 28)] = .ok (.live (.lst (due87 x y 28))) [some (.d (er87 x y 28)), some (.d (.int 28))] := by kernel_rfl
theorem u87_28 (x0 x1 x4 x6 x7 : Option SV) (x y : D) : due87E [x0, x1, some (.d x), some (.d y), x4, some (.d (.int 28)), x6, x7] = .ok (.fr (.lst (due87 x y 28))) [x0, x1, some (.d x), some (.d y), x4, some (.d (.int 28)), x6, x7] := by kernel_rfl
theorem e87_29 (x y : D) : f_error_87 [.d (er87 x y 29)] = .ok (.d (.int 29)) [some (.d (er87 x y 29))] := by kernel_rfl
theorem t87_29 (x y : D) : f_attributes [.d (er87 x y 29), .d (.int 29)] = .ok (.live (.lst (due87 x y 29))) [some (.d (er87 x y 29)), some (.d (.int 29))] := by kernel_rfl
theorem u87_29 (x0 x1 x4 x6 x7 : Option SV) (x y : D) : due87E [x0, x1, some (.d x), some (.d y), x4, some (.d (.int 29)), x6, x7] = .ok (.fr (.lst (due87 x y 29))) [x0, x1, some (.d x), some (.d y), x4, some (.d (.int 29)), x6, x7] := by kernel_rfl
theorem e87_30 (x y : D) : f_error_87 [.d (er87 x y 30)] = .ok (.d (.int 30)) [some (.d (er87 x y 30))] := by kernel_rfl
theorem t87_30 (x y : D) : f_attributes [.d (er87 x y 30), .d (.int 30)] = .ok (.live (.lst (due87 x y 30))) [some (.d (er87 x y 30)), some (.d (.int 30))] := by kernel_rfl
theorem u87_30 (x0 x1 x4 x6 x7 : Option SV) (x y : D) : due87E [x0, x1, some (.d x), some (.d y), x4, some (.d (.int 30)), x6, x7] = .ok (.fr (.lst (due87 x y 30))) [x0, x1, some (.d x), some (.d y), x4, some (.d (.int 30)), x6, x7] := by kernel_rfl
theorem e87_31 (x y : D) : f_error_87 [.d (er87 x y 31)] = .ok (.d (.int 31)) [some (.d (er87 x y 31))] := by kernel_rfl
theorem t87_31 (x y : D) : f_attributes [.d (er87 x y 31), .d (.int 31)] = .ok (.live (.lst (due87 x y 31))) [some (.d (er87 x y 31)), some (.d (.int 31))] := by kernel_rfl
theorem u87_31 (x0 x1 x4 x6 x7 : Option SV) (x y : D) : due87E [x0, x1, some (.d x), some (.d y), x4, some (.d (.int 31)), x6, x7] = .ok (.fr (.lst (due87 x y 31))) [x0, x1, some (.d x), some (.d y), x4, some (.d (.int 31)), x6, x7] := by kernel_rfl
theorem e87_32 (x y : D) : f_error_87 [.d (er87 x y 32)] = .ok (.d (.int 32)) [some (.d (er87 x y 32))] := by kernel_rfl
theorem t87_32 (x y : D) : f_attributes [.d (er87 x y 32), .d (.int 32)] = .ok (.live (.lst (due87 x y 32))) [some (.d (er87 x y 32)), some (.d (.int 32))] := by kernel_rfl
theorem u87_32 (x0 x1 x4 x6 x7 : Option SV) (x y : D) : due87E [x0, x1, some (.d x), some (.d y), x4, some (.d (.int 32)), x6, x7] = .ok (.fr (.lst (due87 x y 32))) [x0, x1, some (.d x), some (.d y), x4, some (.d (.int 32)), x6, x7] := by kernel_rfl
theorem e87_33 (x y : D) : f_error_87 [.d (er87 x y 33)] = .ok (.d (.int 33)) [some (.d (er87 x y 33))] := by kernel_rfl
theorem t87_33 (x y : D) : f_attributes [.d (er87 x y 33), .d (.int 33)] = .ok (.live (.lst (due87 x y 33))) [some (.d (er87 x y 33)), some (.d (.int 33))] := by kernel_rfl
theorem u87_33 (x0 x1 x4 x6 x7 : Option SV) (x y : D) : due87E [x0, x1, some (.d x), some (.d y), x4, some (.d (.int 33)), x6, x7] = .ok (.fr (.lst (due87 x y 33))) [x0, x1, some (.d x), some (.d y), x4, some (.d (.int 33)), x6, x7] := by kernel_rfl
theorem e87_34 (x y : D) : f_error_87 [.d (er87 x y 34)] = .ok (.d (.int 34)) [some (.d (er87 x y 34))] := by kernel_rfl
theorem t87_34 (x y : D) : f_attributes [.d (er87 x y 34), .d (.int 34)] = .ok (.live (.lst (due87 x y 34))) [some (.d (er87 x y 34)), some (.d (.int 34))] := by kernel_rfl
theorem u87_34 (x0 x1 x4 x6 x7 : Option SV) (x y : D) : due87E [x0, x1, some (.d x), some (.d y), x4, some (.d (.int 34)), x6, x7] = .ok (.fr (.lst (due87 x y 34))) [x0, x1, some (.d x), some (.d y), x4, some (.d (.int 34)), x6, x7] := by kernel_rfl
theorem e87_35 (x y : D) : f_error_87 [.d (er87 x y 35)] = .ok (.d (.int 35)) [some (.d (er87 x y 35))] := by kernel_rfl
theorem t87_35 (x y : D) : f_attributes [.d (er87 x y 35), .d (.int 35)] = .ok (.live (.lst (due87 x y 35))) [some (.d (er87 x y 35)), some (.d (.int 35))] := by kernel_rfl
theorem u87_35 (x0 x1 x4 x6 x7 : Option SV) (x y : D) : due87E [x0, x1, some (.d x), some (.d y), x4, some (.d (.int 35)), x6, x7] = .ok (.fr (.lst (due87 x y 35))) [x0, x1, some (.d x), some (.d y), x4, some (.d (.int 35)), x6, x7] := by kernel_rfl
theorem all87 (x0 x1 x4 x6 x7 : Option SV) (x y : D) : ∀ k : Nat, k < 36 → f_error_87 [.d (er87 x y k)] = .ok (.d (.int (k : Nat))) [some (.d (er87 x y k))] ∧
    f_attributes [.d (er87 x y k), .d (.int (k : Nat))] = .ok (.live (.lst (due87 x y k))) [some (.d (er87 x y k)), some (.d (.int (k : Nat)))] ∧
    due87E [x0, x1, some (.d x), some (.d y), x4, some (.d (.int (k : Nat))), x6, x7] = .ok (.fr (.lst (due87 x y k))) [x0, x1, some (.d x), some (.d y), x4, some (.d (.int (k : Nat))), x6, x7]
  | 0, _ => ⟨e87_0 x y, t87_0 x y, u87_0 x0 x1 x4 x6 x7 x y⟩
  | 1, _ => ⟨e87_1 x y, t87_1 x y, u87_1 x0 x1 x4 x6 x7 x y⟩
  | 2, _ => ⟨e87_2 x y, t87_2 x y, u87_2 x0 x1 x4 x6 x7 x y⟩
  | 3, _ => ⟨e87_3 x y, t87_3 x y, u87_3 x0 x1 x4 x6 x7 x y⟩
  | 4, _ => ⟨e87_4 x y, t87_4 x y, u87_4 x0 x1 x4 x6 x7 x y⟩
  | 5, _ => ⟨e87_5 x y, t87_5 x y, u87_5 x0 x1 x4 x6 x7 x y⟩
  | 6, _ => ⟨e87_6 x y, t87_6 x y, u87_6 x0 x1 x4 x6 x7 x y⟩
  | 7, _ => ⟨e87_7 x y, t87_7 x y, u87_7 x0 x1 x4 x6 x7 x y⟩
  | 8, _ => ⟨e87_8 x y, t87_8 x y, u87_8 x0 x1 x4 x6 x7 x y⟩
  | 9, _ => ⟨e87_9 x y, t87_9 x y, u87_9 x0 x1 x4 x6 x7 x y⟩
  | 10, _ => ⟨e87_10 x y, t87_10 x y, u87_10 x0 x1 x4 x6 x7 x y⟩
  | 11, _ => ⟨e87_11 x y, t87_11 x y, u87_11 x0 x1 x4 x6 x7 x y⟩
  | 12, _ => ⟨e87_12 x y, t87_12 x y, u87_12 x0 x1 x4 x6 x7 x y⟩
  | 13, _ => ⟨e87_13 x y, t87_13 x y, u87_13 x0 x1 x4 x6 x7 x y⟩
  | 14, _ => ⟨e87_14 x y, t87_14 x y, u87_14 x0 x1 x4 x6 x7 x y⟩
  | 15, _ => ⟨e87_15 x y, t87_15 x y, u87_15 x0 x1 x4 x6 x7 x y⟩
  | 16, _ => ⟨e87_16 x y, t87_16 x y, u87_16 x0 x1 x4 x6 x7 x y⟩
  | 17, _ => ⟨e87_17 x y, t87_17 x y, u87_17 x0 x1 x4 x6 x7 x y⟩
  | 18, _ => ⟨e87_18 x y, t87_18 x y, u87_18 x0 x1 x4 x6 x7 x y⟩
  | 19, _ => ⟨e87_19 x y, t87_19 x y, u87_19 x0 x1 x4 x6 x7 x y⟩
  | 20, _ => ⟨e87_20 x y, t87_20 x y, u87_20 x0 x1 x4 x6 x7 x y⟩
  | 21, _ => ⟨e87_21 x y, t87_21 x y, u87_21 x0 x1 x4 x6 x7 x y⟩
  | 22, _ => ⟨e87_22 x y, t87_22 x y, u87_22 x0 x1 x4 x6 x7 x y⟩
  | 23, _ => ⟨e87_23 x y, t87_23 x y, u87_23 x0 x1 x4 x6 x7 x y⟩
  | 24, _ => ⟨e87_24 x y, t87_24 x y, u87_24 x0 x1 x4 x6 x7 x y⟩
  | 25, _ => ⟨e87_25 x y, t87_25 x y, u87_25 x0 x1 x4 x6 x7 x y⟩
  | 26, _ => ⟨e87_26 x y, t87_26 x y, u87_26 x0 x1 x4 x6 x7 x y⟩
  | 27, _ => ⟨e87_27 x y, t87_27 x y, u87_27 x0 x1 x4 x6 x7 x y⟩
  | 28, _ => ⟨e87_28 x y, t87_28 x y, u87_28 x0 x1 x4 x6 x7 x y⟩
  | 29, _ => ⟨e87_29 x y, t87_29 x y, u87_29 x0 x1 x4 x6 x7 x y⟩
  | 30, _ => ⟨e87_30 x y, t87_30 x y, u87_30 x0 x1 x4 x6 x7 x y⟩
  | 31, _ => ⟨e87_31 x y, t87_31 x y, u87_31 x0 x1 x4 x6 x7 x y⟩
  | 32, _ => ⟨e87_32 x y, t87_32 x y, u87_32 x0 x1 x4 x6 x7 x y⟩
  | 33, _ => ⟨e87_33 x y, t87_33 x y, u87_33 x0 x1 x4 x6 x7 x y⟩
  | 34, _ => ⟨e87_34 x y, t87_34 x y, u87_34 x0 x1 x4 x6 x7 x y⟩
  | 35, _ => ⟨e87_35 x y, t87_35 x y, u87_35 x0 x1 x4 x6 x7 x y⟩
  | k + 36, h => by omega
def prs87 (x y : D) : List D := (List.range 36).map fun k => .tuple [er87 x y k, er87 x y k]
theorem made87 (x y : D) : f_made_4 [.d x, .d y] = .ok (.live (.lst (prs87 x y))) [some (.d x), some (.d y)] := by kernel_rfl
def th87 : List D := [.none, .int 0, .int (-1), .bool true, .str "", .str "low", .tuple [], .list [], .dict [], .tuple [.int 1, .str "a"], .int (10 ^ 30), .list [.none], .str "a b", .tuple [.tuple []], .bool false, .int 7]
theorem rep87_0 : ∃ t, reprD (.list []) = some (.d (.str t)) := ⟨_, if_pos (by kernel_rfl)⟩
theorem rep87_1 : ∀ x ∈ th87, ∃ t, reprD (.list [x]) = some (.d (.str t)) := fun x hx => by
  have : th87.all (fun x => reprOk (.list [x])) = true := by kernel_rfl
  exact ⟨_, if_pos (List.all_eq_true.mp this x hx)⟩
theorem rep87_2 : ∀ x ∈ th87, ∀ y ∈ th87, ∃ t, reprD (.list [x, y]) = some (.d (.str t)) := fun x hx y hy => by
  have : th87.all (fun x => th87.all fun y => reprOk (.list [x, y])) = true := by kernel_rfl
  exact ⟨_, if_pos (List.all_eq_true.mp (List.all_eq_true.mp this x hx) y hy)⟩
theorem rep87 {x y : D} (hx : x ∈ th87) (hy : y ∈ th87) (k : Nat) : ∃ t, reprD (.list (due87 x y k)) = some (.d (.str t)) := by
  rcases due87_cases x y k with h | h | h <;> rw [h]
  · exact rep87_0
  · exact rep87_1 x hx
  · exact rep87_2 x hx y hy
end F

/-! Sp261: right_87, law_87 (k87). -/
namespace F
open PySem Fm
theorem boolsD_t87 {α : Type} : ∀ l : List α, boolsD (l.map fun _ => PyData.bool true) = some (l.map fun _ => true)
  | [] => rfl
  | a :: r => by
    show (boolsD _).map _ = _
    rw [boolsD_t87 r]
    rfl
theorem allD_t87 {α : Type} (l : List α) : allD (.list (l.map fun _ => PyData.bool true)) = some (.d (.bool true)) := by
  show (boolsD _).bind _ = _
  rw [boolsD_t87]
  show some (RV.d (.bool _)) = _
  rw [List.all_eq_true.mpr]
  intro b hb
  obtain ⟨_, _, rfl⟩ := List.mem_map.mp hb
  rfl
theorem span87 (ns : List Int) (hn : ns.length ≤ 63) : ∃ m : Nat, m ≤ 63 ∧ (if (if (4 : Int) < (ns.length : Int) then (4 : Int) else ns.length) > 2 then (if (4 : Int) < (ns.length : Int) then (4 : Int) else ns.length) else 2) = (m : Int) := by
  refine ⟨(if (if (4 : Int) < (ns.length : Int) then (4 : Int) else ns.length) > 2 then (if (4 : Int) < (ns.length : Int) then (4 : Int) else ns.length) else 2).toNat, ?_, ?_⟩
  all_goals split <;> split <;> omega
theorem at87 {xs : List D} {v : Int} (h0 : 0 ≤ v) (h1 : v < (xs.length : Nat)) : ∃ x ∈ xs, atD xs v = some x := by
  obtain ⟨n, rfl⟩ : ∃ n : Nat, v = n := ⟨v.toNat, by omega⟩
  have h : n < xs.length := by omega
  exact ⟨xs[n], List.getElem_mem h, by rw [atD_nat, List.getElem?_eq_getElem h]⟩
theorem prs87_at (x y : D) {k : Nat} (hk : k < 36) : atD (prs87 x y) ((k : Nat) : Int) = some (.tuple [er87 x y k, er87 x y k]) := by
  rw [atD_nat]
  unfold prs87
  rw [List.getElem?_map, List.getElem?_range hk]
  rfl
theorem right_87_ok (p : Pool) : ∃ p', f_right_87 [pl p] = .ok (.d (.bool true)) [some (pl p')] := by
  rw [a_right_87]
  unfold m_right_87
  obtain ⟨v, p1, v0, v1, d1⟩ := draw p 16 (by decide) (by decide)
  obtain ⟨w, p2, w0, w1, d2⟩ := draw p1 16 (by decide) (by decide)
  obtain ⟨x, hx, ex⟩ := at87 (xs := th87) v0 (by rw [show th87.length = 16 from rfl]; exact v1)
  obtain ⟨y, hy, ey⟩ := at87 (xs := th87) w0 (by rw [show th87.length = 16 from rfl]; exact w1)
  have ep : powD (.int 10) (.int 30) = some (.d (.int (10 ^ 30))) := by kernel_rfl
  have fo : Ob.lst [.none, .int 0, .int (-1), .bool true, .str (Str.ofString ""), .str (Str.ofString "low"), .tuple [], .list [], .dict [], .tuple [.int 1, .str (Str.ofString "a")], .int (10 ^ 30), .list [.none], .str (Str.ofString "a b"), .tuple [.tuple []], .bool false, .int 7] = Ob.lst th87 := rfl
  have pl36 : (prs87 x y).length = 36 := by unfold prs87; rw [List.length_map, List.length_range]
  have r36 : range1 [.int 36] = some (rangeL 0 36) := range1_i (j := 36) (by decide)
  have r36' : rangeL 0 36 = nats (List.range 36) := rangeL_nats 36
  have e36 : eqD (.int 36) (.int 36) = some (.d (.bool true)) := rfl
  refine ⟨p2, ?_⟩
  have c36 : (((36 : Nat)) : Int) = 36 := rfl
  simp_arith [ep, fo, d1, ex, d2, ey, made87, pl36, c36, r36, r36']
  generalize hE : forL _ _ _ _ = o
  obtain ⟨S', rfl, x5, x6, x7, rfl, -⟩ := for_mem (enc := fun i : Nat => PyData.int (i : Nat)) (l := List.range 36) hE
    (fun r S => ∃ (x5 x6 x7 : Option SV), S = [some (pl p2), some (.live (.lst th87)), some (.d x), some (.d y), some (.live (.lst (prs87 x y))), x5, x6, x7] ∧ (x6 = none ∨ ∃ l, x6 = some (.live (.lst l))))
    (fun k r S hk ⟨x5, x6, x7, hS, h6⟩ => by
      subst hS
      have hk := List.mem_range.mp hk
      obtain ⟨e1, e2, -⟩ := all87 none none none none none x y k hk
      have e3 := fun x0 x1 x4 x6 x7 => (all87 x0 x1 x4 x6 x7 x y k hk).2.2
      have e4 := prs87_at x y hk
      obtain ⟨t, rt⟩ := rep87 hx hy k
      rw [b87]
      rcases h6 with rfl | ⟨l, rfl⟩
      · simp_arith [b_right_87_2, e3, e4, e1, e2, rt, beq_self_eq_true]
        exact ⟨_, .inl rfl, _, _, _, rfl, .inr ⟨_, rfl⟩⟩
      · simp_arith [b_right_87_2, e3, e4, e1, e2, rt, beq_self_eq_true]
        exact ⟨_, .inl rfl, _, _, _, rfl, .inr ⟨_, rfl⟩⟩)
    ⟨none, none, none, rfl, .inl rfl⟩
  simp_arith [pl36, c36, beq_self_eq_true]
theorem law_87_ok (ns : List Int) (hn : ns.length ≤ 63) : ∃ os, f_law_87 [.d (.list (iL ns))] = .ok (.d (.bool true)) os := by
  rw [a_law_87]
  unfold m_law_87
  obtain ⟨m, hm, em⟩ := span87 ns hn
  have r1 : range1 [.int (m : Int)] = some (rangeL 0 m) := range1_i (by omega)
  have n0 : neD (.list [.int 999, .int 40, .int 8, .int 12, .int 1000]) (.list [.int 999, .int 40, .int 8, .int 12, .int 1000]) = some (.d (.bool false)) := by kernel_rfl
  simp_arith [n0, iL_len, em, r1, rangeL_nats]
  rw [lc_map (enc := fun i : Nat => PyData.int (i : Nat)) (List.range m) (fun _ => .bool true) (by rw [sz, List.length_range]; omega) (fun i hi => by
    obtain ⟨c, ec⟩ := cell ns i (by have := List.mem_range.mp hi; omega)
    obtain ⟨p, ep⟩ := pool c
    obtain ⟨p', er⟩ := right_87_ok p
    simp_arith [ec, ep, er])]
  simp_arith [allD_t87]
  exact ⟨_, rfl⟩
end F

namespace L87
open PySem L2 Fm F
section
variable {P : Program} {w : World} {K : PySem.W.Frag} {mg : Str → Option Value} {base : Heap} {cl : Str → Option Addr}
theorem sc_cell : FnScope ["_law_script", "_law_k", "_law_state", "_law_number_here"] ["_law_script", "_law_k"] (defScope st_cell) := ⟨rfl, rfl, rfl, by decide +kernel, rfl, by decide +kernel, by decide +kernel⟩
theorem k_cell (fc : Fc K mg)  (e : ∃ f fd, mg "_law_cell" = some (.ref f) ∧ Fun K "_law_cell" "_law_cell" st_cell f fd) : Def P w K mg base cl "_law_cell" st_cell 1 ["_law_script", "_law_k"] f_cell := by
  obtain ⟨f, fd, hm, F⟩ := e
  refine ⟨f, fd, hm, F, fn_ok F sc_cell rfl rfl (fxL_lt (by decide)) fun cd A outer s H E vs ok => ?_, F.binds (fun _ _ _ _ _ _ us hl => match us, hl with | [_, _], _ => rfl)⟩
  unfold m_cell b_cell_1
  exact (db_cons (ds_if (dt_cmp (ok_lt ok.h) (de_var 1) (de_fn ok_len rfl fc.b_len bt_len (da_cons (de_var 0) da_nil))) (db_one (ds_ret (de_ix ok.u1 (de_var 0) (de_var 1)))) db_nil) (db_cons (ds_set 2 rfl ok.nd (de_bin ok_mod (de_bin ok_mul de_int (de_bin ok_add (de_bin ok_add (de_bin ok_mul (de_var 1) (de_var 1)) (de_bin ok_mul de_int (de_var 1))) de_int)) de_int)) (db_cons (ds_for po_cx ok.calm (di_seq (dd_of (de_slice (de_var 0) dp_none (dp_some de_int)))) (dg_name 3 rfl ok.nd) (db_one (ds_set 2 rfl ok.nd (de_bin ok_mod (de_bin ok_add (de_bin ok_mul (de_var 2) de_int) (de_var 3)) de_int)))) (db_one (ds_ret (de_var 2))))))
theorem sc_pool : FnScope ["_law_cell_here", "_law_digits"] ["_law_cell_here"] (defScope st_pool) := ⟨rfl, rfl, rfl, by decide +kernel, rfl, by decide +kernel, by decide +kernel⟩
theorem k_pool (fc : Fc K mg)  (e : ∃ f fd, mg "_law_pool" = some (.ref f) ∧ Fun K "_law_pool" "_law_pool" st_pool f fd) : Def P w K mg base cl "_law_pool" st_pool 1 ["_law_cell_here"] f_pool := by
  obtain ⟨f, fd, hm, F⟩ := e
  refine ⟨f, fd, hm, F, fn_ok F sc_pool rfl rfl (fxL_lt (by decide)) fun cd A outer s H E vs ok => ?_, F.binds (fun _ _ _ _ _ _ us hl => match us, hl with | [_], _ => rfl)⟩
  unfold m_pool
  exact (db_cons (ds_set 1 rfl ok.nd (de_if (dt_bool (dw_or (dt_cmp (ok_lt ok.h) (de_var 0) de_int) (dw_or1 (dt_cmp (ok_ge ok.h) (de_var 0) (de_bin ok_pow de_int de_int))))) (de_fn ok_abs rfl fc.b_abs bt_abs (da_cons (de_var 0) da_nil)) de_int)) (db_one (ds_ret (de_lst (dl_cons (dd_of (de_bin ok_mod (de_var 0) de_int)) (dl_cons (dd_of (de_var 1)) (dl_cons (dd_of de_int) dl_nil)))))))
theorem sc_draw : FnScope ["_law_pool_here", "_law_upto", "_law_state", "_law_digit"] ["_law_pool_here", "_law_upto"] (defScope st_draw) := ⟨rfl, rfl, rfl, by decide +kernel, rfl, by decide +kernel, by decide +kernel⟩
theorem k_draw (fc : Fc K mg)  (e : ∃ f fd, mg "_law_draw" = some (.ref f) ∧ Fun K "_law_draw" "_law_draw" st_draw f fd) : Def P w K mg base cl "_law_draw" st_draw 1 ["_law_pool_here", "_law_upto"] f_draw := by
  obtain ⟨f, fd, hm, F⟩ := e
  refine ⟨f, fd, hm, F, fn_ok F sc_draw rfl rfl (fxL_lt (by decide)) fun cd A outer s H E vs ok => ?_, F.binds (fun _ _ _ _ _ _ us hl => match us, hl with | [_, _], _ => rfl)⟩
  unfold m_draw
  exact (db_cons (ds_asg (dd_of (de_bin ok_add (de_ix ok.u1 (de_var 0) de_int) de_int)) (dg_sub (W := wx E) ok.u1 (de_var 0) de_int)) (db_cons (ds_set 2 rfl ok.nd (de_ix ok.u1 (de_var 0) de_int)) (db_cons (ds_asg (dd_of (de_bin ok_mod (de_bin ok_add (de_bin ok_add (de_bin ok_mul (de_var 2) (de_bin ok_add (de_bin ok_mod (de_var 2) de_int) de_int)) (de_bin ok_mul de_int (de_ix ok.u1 (de_var 0) de_int))) de_int) de_int)) (dg_sub (W := wx E) ok.u1 (de_var 0) de_int)) (db_cons (ds_if (dt_cmp (ok_gt ok.h) (de_ix ok.u1 (de_var 0) de_int) de_int) (db_cons (ds_asg (dd_of (de_fn ok_divmod rfl fc.b_divmod bt_divmod (da_cons (de_ix ok.u1 (de_var 0) de_int) (da_cons (de_var 1) da_nil)))) (dg_tup ok.calm (dgs_cons (dg_sub (W := wx E) ok.u1 (de_var 0) de_int) (dgs_cons (dg_name 3 rfl ok.nd) dgs_nil)))) (db_one (ds_ret (de_var 3)))) db_nil) (db_one (ds_ret (de_bin ok_mod (de_bin ok_fdiv (de_ix ok.u1 (de_var 0) de_int) de_int) (de_var 1))))))))
theorem sc_error_87 : FnScope ["_law_e", "_law_kinds_here", "_law_bases", "_law_own", "_law_at"] ["_law_e"] (defScope st_error_87) := ⟨rfl, rfl, rfl, by decide +kernel, rfl, by decide +kernel, by decide +kernel⟩
theorem k_error_87 (fc : Fc K mg)  (er : Errs K cl rs ts) (e : ∃ f fd, mg "_law_error" = some (.ref f) ∧ Fun K "_law_error" "_law_error" st_error_87 f fd) : Def P w K mg base cl "_law_error" st_error_87 1 ["_law_e"] f_error_87 := by
  obtain ⟨f, fd, hm, F⟩ := e
  refine ⟨f, fd, hm, F, fn_ok F sc_error_87 rfl rfl (fxL_lt (by decide)) fun cd A outer s H E vs ok => ?_, F.binds (fun _ _ _ _ _ _ us hl => match us, hl with | [_], _ => rfl)⟩
  unfold m_error_87
  exact (db_cons (ds_set 1 rfl ok.nd (de_lst (dl_cons (dd_of (de_isV er errN_rs (de_var 0) ⟨rfl, by decide, fc.g_InvalidRow⟩ tm_InvalidRow rfl fc.b_isinstance)) (dl_cons (dd_of (de_isV er errN_rs (de_var 0) ⟨rfl, by decide, fc.g_InvalidKind⟩ tm_InvalidKind rfl fc.b_isinstance)) (dl_cons (dd_of (de_isV er errN_rs (de_var 0) ⟨rfl, by decide, fc.g_InvalidRows⟩ tm_InvalidRows rfl fc.b_isinstance)) dl_nil))))) (db_cons (ds_set 1 rfl ok.nd (de_bin ok_add (de_var 1) (de_lst (dl_cons (dd_of (de_isV er errN_rs (de_var 0) ⟨rfl, by decide, fc.g_InvalidNumber⟩ tm_InvalidNumber rfl fc.b_isinstance)) (dl_cons (dd_of (de_isV er errN_rs (de_var 0) ⟨rfl, by decide, fc.g_InvalidPlan⟩ tm_InvalidPlan rfl fc.b_isinstance)) (dl_cons (dd_of (de_isV er errN_rs (de_var 0) ⟨rfl, by decide, fc.g_InvalidNames⟩ tm_InvalidNames rfl fc.b_isinstance)) dl_nil)))))) (db_cons (ds_set 1 rfl ok.nd (de_bin ok_add (de_var 1) (de_lst (dl_cons (dd_of (de_isV er errN_rs (de_var 0) ⟨rfl, by decide, fc.g_InvalidText⟩ tm_InvalidText rfl fc.b_isinstance)) (dl_cons (dd_of (de_isV er errN_rs (de_var 0) ⟨rfl, by decide, fc.g_InvalidStep⟩ tm_InvalidStep rfl fc.b_isinstance)) (dl_cons (dd_of (de_isV er errN_rs (de_var 0) ⟨rfl, by decide, fc.g_InvalidSize⟩ tm_InvalidSize rfl fc.b_isinstance)) dl_nil)))))) (db_cons (ds_set 1 rfl ok.nd (de_bin ok_add (de_var 1) (de_lst (dl_cons (dd_of (de_isV er errN_rs (de_var 0) ⟨rfl, by decide, fc.g_InvalidTable⟩ tm_InvalidTable rfl fc.b_isinstance)) (dl_cons (dd_of (de_isV er errN_rs (de_var 0) ⟨rfl, by decide, fc.g_InvalidCrowd⟩ tm_InvalidCrowd rfl fc.b_isinstance)) (dl_cons (dd_of (de_isV er errN_rs (de_var 0) ⟨rfl, by decide, fc.g_InvalidHeight⟩ tm_InvalidHeight rfl fc.b_isinstance)) dl_nil)))))) (db_cons (ds_set 1 rfl ok.nd (de_bin ok_add (de_var 1) (de_lst (dl_cons (dd_of (de_isV er errN_rs (de_var 0) ⟨rfl, by decide, fc.g_InvalidSources⟩ tm_InvalidSources rfl fc.b_isinstance)) (dl_cons (dd_of (de_isV er errN_rs (de_var 0) ⟨rfl, by decide, fc.g_InvalidKnown⟩ tm_InvalidKnown rfl fc.b_isinstance)) (dl_cons (dd_of (de_isV er errN_rs (de_var 0) ⟨rfl, by decide, fc.g_InvalidRecord⟩ tm_InvalidRecord rfl fc.b_isinstance)) dl_nil)))))) (db_cons (ds_set 1 rfl ok.nd (de_bin ok_add (de_var 1) (de_lst (dl_cons (dd_of (de_isV er errN_rs (de_var 0) ⟨rfl, by decide, fc.g_InvalidRun⟩ tm_InvalidRun rfl fc.b_isinstance)) (dl_cons (dd_of (de_isV er errN_rs (de_var 0) ⟨rfl, by decide, fc.g_InvalidShare⟩ tm_InvalidShare rfl fc.b_isinstance)) (dl_cons (dd_of (de_isV er errN_rs (de_var 0) ⟨rfl, by decide, fc.g_InvalidLine⟩ tm_InvalidLine rfl fc.b_isinstance)) dl_nil)))))) (db_cons (ds_set 1 rfl ok.nd (de_bin ok_add (de_var 1) (de_lst (dl_cons (dd_of (de_isV er errN_rs (de_var 0) ⟨rfl, by decide, fc.g_InvalidDeed⟩ tm_InvalidDeed rfl fc.b_isinstance)) (dl_cons (dd_of (de_isV er errN_rs (de_var 0) ⟨rfl, by decide, fc.g_InvalidCommand⟩ tm_InvalidCommand rfl fc.b_isinstance)) (dl_cons (dd_of (de_isV er errN_rs (de_var 0) ⟨rfl, by decide, fc.g_UnknownLine⟩ tm_UnknownLine rfl fc.b_isinstance)) dl_nil)))))) (db_cons (ds_set 1 rfl ok.nd (de_bin ok_add (de_var 1) (de_lst (dl_cons (dd_of (de_isV er errN_rs (de_var 0) ⟨rfl, by decide, fc.g_UnknownHeight⟩ tm_UnknownHeight rfl fc.b_isinstance)) (dl_cons (dd_of (de_isV er errN_rs (de_var 0) ⟨rfl, by decide, fc.g_UnknownName⟩ tm_UnknownName rfl fc.b_isinstance)) (dl_cons (dd_of (de_isV er errN_rs (de_var 0) ⟨rfl, by decide, fc.g_OtherLines⟩ tm_OtherLines rfl fc.b_isinstance)) dl_nil)))))) (db_cons (ds_set 1 rfl ok.nd (de_bin ok_add (de_var 1) (de_lst (dl_cons (dd_of (de_isV er errN_rs (de_var 0) ⟨rfl, by decide, fc.g_OtherPeople⟩ tm_OtherPeople rfl fc.b_isinstance)) (dl_cons (dd_of (de_isV er errN_rs (de_var 0) ⟨rfl, by decide, fc.g_NotSame⟩ tm_NotSame rfl fc.b_isinstance)) (dl_cons (dd_of (de_isV er errN_rs (de_var 0) ⟨rfl, by decide, fc.g_NoOrder⟩ tm_NoOrder rfl fc.b_isinstance)) dl_nil)))))) (db_cons (ds_set 1 rfl ok.nd (de_bin ok_add (de_var 1) (de_lst (dl_cons (dd_of (de_isV er errN_rs (de_var 0) ⟨rfl, by decide, fc.g_LineTaken⟩ tm_LineTaken rfl fc.b_isinstance)) (dl_cons (dd_of (de_isV er errN_rs (de_var 0) ⟨rfl, by decide, fc.g_HeightTaken⟩ tm_HeightTaken rfl fc.b_isinstance)) (dl_cons (dd_of (de_isV er errN_rs (de_var 0) ⟨rfl, by decide, fc.g_LineInUse⟩ tm_LineInUse rfl fc.b_isinstance)) dl_nil)))))) (db_cons (ds_set 1 rfl ok.nd (de_bin ok_add (de_var 1) (de_lst (dl_cons (dd_of (de_isV er errN_rs (de_var 0) ⟨rfl, by decide, fc.g_LastLine⟩ tm_LastLine rfl fc.b_isinstance)) (dl_cons (dd_of (de_isV er errN_rs (de_var 0) ⟨rfl, by decide, fc.g_NobodyWaits⟩ tm_NobodyWaits rfl fc.b_isinstance)) (dl_cons (dd_of (de_isV er errN_rs (de_var 0) ⟨rfl, by decide, fc.g_NothingToUndo⟩ tm_NothingToUndo rfl fc.b_isinstance)) dl_nil)))))) (db_cons (ds_set 1 rfl ok.nd (de_bin ok_add (de_var 1) (de_lst (dl_cons (dd_of (de_isV er errN_rs (de_var 0) ⟨rfl, by decide, fc.g_TooManyPeople⟩ tm_TooManyPeople rfl fc.b_isinstance)) (dl_cons (dd_of (de_isV er errN_rs (de_var 0) ⟨rfl, by decide, fc.g_TooManyLines⟩ tm_TooManyLines rfl fc.b_isinstance)) (dl_cons (dd_of (de_isV er errN_rs (de_var 0) ⟨rfl, by decide, fc.g_TooManyDeeds⟩ tm_TooManyDeeds rfl fc.b_isinstance)) dl_nil)))))) (db_cons (ds_set 2 rfl ok.nd (de_lst (dl_cons (dd_of (de_isV er errN_rs (de_var 0) ⟨rfl, by decide, fc.g_MeetError⟩ tm_MeetError rfl fc.b_isinstance)) (dl_cons (dd_of (de_isV er errN_rs (de_var 0) ⟨rfl, by decide, fc.g_FindError⟩ tm_FindError rfl fc.b_isinstance)) (dl_cons (dd_of (de_isV er errN_rs (de_var 0) ⟨rfl, by decide, fc.g_LimitError⟩ tm_LimitError rfl fc.b_isinstance)) dl_nil))))) (db_cons (ds_set 3 rfl ok.nd (de_lst (dl_cons (dd_of (de_isVb (T := "ValueError") er errN_rs (de_var 0) eb_ValueError rfl fc.b_ValueError (by decide +kernel) rfl fc.b_isinstance)) (dl_cons (dd_of (de_isVb (T := "LookupError") er errN_rs (de_var 0) eb_LookupError rfl fc.b_LookupError (by decide +kernel) rfl fc.b_isinstance)) (dl_cons (dd_of (de_isVb (T := "ArithmeticError") er errN_rs (de_var 0) eb_ArithmeticError rfl fc.b_ArithmeticError (by decide +kernel) rfl fc.b_isinstance)) dl_nil))))) (db_cons (ds_if (dt_bool (dw_or (dt_cmp (ok_neX ok.h) (de_m1 (by decide) (fun _ _ _ h => countD_ty h) PySem.F.plainAttrs_list PySem.F.slot_list_count PySem.F.type_list_count (mo_count ok.h) (de_var 1) de_bl) de_int) (dw_or1 (dt_cmp (ok_neX ok.h) (de_var 3) (de_var 2))))) (db_one (ds_ret (de_bin ok_sub de_int de_int))) db_nil) (db_cons (ds_set 4 rfl ok.nd (de_m1 (by decide) (fun _ _ _ h => indexD_ty h) PySem.F.plainAttrs_list PySem.F.slot_list_index PySem.F.type_list_index mo_index (de_var 1) de_bl)) (db_one (ds_ret (de_if (dt_cmp (ok_eqX ok.h) (de_var 2) (de_lst (dl_cons (dd_of (de_cmp (ok_lt ok.h) (de_var 4) de_int)) (dl_cons (dd_of (de_chain (ok_lt ok.h) (ok_lt ok.h) de_int (de_var 4) de_int)) (dl_cons (dd_of (de_cmp (ok_gt ok.h) (de_var 4) de_int)) dl_nil))))) (de_var 4) (de_bin ok_sub de_int de_int))))))))))))))))))))
theorem sc_made_4 : FnScope ["_law_thing", "_law_mate", "_law_found"] ["_law_thing", "_law_mate"] (defScope st_made_4) := ⟨rfl, rfl, rfl, by decide +kernel, rfl, by decide +kernel, by decide +kernel⟩
theorem k_made_4 (fc : Fc K mg)  (e_HeightTaken : ErrDX P w K mg base "HeightTaken" "HeightTaken.__init__" st_HeightTaken [("height" : Str)]) (e_InvalidCommand : ErrDX P w K mg base "InvalidCommand" "InvalidCommand.__init__" st_InvalidCommand [("command" : Str)]) (e_InvalidCrowd : ErrDX P w K mg base "InvalidCrowd" "InvalidCrowd.__init__" st_InvalidCrowd [("index" : Str)]) (e_InvalidDeed : ErrDX P w K mg base "InvalidDeed" "InvalidDeed.__init__" st_InvalidDeed [("index" : Str)]) (e_InvalidHeight : ErrDX P w K mg base "InvalidHeight" "InvalidHeight.__init__" st_InvalidHeight [("height" : Str)]) (e_InvalidKind : ErrDX P w K mg base "InvalidKind" "InvalidKind.__init__" st_InvalidKind [("kind" : Str)]) (e_InvalidKnown : ErrDX P w K mg base "InvalidKnown" "InvalidKnown.__init__" st_InvalidKnown [("index" : Str)]) (e_InvalidLine : ErrDX P w K mg base "InvalidLine" "InvalidLine.__init__" st_InvalidLine [("line" : Str)]) (e_InvalidNames : ErrDX P w K mg base "InvalidNames" "InvalidNames.__init__" st_InvalidNames [("index" : Str)]) (e_InvalidNumber : ErrDX P w K mg base "InvalidNumber" "InvalidNumber.__init__" st_InvalidNumber [("number" : Str)]) (e_InvalidPlan : ErrDX P w K mg base "InvalidPlan" "InvalidPlan.__init__" st_InvalidPlan [("value" : Str)]) (e_InvalidRecord : ErrDX P w K mg base "InvalidRecord" "InvalidRecord.__init__" st_InvalidRecord [("index" : Str)]) (e_InvalidRow : ErrDX P w K mg base "InvalidRow" "InvalidRow.__init__" st_InvalidRow [("index" : Str)]) (e_InvalidRows : ErrDX P w K mg base "InvalidRows" "InvalidRows.__init__" st_InvalidRows [("index" : Str)]) (e_InvalidRun : ErrDX P w K mg base "InvalidRun" "InvalidRun.__init__" st_InvalidRun [("index" : Str)]) (e_InvalidShare : ErrDX P w K mg base "InvalidShare" "InvalidShare.__init__" st_InvalidShare [("share" : Str)]) (e_InvalidSize : ErrDX P w K mg base "InvalidSize" "InvalidSize.__init__" st_InvalidSize [("size" : Str)]) (e_InvalidSources : ErrDX P w K mg base "InvalidSources" "InvalidSources.__init__" st_InvalidSources [("index" : Str)]) (e_InvalidStep : ErrDX P w K mg base "InvalidStep" "InvalidStep.__init__" st_InvalidStep [("step" : Str)]) (e_InvalidTable : ErrDX P w K mg base "InvalidTable" "InvalidTable.__init__" st_InvalidTable [("index" : Str)]) (e_InvalidText : ErrDX P w K mg base "InvalidText" "InvalidText.__init__" st_InvalidText [("text" : Str)]) (e_LastLine : ErrDX P w K mg base "LastLine" "LastLine.__init__" st_LastLine []) (e_LineInUse : ErrDX P w K mg base "LineInUse" "LineInUse.__init__" st_LineInUse [("line" : Str)]) (e_LineTaken : ErrDX P w K mg base "LineTaken" "LineTaken.__init__" st_LineTaken [("line" : Str)]) (e_NoOrder : ErrDX P w K mg base "NoOrder" "NoOrder.__init__" st_NoOrder []) (e_NobodyWaits : ErrDX P w K mg base "NobodyWaits" "NobodyWaits.__init__" st_NobodyWaits []) (e_NotSame : ErrDX P w K mg base "NotSame" "NotSame.__init__" st_NotSame [("one" : Str), ("other" : Str)]) (e_NothingToUndo : ErrDX P w K mg base "NothingToUndo" "NothingToUndo.__init__" st_NothingToUndo []) (e_OtherLines : ErrDX P w K mg base "OtherLines" "OtherLines.__init__" st_OtherLines []) (e_OtherPeople : ErrDX P w K mg base "OtherPeople" "OtherPeople.__init__" st_OtherPeople []) (e_TooManyDeeds : ErrDX P w K mg base "TooManyDeeds" "TooManyDeeds.__init__" st_TooManyDeeds [("count" : Str)]) (e_TooManyLines : ErrDX P w K mg base "TooManyLines" "TooManyLines.__init__" st_TooManyLines [("count" : Str)]) (e_TooManyPeople : ErrDX P w K mg base "TooManyPeople" "TooManyPeople.__init__" st_TooManyPeople [("count" : Str)]) (e_UnknownHeight : ErrDX P w K mg base "UnknownHeight" "UnknownHeight.__init__" st_UnknownHeight [("height" : Str)]) (e_UnknownLine : ErrDX P w K mg base "UnknownLine" "UnknownLine.__init__" st_UnknownLine [("line" : Str)]) (e_UnknownName : ErrDX P w K mg base "UnknownName" "UnknownName.__init__" st_UnknownName [("name" : Str)]) (e : ∃ f fd, mg "_law_made" = some (.ref f) ∧ Fun K "_law_made" "_law_made" st_made_4 f fd) : Def P w K mg base cl "_law_made" st_made_4 3 ["_law_thing", "_law_mate"] f_made_4 := by
  obtain ⟨f, fd, hm, F⟩ := e
  refine ⟨f, fd, hm, F, fn_ok F sc_made_4 rfl rfl (fxL_lt (by decide)) fun cd A outer s H E vs ok => ?_, F.binds (fun _ _ _ _ _ _ us hl => match us, hl with | [_, _], _ => rfl)⟩
  unfold m_made_4
  exact (db_cons (ds_set 2 rfl ok.nd (de_lst (dl_cons (dd_of (de_tup (dl_cons (dd_of (de_mkE e_InvalidRow ok rfl (dl_cons (dd_of (de_var 0)) dl_nil) (hn := by omega))) (dl_cons (dd_of (de_mkEK (ks := [("index" : Str)]) (π := [0]) e_InvalidRow ok rfl (dk_cons (dd_of (de_var 0)) dk_nil) (fun _ _ _ _ _ _ _ ws hl => match ws, hl with | [_], _ => rfl) (hn := by omega))) dl_nil)))) (dl_cons (dd_of (de_tup (dl_cons (dd_of (de_mkE e_InvalidKind ok rfl (dl_cons (dd_of (de_var 0)) dl_nil) (hn := by omega))) (dl_cons (dd_of (de_mkEK (ks := [("kind" : Str)]) (π := [0]) e_InvalidKind ok rfl (dk_cons (dd_of (de_var 0)) dk_nil) (fun _ _ _ _ _ _ _ ws hl => match ws, hl with | [_], _ => rfl) (hn := by omega))) dl_nil)))) dl_nil)))) (db_cons (ds_set 2 rfl ok.nd (de_bin ok_add (de_var 2) (de_lst (dl_cons (dd_of (de_tup (dl_cons (dd_of (de_mkE e_InvalidRows ok rfl (dl_cons (dd_of (de_var 0)) dl_nil) (hn := by omega))) (dl_cons (dd_of (de_mkEK (ks := [("index" : Str)]) (π := [0]) e_InvalidRows ok rfl (dk_cons (dd_of (de_var 0)) dk_nil) (fun _ _ _ _ _ _ _ ws hl => match ws, hl with | [_], _ => rfl) (hn := by omega))) dl_nil)))) dl_nil)))) (db_cons (ds_set 2 rfl ok.nd (de_bin ok_add (de_var 2) (de_lst (dl_cons (dd_of (de_tup (dl_cons (dd_of (de_mkE e_InvalidNumber ok rfl (dl_cons (dd_of (de_var 0)) dl_nil) (hn := by omega))) (dl_cons (dd_of (de_mkEK (ks := [("number" : Str)]) (π := [0]) e_InvalidNumber ok rfl (dk_cons (dd_of (de_var 0)) dk_nil) (fun _ _ _ _ _ _ _ ws hl => match ws, hl with | [_], _ => rfl) (hn := by omega))) dl_nil)))) dl_nil)))) (db_cons (ds_set 2 rfl ok.nd (de_bin ok_add (de_var 2) (de_lst (dl_cons (dd_of (de_tup (dl_cons (dd_of (de_mkE e_InvalidPlan ok rfl (dl_cons (dd_of (de_var 0)) dl_nil) (hn := by omega))) (dl_cons (dd_of (de_mkEK (ks := [("value" : Str)]) (π := [0]) e_InvalidPlan ok rfl (dk_cons (dd_of (de_var 0)) dk_nil) (fun _ _ _ _ _ _ _ ws hl => match ws, hl with | [_], _ => rfl) (hn := by omega))) dl_nil)))) (dl_cons (dd_of (de_tup (dl_cons (dd_of (de_mkE e_InvalidNames ok rfl (dl_cons (dd_of (de_var 0)) dl_nil) (hn := by omega))) (dl_cons (dd_of (de_mkEK (ks := [("index" : Str)]) (π := [0]) e_InvalidNames ok rfl (dk_cons (dd_of (de_var 0)) dk_nil) (fun _ _ _ _ _ _ _ ws hl => match ws, hl with | [_], _ => rfl) (hn := by omega))) dl_nil)))) dl_nil))))) (db_cons (ds_set 2 rfl ok.nd (de_bin ok_add (de_var 2) (de_lst (dl_cons (dd_of (de_tup (dl_cons (dd_of (de_mkE e_InvalidText ok rfl (dl_cons (dd_of (de_var 0)) dl_nil) (hn := by omega))) (dl_cons (dd_of (de_mkEK (ks := [("text" : Str)]) (π := [0]) e_InvalidText ok rfl (dk_cons (dd_of (de_var 0)) dk_nil) (fun _ _ _ _ _ _ _ ws hl => match ws, hl with | [_], _ => rfl) (hn := by omega))) dl_nil)))) (dl_cons (dd_of (de_tup (dl_cons (dd_of (de_mkE e_InvalidStep ok rfl (dl_cons (dd_of (de_var 0)) dl_nil) (hn := by omega))) (dl_cons (dd_of (de_mkEK (ks := [("step" : Str)]) (π := [0]) e_InvalidStep ok rfl (dk_cons (dd_of (de_var 0)) dk_nil) (fun _ _ _ _ _ _ _ ws hl => match ws, hl with | [_], _ => rfl) (hn := by omega))) dl_nil)))) dl_nil))))) (db_cons (ds_set 2 rfl ok.nd (de_bin ok_add (de_var 2) (de_lst (dl_cons (dd_of (de_tup (dl_cons (dd_of (de_mkE e_InvalidSize ok rfl (dl_cons (dd_of (de_var 0)) dl_nil) (hn := by omega))) (dl_cons (dd_of (de_mkEK (ks := [("size" : Str)]) (π := [0]) e_InvalidSize ok rfl (dk_cons (dd_of (de_var 0)) dk_nil) (fun _ _ _ _ _ _ _ ws hl => match ws, hl with | [_], _ => rfl) (hn := by omega))) dl_nil)))) (dl_cons (dd_of (de_tup (dl_cons (dd_of (de_mkE e_InvalidTable ok rfl (dl_cons (dd_of (de_var 0)) dl_nil) (hn := by omega))) (dl_cons (dd_of (de_mkEK (ks := [("index" : Str)]) (π := [0]) e_InvalidTable ok rfl (dk_cons (dd_of (de_var 0)) dk_nil) (fun _ _ _ _ _ _ _ ws hl => match ws, hl with | [_], _ => rfl) (hn := by omega))) dl_nil)))) dl_nil))))) (db_cons (ds_set 2 rfl ok.nd (de_bin ok_add (de_var 2) (de_lst (dl_cons (dd_of (de_tup (dl_cons (dd_of (de_mkE e_InvalidCrowd ok rfl (dl_cons (dd_of (de_var 0)) dl_nil) (hn := by omega))) (dl_cons (dd_of (de_mkEK (ks := [("index" : Str)]) (π := [0]) e_InvalidCrowd ok rfl (dk_cons (dd_of (de_var 0)) dk_nil) (fun _ _ _ _ _ _ _ ws hl => match ws, hl with | [_], _ => rfl) (hn := by omega))) dl_nil)))) dl_nil)))) (db_cons (ds_set 2 rfl ok.nd (de_bin ok_add (de_var 2) (de_lst (dl_cons (dd_of (de_tup (dl_cons (dd_of (de_mkE e_InvalidHeight ok rfl (dl_cons (dd_of (de_var 0)) dl_nil) (hn := by omega))) (dl_cons (dd_of (de_mkEK (ks := [("height" : Str)]) (π := [0]) e_InvalidHeight ok rfl (dk_cons (dd_of (de_var 0)) dk_nil) (fun _ _ _ _ _ _ _ ws hl => match ws, hl with | [_], _ => rfl) (hn := by omega))) dl_nil)))) dl_nil)))) (db_cons (ds_set 2 rfl ok.nd (de_bin ok_add (de_var 2) (de_lst (dl_cons (dd_of (de_tup (dl_cons (dd_of (de_mkE e_InvalidSources ok rfl (dl_cons (dd_of (de_var 0)) dl_nil) (hn := by omega))) (dl_cons (dd_of (de_mkEK (ks := [("index" : Str)]) (π := [0]) e_InvalidSources ok rfl (dk_cons (dd_of (de_var 0)) dk_nil) (fun _ _ _ _ _ _ _ ws hl => match ws, hl with | [_], _ => rfl) (hn := by omega))) dl_nil)))) dl_nil)))) (db_cons (ds_set 2 rfl ok.nd (de_bin ok_add (de_var 2) (de_lst (dl_cons (dd_of (de_tup (dl_cons (dd_of (de_mkE e_InvalidKnown ok rfl (dl_cons (dd_of (de_var 0)) dl_nil) (hn := by omega))) (dl_cons (dd_of (de_mkEK (ks := [("index" : Str)]) (π := [0]) e_InvalidKnown ok rfl (dk_cons (dd_of (de_var 0)) dk_nil) (fun _ _ _ _ _ _ _ ws hl => match ws, hl with | [_], _ => rfl) (hn := by omega))) dl_nil)))) dl_nil)))) (db_cons (ds_set 2 rfl ok.nd (de_bin ok_add (de_var 2) (de_lst (dl_cons (dd_of (de_tup (dl_cons (dd_of (de_mkE e_InvalidRecord ok rfl (dl_cons (dd_of (de_var 0)) dl_nil) (hn := by omega))) (dl_cons (dd_of (de_mkEK (ks := [("index" : Str)]) (π := [0]) e_InvalidRecord ok rfl (dk_cons (dd_of (de_var 0)) dk_nil) (fun _ _ _ _ _ _ _ ws hl => match ws, hl with | [_], _ => rfl) (hn := by omega))) dl_nil)))) dl_nil)))) (db_cons (ds_set 2 rfl ok.nd (de_bin ok_add (de_var 2) (de_lst (dl_cons (dd_of (de_tup (dl_cons (dd_of (de_mkE e_InvalidRun ok rfl (dl_cons (dd_of (de_var 0)) dl_nil) (hn := by omega))) (dl_cons (dd_of (de_mkEK (ks := [("index" : Str)]) (π := [0]) e_InvalidRun ok rfl (dk_cons (dd_of (de_var 0)) dk_nil) (fun _ _ _ _ _ _ _ ws hl => match ws, hl with | [_], _ => rfl) (hn := by omega))) dl_nil)))) (dl_cons (dd_of (de_tup (dl_cons (dd_of (de_mkE e_InvalidShare ok rfl (dl_cons (dd_of (de_var 0)) dl_nil) (hn := by omega))) (dl_cons (dd_of (de_mkEK (ks := [("share" : Str)]) (π := [0]) e_InvalidShare ok rfl (dk_cons (dd_of (de_var 0)) dk_nil) (fun _ _ _ _ _ _ _ ws hl => match ws, hl with | [_], _ => rfl) (hn := by omega))) dl_nil)))) dl_nil))))) (db_cons (ds_set 2 rfl ok.nd (de_bin ok_add (de_var 2) (de_lst (dl_cons (dd_of (de_tup (dl_cons (dd_of (de_mkE e_InvalidLine ok rfl (dl_cons (dd_of (de_var 0)) dl_nil) (hn := by omega))) (dl_cons (dd_of (de_mkEK (ks := [("line" : Str)]) (π := [0]) e_InvalidLine ok rfl (dk_cons (dd_of (de_var 0)) dk_nil) (fun _ _ _ _ _ _ _ ws hl => match ws, hl with | [_], _ => rfl) (hn := by omega))) dl_nil)))) (dl_cons (dd_of (de_tup (dl_cons (dd_of (de_mkE e_InvalidDeed ok rfl (dl_cons (dd_of (de_var 0)) dl_nil) (hn := by omega))) (dl_cons (dd_of (de_mkEK (ks := [("index" : Str)]) (π := [0]) e_InvalidDeed ok rfl (dk_cons (dd_of (de_var 0)) dk_nil) (fun _ _ _ _ _ _ _ ws hl => match ws, hl with | [_], _ => rfl) (hn := by omega))) dl_nil)))) dl_nil))))) (db_cons (ds_set 2 rfl ok.nd (de_bin ok_add (de_var 2) (de_lst (dl_cons (dd_of (de_tup (dl_cons (dd_of (de_mkE e_InvalidCommand ok rfl (dl_cons (dd_of (de_var 0)) dl_nil) (hn := by omega))) (dl_cons (dd_of (de_mkEK (ks := [("command" : Str)]) (π := [0]) e_InvalidCommand ok rfl (dk_cons (dd_of (de_var 0)) dk_nil) (fun _ _ _ _ _ _ _ ws hl => match ws, hl with | [_], _ => rfl) (hn := by omega))) dl_nil)))) dl_nil)))) (db_cons (ds_set 2 rfl ok.nd (de_bin ok_add (de_var 2) (de_lst (dl_cons (dd_of (de_tup (dl_cons (dd_of (de_mkE e_UnknownLine ok rfl (dl_cons (dd_of (de_var 0)) dl_nil) (hn := by omega))) (dl_cons (dd_of (de_mkEK (ks := [("line" : Str)]) (π := [0]) e_UnknownLine ok rfl (dk_cons (dd_of (de_var 0)) dk_nil) (fun _ _ _ _ _ _ _ ws hl => match ws, hl with | [_], _ => rfl) (hn := by omega))) dl_nil)))) dl_nil)))) (db_cons (ds_set 2 rfl ok.nd (de_bin ok_add (de_var 2) (de_lst (dl_cons (dd_of (de_tup (dl_cons (dd_of (de_mkE e_UnknownHeight ok rfl (dl_cons (dd_of (de_var 0)) dl_nil) (hn := by omega))) (dl_cons (dd_of (de_mkEK (ks := [("height" : Str)]) (π := [0]) e_UnknownHeight ok rfl (dk_cons (dd_of (de_var 0)) dk_nil) (fun _ _ _ _ _ _ _ ws hl => match ws, hl with | [_], _ => rfl) (hn := by omega))) dl_nil)))) (dl_cons (dd_of (de_tup (dl_cons (dd_of (de_mkE e_UnknownName ok rfl (dl_cons (dd_of (de_var 0)) dl_nil) (hn := by omega))) (dl_cons (dd_of (de_mkEK (ks := [("name" : Str)]) (π := [0]) e_UnknownName ok rfl (dk_cons (dd_of (de_var 0)) dk_nil) (fun _ _ _ _ _ _ _ ws hl => match ws, hl with | [_], _ => rfl) (hn := by omega))) dl_nil)))) dl_nil))))) (db_cons (ds_set 2 rfl ok.nd (de_bin ok_add (de_var 2) (de_lst (dl_cons (dd_of (de_tup (dl_cons (dd_of (de_mkE0 e_OtherLines ok rfl)) (dl_cons (dd_of (de_mkE0 e_OtherLines ok rfl)) dl_nil)))) (dl_cons (dd_of (de_tup (dl_cons (dd_of (de_mkE0 e_OtherPeople ok rfl)) (dl_cons (dd_of (de_mkE0 e_OtherPeople ok rfl)) dl_nil)))) dl_nil))))) (db_cons (ds_set 2 rfl ok.nd (de_bin ok_add (de_var 2) (de_lst (dl_cons (dd_of (de_tup (dl_cons (dd_of (de_mkE e_NotSame ok rfl (dl_cons (dd_of (de_var 0)) (dl_cons (dd_of (de_var 1)) dl_nil)) (hn := by omega))) (dl_cons (dd_of (de_mkEK (ks := [("other" : Str), ("one" : Str)]) (π := [1, 0]) e_NotSame ok rfl (dk_cons (dd_of (de_var 1)) (dk_cons (dd_of (de_var 0)) dk_nil)) (fun _ _ _ _ _ _ _ ws hl => match ws, hl with | [_, _], _ => rfl) (hn := by omega))) dl_nil)))) (dl_cons (dd_of (de_tup (dl_cons (dd_of (de_mkE0 e_NoOrder ok rfl)) (dl_cons (dd_of (de_mkE0 e_NoOrder ok rfl)) dl_nil)))) dl_nil))))) (db_cons (ds_set 2 rfl ok.nd (de_bin ok_add (de_var 2) (de_lst (dl_cons (dd_of (de_tup (dl_cons (dd_of (de_mkE e_LineTaken ok rfl (dl_cons (dd_of (de_var 0)) dl_nil) (hn := by omega))) (dl_cons (dd_of (de_mkEK (ks := [("line" : Str)]) (π := [0]) e_LineTaken ok rfl (dk_cons (dd_of (de_var 0)) dk_nil) (fun _ _ _ _ _ _ _ ws hl => match ws, hl with | [_], _ => rfl) (hn := by omega))) dl_nil)))) (dl_cons (dd_of (de_tup (dl_cons (dd_of (de_mkE e_HeightTaken ok rfl (dl_cons (dd_of (de_var 0)) dl_nil) (hn := by omega))) (dl_cons (dd_of (de_mkEK (ks := [("height" : Str)]) (π := [0]) e_HeightTaken ok rfl (dk_cons (dd_of (de_var 0)) dk_nil) (fun _ _ _ _ _ _ _ ws hl => match ws, hl with | [_], _ => rfl) (hn := by omega))) dl_nil)))) dl_nil))))) (db_cons (ds_set 2 rfl ok.nd (de_bin ok_add (de_var 2) (de_lst (dl_cons (dd_of (de_tup (dl_cons (dd_of (de_mkE e_LineInUse ok rfl (dl_cons (dd_of (de_var 0)) dl_nil) (hn := by omega))) (dl_cons (dd_of (de_mkEK (ks := [("line" : Str)]) (π := [0]) e_LineInUse ok rfl (dk_cons (dd_of (de_var 0)) dk_nil) (fun _ _ _ _ _ _ _ ws hl => match ws, hl with | [_], _ => rfl) (hn := by omega))) dl_nil)))) (dl_cons (dd_of (de_tup (dl_cons (dd_of (de_mkE0 e_LastLine ok rfl)) (dl_cons (dd_of (de_mkE0 e_LastLine ok rfl)) dl_nil)))) dl_nil))))) (db_cons (ds_set 2 rfl ok.nd (de_bin ok_add (de_var 2) (de_lst (dl_cons (dd_of (de_tup (dl_cons (dd_of (de_mkE0 e_NobodyWaits ok rfl)) (dl_cons (dd_of (de_mkE0 e_NobodyWaits ok rfl)) dl_nil)))) (dl_cons (dd_of (de_tup (dl_cons (dd_of (de_mkE0 e_NothingToUndo ok rfl)) (dl_cons (dd_of (de_mkE0 e_NothingToUndo ok rfl)) dl_nil)))) dl_nil))))) (db_cons (ds_set 2 rfl ok.nd (de_bin ok_add (de_var 2) (de_lst (dl_cons (dd_of (de_tup (dl_cons (dd_of (de_mkE e_TooManyPeople ok rfl (dl_cons (dd_of (de_var 0)) dl_nil) (hn := by omega))) (dl_cons (dd_of (de_mkEK (ks := [("count" : Str)]) (π := [0]) e_TooManyPeople ok rfl (dk_cons (dd_of (de_var 0)) dk_nil) (fun _ _ _ _ _ _ _ ws hl => match ws, hl with | [_], _ => rfl) (hn := by omega))) dl_nil)))) dl_nil)))) (db_cons (ds_set 2 rfl ok.nd (de_bin ok_add (de_var 2) (de_lst (dl_cons (dd_of (de_tup (dl_cons (dd_of (de_mkE e_TooManyLines ok rfl (dl_cons (dd_of (de_var 0)) dl_nil) (hn := by omega))) (dl_cons (dd_of (de_mkEK (ks := [("count" : Str)]) (π := [0]) e_TooManyLines ok rfl (dk_cons (dd_of (de_var 0)) dk_nil) (fun _ _ _ _ _ _ _ ws hl => match ws, hl with | [_], _ => rfl) (hn := by omega))) dl_nil)))) (dl_cons (dd_of (de_tup (dl_cons (dd_of (de_mkE e_TooManyDeeds ok rfl (dl_cons (dd_of (de_var 0)) dl_nil) (hn := by omega))) (dl_cons (dd_of (de_mkEK (ks := [("count" : Str)]) (π := [0]) e_TooManyDeeds ok rfl (dk_cons (dd_of (de_var 0)) dk_nil) (fun _ _ _ _ _ _ _ ws hl => match ws, hl with | [_], _ => rfl) (hn := by omega))) dl_nil)))) dl_nil))))) (db_one (ds_ret (de_var 2))))))))))))))))))))))))))
theorem sc_attributes : FnScope ["_law_e", "_law_at"] ["_law_e", "_law_at"] (defScope st_attributes) := ⟨rfl, rfl, rfl, by decide +kernel, rfl, by decide +kernel, by decide +kernel⟩
theorem k_attributes (fc : Fc K mg)  (er : Errs K cl rs ts) (e : ∃ f fd, mg "_law_attributes" = some (.ref f) ∧ Fun K "_law_attributes" "_law_attributes" st_attributes f fd) : Def P w K mg base cl "_law_attributes" st_attributes 1 ["_law_e", "_law_at"] f_attributes := by
  obtain ⟨f, fd, hm, F⟩ := e
  refine ⟨f, fd, hm, F, fn_ok F sc_attributes rfl rfl (fxL_lt (by decide)) fun cd A outer s H E vs ok => ?_, F.binds (fun _ _ _ _ _ _ us hl => match us, hl with | [_, _], _ => rfl)⟩
  unfold m_attributes
  exact (db_cons (ds_if (dt_cmp (ok_in ok.h) (de_var 1) (de_lst (dl_cons (dd_of de_int) (dl_cons (dd_of de_int) (dl_cons (dd_of de_int) (dl_cons (dd_of de_int) (dl_cons (dd_of de_int) (dl_cons (dd_of de_int) (dl_cons (dd_of de_int) (dl_cons (dd_of de_int) (dl_cons (dd_of de_int) (dl_cons (dd_of de_int) dl_nil)))))))))))) (db_one (ds_ret (de_lst (dl_cons (dd_of (de_flV er errN_rs ef_index (de_var 0))) dl_nil)))) db_nil) (db_cons (ds_if (dt_cmp (ok_in ok.h) (de_var 1) (de_lst (dl_cons (dd_of de_int) (dl_cons (dd_of de_int) (dl_cons (dd_of de_int) dl_nil))))) (db_one (ds_ret (de_lst (dl_cons (dd_of (de_if (dt_cmp (ok_eqX ok.h) (de_var 1) de_int) (de_flV er errN_rs ef_kind (de_var 0)) (de_if (dt_cmp (ok_eqX ok.h) (de_var 1) de_int) (de_flV er errN_rs ef_number (de_var 0)) (de_flV er errN_rs ef_value (de_var 0))))) dl_nil)))) db_nil) (db_cons (ds_if (dt_cmp (ok_in ok.h) (de_var 1) (de_lst (dl_cons (dd_of de_int) (dl_cons (dd_of de_int) (dl_cons (dd_of de_int) dl_nil))))) (db_one (ds_ret (de_lst (dl_cons (dd_of (de_if (dt_cmp (ok_eqX ok.h) (de_var 1) de_int) (de_flV er errN_rs ef_text (de_var 0)) (de_if (dt_cmp (ok_eqX ok.h) (de_var 1) de_int) (de_flV er errN_rs ef_step (de_var 0)) (de_flV er errN_rs ef_size (de_var 0))))) dl_nil)))) db_nil) (db_cons (ds_if (dt_cmp (ok_in ok.h) (de_var 1) (de_lst (dl_cons (dd_of de_int) (dl_cons (dd_of de_int) (dl_cons (dd_of de_int) dl_nil))))) (db_one (ds_ret (de_lst (dl_cons (dd_of (de_flV er errN_rs ef_height (de_var 0))) dl_nil)))) db_nil) (db_cons (ds_if (dt_cmp (ok_in ok.h) (de_var 1) (de_lst (dl_cons (dd_of de_int) (dl_cons (dd_of de_int) (dl_cons (dd_of de_int) (dl_cons (dd_of de_int) dl_nil)))))) (db_one (ds_ret (de_lst (dl_cons (dd_of (de_flV er errN_rs ef_line (de_var 0))) dl_nil)))) db_nil) (db_cons (ds_if (dt_cmp (ok_in ok.h) (de_var 1) (de_lst (dl_cons (dd_of de_int) (dl_cons (dd_of de_int) (dl_cons (dd_of de_int) dl_nil))))) (db_one (ds_ret (de_lst (dl_cons (dd_of (de_if (dt_cmp (ok_eqX ok.h) (de_var 1) de_int) (de_flV er errN_rs ef_share (de_var 0)) (de_if (dt_cmp (ok_eqX ok.h) (de_var 1) de_int) (de_flV er errN_rs ef_command (de_var 0)) (de_flV er errN_rs ef_name (de_var 0))))) dl_nil)))) db_nil) (db_cons (ds_if (dt_cmp (ok_in ok.h) (de_var 1) (de_lst (dl_cons (dd_of de_int) (dl_cons (dd_of de_int) (dl_cons (dd_of de_int) dl_nil))))) (db_one (ds_ret (de_lst (dl_cons (dd_of (de_flV er errN_rs ef_count (de_var 0))) dl_nil)))) db_nil) (db_one (ds_ret (de_if (dt_cmp (ok_eqX ok.h) (de_var 1) de_int) (de_lst (dl_cons (dd_of (de_flV er errN_rs ef_one (de_var 0))) (dl_cons (dd_of (de_flV er errN_rs ef_other (de_var 0))) dl_nil))) (de_lst dl_nil)))))))))))
theorem sc_right_87 : FnScope ["_law_pool_here", "_law_some", "_law_thing", "_law_mate", "_law_pairs", "_law_at", "_law_due", "_law_e"] ["_law_pool_here"] (defScope st_right_87) := ⟨rfl, rfl, rfl, by decide +kernel, rfl, by decide +kernel, by decide +kernel⟩
theorem k_right_87 (fc : Fc K mg) (d_draw : Def P w K mg base cl "_law_draw" st_draw 1 ["_law_pool_here", "_law_upto"] f_draw) (d_error_87 : Def P w K mg base cl "_law_error" st_error_87 1 ["_law_e"] f_error_87) (d_made_4 : Def P w K mg base cl "_law_made" st_made_4 3 ["_law_thing", "_law_mate"] f_made_4) (d_attributes : Def P w K mg base cl "_law_attributes" st_attributes 1 ["_law_e", "_law_at"] f_attributes) (e : ∃ f fd, mg "_law_right" = some (.ref f) ∧ Fun K "_law_right" "_law_right" st_right_87 f fd) : Def P w K mg base cl "_law_right" st_right_87 4 ["_law_pool_here"] f_right_87 := by
  obtain ⟨f, fd, hm, F⟩ := e
  refine ⟨f, fd, hm, F, fn_ok F sc_right_87 rfl rfl (fxL_lt (by decide)) fun cd A outer s H E vs ok => ?_, F.binds (fun _ _ _ _ _ _ us hl => match us, hl with | [_], _ => rfl)⟩
  unfold m_right_87 b_right_87_1 b_right_87_2
  exact (db_cons (ds_set 1 rfl ok.nd (de_lst (dl_cons (dd_of de_non) (dl_cons (dd_of de_int) (dl_cons (dd_of (de_neg de_int)) (dl_cons (dd_of de_bl) (dl_cons (dd_of de_str) (dl_cons (dd_of de_str) (dl_cons (dd_of (de_tup dl_nil)) (dl_cons (dd_of (de_lst dl_nil)) (dl_cons (dd_of de_dct0) (dl_cons (dd_of (de_tup (dl_cons (dd_of de_int) (dl_cons (dd_of de_str) dl_nil)))) (dl_cons (dd_of (de_bin ok_pow de_int de_int)) (dl_cons (dd_of (de_lst (dl_cons (dd_of de_non) dl_nil))) (dl_cons (dd_of de_str) (dl_cons (dd_of (de_tup (dl_cons (dd_of (de_tup dl_nil)) dl_nil))) (dl_cons (dd_of de_bl) (dl_cons (dd_of de_int) dl_nil)))))))))))))))))) (db_cons (ds_par 2 3 (fx_no rfl) ok.calm ok.nd (da_cons (de_ix ok.u1 (de_var 1) (de_call d_draw (fun as h => fnOf_len as h) ok rfl (da_cons (de_var 0) (da_cons de_int da_nil)))) (da_cons (de_ix ok.u1 (de_var 1) (de_call d_draw (fun as h => fnOf_len as h) ok rfl (da_cons (de_var 0) (da_cons de_int da_nil)))) da_nil))) (db_cons (ds_set 4 rfl ok.nd (de_call d_made_4 (fun as h => fnOf_len as h) ok rfl (da_cons (de_var 2) (da_cons (de_var 3) da_nil)))) (db_cons (ds_for po_cx ok.calm (di_range1 rfl fc.b_range (da_cons (de_fn ok_len rfl fc.b_len bt_len (da_cons (de_var 4) da_nil)) da_nil)) (dg_name 5 rfl ok.nd) (db_cons (ds_set 6 rfl ok.nd (de_if (dt_cmp (ok_in ok.h) (de_var 5) (de_lst (dl_cons (dd_of de_int) (dl_cons (dd_of de_int) (dl_cons (dd_of de_int) (dl_cons (dd_of de_int) (dl_cons (dd_of de_int) (dl_cons (dd_of de_int) dl_nil)))))))) (de_lst dl_nil) (de_if (dt_cmp (ok_eqX ok.h) (de_var 5) de_int) (de_lst (dl_cons (dd_of (de_var 2)) (dl_cons (dd_of (de_var 3)) dl_nil))) (de_lst (dl_cons (dd_of (de_var 2)) dl_nil))))) (db_one (ds_for po_cx ok.calm (di_seq (dd_of (de_ix ok.u1 (de_var 4) (de_var 5)))) (dg_name 7 rfl ok.nd) (db_one (ds_if (dt_bool (dw_or (dt_cmp (ok_neX ok.h) (de_call d_error_87 (fun as h => fnOf_len as h) ok rfl (da_cons (de_var 7) da_nil)) (de_var 5)) (dw_or1 (dt_cmp (ok_neX ok.h) (de_fn (ok_repr ok.h fc.sm) rfl fc.b_repr bt_repr (da_cons (de_call d_attributes (fun as h => fnOf_len as h) ok rfl (da_cons (de_var 7) (da_cons (de_var 5) da_nil))) da_nil)) (de_fn (ok_repr ok.h fc.sm) rfl fc.b_repr bt_repr (da_cons (de_var 6) da_nil)))))) (db_one (ds_ret de_bl)) db_nil)))))) (db_one (ds_ret (de_cmp (ok_eqX ok.h) (de_fn ok_len rfl fc.b_len bt_len (da_cons (de_var 4) da_nil)) de_int)))))))
theorem sc_law_87 : FnScope ["_law_script", "_law_k"] ["_law_script"] (defScope st_law_87) := ⟨rfl, rfl, rfl, by decide +kernel, rfl, by decide +kernel, by decide +kernel⟩
theorem k_law_87 (fc : Fc K mg) (d_cell : Def P w K mg base cl "_law_cell" st_cell 1 ["_law_script", "_law_k"] f_cell) (d_pool : Def P w K mg base cl "_law_pool" st_pool 1 ["_law_cell_here"] f_pool) (d_right_87 : Def P w K mg base cl "_law_right" st_right_87 4 ["_law_pool_here"] f_right_87) (e : ∃ f fd, mg "law" = some (.ref f) ∧ Fun K "law" "law" st_law_87 f fd) : Def P w K mg base cl "law" st_law_87 5 ["_law_script"] f_law_87 := by
  obtain ⟨f, fd, hm, F⟩ := e
  refine ⟨f, fd, hm, F, fn_ok F sc_law_87 rfl rfl (fxL_lt (by decide)) fun cd A outer s H E vs ok => ?_, F.binds (fun _ _ _ _ _ _ us hl => match us, hl with | [_], _ => rfl)⟩
  unfold m_law_87
  exact (db_cons (ds_if (dt_cmp (ok_neX ok.h) (de_lst (dl_cons (dd_of (let ⟨_, h⟩ := fc.c_MOST_HEIGHT; de_gint rfl h)) (dl_cons (dd_of (let ⟨_, h⟩ := fc.c_MOST_PEOPLE; de_gint rfl h)) (dl_cons (dd_of (let ⟨_, h⟩ := fc.c_MOST_LINES; de_gint rfl h)) (dl_cons (dd_of (let ⟨_, h⟩ := fc.c_SMALL; de_gint rfl h)) (dl_cons (dd_of (let ⟨_, h⟩ := fc.c_MOST_DEEDS; de_gint rfl h)) dl_nil)))))) (de_lst (dl_cons (dd_of de_int) (dl_cons (dd_of de_int) (dl_cons (dd_of de_int) (dl_cons (dd_of de_int) (dl_cons (dd_of de_int) dl_nil))))))) (db_one (ds_ret de_bl)) db_nil) (db_one (ds_ret (de_fn (ok_all ok.calm) rfl fc.b_all bt_all (da_cons (de_lc (own := [("_law_k", 1)]) (tt := (.nm 1)) ok.calm ok.nd (fx_no rfl) (by decide) (di_range1 rfl fc.b_range (da_cons (de_fn (ok_max2 ok) rfl fc.b_max bt_max (da_cons de_int (da_cons (de_fn (ok_min2 ok) rfl fc.b_min bt_min (da_cons (de_fn ok_len rfl fc.b_len bt_len (da_cons (de_var 0) da_nil)) (da_cons de_int da_nil))) da_nil))) da_nil)) (blkOk_by rfl) (fun _ _ _ _ _ => (pg_name (i := 1) ok.nd rfl (by first | exact Or.inl rfl | exact Or.inr rfl))) (fun _ _ _ _ _ => dts_nil) (fun _ _ _ _ _ => (dd_of (de_call d_right_87 (fun as h => fnOf_len as h) (ok.blk _ _ _ _ _) rfl (da_cons (de_call d_pool (fun as h => fnOf_len as h) (ok.blk _ _ _ _ _) rfl (da_cons (de_call d_cell (fun as h => fnOf_len as h) (ok.blk _ _ _ _ _) rfl (da_cons (de_var 0) (da_cons (de_var 1) da_nil))) da_nil)) da_nil))))) da_nil)))))
theorem all_of {h : Heap} (X : K.In h) (G : h.Ns mainGlobals mg) (c : He.SaysD fa fn K) (tu : tb K = true) : Def P w K mg base (clF K rs) "law" st_law_87 5 ["_law_script"] f_law_87 := by
  obtain ⟨t_sm, tu⟩ := and2 tu
  obtain ⟨tu, tv0⟩ := and2 tu
  obtain ⟨tw0, tv1⟩ := and2 tv0
  obtain ⟨tw1, tv2⟩ := and2 tv1
  obtain ⟨tw2, tv3⟩ := and2 tv2
  obtain ⟨tw3, tv4⟩ := and2 tv3
  obtain ⟨tw4, tv5⟩ := and2 tv4
  obtain ⟨tw5, tv6⟩ := and2 tv5
  obtain ⟨tw6, tv7⟩ := and2 tv6
  obtain ⟨tw7, tv8⟩ := and2 tv7
  obtain ⟨tw8, tv9⟩ := and2 tv8
  obtain ⟨tw9, tv10⟩ := and2 tv9
  obtain ⟨tw10, tv11⟩ := and2 tv10
  obtain ⟨tw11, tv12⟩ := and2 tv11
  obtain ⟨tw12, tv13⟩ := and2 tv12
  obtain ⟨tw13, tv14⟩ := and2 tv13
  obtain ⟨tw14, tv15⟩ := and2 tv14
  obtain ⟨tw15, tv16⟩ := and2 tv15
  obtain ⟨tw16, tv17⟩ := and2 tv16
  obtain ⟨tw17, tv18⟩ := and2 tv17
  obtain ⟨tw18, tv19⟩ := and2 tv18
  obtain ⟨tw19, tv20⟩ := and2 tv19
  obtain ⟨tw20, tv21⟩ := and2 tv20
  obtain ⟨tw21, tv22⟩ := and2 tv21
  obtain ⟨tw22, tv23⟩ := and2 tv22
  obtain ⟨tw23, tv24⟩ := and2 tv23
  obtain ⟨tw24, tv25⟩ := and2 tv24
  obtain ⟨tw25, tv26⟩ := and2 tv25
  obtain ⟨tw26, tv27⟩ := and2 tv26
  obtain ⟨tw27, tv28⟩ := and2 tv27
  obtain ⟨tw28, tv29⟩ := and2 tv28
  obtain ⟨tw29, tv30⟩ := and2 tv29
  obtain ⟨tw30, tv31⟩ := and2 tv30
  obtain ⟨tw31, tv32⟩ := and2 tv31
  obtain ⟨tw32, tv33⟩ := and2 tv32
  obtain ⟨tw33, tv34⟩ := and2 tv33
  obtain ⟨tw34, tv35⟩ := and2 tv34
  obtain ⟨tw35, tv36⟩ := and2 tv35
  have tw36 := tv36
  have fc : Fc K mg := ⟨He.free_ok X G (c.fact 0), He.free_ok X G (c.fact 1), He.free_ok X G (c.fact 2), He.free_ok X G (c.fact 3), He.free_ok X G (c.fact 4), He.free_ok X G (c.fact 5), He.free_ok X G (c.fact 6), He.free_ok X G (c.fact 7), He.free_ok X G (c.fact 8), He.free_ok X G (c.fact 9), He.free_ok X G (c.fact 10), He.free_ok X G (c.fact 11), He.int_ok X G (c.fact 12), He.int_ok X G (c.fact 13), He.int_ok X G (c.fact 14), He.int_ok X G (c.fact 15), He.int_ok X G (c.fact 16), He.glo_ok X G (c.fact 17), He.glo_ok X G (c.fact 18), He.glo_ok X G (c.fact 19), He.glo_ok X G (c.fact 20), He.glo_ok X G (c.fact 21), He.glo_ok X G (c.fact 22), He.glo_ok X G (c.fact 23), He.glo_ok X G (c.fact 24), He.glo_ok X G (c.fact 25), He.glo_ok X G (c.fact 26), He.glo_ok X G (c.fact 27), He.glo_ok X G (c.fact 28), He.glo_ok X G (c.fact 29), He.glo_ok X G (c.fact 30), He.glo_ok X G (c.fact 31), He.glo_ok X G (c.fact 32), He.glo_ok X G (c.fact 33), He.glo_ok X G (c.fact 34), He.glo_ok X G (c.fact 35), He.glo_ok X G (c.fact 36), He.glo_ok X G (c.fact 37), He.glo_ok X G (c.fact 38), He.glo_ok X G (c.fact 39), He.glo_ok X G (c.fact 40), He.glo_ok X G (c.fact 41), He.glo_ok X G (c.fact 42), He.glo_ok X G (c.fact 43), He.glo_ok X G (c.fact 44), He.glo_ok X G (c.fact 45), He.glo_ok X G (c.fact 46), He.glo_ok X G (c.fact 47), He.glo_ok X G (c.fact 48), He.glo_ok X G (c.fact 49), He.glo_ok X G (c.fact 50), He.glo_ok X G (c.fact 51), He.glo_ok X G (c.fact 52), He.glo_ok X G (c.fact 53), He.glo_ok X G (c.fact 54), He.glo_ok X G (c.fact 55), t_sm⟩
  have er := errs_ok tw0
  have e_HeightTaken : ErrDX P w K mg base "HeightTaken" "HeightTaken.__init__" st_HeightTaken [("height" : Str)] := by obtain ⟨fd, F⟩ := c.def_ 8; exact errdx1 baseL tw1 fc.g_HeightTaken F sc_HeightTaken (fun _ _ _ _ _ _ us hl => match us, hl with | [_, _], _ => rfl) (fun cdv A outer s H E => pss_one (ps_err baseL (pv 0) (pv 1)))
  have e_InvalidCommand : ErrDX P w K mg base "InvalidCommand" "InvalidCommand.__init__" st_InvalidCommand [("command" : Str)] := by obtain ⟨fd, F⟩ := c.def_ 9; exact errdx1 baseV tw2 fc.g_InvalidCommand F sc_InvalidCommand (fun _ _ _ _ _ _ us hl => match us, hl with | [_, _], _ => rfl) (fun cdv A outer s H E => pss_one (ps_err baseV (pv 0) (pv 1)))
  have e_InvalidCrowd : ErrDX P w K mg base "InvalidCrowd" "InvalidCrowd.__init__" st_InvalidCrowd [("index" : Str)] := by obtain ⟨fd, F⟩ := c.def_ 10; exact errdx1 baseV tw3 fc.g_InvalidCrowd F sc_InvalidCrowd (fun _ _ _ _ _ _ us hl => match us, hl with | [_, _], _ => rfl) (fun cdv A outer s H E => pss_one (ps_err baseV (pv 0) (pv 1)))
  have e_InvalidDeed : ErrDX P w K mg base "InvalidDeed" "InvalidDeed.__init__" st_InvalidDeed [("index" : Str)] := by obtain ⟨fd, F⟩ := c.def_ 11; exact errdx1 baseV tw4 fc.g_InvalidDeed F sc_InvalidDeed (fun _ _ _ _ _ _ us hl => match us, hl with | [_, _], _ => rfl) (fun cdv A outer s H E => pss_one (ps_err baseV (pv 0) (pv 1)))
  have e_InvalidHeight : ErrDX P w K mg base "InvalidHeight" "InvalidHeight.__init__" st_InvalidHeight [("height" : Str)] := by obtain ⟨fd, F⟩ := c.def_ 12; exact errdx1 baseV tw5 fc.g_InvalidHeight F sc_InvalidHeight (fun _ _ _ _ _ _ us hl => match us, hl with | [_, _], _ => rfl) (fun cdv A outer s H E => pss_one (ps_err baseV (pv 0) (pv 1)))
  have e_InvalidKind : ErrDX P w K mg base "InvalidKind" "InvalidKind.__init__" st_InvalidKind [("kind" : Str)] := by obtain ⟨fd, F⟩ := c.def_ 13; exact errdx1 baseV tw6 fc.g_InvalidKind F sc_InvalidKind (fun _ _ _ _ _ _ us hl => match us, hl with | [_, _], _ => rfl) (fun cdv A outer s H E => pss_one (ps_err baseV (pv 0) (pv 1)))
  have e_InvalidKnown : ErrDX P w K mg base "InvalidKnown" "InvalidKnown.__init__" st_InvalidKnown [("index" : Str)] := by obtain ⟨fd, F⟩ := c.def_ 14; exact errdx1 baseV tw7 fc.g_InvalidKnown F sc_InvalidKnown (fun _ _ _ _ _ _ us hl => match us, hl with | [_, _], _ => rfl) (fun cdv A outer s H E => pss_one (ps_err baseV (pv 0) (pv 1)))
  have e_InvalidLine : ErrDX P w K mg base "InvalidLine" "InvalidLine.__init__" st_InvalidLine [("line" : Str)] := by obtain ⟨fd, F⟩ := c.def_ 15; exact errdx1 baseV tw8 fc.g_InvalidLine F sc_InvalidLine (fun _ _ _ _ _ _ us hl => match us, hl with | [_, _], _ => rfl) (fun cdv A outer s H E => pss_one (ps_err baseV (pv 0) (pv 1)))
  have e_InvalidNames : ErrDX P w K mg base "InvalidNames" "InvalidNames.__init__" st_InvalidNames [("index" : Str)] := by obtain ⟨fd, F⟩ := c.def_ 16; exact errdx1 baseV tw9 fc.g_InvalidNames F sc_InvalidNames (fun _ _ _ _ _ _ us hl => match us, hl with | [_, _], _ => rfl) (fun cdv A outer s H E => pss_one (ps_err baseV (pv 0) (pv 1)))
  have e_InvalidNumber : ErrDX P w K mg base "InvalidNumber" "InvalidNumber.__init__" st_InvalidNumber [("number" : Str)] := by obtain ⟨fd, F⟩ := c.def_ 17; exact errdx1 baseV tw10 fc.g_InvalidNumber F sc_InvalidNumber (fun _ _ _ _ _ _ us hl => match us, hl with | [_, _], _ => rfl) (fun cdv A outer s H E => pss_one (ps_err baseV (pv 0) (pv 1)))
  have e_InvalidPlan : ErrDX P w K mg base "InvalidPlan" "InvalidPlan.__init__" st_InvalidPlan [("value" : Str)] := by obtain ⟨fd, F⟩ := c.def_ 18; exact errdx1 baseV tw11 fc.g_InvalidPlan F sc_InvalidPlan (fun _ _ _ _ _ _ us hl => match us, hl with | [_, _], _ => rfl) (fun cdv A outer s H E => pss_one (ps_err baseV (pv 0) (pv 1)))
  have e_InvalidRecord : ErrDX P w K mg base "InvalidRecord" "InvalidRecord.__init__" st_InvalidRecord [("index" : Str)] := by obtain ⟨fd, F⟩ := c.def_ 19; exact errdx1 baseV tw12 fc.g_InvalidRecord F sc_InvalidRecord (fun _ _ _ _ _ _ us hl => match us, hl with | [_, _], _ => rfl) (fun cdv A outer s H E => pss_one (ps_err baseV (pv 0) (pv 1)))
  have e_InvalidRow : ErrDX P w K mg base "InvalidRow" "InvalidRow.__init__" st_InvalidRow [("index" : Str)] := by obtain ⟨fd, F⟩ := c.def_ 20; exact errdx1 baseV tw13 fc.g_InvalidRow F sc_InvalidRow (fun _ _ _ _ _ _ us hl => match us, hl with | [_, _], _ => rfl) (fun cdv A outer s H E => pss_one (ps_err baseV (pv 0) (pv 1)))
  have e_InvalidRows : ErrDX P w K mg base "InvalidRows" "InvalidRows.__init__" st_InvalidRows [("index" : Str)] := by obtain ⟨fd, F⟩ := c.def_ 21; exact errdx1 baseV tw14 fc.g_InvalidRows F sc_InvalidRows (fun _ _ _ _ _ _ us hl => match us, hl with | [_, _], _ => rfl) (fun cdv A outer s H E => pss_one (ps_err baseV (pv 0) (pv 1)))
  have e_InvalidRun : ErrDX P w K mg base "InvalidRun" "InvalidRun.__init__" st_InvalidRun [("index" : Str)] := by obtain ⟨fd, F⟩ := c.def_ 22; exact errdx1 baseV tw15 fc.g_InvalidRun F sc_InvalidRun (fun _ _ _ _ _ _ us hl => match us, hl with | [_, _], _ => rfl) (fun cdv A outer s H E => pss_one (ps_err baseV (pv 0) (pv 1)))
  have e_InvalidShare : ErrDX P w K mg base "InvalidShare" "InvalidShare.__init__" st_InvalidShare [("share" : Str)] := by obtain ⟨fd, F⟩ := c.def_ 23; exact errdx1 baseV tw16 fc.g_InvalidShare F sc_InvalidShare (fun _ _ _ _ _ _ us hl => match us, hl with | [_, _], _ => rfl) (fun cdv A outer s H E => pss_one (ps_err baseV (pv 0) (pv 1)))
  have e_InvalidSize : ErrDX P w K mg base "InvalidSize" "InvalidSize.__init__" st_InvalidSize [("size" : Str)] := by obtain ⟨fd, F⟩ := c.def_ 24; exact errdx1 baseV tw17 fc.g_InvalidSize F sc_InvalidSize (fun _ _ _ _ _ _ us hl => match us, hl with | [_, _], _ => rfl) (fun cdv A outer s H E => pss_one (ps_err baseV (pv 0) (pv 1)))
  have e_InvalidSources : ErrDX P w K mg base "InvalidSources" "InvalidSources.__init__" st_InvalidSources [("index" : Str)] := by obtain ⟨fd, F⟩ := c.def_ 25; exact errdx1 baseV tw18 fc.g_InvalidSources F sc_InvalidSources (fun _ _ _ _ _ _ us hl => match us, hl with | [_, _], _ => rfl) (fun cdv A outer s H E => pss_one (ps_err baseV (pv 0) (pv 1)))
  have e_InvalidStep : ErrDX P w K mg base "InvalidStep" "InvalidStep.__init__" st_InvalidStep [("step" : Str)] := by obtain ⟨fd, F⟩ := c.def_ 26; exact errdx1 baseV tw19 fc.g_InvalidStep F sc_InvalidStep (fun _ _ _ _ _ _ us hl => match us, hl with | [_, _], _ => rfl) (fun cdv A outer s H E => pss_one (ps_err baseV (pv 0) (pv 1)))
  have e_InvalidTable : ErrDX P w K mg base "InvalidTable" "InvalidTable.__init__" st_InvalidTable [("index" : Str)] := by obtain ⟨fd, F⟩ := c.def_ 27; exact errdx1 baseV tw20 fc.g_InvalidTable F sc_InvalidTable (fun _ _ _ _ _ _ us hl => match us, hl with | [_, _], _ => rfl) (fun cdv A outer s H E => pss_one (ps_err baseV (pv 0) (pv 1)))
  have e_InvalidText : ErrDX P w K mg base "InvalidText" "InvalidText.__init__" st_InvalidText [("text" : Str)] := by obtain ⟨fd, F⟩ := c.def_ 28; exact errdx1 baseV tw21 fc.g_InvalidText F sc_InvalidText (fun _ _ _ _ _ _ us hl => match us, hl with | [_, _], _ => rfl) (fun cdv A outer s H E => pss_one (ps_err baseV (pv 0) (pv 1)))
  have e_LastLine : ErrDX P w K mg base "LastLine" "LastLine.__init__" st_LastLine [] := errdx0 baseL tw22 fc.g_LastLine
  have e_LineInUse : ErrDX P w K mg base "LineInUse" "LineInUse.__init__" st_LineInUse [("line" : Str)] := by obtain ⟨fd, F⟩ := c.def_ 29; exact errdx1 baseL tw23 fc.g_LineInUse F sc_LineInUse (fun _ _ _ _ _ _ us hl => match us, hl with | [_, _], _ => rfl) (fun cdv A outer s H E => pss_one (ps_err baseL (pv 0) (pv 1)))
  have e_LineTaken : ErrDX P w K mg base "LineTaken" "LineTaken.__init__" st_LineTaken [("line" : Str)] := by obtain ⟨fd, F⟩ := c.def_ 30; exact errdx1 baseL tw24 fc.g_LineTaken F sc_LineTaken (fun _ _ _ _ _ _ us hl => match us, hl with | [_, _], _ => rfl) (fun cdv A outer s H E => pss_one (ps_err baseL (pv 0) (pv 1)))
  have e_NoOrder : ErrDX P w K mg base "NoOrder" "NoOrder.__init__" st_NoOrder [] := errdx0 baseL tw25 fc.g_NoOrder
  have e_NobodyWaits : ErrDX P w K mg base "NobodyWaits" "NobodyWaits.__init__" st_NobodyWaits [] := errdx0 baseL tw26 fc.g_NobodyWaits
  have e_NotSame : ErrDX P w K mg base "NotSame" "NotSame.__init__" st_NotSame [("one" : Str), ("other" : Str)] := by obtain ⟨fd, F⟩ := c.def_ 31; exact errdx2 baseL tw27 fc.g_NotSame F sc_NotSame (fun _ _ _ _ _ _ us hl => match us, hl with | [_, _, _], _ => rfl) (fun cdv A outer s H E => pss_cons (ps_err baseL (pv 0) (pv 1)) (pss_one (ps_err baseL (pv 0) (pv 2))))
  have e_NothingToUndo : ErrDX P w K mg base "NothingToUndo" "NothingToUndo.__init__" st_NothingToUndo [] := errdx0 baseL tw28 fc.g_NothingToUndo
  have e_OtherLines : ErrDX P w K mg base "OtherLines" "OtherLines.__init__" st_OtherLines [] := errdx0 baseL tw29 fc.g_OtherLines
  have e_OtherPeople : ErrDX P w K mg base "OtherPeople" "OtherPeople.__init__" st_OtherPeople [] := errdx0 baseL tw30 fc.g_OtherPeople
  have e_TooManyDeeds : ErrDX P w K mg base "TooManyDeeds" "TooManyDeeds.__init__" st_TooManyDeeds [("count" : Str)] := by obtain ⟨fd, F⟩ := c.def_ 32; exact errdx1 baseA tw31 fc.g_TooManyDeeds F sc_TooManyDeeds (fun _ _ _ _ _ _ us hl => match us, hl with | [_, _], _ => rfl) (fun cdv A outer s H E => pss_one (ps_err baseA (pv 0) (pv 1)))
  have e_TooManyLines : ErrDX P w K mg base "TooManyLines" "TooManyLines.__init__" st_TooManyLines [("count" : Str)] := by obtain ⟨fd, F⟩ := c.def_ 33; exact errdx1 baseA tw32 fc.g_TooManyLines F sc_TooManyLines (fun _ _ _ _ _ _ us hl => match us, hl with | [_, _], _ => rfl) (fun cdv A outer s H E => pss_one (ps_err baseA (pv 0) (pv 1)))
  have e_TooManyPeople : ErrDX P w K mg base "TooManyPeople" "TooManyPeople.__init__" st_TooManyPeople [("count" : Str)] := by obtain ⟨fd, F⟩ := c.def_ 34; exact errdx1 baseA tw33 fc.g_TooManyPeople F sc_TooManyPeople (fun _ _ _ _ _ _ us hl => match us, hl with | [_, _], _ => rfl) (fun cdv A outer s H E => pss_one (ps_err baseA (pv 0) (pv 1)))
  have e_UnknownHeight : ErrDX P w K mg base "UnknownHeight" "UnknownHeight.__init__" st_UnknownHeight [("height" : Str)] := by obtain ⟨fd, F⟩ := c.def_ 35; exact errdx1 baseL tw34 fc.g_UnknownHeight F sc_UnknownHeight (fun _ _ _ _ _ _ us hl => match us, hl with | [_, _], _ => rfl) (fun cdv A outer s H E => pss_one (ps_err baseL (pv 0) (pv 1)))
  have e_UnknownLine : ErrDX P w K mg base "UnknownLine" "UnknownLine.__init__" st_UnknownLine [("line" : Str)] := by obtain ⟨fd, F⟩ := c.def_ 36; exact errdx1 baseL tw35 fc.g_UnknownLine F sc_UnknownLine (fun _ _ _ _ _ _ us hl => match us, hl with | [_, _], _ => rfl) (fun cdv A outer s H E => pss_one (ps_err baseL (pv 0) (pv 1)))
  have e_UnknownName : ErrDX P w K mg base "UnknownName" "UnknownName.__init__" st_UnknownName [("name" : Str)] := by obtain ⟨fd, F⟩ := c.def_ 37; exact errdx1 baseL tw36 fc.g_UnknownName F sc_UnknownName (fun _ _ _ _ _ _ us hl => match us, hl with | [_, _], _ => rfl) (fun cdv A outer s H E => pss_one (ps_err baseL (pv 0) (pv 1)))
  have d_cell := k_cell (P := P) (w := w) (base := base) (cl := clF K rs) fc  (by obtain ⟨fd, F⟩ := c.def_ 0; exact ⟨_, fd, He.glo_ok X G (c.fact 56), fun_of F⟩)
  have d_pool := k_pool (P := P) (w := w) (base := base) (cl := clF K rs) fc  (by obtain ⟨fd, F⟩ := c.def_ 1; exact ⟨_, fd, He.glo_ok X G (c.fact 57), fun_of F⟩)
  have d_draw := k_draw (P := P) (w := w) (base := base) (cl := clF K rs) fc  (by obtain ⟨fd, F⟩ := c.def_ 2; exact ⟨_, fd, He.glo_ok X G (c.fact 58), fun_of F⟩)
  have d_error_87 := k_error_87 (P := P) (w := w) (base := base) (cl := clF K rs) fc  er (by obtain ⟨fd, F⟩ := c.def_ 3; exact ⟨_, fd, He.glo_ok X G (c.fact 59), fun_of F⟩)
  have d_made_4 := k_made_4 (P := P) (w := w) (base := base) (cl := clF K rs) fc  e_HeightTaken e_InvalidCommand e_InvalidCrowd e_InvalidDeed e_InvalidHeight e_InvalidKind e_InvalidKnown e_InvalidLine e_InvalidNames e_InvalidNumber e_InvalidPlan e_InvalidRecord e_InvalidRow e_InvalidRows e_InvalidRun e_InvalidShare e_InvalidSize e_InvalidSources e_InvalidStep e_InvalidTable e_InvalidText e_LastLine e_LineInUse e_LineTaken e_NoOrder e_NobodyWaits e_NotSame e_NothingToUndo e_OtherLines e_OtherPeople e_TooManyDeeds e_TooManyLines e_TooManyPeople e_UnknownHeight e_UnknownLine e_UnknownName (by obtain ⟨fd, F⟩ := c.def_ 4; exact ⟨_, fd, He.glo_ok X G (c.fact 60), fun_of F⟩)
  have d_attributes := k_attributes (P := P) (w := w) (base := base) (cl := clF K rs) fc  er (by obtain ⟨fd, F⟩ := c.def_ 5; exact ⟨_, fd, He.glo_ok X G (c.fact 61), fun_of F⟩)
  have d_right_87 := k_right_87 (P := P) (w := w) (base := base) (cl := clF K rs) fc d_draw d_error_87 d_made_4 d_attributes (by obtain ⟨fd, F⟩ := c.def_ 6; exact ⟨_, fd, He.glo_ok X G (c.fact 62), fun_of F⟩)
  have d_law_87 := k_law_87 (P := P) (w := w) (base := base) (cl := clF K rs) fc d_cell d_pool d_right_87 (by obtain ⟨fd, F⟩ := c.def_ 7; exact ⟨_, fd, He.glo_ok X G (c.fact 63), fun_of F⟩)
  exact d_law_87
end
end L87
open PySem PySem.W PySem.Calls PyProof.Rows
set_option maxHeartbeats 0 in
theorem L87.law_holds (hlaw : ∀ ns : List Int, ns.length ≤ 63 → ∃ os, F.f_law_87 [.d (.list (ns.map .int))] = .ok (.d (.bool true)) os) : PySem.Challenge.rw_frontmeets_k87_limits_and_errors.Holds := by
  w_on; o_law
  refine HandSHeadRun.head_any (r := OpenLaw.row PySem.Challenge.rw_frontmeets_k87_limits_and_errors) (q := view (OpenLaw.row PySem.Challenge.rw_frontmeets_k87_limits_and_errors).prog [53]) (H := L87.hk) (ob := L87.ob) (M := 66400) (loose := L87.nms) (d := HandSHeadRun.topDef (OpenLaw.row PySem.Challenge.rw_frontmeets_k87_limits_and_errors).prog 53) (kwd := []) L87.ob_eq
    (by kernel_rfl) (fun s => by kernel_rfl) L87.run (by kernel_rfl) (by kernel_rfl) (by kernel_rfl) (by rfl) (by first | assumption | decide +kernel) (by decide +kernel) ⟨rfl, rfl, rfl, rfl, rfl, by decide +kernel⟩ ?hw ?hc
  case hw => w_witness2
  case hc => exact Fm.walk_F (l := PySem.Challenge.rw_frontmeets_k87_limits_and_errors) (n := 63) (k := 5) (x := "_law_script") (y := "law") (st := L87.st_law_87) (F := F.f_law_87) rfl (by decide) (by kernel_rfl) (by kernel_rfl) ⟨rfl, by decide, by decide⟩ (fun w K mg h X G c tu => ⟨Fm.clF K L87.rs, fun base _ _ => L87.all_of X G c tu⟩) hlaw

set_option maxHeartbeats 0 in
theorem PySem.Challenge.cw_frontmeets_k87_limits_and_errors_holds : PySem.Challenge.rw_frontmeets_k87_limits_and_errors.Holds :=
  L87.law_holds F.law_87_ok
