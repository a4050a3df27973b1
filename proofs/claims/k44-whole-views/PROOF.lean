import PyProof.Rows.All
import Wide.All
import OpenK.AllK
import Wide.FinOn
import PyProof.EqAt
import PyProof.EqKinds
import PyProof.TupleCall
import HandS.ForMost
import HandS.Lambda
import HandS.EndTab
import HandS.ExcInit
import HandS.TryMany
import HandS.DictComp
import HandS.Flow
import HandS.IsInst
import HandS.TupAny
import HandS.TupMul
import HandS.TupLe
import HandS.Style
import HandS.Conv
import HandS.Zip
import HandS.Wide
import HandS.Gcd
import PyProof.ReprReads
import KE.DataEq
import KE.DataCmp
import KE.SortData
import KE.DataMinMax
import KE.DataIsa
import KE.KStar
import HandS.SortKw
import KE.KTupSum
import KE.GoesMore
import HandS.CallLocal
import HandS.WordsExc
import HandS.ExcField
import HandS.Defaults
import HandS.HeadWalk
import HandS.HeadHook4
import HandS.Head0
import HandS.Head1
import HandS.Head2
import HandS.HeadEnd
import HandS.NestedK
import KE.DatumMoreOrd
import KE.DatumIndex
import HandS.Deep
import PySem.Challenge.RW_pitchturns_k44_whole_views
set_option Elab.async false
set_option linter.all false
set_option maxRecDepth 100000
set_option maxHeartbeats 1000000
/-! The value layer: data in place of heaps. -/
namespace L2
namespace PX
open PySem PySem.Spec PyProof.Rows
/-- a key as data -/
def kD : Key → PyData
  | .inl i => .int i
  | .inr x => .str x
mutual
/-- the value stands for the data, by the map M alone -/
inductive Rp (K : PySem.W.Frag) (M : Hp) : V → PyData → Prop
  | non : Rp K M .non .none
  | bl (b : Bool) : Rp K M (.bl b) (.bool b)
  | int (i : Int) : Rp K M (.int i) (.int i)
  | str (x : Str) : Rp K M (.str x) (.str x)
  | lst {a : Addr} {xs : List V} {ds : List PyData} : M a = some (.lst xs) → RpAll K M xs ds → Rp K M (.ref a) (.list ds)
  | tup {a : Addr} {xs : List V} {ds : List PyData} : SqT K M a xs → RpAll K M xs ds → Rp K M (.ref a) (.tuple ds)
  | dicK {a : Addr} {od : Obj} {ks : List Key} {xs : List V} {ds : List PyData} : M a = some (.frz od (.dK (ks.zip xs))) → ks.length = xs.length → RpAll K M xs ds → Rp K M (.ref a) (.dict ((ks.map kD).zip ds))
  | dicT {a : Addr} {od : Obj} {ks : List (List Key)} {xs : List V} {ds : List PyData} : M a = some (.frz od (.dT (ks.zip xs))) → ks.length = xs.length → RpAll K M xs ds → Rp K M (.ref a) (.dict ((.none, .none) :: (ks.map fun k => .tuple (k.map kD)).zip ds))
inductive RpAll (K : PySem.W.Frag) (M : Hp) : List V → List PyData → Prop
  | nil : RpAll K M [] []
  | cons {v : V} {vs : List V} {d : PyData} {ds : List PyData} : Rp K M v d → RpAll K M vs ds → RpAll K M (v :: vs) (d :: ds)
end
def Mono (S S' : Hp) : Prop := ∀ a o, S a = some o → S' a = some o
theorem Mono.refl (S : Hp) : Mono S S := fun _ _ h => h
theorem Mono.trans {S S1 S2 : Hp} (a : Mono S S1) (b : Mono S1 S2) : Mono S S2 := fun c o h => b c o (a c o h)
theorem Mono.upd {S : Hp} {p : Addr} {o : HO} (h : S p = none) : Mono S (upd S p o) := fun a u e => by rw [upd_ne (ne_of_none e h)]; exact e
theorem Mono.seqL {K : PySem.W.Frag} {S S' : Hp} (m : Mono S S') {a : Addr} {xs : List V} (h : SqL K S a xs) : SqL K S' a xs := by
  rcases h with (h | ⟨o, h⟩) | h
  · exact .inl (.inl (m _ _ h))
  · exact .inl (.inr ⟨o, m _ _ h⟩)
  · exact .inr h
theorem Mono.seqT {K : PySem.W.Frag} {S S' : Hp} (m : Mono S S') {a : Addr} {xs : List V} (h : SqT K S a xs) : SqT K S' a xs := by
  rcases h with (h | ⟨o, h⟩) | h
  · exact .inl (.inl (m _ _ h))
  · exact .inl (.inr ⟨o, m _ _ h⟩)
  · exact .inr h
mutual
theorem Rp.mono {K : PySem.W.Frag} {S S' : Hp} (m : Mono S S') : ∀ {v : V} {d : PyData}, Rp K S v d → Rp K S' v d
  | _, _, .non => .non
  | _, _, .bl b => .bl b
  | _, _, .int i => .int i
  | _, _, .str x => .str x
  | _, _, .lst h r => .lst (m _ _ h) (RpAll.mono m r)
  | _, _, .tup h r => .tup (m.seqT h) (RpAll.mono m r)
  | _, _, .dicK h l r => .dicK (m _ _ h) l (RpAll.mono m r)
  | _, _, .dicT h l r => .dicT (m _ _ h) l (RpAll.mono m r)
theorem RpAll.mono {K : PySem.W.Frag} {S S' : Hp} (m : Mono S S') : ∀ {vs : List V} {ds : List PyData}, RpAll K S vs ds → RpAll K S' vs ds
  | _, _, .nil => .nil
  | _, _, .cons h r => .cons (Rp.mono m h) (RpAll.mono m r)
end
theorem RpAll.length {K : PySem.W.Frag} {S : Hp} : ∀ {vs : List V} {ds : List PyData}, RpAll K S vs ds → vs.length = ds.length
  | _, _, .nil => rfl
  | _, _, .cons _ r => congrArg (· + 1) r.length
theorem RpAll.get {K : PySem.W.Frag} {S : Hp} : ∀ {vs : List V} {ds : List PyData} {i : Nat} {d : PyData}, RpAll K S vs ds → ds[i]? = some d → ∃ v, vs[i]? = some v ∧ Rp K S v d
  | _, _, _, _, .nil, e => by simp at e
  | _, _, 0, _, .cons h _, e => by simp at e; subst e; exact ⟨_, rfl, h⟩
  | _, _, i + 1, _, .cons _ r, e => by
    obtain ⟨v, h1, h2⟩ := r.get (i := i) (by simpa using e)
    exact ⟨v, by simpa using h1, h2⟩
theorem RpAll.get' {K : PySem.W.Frag} {S : Hp} : ∀ {vs : List V} {ds : List PyData} {i : Nat} {v : V}, RpAll K S vs ds → vs[i]? = some v → ∃ d, ds[i]? = some d ∧ Rp K S v d
  | _, _, _, _, .nil, e => by simp at e
  | _, _, 0, _, .cons h _, e => by simp at e; subst e; exact ⟨_, rfl, h⟩
  | _, _, i + 1, _, .cons _ r, e => by
    obtain ⟨v, h1, h2⟩ := r.get' (i := i) (by simpa using e)
    exact ⟨v, by simpa using h1, h2⟩
theorem RpAll.append {K : PySem.W.Frag} {S : Hp} : ∀ {vs ws : List V} {ds es : List PyData}, RpAll K S vs ds → RpAll K S ws es → RpAll K S (vs ++ ws) (ds ++ es)
  | _, _, _, _, .nil, s => s
  | _, _, _, _, .cons h r, s => .cons h (r.append s)
theorem RpAll.take {K : PySem.W.Frag} {S : Hp} : ∀ {vs : List V} {ds : List PyData} (n : Nat), RpAll K S vs ds → RpAll K S (vs.take n) (ds.take n)
  | _, _, 0, _ => .nil
  | _, _, _ + 1, .nil => .nil
  | _, _, n + 1, .cons h r => .cons h (r.take n)
theorem RpAll.drop {K : PySem.W.Frag} {S : Hp} : ∀ {vs : List V} {ds : List PyData} (n : Nat), RpAll K S vs ds → RpAll K S (vs.drop n) (ds.drop n)
  | _, _, 0, r => r
  | _, _, _ + 1, .nil => .nil
  | _, _, n + 1, .cons _ r => r.drop n
theorem RpAll.set {K : PySem.W.Frag} {S : Hp} {v : V} {d : PyData} (h : Rp K S v d) : ∀ {vs : List V} {ds : List PyData} (i : Nat), RpAll K S vs ds → RpAll K S (vs.set i v) (ds.set i d)
  | _, _, _, .nil => .nil
  | _, _, 0, .cons _ r => .cons h r
  | _, _, i + 1, .cons q r => .cons q (r.set h i)
theorem RpAll.reverse {K : PySem.W.Frag} {S : Hp} : ∀ {vs : List V} {ds : List PyData}, RpAll K S vs ds → RpAll K S vs.reverse ds.reverse
  | _, _, .nil => .nil
  | _, _, .cons h r => by
    rw [List.reverse_cons, List.reverse_cons]
    exact r.reverse.append (.cons h .nil)
theorem RpAll.ints {K : PySem.W.Frag} {S : Hp} : ∀ (ns : List Int), RpAll K S (ns.map V.int) (ns.map PyData.int)
  | [] => .nil
  | n :: ns => .cons (.int n) (RpAll.ints ns)
theorem RpAll.eraseIdx {K : PySem.W.Frag} {S : Hp} : ∀ {vs : List V} {ds : List PyData} (i : Nat), RpAll K S vs ds → RpAll K S (vs.eraseIdx i) (ds.eraseIdx i)
  | _, _, _, .nil => .nil
  | _, _, 0, .cons _ r => r
  | _, _, i + 1, .cons h r => .cons h (r.eraseIdx i)
theorem RpAll.insertIdx {K : PySem.W.Frag} {S : Hp} {v : V} {d : PyData} (h : Rp K S v d) : ∀ {vs : List V} {ds : List PyData} (i : Nat), RpAll K S vs ds → RpAll K S (vs.insertIdx i v) (ds.insertIdx i d)
  | _, _, 0, r => .cons h r
  | _, _, i + 1, .nil => .nil
  | _, _, i + 1, .cons q r => .cons q (r.insertIdx h i)
mutual
theorem Rp.reads {X : Cx} {pins : List (Addr × Obj)} {σ : St} {H : Hp} {s : Shared} (I : Inv X pins σ H s) : ∀ (d : PyData) (v : V) (u : Value), Rp X.K H v d → RelV v u → d.plain = true → ∃ as, Reads s.heap u d as
  | .none, _, _, h, r, _ => by cases h; cases r; exact ⟨_, .none⟩
  | .bool b, _, _, h, r, _ => by cases h; cases r; exact ⟨_, .bool b⟩
  | .int i, _, _, h, r, _ => by cases h; obtain ⟨t, rfl⟩ := r; exact ⟨_, .int i t⟩
  | .str x, _, _, h, r, _ => by cases h; obtain ⟨t, rfl⟩ := r; exact ⟨_, .str x t⟩
  | .list ds, _, _, h, r, p => by
    cases h with
    | lst hq ha =>
      cases r
      obtain ⟨its, rv, ⟨o, n, e1, e2, e3, e4⟩, hz⟩ := I.list (SqL.of hq)
      obtain ⟨as, ra⟩ := RpAll.reads I ds _ its ha rv (by simpa [PyData.plain] using p)
      exact ⟨_, .list e1 e2 e4 (by simpa using ra)⟩
  | .tuple ds, _, _, h, r, p => by
    cases h with
    | tup hq ha =>
      cases r
      obtain ⟨its, rv, ⟨o, e1, e2, n, e3⟩, hz⟩ := I.tuple hq
      obtain ⟨as, ra⟩ := RpAll.reads I ds _ its ha rv (by simpa [PyData.plain] using p)
      exact ⟨_, .tuple e1 e2 e3 (by simpa using ra)⟩
  | .dict kvs, _, _, h, r, p => by simp [PyData.plain] at p
theorem RpAll.reads {X : Cx} {pins : List (Addr × Obj)} {σ : St} {H : Hp} {s : Shared} (I : Inv X pins σ H s) : ∀ (ds : List PyData) (vs : List V) (us : List Value), RpAll X.K H vs ds → Vals vs us → PyData.plainAll ds = true → ∃ as, ReadsAll s.heap us ds as
  | [], _, _, h, r, _ => by cases h; cases r; exact ⟨_, .nil⟩
  | d :: ds, _, _, h, r, p => by
    cases h with
    | cons h1 h2 =>
      cases r with
      | cons r1 r2 =>
        rw [PyData.plainAll, Bool.and_eq_true] at p
        obtain ⟨as, a⟩ := Rp.reads I d _ _ h1 r1 p.1
        obtain ⟨bs, b⟩ := RpAll.reads I ds _ _ h2 r2 p.2
        exact ⟨_, .cons a b⟩
end
/-! ### values, slots -/
/-- what a slot holds, what an expression gives: data that nobody changes any more; a list or dict of one's own; one that is lent (read, as it stands); the law's row; a def -/
inductive Vl where
  | d (x : PyData) | own (x : PyData) | lent (x : PyData) | row | fn (n : Nat)
abbrev Sl := List (Option Vl)
/-- an exception: its class's number, its value -/
structure Exn where
  cls : Nat
  val : PyData
/-- what is fixed through a law -/
structure Lw where
  K : PySem.W.Frag
  /-- the defs, the exceptions' classes -/
  ft : Nat → Addr
  ct : Nat → Addr
  /-- the row's address, once it is made -/
  R : Option Addr
  /-- the tables of code objects -/
  T : List (Addr × Str)
/-- the dict's content -/
def DicO (K : PySem.W.Frag) (S : Hp) (o : HO) (kvs : List (PyData × PyData)) : Prop :=
  (∃ (ks : List Key) (xs : List V) (ds : List PyData), o = .dK (ks.zip xs) ∧ ks.length = xs.length ∧ RpAll K S xs ds ∧ kvs = (ks.map kD).zip ds) ∨
  (∃ (ks : List (List Key)) (xs : List V) (ds : List PyData), o = .dT (ks.zip xs) ∧ ks.length = xs.length ∧ RpAll K S xs ds ∧ kvs = (PyData.none, PyData.none) :: (ks.map fun k => PyData.tuple (k.map kD)).zip ds)
/-- what stands at an address of one's own -/
def Cont (K : PySem.W.Frag) (S : Hp) (o : HO) : PyData → Prop
  | .list ds => ∃ vs, o = .lst vs ∧ RpAll K S vs ds
  | .dict kvs => DicO K S o kvs
  | _ => False
theorem DicO.mono {K : PySem.W.Frag} {S S' : Hp} (m : Mono S S') {o : HO} {kvs : List (PyData × PyData)} (h : DicO K S o kvs) : DicO K S' o kvs := by
  rcases h with ⟨ks, xs, ds, h1, h2, h3, h4⟩ | ⟨ks, xs, ds, h1, h2, h3, h4⟩
  · exact .inl ⟨ks, xs, ds, h1, h2, h3.mono m, h4⟩
  · exact .inr ⟨ks, xs, ds, h1, h2, h3.mono m, h4⟩
theorem Cont.mono {K : PySem.W.Frag} {S S' : Hp} (m : Mono S S') {o : HO} : ∀ {x : PyData}, Cont K S o x → Cont K S' o x
  | .list _, h => by obtain ⟨vs, e, r⟩ := h; exact ⟨vs, e, r.mono m⟩
  | .dict _, h => DicO.mono m h
/-- the law's row: the script, three ints -/
def RowOk (K : PySem.W.Frag) (S H : Hp) (a : Addr) : Prop :=
  ∃ (sa : Addr) (ns : List Int) (i j k : Int), H a = some (.lst [.ref sa, .int i, .int j, .int k]) ∧ SqL K S sa (ns.map V.int) ∧ ns.length ≤ 63 ∧ 0 ≤ i ∧ 0 ≤ j ∧ j < 2147483647
/-- the entry of a body: the heap, what is shared of it -/
structure En where
  h : Hp
  s : Hp
/-- a slot's or an expression's value -/
def SVal (L : Lw) (S H : Hp) (E0 : En) : Vl → V → Prop
  | .d x, v => Rp L.K S v x
  | .own x, v => ∃ a o, v = .ref a ∧ H a = some o ∧ S a = none ∧ E0.h a = none ∧ L.R ≠ some a ∧ Cont L.K S o x
  | .lent x, v => ∃ a o, v = .ref a ∧ H a = some o ∧ S a = none ∧ E0.h a = some o ∧ L.R ≠ some a ∧ Cont L.K S o x
  | .row, v => ∃ a, L.R = some a ∧ v = .ref a
  | .fn n, v => v = .ref (L.ft n)
def notTbl (o : HO) : Prop := ∀ ps, o ≠ .tbl ps
/-- something stands there that is no table -/
def Has (H : Hp) (a : Addr) : Prop := ∃ o, H a = some o ∧ notTbl o
/-- the heap without its tables -/
def noT (H : Hp) : Hp := fun a => match H a with
  | some (.tbl _) => none
  | o => o
theorem noT_some {H : Hp} {a : Addr} {o : HO} (h : H a = some o) (t : notTbl o) : noT H a = some o := by
  unfold noT
  rw [h]
  cases o <;> first | rfl | exact absurd rfl (t _)
theorem noT_of {H : Hp} {a : Addr} {o : HO} (h : noT H a = some o) : H a = some o ∧ notTbl o := by
  unfold noT at h
  cases q : H a with
  | none => rw [q] at h; cases h
  | some u =>
    rw [q] at h
    cases u <;> first | (cases h; exact ⟨rfl, fun _ z => by cases z⟩) | cases h
theorem noT_none {H : Hp} {a : Addr} (h : ¬ Has H a) : noT H a = none := by
  cases q : noT H a with
  | none => rfl
  | some o => exact absurd ⟨o, (noT_of q).1, (noT_of q).2⟩ h
theorem has_of {H : Hp} {a : Addr} {o : HO} (h : H a = some o) (t : notTbl o := by intro ps z; cases z) : Has H a := ⟨o, h, t⟩
theorem not_has {H : Hp} {a : Addr} (h : H a = none) : ¬ Has H a := fun ⟨o, q, _⟩ => by rw [h] at q; cases q
/-- the entry at this state -/
abbrev ent (H S : Hp) : En := ⟨noT H, S⟩
/-- the heap's side of a state -/
structure HI (L : Lw) (E0 : En) (S H : Hp) : Prop where
  base : Mono E0.s S
  sub : Mono S H
  ns : ∀ a, E0.s a = none → E0.h a ≠ none → S a = none
  keep : ∀ a o, E0.h a = some o → L.R ≠ some a → H a = some o
  row : ∀ a, L.R = some a → RowOk L.K S H a ∧ S a = none
  tabs : LamX.Tabs L.T H
  enT : ∀ a o, E0.h a = some o → notTbl o
  snt : ∀ a o, S a = some o → notTbl o
structure SI (L : Lw) (E0 : En) (st : Sl) (σ : St) (S H : Hp) : Prop extends HI L E0 S H where
  len : st.length = σ.length
  at_ : ∀ (i : Nat) vl, st[i]? = some (some vl) → ∃ v, σ[i]? = some (some v) ∧ SVal L S H E0 vl v
  dis : ∀ (i j : Nat) x y a, st[i]? = some (some (.own x)) → st[j]? = some (some (.own y)) → σ[i]? = some (some (.ref a)) → σ[j]? = some (some (.ref a)) → i = j
/-- some slot owns a -/
def Owns (st : Sl) (σ : St) (a : Addr) : Prop := ∃ (i : Nat) (x : PyData), st[i]? = some (some (.own x)) ∧ σ[i]? = some (some (.ref a))
/-- from one state to a later one -/
structure Go (L : Lw) (st : Sl) (σ : St) (S H : Hp) (st' : Sl) (S' H' : Hp) : Prop where
  mono : Mono S S'
  fr : ∀ a o, H a = some o → ¬ Owns st σ a → L.R ≠ some a → notTbl o → H' a = some o
  ownS : ∀ (i : Nat) x, st'[i]? = some (some (.own x)) → ∃ y, st[i]? = some (some (.own y)) ∧ y.isList = x.isList
  dom : ∀ a, ¬ Has H' a → ¬ Has H a
  uns : ∀ a, Has H a → S a = none → ¬ Owns st σ a → S' a = none
theorem Go.refl (L : Lw) (st : Sl) (σ : St) (S H : Hp) : Go L st σ S H st S H := ⟨.refl S, fun _ _ h _ _ _ => h, fun _ x h => ⟨x, h, rfl⟩, fun _ h => h, fun _ _ h _ => h⟩
theorem Go.trans {L : Lw} {st st1 st2 : Sl} {σ : St} {S S1 S2 H H1 H2 : Hp} (a : Go L st σ S H st1 S1 H1) (b : Go L st1 σ S1 H1 st2 S2 H2) : Go L st σ S H st2 S2 H2 :=
  have no : ∀ c, ¬ Owns st σ c → ¬ Owns st1 σ c := fun c n ⟨i, x, h1, h2⟩ => n (by obtain ⟨y, h3, _⟩ := a.ownS i x h1; exact ⟨i, y, h3, h2⟩)
  ⟨a.mono.trans b.mono, fun c o h n r t => b.fr c o (a.fr c o h n r t) (no c n) r t,
    fun i x h => by obtain ⟨y, h1, e1⟩ := b.ownS i x h; obtain ⟨z, h2, e2⟩ := a.ownS i y h1; exact ⟨z, h2, e2.trans e1⟩, fun c h => a.dom c (b.dom c h),
    fun c h1 h2 n => b.uns c (Classical.not_not.mp fun z => a.dom c z h1) (a.uns c h1 h2 n) (no c n)⟩
/-- an expression's value behind it: what is its own is in no slot -/
structure VR (L : Lw) (E0 : En) (H0 : Hp) (st : Sl) (σ : St) (S H : Hp) (vl : Vl) (v : V) : Prop where
  val : SVal L S H E0 vl v
  new : ∀ x a, vl = .own x → v = .ref a → ¬ Owns st σ a
  fr : ∀ x a, vl = .own x → v = .ref a → ¬ Has H0 a
  nl : ∀ x, vl ≠ .lent x
theorem VR.from {L : Lw} {E0 : En} {H0 H1 : Hp} {st st0 st1 : Sl} {σ : St} {S S0 S1 H : Hp} {vl : Vl} {v : V} (r : VR L E0 H1 st σ S H vl v) (g : Go L st0 σ S0 H0 st1 S1 H1) : VR L E0 H0 st σ S H vl v :=
  ⟨r.val, r.new, fun x a e e' => g.dom a (r.fr x a e e'), r.nl⟩
end PX
end L2
/-! The small language and what it means on data. -/
namespace L2
namespace PX
open PySem PySem.Spec PyProof.Rows
inductive BOp where
  | add | sub | mul | fdiv | mod | pow
  deriving DecidableEq
inductive COp where
  | eq | ne | lt | le | gt | ge | isin | notin
  deriving DecidableEq
/-- built-in functions and classes, by the call's form -/
inductive Bf where
  | len | abs | min1 | max1 | min2 | max2 | minD | maxD | sum | sorted | all | any | int | str | bool | tuple | list | dict | repr | gcd | listR | tupleR
  deriving DecidableEq
/-- kinds that isinstance asks for -/
inductive Ki where
  | int | bool | str | list | tuple | dict | row
  deriving DecidableEq
/-- methods that change nothing -/
inductive Mf where
  | get1 | get2 | split | join | lower | index | count
  deriving DecidableEq
/-- methods that change a slot's own list or dict, as a statement -/
inductive Um where
  | append | extend | insert | remove | update
  deriving DecidableEq
mutual
inductive CE where
  | var (i : Nat)
  | lit (x : PyData)
  | gc (x : Str) (d : PyData)
  | fnr (n : Nat)
  | bin (o : BOp) (a b : CE)
  | neg (a : CE)
  | cmp (a : CE) (o : COp) (b : CE)
  | cmp2 (a : CE) (o : COp) (b : CE) (o' : COp) (c : CE)
  | cmp3 (a : CE) (o : COp) (b : CE) (o' : COp) (c : CE) (o2 : COp) (d : CE)
  | isN (a : CE) | notN (a : CE)
  | isB (a : CE) (k : Bool) | notB (a : CE) (k : Bool)
  | and (a b : CE) | or (a b : CE) | not (a : CE)
  | ife (t : CQ) (a b : CE)
  | isi (a : CE) (k : Ki)
  | call (f : Nat) (as : CEs)
  | callv (i : Nat) (as : CEs)
  | blt (f : Bf) (as : CEs)
  | rep (a : CE)
  | meth (m : Mf) (o : CE) (as : CEs)
  | pop (i : Nat) (as : CEs)
  | tup (as : CEs) | lst (as : CEs) | dic (t : Bool) | dic1 (t : Bool) (a b : CE)
  | dget (a i : CE) | dgetD (a i d : CE) | din (neg : Bool) (i a : CE) | dlen (a : CE) | dlist (a : CE) | dsort (a : CE)
  | dpop (i : Nat) (k d : CE)
  | sub (a i : CE)
  | slice (a : CE) (lo hi : CO)
  | rev (a : CE)
  | comp (elt : CE) (tg : CT) (it : CI) (ifs : CW)
  | dcomp (t : Bool) (k v : CE) (tg : CT) (it : CI) (ifs : CW)
  | lam (f : Nat) (b : CE)
/-- a test -/
inductive CQ where
  | v (a : CE) | and (a b : CQ) | or (a b : CQ) | not (a : CQ)
/-- no test, or one -/
inductive CW where
  | no | yes (a : CQ)
inductive CO where
  | no | yes (a : CE)
/-- items, some starred -/
inductive CEs where
  | nil | cons (star : Bool) (a : CE) (r : CEs)
/-- what is walked -/
inductive CI where
  | e (a : CE)
  | rng1 (a : CE) | rng2 (a b : CE) | rngN (a b : CE)
  | enum (a : CE) (start : Int)
  | zip (a b : CE)
  | items (a : CE) | values (a : CE) | keys (a : CE)
/-- targets -/
inductive CT where
  | slot (i : Nat)
  | tup (ts : CTs)
  | sub (i : Nat) (ix : CE)
  | dsub (i : Nat) (ix : CE)
inductive CTs where
  | nil | cons (t : CT) (r : CTs)
end
mutual
inductive CS where
  | asg (t : CT) (e : CE)
  | par (ts : List Nat) (es : CEs)
  | asg2 (t u : CT) (e : CE)
  | asg3 (t u w : CT) (e : CE)
  | aug (o : BOp) (i : Nat) (e : CE)
  | augs (o : BOp) (i : Nat) (ix : CE) (e : CE)
  | daug (o : BOp) (i : Nat) (ix : CE) (e : CE)
  | ex (e : CE)
  | mut (m : Um) (i : Nat) (as : CEs)
  | ret (e : CE) | retN
  | ife (t : CQ) (a b : CSs)
  | for_ (t : CT) (it : CI) (b : CSs)
  | while_ (t : CQ) (b : CSs)
  | brk | cont | pass
  | raise_ (c : Nat) (a : CE)
  | frz (i : Nat)
  | fors (i : Nat) (fs : List Nat) (b : CSs)
inductive CSs where
  | nil | cons (s : CS) (r : CSs)
end
/-! ### ways on -/
def ifB (k : Bool) (a b : Prop) : Prop := if k = true then a else b
theorem ifB_congr {k k' : Bool} {a b : Prop} (h : k = k') : ifB k a b = ifB k' a b := by rw [h]
theorem ifB_true {a b : Prop} : ifB true a b = a := rfl
theorem ifB_false {a b : Prop} : ifB false a b = b := rfl
theorem ifB_intro {k : Bool} {a b : Prop} (h1 : k = true → a) (h2 : k = false → b) : ifB k a b := by
  cases k with
  | true => exact h1 rfl
  | false => exact h2 rfl
/-- what is there -/
@[reducible] def ex {α : Type} : Option α → (α → Prop) → Prop
  | some x, Q => Q x
  | none, _ => False
theorem ex_congr {α : Type} {o o' : Option α} {Q : α → Prop} (h : o = o') : ex o Q = ex o' Q := by rw [h]
theorem ex_some {α : Type} {x : α} {Q : α → Prop} : ex (some x) Q = Q x := rfl
@[reducible] def asI : PyData → (Int → Prop) → Prop
  | .int i, Q => Q i
  | _, _ => False
theorem asI_congr {x x' : PyData} {Q : Int → Prop} (h : x = x') : asI x Q = asI x' Q := by rw [h]
@[reducible] def asB : PyData → (Bool → Prop) → Prop
  | .bool i, Q => Q i
  | _, _ => False
theorem asB_congr {x x' : PyData} {Q : Bool → Prop} (h : x = x') : asB x Q = asB x' Q := by rw [h]
/-! ### operations on data -/
def smallI (j : Int) : Prop := -(2 ^ 64) < j ∧ j < 2 ^ 64
/-- data that == , in and so on serve: no dict, few levels -/
def okD (d : PyData) : Prop := d.plain = true ∧ d.depth ≤ 20
@[reducible] def binP : BOp → PyData → PyData → Prop
  | .add, .int _, .int _ => True
  | .add, .str x, .str y => x.length + y.length ≤ sizeLine
  | .add, .list a, .list b => a.length + b.length ≤ sizeLine
  | .add, .tuple a, .tuple b => a.length + b.length ≤ sizeLine
  | .sub, .int _, .int _ => True
  | .mul, .int i, .int j => smallI i ∨ smallI j
  | .mul, .list xs, .int k => -(2 ^ 63) ≤ k ∧ k < 2 ^ 63 ∧ xs.length * k.toNat ≤ sizeLine
  | .fdiv, .int _, .int j => 0 < j ∧ j < 1073741824
  | .mod, .int _, .int j => 0 < j
  | .pow, .int i, .int j => 0 ≤ j ∧ j ≤ 1000000 ∧ i.natAbs < 2 ^ 64
  | _, _, _ => False
@[reducible] def binV : BOp → PyData → PyData → Vl
  | .add, .int i, .int j => .d (.int (i + j))
  | .add, .str x, .str y => .d (.str (x ++ y))
  | .add, .list a, .list b => .own (.list (a ++ b))
  | .add, .tuple a, .tuple b => .d (.tuple (a ++ b))
  | .sub, .int i, .int j => .d (.int (i - j))
  | .mul, .int i, .int j => .d (.int (i * j))
  | .mul, .list xs, .int k => .own (.list (List.replicate k.toNat xs).flatten)
  | .fdiv, .int i, .int j => .d (.int (i / j))
  | .mod, .int i, .int j => .d (.int (i % j))
  | .pow, .int i, .int j => .d (.int (i ^ j.toNat))
  | _, _, _ => .d .none
/-- a dict's entries: an entry of none ahead tells that its keys are tuples -/
@[reducible] def dropS : List (PyData × PyData) → List (PyData × PyData)
  | (.none, _) :: r => r
  | kvs => kvs
/-- a key's data: a number, a text; a tuple of such -/
def atomD : PyData → Bool
  | .int _ => true
  | .str _ => true
  | _ => false
def tupD : PyData → Bool
  | .tuple ds => ds.all atomD && decide (ds.length ≤ 8)
  | _ => false
def dkey : List (PyData × PyData) → PyData → Prop
  | (.none, _) :: _, k => tupD k = true
  | _, k => atomD k = true
def getD' (kvs : List (PyData × PyData)) (k : PyData) : Option PyData := (kvs.find? fun p => PyData.eqv p.1 k).map (·.2)
def putD (kvs : List (PyData × PyData)) (k v : PyData) : List (PyData × PyData) :=
  if kvs.any (fun p => PyData.eqv p.1 k) then kvs.map (fun p => if PyData.eqv p.1 k then (p.1, v) else p) else kvs ++ [(k, v)]
def popD (kvs : List (PyData × PyData)) (k : PyData) : List (PyData × PyData) := kvs.filter fun p => !PyData.eqv p.1 k
@[reducible] def dnew (t : Bool) : List (PyData × PyData) := if t then [(.none, .none)] else []
def smallR (i : Int) : Prop := -(2 ^ 62) ≤ i ∧ i < 2 ^ 62
def rangeD (lo : Int) (n : Nat) : List PyData := (List.range n).map fun (k : Nat) => .int (lo + (k : Int))
/-- what the two orders ask -/
def ltP (x y : PyData) : Prop := okD x ∧ okD y ∧ PySem.W.alike x y = true ∧ x ≠ .none
@[reducible] def cmpP : COp → PyData → PyData → Prop
  | .lt, .int _, .int _ => True
  | .le, .int _, .int _ => True
  | .gt, .int _, .int _ => True
  | .ge, .int _, .int _ => True
  | .lt, x, y => ltP x y
  | .eq, x, y => okD x ∧ okD y
  | .ne, x, y => okD x ∧ okD y
  | .isin, .str _, .str _ => True
  | .notin, .str _, .str _ => True
  | .isin, x, .list ys => okD x ∧ okD (.list ys)
  | .notin, x, .list ys => okD x ∧ okD (.list ys)
  | .isin, x, .tuple ys => okD x ∧ okD (.tuple ys)
  | .notin, x, .tuple ys => okD x ∧ okD (.tuple ys)
  | _, _, _ => False
/-- a text in a text -/
def inStr (x y : Str) : Bool := !(Builtin.Str.occurrences y x 0 y.length 1).isEmpty
def inD (x : PyData) (ys : List PyData) : Bool := ys.any fun z => PyData.eqv z x
@[reducible] def cmpV : COp → PyData → PyData → Bool
  | .lt, .int i, .int j => decide (i < j)
  | .le, .int i, .int j => decide (i ≤ j)
  | .gt, .int i, .int j => decide (j < i)
  | .ge, .int i, .int j => decide (j ≤ i)
  | .lt, x, y => PySem.W.dataLt x y
  | .eq, x, y => PyData.eqv x y
  | .ne, x, y => !PyData.eqv x y
  | .isin, .str x, .str y => inStr x y
  | .notin, .str x, .str y => !inStr x y
  | .isin, x, .list ys => inD x ys
  | .notin, x, .list ys => !inD x ys
  | .isin, x, .tuple ys => inD x ys
  | .notin, x, .tuple ys => !inD x ys
  | _, _, _ => false
/-- a value's truth -/
@[reducible] def truP : PyData → Prop
  | .str x => x.length ≤ sizeLine
  | .dict _ => False
  | _ => True
@[reducible] def truV : PyData → Bool
  | .none => false
  | .bool b => b
  | .int i => i != 0
  | .str x => x.length != 0
  | .list ds => !ds.isEmpty
  | .tuple ds => !ds.isEmpty
  | .dict kvs => !kvs.isEmpty
/-- no dict -/
@[reducible] def ndP : PyData → Prop
  | .dict _ => False
  | _ => True
@[reducible] def kiD : Ki → PyData → Bool
  | .int, d => d.isInt
  | .bool, d => d.isBool
  | .str, d => d.isStr
  | .list, d => d.isList
  | .tuple, d => d.isTuple
  | .dict, d => d.isDict
  | .row, d => d.isList || d.isTuple
@[reducible] def isNoneD : PyData → Bool
  | .none => true
  | _ => false
@[reducible] def isBoolD (k : Bool) : PyData → Bool
  | .bool j => j == k
  | _ => false
/-- the item at a place, from either end -/
@[reducible] def subD : PyData → PyData → (PyData → Prop) → Prop
  | .list ds, .int i, Q => ex (atI ds i) Q
  | .tuple ds, .int i, Q => ex (atI ds i) Q
  | .str x, .int i, Q => x.length ≤ sizeLine ∧ ex (atI x.cps.toList i) fun c => Q (.str ⟨#[c]⟩)
  | _, _, _ => False
theorem subD_congr {x x' k k' : PyData} {Q : PyData → Prop} (h : x = x') (h' : k = k') : subD x k Q = subD x' k' Q := by rw [h, h']
@[reducible] def setD : PyData → PyData → PyData → (PyData → Prop) → Prop
  | .list ds, .int i, v, Q => ex (ixN ds.length i) fun j => Q (.list (ds.set j v))
  | _, _, _, _ => False
theorem setD_congr {x x' k k' v v' : PyData} {Q : PyData → Prop} (h : x = x') (h' : k = k') (h2 : v = v') : setD x k v Q = setD x' k' v' Q := by rw [h, h', h2]
/-- the part of a list from lo up to hi -/
def cutD {α : Type} (xs : List α) (lo hi : Option Int) : List α := (xs.drop (HT.sIx xs.length 0 lo)).take (HT.sIx xs.length xs.length hi - HT.sIx xs.length 0 lo)
@[reducible] def slcD : PyData → Option Int → Option Int → (Vl → Prop) → Prop
  | .list ds, lo, hi, Q => Q (.own (.list (cutD ds lo hi)))
  | .tuple ds, lo, hi, Q => Q (.d (.tuple (cutD ds lo hi)))
  | .str x, lo, hi, Q => x.length ≤ sizeLine ∧ Q (.d (.str (L2.cutS x lo hi)))
  | _, _, _, _ => False
def intsD : List PyData → Option (List Int)
  | [] => some []
  | .int i :: r => (intsD r).map (i :: ·)
  | _ => none
def boolsD : List PyData → Option (List Bool)
  | [] => some []
  | .bool i :: r => (boolsD r).map (i :: ·)
  | _ => none
/-- a value kept from now on as it is -/
@[reducible] def shr : Vl → (PyData → Prop) → Prop
  | .d x, Q => Q x
  | .own x, Q => Q x
  | _, _ => False
theorem shr_congr {x x' : Vl} {Q : PyData → Prop} (h : x = x') : shr x Q = shr x' Q := by rw [h]
/-- data, or a list of one's own -/
@[reducible] def shrL : Vl → (PyData → Prop) → Prop
  | .d x, Q => Q x
  | .own (.list x), Q => Q (.list x)
  | _, _ => False
@[reducible] def shrV : Vl → Vl
  | .own x => .d x
  | v => v
@[reducible] def bltD : Bf → List PyData → (Vl → Prop) → Prop
  | .len, [.list ds], Q => Q (.d (.int ds.length))
  | .len, [.tuple ds], Q => Q (.d (.int ds.length))
  | .len, [.str x], Q => x.length ≤ sizeLine ∧ Q (.d (.int x.length))
  | .abs, [.int i], Q => Q (.d (.int (if i < 0 then -i else i)))
  | .min2, [.int i, .int j], Q => Q (.d (.int (if j < i then j else i)))
  | .max2, [.int i, .int j], Q => Q (.d (.int (if j > i then j else i)))
  | .min1, [.list (x :: xs)], Q => okD (.list (x :: xs)) ∧ PySem.W.AlikeAll (x :: xs) ∧ Q (.d (PySem.W.minD x xs))
  | .min1, [.tuple (x :: xs)], Q => okD (.list (x :: xs)) ∧ PySem.W.AlikeAll (x :: xs) ∧ Q (.d (PySem.W.minD x xs))
  | .max1, [.list (x :: xs)], Q => okD (.list (x :: xs)) ∧ PySem.W.AlikeAll (x :: xs) ∧ Q (.d (PySem.W.maxD x xs))
  | .max1, [.tuple (x :: xs)], Q => okD (.list (x :: xs)) ∧ PySem.W.AlikeAll (x :: xs) ∧ Q (.d (PySem.W.maxD x xs))
  | .minD, [.list [], d], Q => Q (.d d)
  | .minD, [.tuple [], d], Q => Q (.d d)
  | .minD, [.tuple (x :: xs), d], Q => okD (.list (x :: xs)) ∧ PySem.W.AlikeAll (x :: xs) ∧ Q (.d (PySem.W.minD x xs))
  | .minD, [.list (x :: xs), d], Q => okD (.list (x :: xs)) ∧ PySem.W.AlikeAll (x :: xs) ∧ Q (.d (PySem.W.minD x xs))
  | .maxD, [.list [], d], Q => Q (.d d)
  | .maxD, [.tuple [], d], Q => Q (.d d)
  | .maxD, [.tuple (x :: xs), d], Q => okD (.list (x :: xs)) ∧ PySem.W.AlikeAll (x :: xs) ∧ Q (.d (PySem.W.maxD x xs))
  | .maxD, [.list (x :: xs), d], Q => okD (.list (x :: xs)) ∧ PySem.W.AlikeAll (x :: xs) ∧ Q (.d (PySem.W.maxD x xs))
  | .sum, [.list ds], Q => ex (intsD ds) fun ns => Q (.d (.int ns.sum))
  | .sum, [.tuple ds], Q => ex (intsD ds) fun ns => Q (.d (.int ns.sum))
  | .all, [.list ds], Q => ex (boolsD ds) fun bs => Q (.d (.bool (bs.all id)))
  | .any, [.list ds], Q => ex (boolsD ds) fun bs => Q (.d (.bool (bs.any id)))
  | .int, [.int i], Q => Q (.d (.int i))
  | .str, [.int i], Q => i.natAbs.log2 < 1920 ∧ Q (.d (.str (toString i)))
  | .bool, [d], Q => truP d ∧ Q (.d (.bool (truV d)))
  | .gcd, [.int i, .int j], Q => Q (.d (.int ((Nat.gcd i.natAbs j.natAbs : Nat) : Int)))
  | .sorted, [.list ds], Q => okD (.list ds) ∧ PySem.W.AllAlike ds ∧ PySem.W.Sortable ds ∧ Q (.own (.list (ds.mergeSort (PySem.W.dataLe false id))))
  | .tuple, [.list ds], Q => Q (.d (.tuple ds))
  | .tuple, [.tuple ds], Q => Q (.d (.tuple ds))
  | .list, [.list ds], Q => Q (.own (.list ds))
  | .list, [.tuple ds], Q => Q (.own (.list ds))
  | .listR, [.int i], Q => (smallR i ∧ i ≤ sizeLine) ∧ Q (.own (.list (rangeD 0 i.toNat)))
  | .listR, [.int i, .int j], Q => (smallR i ∧ smallR j ∧ j - i ≤ sizeLine) ∧ Q (.own (.list (rangeD i (j - i).toNat)))
  | .tupleR, [.int i], Q => (smallR i ∧ i ≤ sizeLine) ∧ Q (.d (.tuple (rangeD 0 i.toNat)))
  | .tupleR, [.int i, .int j], Q => (smallR i ∧ smallR j ∧ j - i ≤ sizeLine) ∧ Q (.d (.tuple (rangeD i (j - i).toNat)))
  | _, _, _ => False
theorem bltD_congr {f : Bf} {x x' : List PyData} {Q : Vl → Prop} (h : x = x') : bltD f x Q = bltD f x' Q := by rw [h]
/-! ### slots -/
@[reducible] def gs : Sl → Nat → Option Vl
  | [], _ => none
  | x :: _, 0 => x
  | _ :: r, n + 1 => gs r n
@[reducible] def ss : Sl → Nat → Option Vl → Sl
  | [], _, _ => []
  | _ :: r, 0, y => y :: r
  | x :: r, n + 1, y => x :: ss r n y
@[reducible] def lend1 : Option Vl → Option Vl
  | some (.own x) => some (.lent x)
  | v => v
/-- what is one's own is only lent within -/
@[reducible] def lendAll : Sl → Sl
  | [] => []
  | x :: r => lend1 x :: lendAll r
theorem lendAll_map : ∀ st : Sl, lendAll st = st.map lend1
  | [] => rfl
  | x :: r => congrArg (lend1 x :: ·) (lendAll_map r)
@[reducible] def wipeS : Sl → List Nat → Sl
  | st, [] => st
  | st, i :: r => wipeS (ss st i none) r
mutual
@[reducible] def CT.slots : CT → List Nat
  | .slot i => [i]
  | .tup ts => ts.slots
  | .sub _ _ => []
  | .dsub _ _ => []
@[reducible] def CTs.slots : CTs → List Nat
  | .nil => []
  | .cons t r => t.slots ++ r.slots
end
@[reducible] def CTs.len : CTs → Nat
  | .nil => 0
  | .cons _ r => r.len + 1
/-- a value that is data -/
@[reducible] def asV : Vl → (PyData → Prop) → Prop
  | .d x, Q => Q x
  | _, _ => False
/-- what a slot shows -/
@[reducible] def look : Option Vl → (PyData → Prop) → Prop
  | some (.d x), Q => Q x
  | some (.own x), Q => Q x
  | some (.lent x), Q => Q x
  | _, _ => False
/-- what a slot hands out -/
@[reducible] def take : Option Vl → (Vl → Prop) → (PyData → Prop) → Prop
  | some (.d x), Q, _ => Q (.d x)
  | some (.own x), _, R => R x
  | some .row, Q, _ => Q .row
  | some (.fn n), Q, _ => Q (.fn n)
  | _, _, _ => False
/-- a list of one's own, or anything else -/
@[reducible] def frzP : Option Vl → Prop → (List PyData → Prop) → Prop
  | some (.own (.list x)), _, R => R x
  | _, Q, _ => Q
/-- a name is read in its place, anything else is worked out: for what only looks -/
@[reducible] def bw (c : CE) (ev : Sl → (Vl → Sl → Prop) → Prop) (st : Sl) (Q : PyData → Sl → Prop) : Prop :=
  match c with
  | .var i => look (gs st i) fun x => Q x st
  | _ => ev st fun vl st' => shr vl fun x => Q x st'
/-- the name that was read stands as it was -/
@[reducible] def stab (c : CE) (st st' : Sl) : Prop :=
  match c with
  | .var i => gs st' i = gs st i
  | _ => True
def loopC (f : PyData → List PyData → (List PyData → Prop) → Prop) : List PyData → List PyData → (List PyData → Prop) → Prop
  | [], acc, k => k acc
  | x :: xs, acc, k => f x acc fun acc' => loopC f xs acc' k
def enumD : Int → List PyData → List PyData
  | _, [] => []
  | n, x :: xs => .tuple [.int n, x] :: enumD (n + 1) xs
def zipD : List PyData → List PyData → List PyData
  | x :: xs, y :: ys => .tuple [x, y] :: zipD xs ys
  | _, _ => []
/-- what a loop gets -/
@[reducible] def itemsD : PyData → (List PyData → Prop) → Prop
  | .list ds, R => R ds
  | .tuple ds, R => R ds
  | .str x, R => x.length ≤ sizeLine ∧ R (x.cps.toList.map fun c => .str ⟨#[c]⟩)
  | _, _ => False
def rangeDn (hi : Int) (n : Nat) : List PyData := (List.range n).map fun (k : Nat) => .int (hi - (k : Int))
@[reducible] def asT : PyData → (List PyData → Prop) → Prop
  | .tuple ds, Q => Q ds
  | .list ds, Q => Q ds
  | _, _ => False
@[reducible] def asLs : PyData → (List PyData → Prop) → Prop
  | .list ds, Q => Q ds
  | _, _ => False
@[reducible] def asZ : PyData → PyData → (List PyData → List PyData → Prop) → Prop
  | .list ds, .list es, Q => Q ds es
  | .tuple ds, .tuple es, Q => Q ds es
  | _, _, _ => False
@[reducible] def asD : PyData → (List (PyData × PyData) → Prop) → Prop
  | .dict kvs, Q => Q kvs
  | _, _ => False
/-- a list or dict of one's own -/
@[reducible] def asO : Option Vl → (PyData → Prop) → Prop
  | some (.own x), Q => Q x
  | _, _ => False
@[reducible] def asL : Option Vl → (List PyData → Prop) → Prop
  | some (.own (.list x)), Q => Q x
  | _, _ => False
@[reducible] def asF : Option Vl → (Nat → Prop) → Prop
  | some (.fn n), Q => Q n
  | _, _ => False
def loopD (f : PyData → List (PyData × PyData) → (List (PyData × PyData) → Prop) → Prop) : List PyData → List (PyData × PyData) → (List (PyData × PyData) → Prop) → Prop
  | [], acc, k => k acc
  | x :: xs, acc, k => f x acc fun acc' => loopD f xs acc' k
/-- a def's promise on data -/
abbrev FSp := List Vl → (Vl → Prop) → (Exn → Prop) → Prop
structure Gm where
  fs : Nat → FSp
  word : Nat → Option Str
  rep : Bool := false
  dom : Nat := 0
/-- a def's call -/
def callF (G : Gm) (f : Nat) (vs : List Vl) (Q : Vl → Prop) (E : Exn → Prop) : Prop := G.fs f vs Q E
mutual
@[reducible] def evE (G : Gm) : CE → (Exn → Prop) → Sl → (Vl → Sl → Prop) → Prop
  | .var i, _, st, Q => take (gs st i) (fun v => Q v st) fun x => Q (.d x) (ss st i (some (.d x)))
  | .lit x, _, st, Q => Q (.d x) st
  | .gc _ x, _, st, Q => Q (.d x) st
  | .fnr n, _, st, Q => Q (.fn n) st
  | .bin o a b, EX, st, Q => bw a (evE G a EX) st fun x st1 => bw b (evE G b EX) st1 fun y st2 => stab a st1 st2 ∧ binP o x y ∧ Q (binV o x y) st2
  | .neg a, EX, st, Q => bw a (evE G a EX) st fun x st1 => asI x fun i => Q (.d (.int (-i))) st1
  | .cmp a o b, EX, st, Q => bw a (evE G a EX) st fun x st1 => bw b (evE G b EX) st1 fun y st2 => stab a st1 st2 ∧ cmpP o x y ∧ Q (.d (.bool (cmpV o x y))) st2
  | .cmp2 a o b o' c, EX, st, Q => bw a (evE G a EX) st fun x st1 => bw b (evE G b EX) st1 fun y st2 => stab a st1 st2 ∧ cmpP o x y ∧
      ifB (cmpV o x y) (bw c (evE G c EX) st2 fun z st3 => stab b st2 st3 ∧ cmpP o' y z ∧ Q (.d (.bool (cmpV o' y z))) st3) (Q (.d (.bool false)) st2)
  | .cmp3 a o b o' c o2 d, EX, st, Q => bw a (evE G a EX) st fun x st1 => bw b (evE G b EX) st1 fun y st2 => stab a st1 st2 ∧ cmpP o x y ∧
      ifB (cmpV o x y) (bw c (evE G c EX) st2 fun z st3 => stab b st2 st3 ∧ cmpP o' y z ∧ ifB (cmpV o' y z) (bw d (evE G d EX) st3 fun u st4 => stab c st3 st4 ∧ cmpP o2 z u ∧ Q (.d (.bool (cmpV o2 z u))) st4) (Q (.d (.bool false)) st3)) (Q (.d (.bool false)) st2)
  | .isN a, EX, st, Q => bw a (evE G a EX) st fun x st1 => Q (.d (.bool (isNoneD x))) st1
  | .notN a, EX, st, Q => bw a (evE G a EX) st fun x st1 => Q (.d (.bool (!isNoneD x))) st1
  | .isB a k, EX, st, Q => bw a (evE G a EX) st fun x st1 => asB x fun j => Q (.d (.bool (decide (j = k)))) st1
  | .notB a k, EX, st, Q => bw a (evE G a EX) st fun x st1 => asB x fun j => Q (.d (.bool (!decide (j = k)))) st1
  | .and a b, EX, st, Q => bw a (evE G a EX) st fun x st1 => asB x fun k => ifB k (evE G b EX st1 Q) (Q (.d (.bool false)) st1)
  | .or a b, EX, st, Q => bw a (evE G a EX) st fun x st1 => asB x fun k => ifB k (Q (.d (.bool true)) st1) (evE G b EX st1 Q)
  | .not a, EX, st, Q => bw a (evE G a EX) st fun x st1 => truP x ∧ Q (.d (.bool (!truV x))) st1
  | .ife t a b, EX, st, Q => evQ G t EX st fun k st1 => ifB k (evE G a EX st1 Q) (evE G b EX st1 Q)
  | .isi a k, EX, st, Q => bw a (evE G a EX) st fun x st1 => ndP x ∧ Q (.d (.bool (kiD k x))) st1
  | .call f as, EX, st, Q => evAs G as EX st fun vs st1 => callF G f vs (fun r => Q r st1) EX
  | .callv i as, EX, st, Q => asF (gs st i) fun f => f < G.dom ∧ evAs G as EX st fun vs st1 => callF G f vs (fun r => Q r st1) EX
  | .blt f as, EX, st, Q => evBs G as EX st fun xs st1 => bltD f xs fun r => Q r st1
  | .rep a, EX, st, Q => bw a (evE G a EX) st fun x st1 => (G.rep = true ∧ (x.isList || x.isTuple) = true ∧ okD x ∧ x.showable = true ∧ x.shown.length ≤ sizeLine) ∧ Q (.d (.str x.shown)) st1
  | .meth .index a (.cons _ b .nil), EX, st, Q => bw a (evE G a EX) st fun x st1 => bw b (evE G b EX) st1 fun y st2 => stab a st1 st2 ∧ asLs x fun ds => (PySem.SeqAt.shaped (.list ds) = true ∧ PySem.SeqAt.shaped y = true) ∧ ex (ds.findIdx? fun z => PyData.eqv z y) fun j => Q (.d (.int (j : Int))) st2
  | .meth _ _ _, _, _, _ => False
  | .dget a b, EX, st, Q => bw a (evE G a EX) st fun x st1 => bw b (evE G b EX) st1 fun y st2 => stab a st1 st2 ∧ asD x fun kvs => dkey kvs y ∧ ex (getD' kvs y) fun z => Q (.d z) st2
  | .dgetD a b c, EX, st, Q => bw a (evE G a EX) st fun x st1 => bw b (evE G b EX) st1 fun y st2 => evE G c EX st2 fun vz st3 => shr vz fun z => stab a st1 st3 ∧ stab b st2 st3 ∧ asD x fun kvs => dkey kvs y ∧ Q (.d ((getD' kvs y).getD z)) st3
  | .din neg b a, EX, st, Q => bw b (evE G b EX) st fun y st1 => bw a (evE G a EX) st1 fun x st2 => stab b st1 st2 ∧ asD x fun kvs => dkey kvs y ∧ Q (.d (.bool (neg != (getD' kvs y).isSome))) st2
  | .dlen a, EX, st, Q => bw a (evE G a EX) st fun x st1 => asD x fun kvs => Q (.d (.int (dropS kvs).length)) st1
  | .dlist a, EX, st, Q => evE G a EX st fun vl st1 => shr vl fun x => asD x fun kvs => Q (.own (.list ((dropS kvs).map (·.1)))) st1
  | .dsort a, EX, st, Q => evE G a EX st fun vl st1 => shr vl fun x => asD x fun kvs => (okD (.list ((dropS kvs).map (·.1))) ∧ PySem.W.AllAlike ((dropS kvs).map (·.1)) ∧ PySem.W.Sortable ((dropS kvs).map (·.1))) ∧ Q (.own (.list (((dropS kvs).map (·.1)).mergeSort (PySem.W.dataLe false id)))) st1
  | .dpop i a b, EX, st, Q => asO (gs st i) fun _ => bw a (evE G a EX) st fun k st1 => evE G b EX st1 fun vz st2 => shr vz fun z => asO (gs st2 i) fun x => stab a st1 st2 ∧ asD x fun kvs => dkey kvs k ∧ Q (.d ((getD' kvs k).getD z)) (ss st2 i (some (.own (.dict (popD kvs k)))))
  | .pop i .nil, _, st, Q => asL (gs st i) fun ds => ex ds.getLast? fun x => Q (.d x) (ss st i (some (.own (.list ds.dropLast))))
  | .pop i (.cons _ a .nil), EX, st, Q => asL (gs st i) fun _ => bw a (evE G a EX) st fun k st1 => asI k fun n => smallR n ∧ asL (gs st1 i) fun ds => ex (ixN ds.length n) fun j => ex ds[j]? fun x => Q (.d x) (ss st1 i (some (.own (.list (ds.eraseIdx j)))))
  | .pop _ _, _, _, _ => False
  | .tup as, EX, st, Q => evD G as EX st fun xs st1 => xs.length ≤ sizeLine ∧ Q (.d (.tuple xs)) st1
  | .lst as, EX, st, Q => evD G as EX st fun xs st1 => xs.length ≤ sizeLine ∧ Q (.own (.list xs)) st1
  | .dic t, _, st, Q => Q (.own (.dict (dnew t))) st
  | .dic1 t a b, EX, st, Q => evE G a EX st fun va st1 => shr va fun k => evE G b EX st1 fun vb st2 => shr vb fun v => dkey (dnew t) k ∧ Q (.own (.dict (dnew t ++ [(k, v)]))) st2
  | .sub a i, EX, st, Q => bw a (evE G a EX) st fun x st1 => bw i (evE G i EX) st1 fun k st2 => stab a st1 st2 ∧ subD x k fun r => Q (.d r) st2
  | .slice a lo hi, EX, st, Q => bw a (evE G a EX) st fun x st1 => evO G lo EX st1 fun l st2 => evO G hi EX st2 fun u st3 => stab a st1 st3 ∧ slcD x l u fun vl => Q vl st3
  | .rev a, EX, st, Q => bw a (evE G a EX) st fun x st1 => asLs x fun ds => Q (.own (.list ds.reverse)) st1
  | .comp elt tg it w, EX, st, Q => evI G it false EX st fun items st1 =>
      loopC (fun x acc k => evTg G tg (.d x) (fun _ => False) (wipeS (lendAll st1) tg.slots) fun st2 => evW G w (fun _ => False) st2 fun b => ifB b
        (evE G elt (fun _ => False) st2 fun vl st3 => shr vl fun y => st3 = st2 ∧ k (acc ++ [y])) (k acc)) items [] fun acc => Q (.own (.list acc)) st1
  | .dcomp t ke ve tg it w, EX, st, Q => evI G it false EX st fun items st1 =>
      loopD (fun x acc k => evTg G tg (.d x) (fun _ => False) (wipeS (lendAll st1) tg.slots) fun st2 => evW G w (fun _ => False) st2 fun b => ifB b
        (evE G ke (fun _ => False) st2 fun vl st3 => shr vl fun y => evE G ve (fun _ => False) st3 fun vl2 st4 => shr vl2 fun z => st4 = st2 ∧ dkey (dnew t) y ∧ k (putD acc y z)) (k acc)) items (dnew t) fun acc => Q (.own (.dict acc)) st1
  | .lam _ b, _, st, Q => evE G b (fun x => ∃ w, G.word x.cls = some w ∧ Q (.d (.tuple [.str w, x.val])) st) (lendAll st) fun _ st' => st' = lendAll st ∧ Q (.d (.tuple [.str "", .none])) st
@[reducible] def evQ (G : Gm) : CQ → (Exn → Prop) → Sl → (Bool → Sl → Prop) → Prop
  | .v a, EX, st, Q => bw a (evE G a EX) st fun x st1 => truP x ∧ Q (truV x) st1
  | .and a b, EX, st, Q => evQ G a EX st fun k st1 => ifB k (evQ G b EX st1 Q) (Q false st1)
  | .or a b, EX, st, Q => evQ G a EX st fun k st1 => ifB k (Q true st1) (evQ G b EX st1 Q)
  | .not a, EX, st, Q => evQ G a EX st fun k st1 => Q (!k) st1
/-- a slice's part -/
@[reducible] def evO (G : Gm) : CO → (Exn → Prop) → Sl → (Option Int → Sl → Prop) → Prop
  | .no, _, st, Q => Q none st
  | .yes a, EX, st, Q => bw a (evE G a EX) st fun x st1 => asI x fun i => Q (some i) st1
/-- within a comprehension: the slots stay -/
@[reducible] def evW (G : Gm) : CW → (Exn → Prop) → Sl → (Bool → Prop) → Prop
  | .no, _, _, Q => Q true
  | .yes a, EX, st, Q => evQ G a EX st fun k st1 => st1 = st ∧ Q k
/-- arguments of one's own defs -/
@[reducible] def evAs (G : Gm) : CEs → (Exn → Prop) → Sl → (List Vl → Sl → Prop) → Prop
  | .nil, _, st, Q => Q [] st
  | .cons _ a r, EX, st, Q => evE G a EX st fun vl st1 => evAs G r EX st1 fun vs st2 => Q (shrV vl :: vs) st2
/-- values side by side, as they are -/
@[reducible] def evP (G : Gm) : CEs → (Exn → Prop) → Sl → (List Vl → Sl → Prop) → Prop
  | .nil, _, st, Q => Q [] st
  | .cons _ a r, EX, st, Q => evE G a EX st fun vl st1 => evP G r EX st1 fun vs st2 => Q (vl :: vs) st2
/-- arguments that are only looked at -/
@[reducible] def evBs (G : Gm) : CEs → (Exn → Prop) → Sl → (List PyData → Sl → Prop) → Prop
  | .nil, _, st, Q => Q [] st
  | .cons _ a r, EX, st, Q => bw a (evE G a EX) st fun x st1 => evBs G r EX st1 fun xs st2 => stab a st1 st2 ∧ Q (x :: xs) st2
/-- items of a display -/
@[reducible] def evD (G : Gm) : CEs → (Exn → Prop) → Sl → (List PyData → Sl → Prop) → Prop
  | .nil, _, st, Q => Q [] st
  | .cons false a r, EX, st, Q => evE G a EX st fun vl st1 => shr vl fun x => evD G r EX st1 fun xs st2 => Q (x :: xs) st2
  | .cons true a r, EX, st, Q => bw a (evE G a EX) st fun x st1 => asT x fun ds => evD G r EX st1 fun xs st2 => Q (ds ++ xs) st2
/-- what is walked; frz: a name of one's own is kept as it is from now on -/
@[reducible] def evI (G : Gm) : CI → Bool → (Exn → Prop) → Sl → (List PyData → Sl → Prop) → Prop
  | .e a, true, EX, st, Q => evE G a EX st fun vl st1 => shr vl fun x => itemsD x fun ds => Q ds st1
  | .e a, false, EX, st, Q => bw a (evE G a EX) st fun x st1 => itemsD x fun ds => Q ds st1
  | .rng1 a, _, EX, st, Q => bw a (evE G a EX) st fun x st1 => asI x fun i => (smallR i ∧ i ≤ sizeLine) ∧ Q (rangeD 0 i.toNat) st1
  | .rng2 a b, _, EX, st, Q => bw a (evE G a EX) st fun x st1 => bw b (evE G b EX) st1 fun y st2 => asI x fun i => asI y fun j => (smallR i ∧ smallR j ∧ j - i ≤ sizeLine) ∧ Q (rangeD i (j - i).toNat) st2
  | .rngN a b, _, EX, st, Q => bw a (evE G a EX) st fun x st1 => bw b (evE G b EX) st1 fun y st2 => asI x fun i => asI y fun j => (smallR i ∧ smallR j ∧ i - j ≤ sizeLine) ∧ Q (rangeDn i (i - j).toNat) st2
  | .enum a n, true, EX, st, Q => evE G a EX st fun vl st1 => shr vl fun x => asT x fun ds => Q (enumD n ds) st1
  | .enum a n, false, EX, st, Q => bw a (evE G a EX) st fun x st1 => asT x fun ds => Q (enumD n ds) st1
  | .zip a b, false, EX, st, Q => bw a (evE G a EX) st fun x st1 => bw b (evE G b EX) st1 fun y st2 => stab a st1 st2 ∧ asZ x y fun ds es => ds.length ≤ sizeLine ∧ Q (zipD ds es) st2
  | .zip a b, true, EX, st, Q => evE G a EX st fun vx st1 => shr vx fun x => evE G b EX st1 fun vy st2 => shr vy fun y => asZ x y fun ds es => ds.length ≤ sizeLine ∧ Q (zipD ds es) st2
  | .items a, _, EX, st, Q => evE G a EX st fun vl st1 => shr vl fun x => asD x fun kvs => Q ((dropS kvs).map fun p => .tuple [p.1, p.2]) st1
  | .values a, _, EX, st, Q => evE G a EX st fun vl st1 => shr vl fun x => asD x fun kvs => Q ((dropS kvs).map (·.2)) st1
  | .keys a, _, EX, st, Q => evE G a EX st fun vl st1 => shr vl fun x => asD x fun kvs => Q ((dropS kvs).map (·.1)) st1
@[reducible] def evTg (G : Gm) : CT → Vl → (Exn → Prop) → Sl → (Sl → Prop) → Prop
  | .slot i, vl, _, st, Q => Q (ss st i (some vl))
  | .tup ts, vl, EX, st, Q => shr vl fun x => asT x fun ds => ds.length = ts.len ∧ evTgs G ts ds EX st Q
  | .dsub i ix, vl, EX, st, Q => shrL vl fun v => asO (gs st i) fun _ => bw ix (evE G ix EX) st fun k st1 => asO (gs st1 i) fun x => asD x fun kvs => (dkey kvs k ∧ kvs.length < sizeLine) ∧ Q (ss st1 i (some (.own (.dict (putD kvs k v)))))
  | .sub i ix, vl, EX, st, Q => shrL vl fun v => asO (gs st i) fun _ => bw ix (evE G ix EX) st fun k st1 => asO (gs st1 i) fun x => setD x k v fun x' => Q (ss st1 i (some (.own x')))
@[reducible] def evTgs (G : Gm) : CTs → List PyData → (Exn → Prop) → Sl → (Sl → Prop) → Prop
  | .nil, _, _, st, Q => Q st
  | .cons t r, ds, EX, st, Q => ex ds.head? fun d => evTg G t (.d d) EX st fun st1 => evTgs G r ds.tail EX st1 Q
end
/-- names get values side by side -/
@[reducible] def evTgV : List Nat → List Vl → Sl → (Sl → Prop) → Prop
  | [], [], st, Q => Q st
  | i :: r, v :: vs, st, Q => evTgV r vs (ss st i (some v)) Q
  | _, _, _, _ => False
/-! ### statements -/
structure Ed where
  nx : Sl → Prop
  rt : Vl → Prop
  bk : Sl → Prop
  ct : Sl → Prop
def forL (f : PyData → Ed → Sl → Prop) : List PyData → Ed → Sl → Prop
  | [], D, st => D.nx st
  | x :: xs, D, st => f x { D with nx := fun st' => forL f xs D st', ct := fun st' => forL f xs D st', bk := D.nx } st
/-- a name of one's own is handed back as it is -/
@[reducible] def retV : Option Vl → (Vl → Prop) → Prop
  | some (.d x), Q => Q (.d x)
  | some (.own x), Q => Q (.own x)
  | _, _ => False
@[reducible] def retE (c : CE) (ev : Sl → (Vl → Sl → Prop) → Prop) (st : Sl) (Q : Vl → Prop) : Prop :=
  match c with
  | .var i => retV (gs st i) Q
  | _ => ev st fun vl _ => Q vl
mutual
@[reducible] def evS (G : Gm) (EX : Exn → Prop) : CS → Ed → Sl → Prop
  | .asg t e, D, st => evE G e EX st fun vl st1 => evTg G t vl EX st1 D.nx
  | .par ts es, D, st => evP G es EX st fun vs st1 => evTgV ts vs st1 D.nx
  | .asg2 t u e, D, st => evE G e EX st fun vl st1 => asV vl fun x => evTg G t (.d x) EX st1 fun st2 => evTg G u (.d x) EX st2 D.nx
  | .asg3 t u w e, D, st => evE G e EX st fun vl st1 => asV vl fun x => evTg G t (.d x) EX st1 fun st2 => evTg G u (.d x) EX st2 fun st3 => evTg G w (.d x) EX st3 D.nx
  | .aug o i e, D, st => bw (.var i) (fun _ _ => False) st fun x st1 => bw e (evE G e EX) st1 fun y st2 => gs st2 i = gs st1 i ∧ asI x fun a => asI y fun b => binP o (.int a) (.int b) ∧ shr (binV o (.int a) (.int b)) fun z => D.nx (ss st2 i (some (.d z)))
  | .augs o i ix e, D, st => asL (gs st i) fun _ => bw ix (evE G ix EX) st fun k st1 => asL (gs st1 i) fun ds => subD (.list ds) k fun a => bw e (evE G e EX) st1 fun b st2 => stab ix st1 st2 ∧ binP o a b ∧ asV (binV o a b) fun z => asL (gs st2 i) fun ds2 => setD (.list ds2) k z fun x' => D.nx (ss st2 i (some (.own x')))
  | .daug o i ix e, D, st => asO (gs st i) fun _ => bw ix (evE G ix EX) st fun k st1 => asO (gs st1 i) fun x1 => asD x1 fun kvs => dkey kvs k ∧ ex (getD' kvs k) fun a => bw e (evE G e EX) st1 fun b st2 => stab ix st1 st2 ∧ binP o a b ∧ asV (binV o a b) fun z => asO (gs st2 i) fun x2 => asD x2 fun kvs2 => (dkey kvs2 k ∧ kvs2.length < sizeLine) ∧ D.nx (ss st2 i (some (.own (.dict (putD kvs2 k z)))))
  | .ex e, D, st => evE G e EX st fun _ st1 => D.nx st1
  | .mut .append i (.cons _ a .nil), D, st => asL (gs st i) fun _ => evE G a EX st fun vl st1 => shr vl fun y => asL (gs st1 i) fun ds => ds.length < sizeLine ∧ D.nx (ss st1 i (some (.own (.list (ds ++ [y])))))
  | .mut .extend i (.cons _ a .nil), D, st => asL (gs st i) fun _ => evE G a EX st fun vl st1 => shr vl fun y => asLs y fun es => asL (gs st1 i) fun ds => ds.length + es.length ≤ sizeLine ∧ D.nx (ss st1 i (some (.own (.list (ds ++ es)))))
  | .mut .remove i (.cons _ a .nil), D, st => asL (gs st i) fun _ => bw a (evE G a EX) st fun y st1 => asL (gs st1 i) fun ds => (PySem.SeqAt.shaped (.list ds) = true ∧ PySem.SeqAt.shaped y = true) ∧ ex (ds.findIdx? fun z => PyData.eqv z y) fun j => D.nx (ss st1 i (some (.own (.list (ds.eraseIdx j)))))
  | .mut .insert i (.cons _ (.lit (.int 0)) (.cons _ a .nil)), D, st => asL (gs st i) fun _ => evE G a EX st fun vl st1 => shr vl fun y => asL (gs st1 i) fun ds => ds.length < sizeLine ∧ D.nx (ss st1 i (some (.own (.list (y :: ds)))))
  | .mut .update i (.cons _ a .nil), D, st => asO (gs st i) fun _ => evE G a EX st fun vl st1 => shr vl fun y => asD y fun more => asO (gs st1 i) fun x => asD x fun kvs => (kvs.length + more.length < sizeLine ∧ ∀ p ∈ dropS more, dkey kvs p.1) ∧ D.nx (ss st1 i (some (.own (.dict ((dropS more).foldl (fun acc p => putD acc p.1 p.2) kvs)))))
  | .mut _ _ _, _, _ => False
  | .ret e, D, st => retE e (evE G e EX) st D.rt
  | .retN, D, _ => D.rt (.d .none)
  | .ife t a b, D, st => evQ G t EX st fun k st1 => ifB k (evSs G EX a D st1) (evSs G EX b D st1)
  | .for_ t it b, D, st => evI G it true EX st fun items st1 => forL (fun x D' st' => evTg G t (.d x) EX st' fun st2 => evSs G EX b D' st2) items D st1
  | .while_ t b, D, st => ∃ W : Nat → Sl → Prop, (∃ m, W m st) ∧ ∀ m st, W m st → evQ G t EX st fun k st1 => ifB k
      (evSs G EX b { D with nx := fun st' => ∃ m', m' < m ∧ W m' st', ct := fun st' => ∃ m', m' < m ∧ W m' st', bk := D.nx } st1) (D.nx st1)
  | .brk, D, st => D.bk st
  | .cont, D, st => D.ct st
  | .pass, D, st => D.nx st
  | .raise_ c a, _, st => evE G a EX st fun vl _ => shr vl fun x => EX ⟨c, x⟩
  | .frz i, D, st => frzP (gs st i) (D.nx st) fun x => D.nx (ss st i (some (.d (.list x))))
  | .fors i fs b, D, st => forL (fun x D' st' => asI x fun n => evSs G EX b D' (ss st' i (some (.fn n.toNat)))) (fs.map fun (n : Nat) => PyData.int n) D st
@[reducible] def evSs (G : Gm) (EX : Exn → Prop) : CSs → Ed → Sl → Prop
  | .nil, D, st => D.nx st
  | .cons s r, D, st => evS G EX s { D with nx := fun st' => evSs G EX r D st' } st
end
theorem bw_lit {x : PyData} {ev : Sl → (Vl → Sl → Prop) → Prop} {st : Sl} {Q : PyData → Sl → Prop} : bw (.lit x) ev st Q = ev st fun vl st1 => shr vl fun z => Q z st1 := rfl
theorem stab_lit {x : PyData} {st st1 : Sl} : stab (.lit x) st st1 = True := rfl
theorem retE_lit {x : PyData} {ev : Sl → (Vl → Sl → Prop) → Prop} {st : Sl} {Q : Vl → Prop} : retE (.lit x) ev st Q = ev st fun vl _ => Q vl := rfl
theorem bw_gc {x : Str} {d : PyData} {ev : Sl → (Vl → Sl → Prop) → Prop} {st : Sl} {Q : PyData → Sl → Prop} : bw (.gc x d) ev st Q = ev st fun vl st1 => shr vl fun z => Q z st1 := rfl
theorem stab_gc {x : Str} {d : PyData} {st st1 : Sl} : stab (.gc x d) st st1 = True := rfl
theorem retE_gc {x : Str} {d : PyData} {ev : Sl → (Vl → Sl → Prop) → Prop} {st : Sl} {Q : Vl → Prop} : retE (.gc x d) ev st Q = ev st fun vl _ => Q vl := rfl
theorem bw_fnr {n : Nat} {ev : Sl → (Vl → Sl → Prop) → Prop} {st : Sl} {Q : PyData → Sl → Prop} : bw (.fnr n) ev st Q = ev st fun vl st1 => shr vl fun z => Q z st1 := rfl
theorem stab_fnr {n : Nat} {st st1 : Sl} : stab (.fnr n) st st1 = True := rfl
theorem retE_fnr {n : Nat} {ev : Sl → (Vl → Sl → Prop) → Prop} {st : Sl} {Q : Vl → Prop} : retE (.fnr n) ev st Q = ev st fun vl _ => Q vl := rfl
theorem bw_bin {o : BOp} {a : CE} {b : CE} {ev : Sl → (Vl → Sl → Prop) → Prop} {st : Sl} {Q : PyData → Sl → Prop} : bw (.bin o a b) ev st Q = ev st fun vl st1 => shr vl fun z => Q z st1 := rfl
theorem stab_bin {o : BOp} {a : CE} {b : CE} {st st1 : Sl} : stab (.bin o a b) st st1 = True := rfl
theorem retE_bin {o : BOp} {a : CE} {b : CE} {ev : Sl → (Vl → Sl → Prop) → Prop} {st : Sl} {Q : Vl → Prop} : retE (.bin o a b) ev st Q = ev st fun vl _ => Q vl := rfl
theorem bw_neg {a : CE} {ev : Sl → (Vl → Sl → Prop) → Prop} {st : Sl} {Q : PyData → Sl → Prop} : bw (.neg a) ev st Q = ev st fun vl st1 => shr vl fun z => Q z st1 := rfl
theorem stab_neg {a : CE} {st st1 : Sl} : stab (.neg a) st st1 = True := rfl
theorem retE_neg {a : CE} {ev : Sl → (Vl → Sl → Prop) → Prop} {st : Sl} {Q : Vl → Prop} : retE (.neg a) ev st Q = ev st fun vl _ => Q vl := rfl
theorem bw_cmp {a : CE} {o : COp} {b : CE} {ev : Sl → (Vl → Sl → Prop) → Prop} {st : Sl} {Q : PyData → Sl → Prop} : bw (.cmp a o b) ev st Q = ev st fun vl st1 => shr vl fun z => Q z st1 := rfl
theorem stab_cmp {a : CE} {o : COp} {b : CE} {st st1 : Sl} : stab (.cmp a o b) st st1 = True := rfl
theorem retE_cmp {a : CE} {o : COp} {b : CE} {ev : Sl → (Vl → Sl → Prop) → Prop} {st : Sl} {Q : Vl → Prop} : retE (.cmp a o b) ev st Q = ev st fun vl _ => Q vl := rfl
theorem bw_cmp2 {a : CE} {o : COp} {b : CE} {o2 : COp} {c : CE} {ev : Sl → (Vl → Sl → Prop) → Prop} {st : Sl} {Q : PyData → Sl → Prop} : bw (.cmp2 a o b o2 c) ev st Q = ev st fun vl st1 => shr vl fun z => Q z st1 := rfl
theorem stab_cmp2 {a : CE} {o : COp} {b : CE} {o2 : COp} {c : CE} {st st1 : Sl} : stab (.cmp2 a o b o2 c) st st1 = True := rfl
theorem retE_cmp2 {a : CE} {o : COp} {b : CE} {o2 : COp} {c : CE} {ev : Sl → (Vl → Sl → Prop) → Prop} {st : Sl} {Q : Vl → Prop} : retE (.cmp2 a o b o2 c) ev st Q = ev st fun vl _ => Q vl := rfl
theorem bw_dic1 {tb : Bool} {a : CE} {b : CE} {ev : Sl → (Vl → Sl → Prop) → Prop} {st : Sl} {Q : PyData → Sl → Prop} : bw (.dic1 tb a b) ev st Q = ev st fun vl st1 => shr vl fun z => Q z st1 := rfl
theorem stab_dic1 {tb : Bool} {a : CE} {b : CE} {st st1 : Sl} : stab (.dic1 tb a b) st st1 = True := rfl
theorem retE_dic1 {tb : Bool} {a : CE} {b : CE} {ev : Sl → (Vl → Sl → Prop) → Prop} {st : Sl} {Q : Vl → Prop} : retE (.dic1 tb a b) ev st Q = ev st fun vl _ => Q vl := rfl
theorem bw_cmp3 {a : CE} {o : COp} {b : CE} {o2 : COp} {c : CE} {o3 : COp} {d : CE} {ev : Sl → (Vl → Sl → Prop) → Prop} {st : Sl} {Q : PyData → Sl → Prop} : bw (.cmp3 a o b o2 c o3 d) ev st Q = ev st fun vl st1 => shr vl fun z => Q z st1 := rfl
theorem stab_cmp3 {a : CE} {o : COp} {b : CE} {o2 : COp} {c : CE} {o3 : COp} {d : CE} {st st1 : Sl} : stab (.cmp3 a o b o2 c o3 d) st st1 = True := rfl
theorem retE_cmp3 {a : CE} {o : COp} {b : CE} {o2 : COp} {c : CE} {o3 : COp} {d : CE} {ev : Sl → (Vl → Sl → Prop) → Prop} {st : Sl} {Q : Vl → Prop} : retE (.cmp3 a o b o2 c o3 d) ev st Q = ev st fun vl _ => Q vl := rfl
theorem bw_dget {a b : CE} {ev : Sl → (Vl → Sl → Prop) → Prop} {st : Sl} {Q : PyData → Sl → Prop} : bw (.dget a b) ev st Q = ev st fun vl st1 => shr vl fun z => Q z st1 := rfl
theorem stab_dget {a b : CE} {st st1 : Sl} : stab (.dget a b) st st1 = True := rfl
theorem retE_dget {a b : CE} {ev : Sl → (Vl → Sl → Prop) → Prop} {st : Sl} {Q : Vl → Prop} : retE (.dget a b) ev st Q = ev st fun vl _ => Q vl := rfl
theorem bw_dgetD {a b c : CE} {ev : Sl → (Vl → Sl → Prop) → Prop} {st : Sl} {Q : PyData → Sl → Prop} : bw (.dgetD a b c) ev st Q = ev st fun vl st1 => shr vl fun z => Q z st1 := rfl
theorem stab_dgetD {a b c : CE} {st st1 : Sl} : stab (.dgetD a b c) st st1 = True := rfl
theorem retE_dgetD {a b c : CE} {ev : Sl → (Vl → Sl → Prop) → Prop} {st : Sl} {Q : Vl → Prop} : retE (.dgetD a b c) ev st Q = ev st fun vl _ => Q vl := rfl
theorem bw_din {tb : Bool} {a b : CE} {ev : Sl → (Vl → Sl → Prop) → Prop} {st : Sl} {Q : PyData → Sl → Prop} : bw (.din tb a b) ev st Q = ev st fun vl st1 => shr vl fun z => Q z st1 := rfl
theorem stab_din {tb : Bool} {a b : CE} {st st1 : Sl} : stab (.din tb a b) st st1 = True := rfl
theorem retE_din {tb : Bool} {a b : CE} {ev : Sl → (Vl → Sl → Prop) → Prop} {st : Sl} {Q : Vl → Prop} : retE (.din tb a b) ev st Q = ev st fun vl _ => Q vl := rfl
theorem bw_dlen {a : CE} {ev : Sl → (Vl → Sl → Prop) → Prop} {st : Sl} {Q : PyData → Sl → Prop} : bw (.dlen a) ev st Q = ev st fun vl st1 => shr vl fun z => Q z st1 := rfl
theorem stab_dlen {a : CE} {st st1 : Sl} : stab (.dlen a) st st1 = True := rfl
theorem retE_dlen {a : CE} {ev : Sl → (Vl → Sl → Prop) → Prop} {st : Sl} {Q : Vl → Prop} : retE (.dlen a) ev st Q = ev st fun vl _ => Q vl := rfl
theorem bw_dlist {a : CE} {ev : Sl → (Vl → Sl → Prop) → Prop} {st : Sl} {Q : PyData → Sl → Prop} : bw (.dlist a) ev st Q = ev st fun vl st1 => shr vl fun z => Q z st1 := rfl
theorem stab_dlist {a : CE} {st st1 : Sl} : stab (.dlist a) st st1 = True := rfl
theorem retE_dlist {a : CE} {ev : Sl → (Vl → Sl → Prop) → Prop} {st : Sl} {Q : Vl → Prop} : retE (.dlist a) ev st Q = ev st fun vl _ => Q vl := rfl
theorem bw_dsort {a : CE} {ev : Sl → (Vl → Sl → Prop) → Prop} {st : Sl} {Q : PyData → Sl → Prop} : bw (.dsort a) ev st Q = ev st fun vl st1 => shr vl fun z => Q z st1 := rfl
theorem stab_dsort {a : CE} {st st1 : Sl} : stab (.dsort a) st st1 = True := rfl
theorem retE_dsort {a : CE} {ev : Sl → (Vl → Sl → Prop) → Prop} {st : Sl} {Q : Vl → Prop} : retE (.dsort a) ev st Q = ev st fun vl _ => Q vl := rfl
theorem bw_dpop {i : Nat} {a b : CE} {ev : Sl → (Vl → Sl → Prop) → Prop} {st : Sl} {Q : PyData → Sl → Prop} : bw (.dpop i a b) ev st Q = ev st fun vl st1 => shr vl fun z => Q z st1 := rfl
theorem stab_dpop {i : Nat} {a b : CE} {st st1 : Sl} : stab (.dpop i a b) st st1 = True := rfl
theorem retE_dpop {i : Nat} {a b : CE} {ev : Sl → (Vl → Sl → Prop) → Prop} {st : Sl} {Q : Vl → Prop} : retE (.dpop i a b) ev st Q = ev st fun vl _ => Q vl := rfl
theorem bw_isN {a : CE} {ev : Sl → (Vl → Sl → Prop) → Prop} {st : Sl} {Q : PyData → Sl → Prop} : bw (.isN a) ev st Q = ev st fun vl st1 => shr vl fun z => Q z st1 := rfl
theorem stab_isN {a : CE} {st st1 : Sl} : stab (.isN a) st st1 = True := rfl
theorem retE_isN {a : CE} {ev : Sl → (Vl → Sl → Prop) → Prop} {st : Sl} {Q : Vl → Prop} : retE (.isN a) ev st Q = ev st fun vl _ => Q vl := rfl
theorem bw_notN {a : CE} {ev : Sl → (Vl → Sl → Prop) → Prop} {st : Sl} {Q : PyData → Sl → Prop} : bw (.notN a) ev st Q = ev st fun vl st1 => shr vl fun z => Q z st1 := rfl
theorem stab_notN {a : CE} {st st1 : Sl} : stab (.notN a) st st1 = True := rfl
theorem retE_notN {a : CE} {ev : Sl → (Vl → Sl → Prop) → Prop} {st : Sl} {Q : Vl → Prop} : retE (.notN a) ev st Q = ev st fun vl _ => Q vl := rfl
theorem bw_isB {a : CE} {k : Bool} {ev : Sl → (Vl → Sl → Prop) → Prop} {st : Sl} {Q : PyData → Sl → Prop} : bw (.isB a k) ev st Q = ev st fun vl st1 => shr vl fun z => Q z st1 := rfl
theorem stab_isB {a : CE} {k : Bool} {st st1 : Sl} : stab (.isB a k) st st1 = True := rfl
theorem retE_isB {a : CE} {k : Bool} {ev : Sl → (Vl → Sl → Prop) → Prop} {st : Sl} {Q : Vl → Prop} : retE (.isB a k) ev st Q = ev st fun vl _ => Q vl := rfl
theorem bw_notB {a : CE} {k : Bool} {ev : Sl → (Vl → Sl → Prop) → Prop} {st : Sl} {Q : PyData → Sl → Prop} : bw (.notB a k) ev st Q = ev st fun vl st1 => shr vl fun z => Q z st1 := rfl
theorem stab_notB {a : CE} {k : Bool} {st st1 : Sl} : stab (.notB a k) st st1 = True := rfl
theorem retE_notB {a : CE} {k : Bool} {ev : Sl → (Vl → Sl → Prop) → Prop} {st : Sl} {Q : Vl → Prop} : retE (.notB a k) ev st Q = ev st fun vl _ => Q vl := rfl
theorem bw_and {a : CE} {b : CE} {ev : Sl → (Vl → Sl → Prop) → Prop} {st : Sl} {Q : PyData → Sl → Prop} : bw (.and a b) ev st Q = ev st fun vl st1 => shr vl fun z => Q z st1 := rfl
theorem stab_and {a : CE} {b : CE} {st st1 : Sl} : stab (.and a b) st st1 = True := rfl
theorem retE_and {a : CE} {b : CE} {ev : Sl → (Vl → Sl → Prop) → Prop} {st : Sl} {Q : Vl → Prop} : retE (.and a b) ev st Q = ev st fun vl _ => Q vl := rfl
theorem bw_or {a : CE} {b : CE} {ev : Sl → (Vl → Sl → Prop) → Prop} {st : Sl} {Q : PyData → Sl → Prop} : bw (.or a b) ev st Q = ev st fun vl st1 => shr vl fun z => Q z st1 := rfl
theorem stab_or {a : CE} {b : CE} {st st1 : Sl} : stab (.or a b) st st1 = True := rfl
theorem retE_or {a : CE} {b : CE} {ev : Sl → (Vl → Sl → Prop) → Prop} {st : Sl} {Q : Vl → Prop} : retE (.or a b) ev st Q = ev st fun vl _ => Q vl := rfl
theorem bw_not {q : CE} {ev : Sl → (Vl → Sl → Prop) → Prop} {st : Sl} {Q : PyData → Sl → Prop} : bw (.not q) ev st Q = ev st fun vl st1 => shr vl fun z => Q z st1 := rfl
theorem stab_not {q : CE} {st st1 : Sl} : stab (.not q) st st1 = True := rfl
theorem retE_not {q : CE} {ev : Sl → (Vl → Sl → Prop) → Prop} {st : Sl} {Q : Vl → Prop} : retE (.not q) ev st Q = ev st fun vl _ => Q vl := rfl
theorem bw_ife {q : CQ} {a : CE} {b : CE} {ev : Sl → (Vl → Sl → Prop) → Prop} {st : Sl} {Q : PyData → Sl → Prop} : bw (.ife q a b) ev st Q = ev st fun vl st1 => shr vl fun z => Q z st1 := rfl
theorem stab_ife {q : CQ} {a : CE} {b : CE} {st st1 : Sl} : stab (.ife q a b) st st1 = True := rfl
theorem retE_ife {q : CQ} {a : CE} {b : CE} {ev : Sl → (Vl → Sl → Prop) → Prop} {st : Sl} {Q : Vl → Prop} : retE (.ife q a b) ev st Q = ev st fun vl _ => Q vl := rfl
theorem bw_isi {a : CE} {ki : Ki} {ev : Sl → (Vl → Sl → Prop) → Prop} {st : Sl} {Q : PyData → Sl → Prop} : bw (.isi a ki) ev st Q = ev st fun vl st1 => shr vl fun z => Q z st1 := rfl
theorem stab_isi {a : CE} {ki : Ki} {st st1 : Sl} : stab (.isi a ki) st st1 = True := rfl
theorem retE_isi {a : CE} {ki : Ki} {ev : Sl → (Vl → Sl → Prop) → Prop} {st : Sl} {Q : Vl → Prop} : retE (.isi a ki) ev st Q = ev st fun vl _ => Q vl := rfl
theorem bw_call {n : Nat} {l : CEs} {ev : Sl → (Vl → Sl → Prop) → Prop} {st : Sl} {Q : PyData → Sl → Prop} : bw (.call n l) ev st Q = ev st fun vl st1 => shr vl fun z => Q z st1 := rfl
theorem stab_call {n : Nat} {l : CEs} {st st1 : Sl} : stab (.call n l) st st1 = True := rfl
theorem retE_call {n : Nat} {l : CEs} {ev : Sl → (Vl → Sl → Prop) → Prop} {st : Sl} {Q : Vl → Prop} : retE (.call n l) ev st Q = ev st fun vl _ => Q vl := rfl
theorem bw_callv {n : Nat} {l : CEs} {ev : Sl → (Vl → Sl → Prop) → Prop} {st : Sl} {Q : PyData → Sl → Prop} : bw (.callv n l) ev st Q = ev st fun vl st1 => shr vl fun z => Q z st1 := rfl
theorem stab_callv {n : Nat} {l : CEs} {st st1 : Sl} : stab (.callv n l) st st1 = True := rfl
theorem retE_callv {n : Nat} {l : CEs} {ev : Sl → (Vl → Sl → Prop) → Prop} {st : Sl} {Q : Vl → Prop} : retE (.callv n l) ev st Q = ev st fun vl _ => Q vl := rfl
theorem bw_blt {f : Bf} {l : CEs} {ev : Sl → (Vl → Sl → Prop) → Prop} {st : Sl} {Q : PyData → Sl → Prop} : bw (.blt f l) ev st Q = ev st fun vl st1 => shr vl fun z => Q z st1 := rfl
theorem stab_blt {f : Bf} {l : CEs} {st st1 : Sl} : stab (.blt f l) st st1 = True := rfl
theorem retE_blt {f : Bf} {l : CEs} {ev : Sl → (Vl → Sl → Prop) → Prop} {st : Sl} {Q : Vl → Prop} : retE (.blt f l) ev st Q = ev st fun vl _ => Q vl := rfl
theorem bw_rep {a : CE} {ev : Sl → (Vl → Sl → Prop) → Prop} {st : Sl} {Q : PyData → Sl → Prop} : bw (.rep a) ev st Q = ev st fun vl st1 => shr vl fun z => Q z st1 := rfl
theorem stab_rep {a : CE} {st st1 : Sl} : stab (.rep a) st st1 = True := rfl
theorem retE_rep {a : CE} {ev : Sl → (Vl → Sl → Prop) → Prop} {st : Sl} {Q : Vl → Prop} : retE (.rep a) ev st Q = ev st fun vl _ => Q vl := rfl
theorem bw_meth {mf : Mf} {a : CE} {l : CEs} {ev : Sl → (Vl → Sl → Prop) → Prop} {st : Sl} {Q : PyData → Sl → Prop} : bw (.meth mf a l) ev st Q = ev st fun vl st1 => shr vl fun z => Q z st1 := rfl
theorem stab_meth {mf : Mf} {a : CE} {l : CEs} {st st1 : Sl} : stab (.meth mf a l) st st1 = True := rfl
theorem retE_meth {mf : Mf} {a : CE} {l : CEs} {ev : Sl → (Vl → Sl → Prop) → Prop} {st : Sl} {Q : Vl → Prop} : retE (.meth mf a l) ev st Q = ev st fun vl _ => Q vl := rfl
theorem bw_pop {n : Nat} {l : CEs} {ev : Sl → (Vl → Sl → Prop) → Prop} {st : Sl} {Q : PyData → Sl → Prop} : bw (.pop n l) ev st Q = ev st fun vl st1 => shr vl fun z => Q z st1 := rfl
theorem stab_pop {n : Nat} {l : CEs} {st st1 : Sl} : stab (.pop n l) st st1 = True := rfl
theorem retE_pop {n : Nat} {l : CEs} {ev : Sl → (Vl → Sl → Prop) → Prop} {st : Sl} {Q : Vl → Prop} : retE (.pop n l) ev st Q = ev st fun vl _ => Q vl := rfl
theorem bw_tup {l : CEs} {ev : Sl → (Vl → Sl → Prop) → Prop} {st : Sl} {Q : PyData → Sl → Prop} : bw (.tup l) ev st Q = ev st fun vl st1 => shr vl fun z => Q z st1 := rfl
theorem stab_tup {l : CEs} {st st1 : Sl} : stab (.tup l) st st1 = True := rfl
theorem retE_tup {l : CEs} {ev : Sl → (Vl → Sl → Prop) → Prop} {st : Sl} {Q : Vl → Prop} : retE (.tup l) ev st Q = ev st fun vl _ => Q vl := rfl
theorem bw_lst {l : CEs} {ev : Sl → (Vl → Sl → Prop) → Prop} {st : Sl} {Q : PyData → Sl → Prop} : bw (.lst l) ev st Q = ev st fun vl st1 => shr vl fun z => Q z st1 := rfl
theorem stab_lst {l : CEs} {st st1 : Sl} : stab (.lst l) st st1 = True := rfl
theorem retE_lst {l : CEs} {ev : Sl → (Vl → Sl → Prop) → Prop} {st : Sl} {Q : Vl → Prop} : retE (.lst l) ev st Q = ev st fun vl _ => Q vl := rfl
theorem bw_dic {b : Bool} {ev : Sl → (Vl → Sl → Prop) → Prop} {st : Sl} {Q : PyData → Sl → Prop} : bw (.dic b) ev st Q = ev st fun vl st1 => shr vl fun z => Q z st1 := rfl
theorem stab_dic {b : Bool} {st st1 : Sl} : stab (.dic b) st st1 = True := rfl
theorem retE_dic {b : Bool} {ev : Sl → (Vl → Sl → Prop) → Prop} {st : Sl} {Q : Vl → Prop} : retE (.dic b) ev st Q = ev st fun vl _ => Q vl := rfl
theorem bw_sub {a : CE} {b : CE} {ev : Sl → (Vl → Sl → Prop) → Prop} {st : Sl} {Q : PyData → Sl → Prop} : bw (.sub a b) ev st Q = ev st fun vl st1 => shr vl fun z => Q z st1 := rfl
theorem stab_sub {a : CE} {b : CE} {st st1 : Sl} : stab (.sub a b) st st1 = True := rfl
theorem retE_sub {a : CE} {b : CE} {ev : Sl → (Vl → Sl → Prop) → Prop} {st : Sl} {Q : Vl → Prop} : retE (.sub a b) ev st Q = ev st fun vl _ => Q vl := rfl
theorem bw_slice {a : CE} {co : CO} {co2 : CO} {ev : Sl → (Vl → Sl → Prop) → Prop} {st : Sl} {Q : PyData → Sl → Prop} : bw (.slice a co co2) ev st Q = ev st fun vl st1 => shr vl fun z => Q z st1 := rfl
theorem stab_slice {a : CE} {co : CO} {co2 : CO} {st st1 : Sl} : stab (.slice a co co2) st st1 = True := rfl
theorem retE_slice {a : CE} {co : CO} {co2 : CO} {ev : Sl → (Vl → Sl → Prop) → Prop} {st : Sl} {Q : Vl → Prop} : retE (.slice a co co2) ev st Q = ev st fun vl _ => Q vl := rfl
theorem bw_rev {a : CE} {ev : Sl → (Vl → Sl → Prop) → Prop} {st : Sl} {Q : PyData → Sl → Prop} : bw (.rev a) ev st Q = ev st fun vl st1 => shr vl fun z => Q z st1 := rfl
theorem stab_rev {a : CE} {st st1 : Sl} : stab (.rev a) st st1 = True := rfl
theorem retE_rev {a : CE} {ev : Sl → (Vl → Sl → Prop) → Prop} {st : Sl} {Q : Vl → Prop} : retE (.rev a) ev st Q = ev st fun vl _ => Q vl := rfl
theorem bw_comp {a : CE} {t : CT} {it : CI} {w : CW} {ev : Sl → (Vl → Sl → Prop) → Prop} {st : Sl} {Q : PyData → Sl → Prop} : bw (.comp a t it w) ev st Q = ev st fun vl st1 => shr vl fun z => Q z st1 := rfl
theorem stab_comp {a : CE} {t : CT} {it : CI} {w : CW} {st st1 : Sl} : stab (.comp a t it w) st st1 = True := rfl
theorem retE_comp {a : CE} {t : CT} {it : CI} {w : CW} {ev : Sl → (Vl → Sl → Prop) → Prop} {st : Sl} {Q : Vl → Prop} : retE (.comp a t it w) ev st Q = ev st fun vl _ => Q vl := rfl
theorem bw_dcomp {tb : Bool} {a : CE} {b : CE} {t : CT} {it : CI} {w : CW} {ev : Sl → (Vl → Sl → Prop) → Prop} {st : Sl} {Q : PyData → Sl → Prop} : bw (.dcomp tb a b t it w) ev st Q = ev st fun vl st1 => shr vl fun z => Q z st1 := rfl
theorem stab_dcomp {tb : Bool} {a : CE} {b : CE} {t : CT} {it : CI} {w : CW} {st st1 : Sl} : stab (.dcomp tb a b t it w) st st1 = True := rfl
theorem retE_dcomp {tb : Bool} {a : CE} {b : CE} {t : CT} {it : CI} {w : CW} {ev : Sl → (Vl → Sl → Prop) → Prop} {st : Sl} {Q : Vl → Prop} : retE (.dcomp tb a b t it w) ev st Q = ev st fun vl _ => Q vl := rfl
theorem bw_lam {n : Nat} {a : CE} {ev : Sl → (Vl → Sl → Prop) → Prop} {st : Sl} {Q : PyData → Sl → Prop} : bw (.lam n a) ev st Q = ev st fun vl st1 => shr vl fun z => Q z st1 := rfl
theorem stab_lam {n : Nat} {a : CE} {st st1 : Sl} : stab (.lam n a) st st1 = True := rfl
theorem retE_lam {n : Nat} {a : CE} {ev : Sl → (Vl → Sl → Prop) → Prop} {st : Sl} {Q : Vl → Prop} : retE (.lam n a) ev st Q = ev st fun vl _ => Q vl := rfl
theorem bw_var {n : Nat} {ev : Sl → (Vl → Sl → Prop) → Prop} {st : Sl} {Q : PyData → Sl → Prop} : bw (.var n) ev st Q = look (gs st n) fun z => Q z st := rfl
theorem stab_var {n : Nat} {st st1 : Sl} : stab (.var n) st st1 = (gs st1 n = gs st n) := rfl
theorem retE_var {n : Nat} {ev : Sl → (Vl → Sl → Prop) → Prop} {st : Sl} {Q : Vl → Prop} : retE (.var n) ev st Q = retV (gs st n) Q := rfl
theorem shrV_d {x : PyData} : shrV (.d x) = .d x := rfl
theorem shrV_row : shrV .row = .row := rfl
theorem shrV_fn {n : Nat} : shrV (.fn n) = .fn n := rfl
theorem truP_none : truP .none = True := rfl
theorem truP_bool {b : Bool} : truP (.bool b) = True := rfl
theorem truP_int {i : Int} : truP (.int i) = True := rfl
theorem truP_list {l : List PyData} : truP (.list l) = True := rfl
theorem truP_tuple {l : List PyData} : truP (.tuple l) = True := rfl
theorem lend1_none : lend1 none = none := rfl
theorem lend1_d {x : PyData} : lend1 (some (.d x)) = some (.d x) := rfl
theorem lend1_lent {x : PyData} : lend1 (some (.lent x)) = some (.lent x) := rfl
theorem lend1_row : lend1 (some .row) = some .row := rfl
theorem lend1_fn {n : Nat} : lend1 (some (.fn n)) = some (.fn n) := rfl
theorem lendAll_nil : lendAll [] = [] := rfl
theorem lendAll_cons {x : Option Vl} {r : Sl} : lendAll (x :: r) = lend1 x :: lendAll r := rfl
theorem isNoneD_int {i : Int} : isNoneD (.int i) = false := rfl
theorem isNoneD_bool {i : Bool} : isNoneD (.bool i) = false := rfl
theorem isNoneD_str {i : Str} : isNoneD (.str i) = false := rfl
theorem isNoneD_list {i : List PyData} : isNoneD (.list i) = false := rfl
theorem isNoneD_tuple {i : List PyData} : isNoneD (.tuple i) = false := rfl
theorem isNoneD_dict {i : List (PyData × PyData)} : isNoneD (.dict i) = false := rfl
theorem cmpP_lt_tuple {x y : List PyData} : cmpP .lt (.tuple x) (.tuple y) = ltP (.tuple x) (.tuple y) := rfl
theorem cmpV_lt_tuple {x y : List PyData} : cmpV .lt (.tuple x) (.tuple y) = PySem.W.dataLt (.tuple x) (.tuple y) := rfl
theorem slots_slot {i : Nat} : CT.slots (.slot i) = [i] := rfl
theorem slots_dsub {i : Nat} {c : CE} : CT.slots (.dsub i c) = [] := rfl
theorem slots_sub {i : Nat} {c : CE} : CT.slots (.sub i c) = [] := rfl
theorem slots_tup {t : CTs} : CT.slots (.tup t) = t.slots := rfl
theorem slots_nil : CTs.slots .nil = [] := rfl
theorem slots_cons {t : CT} {r : CTs} : CTs.slots (.cons t r) = t.slots ++ r.slots := rfl
theorem q_ex_1 : type_of% (@ex.eq_1) := @ex.eq_1
theorem q_ex_2 : type_of% (@ex.eq_2) := @ex.eq_2
theorem q_asI_1 : type_of% (@asI.eq_1) := @asI.eq_1
theorem q_asB_1 : type_of% (@asB.eq_1) := @asB.eq_1
theorem q_shr_1 : type_of% (@shr.eq_1) := @shr.eq_1
theorem q_shr_2 : type_of% (@shr.eq_2) := @shr.eq_2
theorem q_shrV_1 : type_of% (@shrV.eq_1) := @shrV.eq_1
theorem q_look_1 : type_of% (@look.eq_1) := @look.eq_1
theorem q_look_2 : type_of% (@look.eq_2) := @look.eq_2
theorem q_look_3 : type_of% (@look.eq_3) := @look.eq_3
theorem q_take_1 : type_of% (@take.eq_1) := @take.eq_1
theorem q_take_2 : type_of% (@take.eq_2) := @take.eq_2
theorem q_take_3 : type_of% (@take.eq_3) := @take.eq_3
theorem q_take_4 : type_of% (@take.eq_4) := @take.eq_4
theorem q_asT_1 : type_of% (@asT.eq_1) := @asT.eq_1
theorem q_asT_2 : type_of% (@asT.eq_2) := @asT.eq_2
theorem q_asO_1 : type_of% (@asO.eq_1) := @asO.eq_1
theorem q_asL_1 : type_of% (@asL.eq_1) := @asL.eq_1
theorem q_asF_1 : type_of% (@asF.eq_1) := @asF.eq_1
theorem q_retV_1 : type_of% (@retV.eq_1) := @retV.eq_1
theorem q_retV_2 : type_of% (@retV.eq_2) := @retV.eq_2
theorem q_cmpP_1 : type_of% (@cmpP.eq_1) := @cmpP.eq_1
theorem q_cmpP_2 : type_of% (@cmpP.eq_2) := @cmpP.eq_2
theorem q_cmpP_3 : type_of% (@cmpP.eq_3) := @cmpP.eq_3
theorem q_cmpP_4 : type_of% (@cmpP.eq_4) := @cmpP.eq_4
theorem q_cmpP_6 : type_of% (@cmpP.eq_6) := @cmpP.eq_6
theorem q_cmpP_7 : type_of% (@cmpP.eq_7) := @cmpP.eq_7
theorem q_cmpP_8 : type_of% (@cmpP.eq_8) := @cmpP.eq_8
theorem q_cmpP_9 : type_of% (@cmpP.eq_9) := @cmpP.eq_9
theorem q_cmpP_10 : type_of% (@cmpP.eq_10) := @cmpP.eq_10
theorem q_cmpP_11 : type_of% (@cmpP.eq_11) := @cmpP.eq_11
theorem q_cmpP_12 : type_of% (@cmpP.eq_12) := @cmpP.eq_12
theorem q_cmpP_13 : type_of% (@cmpP.eq_13) := @cmpP.eq_13
theorem q_cmpV_1 : type_of% (@cmpV.eq_1) := @cmpV.eq_1
theorem q_cmpV_2 : type_of% (@cmpV.eq_2) := @cmpV.eq_2
theorem q_cmpV_3 : type_of% (@cmpV.eq_3) := @cmpV.eq_3
theorem q_cmpV_4 : type_of% (@cmpV.eq_4) := @cmpV.eq_4
theorem q_cmpV_6 : type_of% (@cmpV.eq_6) := @cmpV.eq_6
theorem q_cmpV_7 : type_of% (@cmpV.eq_7) := @cmpV.eq_7
theorem q_cmpV_8 : type_of% (@cmpV.eq_8) := @cmpV.eq_8
theorem q_cmpV_9 : type_of% (@cmpV.eq_9) := @cmpV.eq_9
theorem q_cmpV_10 : type_of% (@cmpV.eq_10) := @cmpV.eq_10
theorem q_cmpV_11 : type_of% (@cmpV.eq_11) := @cmpV.eq_11
theorem q_cmpV_12 : type_of% (@cmpV.eq_12) := @cmpV.eq_12
theorem q_cmpV_13 : type_of% (@cmpV.eq_13) := @cmpV.eq_13
theorem q_truP_1 : type_of% (@truP.eq_1) := @truP.eq_1
theorem q_truV_1 : type_of% (@truV.eq_1) := @truV.eq_1
theorem q_truV_2 : type_of% (@truV.eq_2) := @truV.eq_2
theorem q_truV_3 : type_of% (@truV.eq_3) := @truV.eq_3
theorem q_truV_4 : type_of% (@truV.eq_4) := @truV.eq_4
theorem q_truV_5 : type_of% (@truV.eq_5) := @truV.eq_5
theorem q_truV_6 : type_of% (@truV.eq_6) := @truV.eq_6
theorem q_truV_7 : type_of% (@truV.eq_7) := @truV.eq_7
theorem q_isNoneD_1 : type_of% (@isNoneD.eq_1) := @isNoneD.eq_1
theorem q_isBoolD_1 : type_of% (@isBoolD.eq_1) := @isBoolD.eq_1
theorem q_subD_1 : type_of% (@subD.eq_1) := @subD.eq_1
theorem q_subD_2 : type_of% (@subD.eq_2) := @subD.eq_2
theorem q_subD_3 : type_of% (@subD.eq_3) := @subD.eq_3
theorem q_setD_1 : type_of% (@setD.eq_1) := @setD.eq_1
theorem q_kiD_1 : type_of% (@kiD.eq_1) := @kiD.eq_1
theorem q_kiD_2 : type_of% (@kiD.eq_2) := @kiD.eq_2
theorem q_kiD_3 : type_of% (@kiD.eq_3) := @kiD.eq_3
theorem q_kiD_4 : type_of% (@kiD.eq_4) := @kiD.eq_4
theorem q_kiD_5 : type_of% (@kiD.eq_5) := @kiD.eq_5
theorem q_kiD_6 : type_of% (@kiD.eq_6) := @kiD.eq_6
theorem q_kiD_7 : type_of% (@kiD.eq_7) := @kiD.eq_7
theorem q_lend1_1 : type_of% (@lend1.eq_1) := @lend1.eq_1
theorem q_gs_1 : type_of% (@gs.eq_1) := @gs.eq_1
theorem q_gs_2 : type_of% (@gs.eq_2) := @gs.eq_2
theorem q_gs_3 : type_of% (@gs.eq_3) := @gs.eq_3
theorem q_ss_1 : type_of% (@ss.eq_1) := @ss.eq_1
theorem q_ss_2 : type_of% (@ss.eq_2) := @ss.eq_2
theorem q_ss_3 : type_of% (@ss.eq_3) := @ss.eq_3
theorem q_wipeS_1 : type_of% (@wipeS.eq_1) := @wipeS.eq_1
theorem q_wipeS_2 : type_of% (@wipeS.eq_2) := @wipeS.eq_2
theorem look_congr {o o' : Option Vl} {Q : PyData → Prop} (h : o = o') : look o Q = look o' Q := by rw [h]
theorem take_congr {o o' : Option Vl} {Q : Vl → Prop} {R : PyData → Prop} (h : o = o') : take o Q R = take o' Q R := by rw [h]
theorem asT_congr {o o' : PyData} {Q : List PyData → Prop} (h : o = o') : asT o Q = asT o' Q := by rw [h]
theorem itemsD_congr {o o' : PyData} {Q : List PyData → Prop} (h : o = o') : itemsD o Q = itemsD o' Q := by rw [h]
theorem fs_congr {G : Gm} {f : Nat} {vs vs' : List Vl} {Q : Vl → Prop} {E : Exn → Prop} (h : vs = vs') : callF G f vs Q E = callF G f vs' Q E := by rw [h]
theorem forL_congr {f : PyData → Ed → Sl → Prop} {l l' : List PyData} {D : Ed} {st : Sl} (h : l = l') : forL f l D st = forL f l' D st := by rw [h]
theorem loopC_congr {f : PyData → List PyData → (List PyData → Prop) → Prop} {l l' acc : List PyData} {k : List PyData → Prop} (h : l = l') : loopC f l acc k = loopC f l' acc k := by rw [h]
end PX
end L2
/-! The two levels together: states, values, laying, sharing. -/
namespace L2
namespace PX
open PySem PySem.Spec PyProof.Rows
theorem gs_get : ∀ {st : Sl} {i : Nat} {v : Vl}, gs st i = some v ↔ st[i]? = some (some v)
  | [], i, v => by simp [gs]
  | x :: r, 0, v => by simp [gs]
  | x :: r, i + 1, v => by simp only [gs, List.getElem?_cons_succ]; exact gs_get
theorem ss_set : ∀ {st : Sl} {i : Nat} {y : Option Vl}, ss st i y = st.set i y
  | [], _, _ => rfl
  | _ :: _, 0, _ => rfl
  | x :: r, i + 1, y => by simp only [ss, List.set_cons_succ]; rw [ss_set]
theorem ss_len {st : Sl} {i : Nat} {y : Option Vl} : (ss st i y).length = st.length := by rw [ss_set, List.length_set]
theorem ss_get {st : Sl} {i j : Nat} {y z : Option Vl} (h : (ss st i y)[j]? = some z) : (j = i ∧ z = y) ∨ (j ≠ i ∧ st[j]? = some z) := by
  rw [ss_set] at h
  by_cases e : i = j
  · subst e
    rw [List.getElem?_set_self' ] at h
    cases q : st[i]? with
    | none => rw [q] at h; simp at h
    | some w => rw [q] at h; simp at h; exact .inl ⟨rfl, h.symm⟩
  · rw [List.getElem?_set_ne e] at h
    exact .inr ⟨fun q => e q.symm, h⟩
/-- the contents that a value has now -/
def Now (K : PySem.W.Frag) (S H : Hp) (v : V) (x : PyData) : Prop := Rp K S v x ∨ ∃ a o, v = .ref a ∧ H a = some o ∧ Cont K S o x
/-- a value just made -/
def NewV (K : PySem.W.Frag) (S H : Hp) (v : V) (H' : Hp) : Vl → Prop
  | .d x => (H' = H ∧ Rp K S v x) ∨ ∃ p vs ds, x = .tuple ds ∧ H p = none ∧ v = .ref p ∧ H' = upd H p (.tup vs) ∧ RpAll K S vs ds
  | .own x => ∃ p o, H p = none ∧ v = .ref p ∧ H' = upd H p o ∧ Cont K S o x
  | _ => False
theorem Cont.notTbl {K : PySem.W.Frag} {S : Hp} {o : HO} : ∀ {x : PyData}, Cont K S o x → notTbl o
  | .list _, h => by obtain ⟨vs, e, _⟩ := h; subst e; exact fun _ z => by cases z
  | .dict _, h => by
    rcases h with ⟨_, _, _, e, _⟩ | ⟨_, _, _, e, _⟩ <;> subst e <;> exact fun _ z => by cases z
section
variable {L : Lw} {E0 : En} {st st' : Sl} {σ : St} {S S' H H' : Hp} {p a : Addr} {o : HO} {v : V} {vl : Vl} {x : PyData}
theorem SVal.upd (h : SVal L S H E0 vl v) (hp : H p = none) : SVal L S (upd H p o) E0 vl v := by
  cases vl with
  | d x => exact h
  | own x =>
    obtain ⟨a, u, e, ha, hs, he, hr, c⟩ := h
    exact ⟨a, u, e, by rw [upd_ne (ne_of_none ha hp)]; exact ha, hs, he, hr, c⟩
  | lent x =>
    obtain ⟨a, u, e, ha, hs, he, hr, c⟩ := h
    exact ⟨a, u, e, by rw [upd_ne (ne_of_none ha hp)]; exact ha, hs, he, hr, c⟩
  | row => exact h
  | fn n => exact h
theorem RowOk.ext {K : PySem.W.Frag} (h : RowOk K S H a) (m : Mono S S') (e : ∀ o, H a = some o → H' a = some o) : RowOk K S' H' a := by
  obtain ⟨sa, ns, i, j, k, h1, h2, h3⟩ := h
  exact ⟨sa, ns, i, j, k, e _ h1, m.seqL h2, h3⟩
theorem HI.noR (I : HI L E0 S H) (hp : H p = none) : L.R ≠ some p := fun z => by
  obtain ⟨_, _, _, _, _, h, _⟩ := (I.row p z).1
  rw [hp] at h; cases h
theorem HI.noE (I : HI L E0 S H) (hp : H p = none) : E0.h p = none := by
  cases q : E0.h p with
  | none => rfl
  | some u =>
    have := I.keep p u q (I.noR hp)
    rw [hp] at this; cases this
theorem HI.free (I : HI L E0 S H) (hp : H p = none) : S p = none := by
  cases q : S p with
  | none => rfl
  | some u => rw [I.sub p u q] at hp; cases hp
theorem HI.laid (I : HI L E0 S H) (hp : H p = none) : HI L E0 S (L2.upd H p o) where
  base := I.base
  sub := I.sub.trans (Mono.upd hp)
  ns := I.ns
  keep := fun a u h r => by
    have q := I.keep a u h r
    rw [upd_ne (ne_of_none q hp)]; exact q
  row := fun a h => ⟨(I.row a h).1.ext (.refl S) (fun o e => Mono.upd hp a o e), (I.row a h).2⟩
  tabs := I.tabs.ext (Mono.upd hp)
  enT := I.enT
  snt := I.snt
theorem HI.addS (I : HI L E0 S H) (hH : H p = some o) (hp : S p = none) (hE : E0.h p = none) (hR : L.R ≠ some p) (nt : notTbl o := by intro ps z; cases z) : HI L E0 (L2.upd S p o) H where
  base := I.base.trans (Mono.upd hp)
  sub := fun a u h => by
    by_cases e : a = p
    · subst e; rw [upd_same] at h; cases h; exact hH
    · rw [upd_ne e] at h; exact I.sub a u h
  ns := fun a h1 h2 => by
    have ne : a ≠ p := fun z => h2 (by rw [z]; exact hE)
    rw [upd_ne ne]; exact I.ns a h1 h2
  keep := I.keep
  row := fun a h => ⟨(I.row a h).1.ext (Mono.upd hp) (fun o e => e), by rw [upd_ne (fun z => hR (by rw [h, z]))]; exact (I.row a h).2⟩
  tabs := I.tabs
  enT := I.enT
  snt := fun a u h => by
    by_cases e : a = p
    · subst e; rw [upd_same] at h; cases h; exact nt
    · rw [upd_ne e] at h; exact I.snt a u h
/-- a new object is laid -/
theorem SI.laid (I : SI L E0 st σ S H) (hp : H p = none) : SI L E0 st σ S (L2.upd H p o) :=
  { I.toHI.laid hp with
    len := I.len
    at_ := fun i vl h => by
      obtain ⟨v, h1, h2⟩ := I.at_ i vl h
      exact ⟨v, h1, h2.upd hp⟩
    dis := I.dis }
theorem Go.laid (hp : H p = none) : Go L st σ S H st S (L2.upd H p o) :=
  ⟨.refl S, fun a u h _ _ _ => by rw [upd_ne (ne_of_none h hp)]; exact h, fun _ x h => ⟨x, h, rfl⟩, fun a h ⟨u, h1, h2⟩ => h ⟨u, by rw [upd_ne (ne_of_none h1 hp)]; exact h1, h2⟩, fun _ _ h _ => h⟩
/-- what is no slot's own is kept as it is from now on -/
theorem SVal.addS (h : SVal L S H E0 vl v) (hp : S p = none) (no : ∀ x, (vl = .own x ∨ vl = .lent x) → v ≠ .ref p) : SVal L (L2.upd S p o) H E0 vl v := by
  cases vl with
  | d x => exact Rp.mono (Mono.upd hp) h
  | own x =>
    obtain ⟨a, u, e, ha, hs, he, hr, c⟩ := h
    have ne : a ≠ p := fun z => no x (.inl rfl) (by rw [e, z])
    exact ⟨a, u, e, ha, by rw [upd_ne ne]; exact hs, he, hr, c.mono (Mono.upd hp)⟩
  | lent x =>
    obtain ⟨a, u, e, ha, hs, he, hr, c⟩ := h
    have ne : a ≠ p := fun z => no x (.inr rfl) (by rw [e, z])
    exact ⟨a, u, e, ha, by rw [upd_ne ne]; exact hs, he, hr, c.mono (Mono.upd hp)⟩
  | row => exact h
  | fn n => exact h
theorem SI.addS (I : SI L E0 st σ S H) (hH : H p = some o) (hp : S p = none) (no : ¬ Owns st σ p) (hE : E0.h p = none) (hR : L.R ≠ some p) (nt : notTbl o := by intro ps z; cases z) : SI L E0 st σ (L2.upd S p o) H :=
  { I.toHI.addS hH hp hE hR nt with
    len := I.len
    at_ := fun i vl h => by
      obtain ⟨v, h1, h2⟩ := I.at_ i vl h
      refine ⟨v, h1, h2.addS hp fun x hx e => ?_⟩
      rcases hx with rfl | rfl
      · exact no ⟨i, x, h, by rw [h1, e]⟩
      · obtain ⟨a, u, e', ha, hs, he, _⟩ := h2
        rw [e] at e'; cases e'
        rw [hE] at he; cases he
    dis := I.dis }
/-- what was new at the start is shared now -/
theorem Go.addS {S0 H0 : Hp} {st0 : Sl} (g : Go L st0 σ S0 H0 st S H) (hp : S p = none) (h0 : ¬ Has H0 p) : Go L st0 σ S0 H0 st (L2.upd S p o) H :=
  ⟨g.mono.trans (Mono.upd hp), g.fr, g.ownS, g.dom, fun a h1 h2 n => by rw [upd_ne (fun z => h0 (by rw [← z]; exact h1))]; exact g.uns a h1 h2 n⟩
theorem SI.noOwn (I : SI L E0 st σ S H) (hp : H p = none) : ¬ Owns st σ p := fun ⟨i, x, h1, h2⟩ => by
  obtain ⟨v, h3, a, o, e, ha, _⟩ := I.at_ i _ h1
  rw [h2] at h3; cases h3; cases e
  rw [hp] at ha; cases ha
/-- what is new becomes shared -/
theorem SI.laidS (I : SI L E0 st σ S H) (hp : H p = none) (nt : notTbl o := by intro ps z; cases z) : SI L E0 st σ (L2.upd S p o) (L2.upd H p o) :=
  (I.laid hp).addS upd_same (I.free hp) (fun ⟨i, x, h1, h2⟩ => I.noOwn hp ⟨i, x, h1, h2⟩) (I.noE hp) (I.noR hp) nt
theorem Go.laidS (I : SI L E0 st σ S H) (hp : H p = none) : Go L st σ S H st (L2.upd S p o) (L2.upd H p o) :=
  Go.addS (Go.laid hp) (I.free hp) (not_has hp)
/-- a value just made: the state behind it -/
theorem SI.closeV (I : SI L E0 st σ S H) (h : NewV L.K S H v H' vl) : ∃ S', SI L E0 st σ S' H' ∧ Go L st σ S H st S' H' ∧ VR L E0 H st σ S' H' vl v := by
  cases vl with
  | d x =>
    rcases h with ⟨rfl, h⟩ | ⟨p, vs, ds, rfl, hp, rfl, rfl, r⟩
    · exact ⟨S, I, .refl .., h, (fun x a e => nomatch e), (fun x a e => nomatch e), fun x e => nomatch e⟩
    · exact ⟨_, I.laidS hp, Go.laidS I hp, .tup (.inl (.inl upd_same)) (r.mono (Mono.upd (I.free hp))), (fun x a e => nomatch e), (fun x a e => nomatch e), fun x e => nomatch e⟩
  | own x =>
    obtain ⟨p, o, hp, rfl, rfl, c⟩ := h
    refine ⟨S, I.laid hp, Go.laid hp, ⟨p, o, rfl, upd_same, I.free hp, I.noE hp, I.noR hp, c⟩, fun y a e e' => ?_, fun y a e e' => ?_, fun y e => nomatch e⟩
    · cases e'
      exact I.noOwn hp
    · cases e'
      exact not_has hp
  | lent x => exact h.elim
  | row => exact h.elim
  | fn n => exact h.elim
/-- behind a call -/
theorem HI.kept (J : HI L (ent H S) S' H') (h : H a = some o) (t : notTbl o) (r : L.R ≠ some a) : H' a = some o := J.keep a o (noT_some h t) r
theorem HI.un (J : HI L (ent H S) S' H') (h : Has H a) (hs : S a = none) : S' a = none := by
  obtain ⟨o, h1, h2⟩ := h
  exact J.ns a hs (by show noT H a ≠ none; rw [noT_some h1 h2]; exact fun z => by cases z)
theorem SI.after (I : SI L E0 st σ S H) (J : HI L (ent H S) S' H') : SI L E0 st σ S' H' where
  base := I.base.trans J.base
  sub := J.sub
  ns := fun a h1 h2 => by
    by_cases hr : L.R = some a
    · exact (J.row a hr).2
    · cases q : E0.h a with
      | none => exact absurd q h2
      | some u => exact J.un ⟨u, I.keep a u q hr, I.enT a u q⟩ (I.ns a h1 h2)
  keep := fun a o h r => J.kept (I.keep a o h r) (I.enT a o h) r
  row := J.row
  tabs := J.tabs
  enT := I.enT
  snt := J.snt
  len := I.len
  at_ := fun i vl h => by
    obtain ⟨v, h1, h2⟩ := I.at_ i vl h
    refine ⟨v, h1, ?_⟩
    cases vl with
    | d x => exact Rp.mono J.base h2
    | own x =>
      obtain ⟨a, u, e, ha, hs, he, hr, c⟩ := h2
      exact ⟨a, u, e, J.kept ha c.notTbl hr, J.un ⟨u, ha, c.notTbl⟩ hs, he, hr, c.mono J.base⟩
    | lent x =>
      obtain ⟨a, u, e, ha, hs, he, hr, c⟩ := h2
      exact ⟨a, u, e, J.kept ha c.notTbl hr, J.un ⟨u, ha, c.notTbl⟩ hs, he, hr, c.mono J.base⟩
    | row => exact h2
    | fn n => exact h2
  dis := I.dis
theorem Go.after (J : HI L (ent H S) S' H') : Go L st σ S H st S' H' := ⟨J.base, fun a o h _ r t => J.kept h t r, fun _ x h => ⟨x, h, rfl⟩, fun a h ⟨o, h1, h2⟩ => by
  by_cases hr : L.R = some a
  · obtain ⟨_, _, _, _, _, q, _⟩ := (J.row a hr).1
    exact h (has_of q)
  · exact h ⟨o, J.kept h1 h2 hr, h2⟩, fun a h1 h2 _ => J.un h1 h2⟩
/-- a call's value behind it -/
theorem SI.afterV (I : SI L E0 st σ S H) (J : HI L (ent H S) S' H') (h : SVal L S' H' (ent H S) vl v) (nl : ∀ x, vl ≠ .lent x) : VR L E0 H st σ S' H' vl v := by
  cases vl with
  | d x => exact ⟨h, (fun _ _ e => nomatch e), (fun _ _ e => nomatch e), nl⟩
  | own x =>
    obtain ⟨a, u, e, ha, hs, he, hr, c⟩ := h
    have nh : ¬ Has H a := fun ⟨o, h1, h2⟩ => by
      have he : noT H a = none := he
      rw [noT_some h1 h2] at he; cases he
    refine ⟨⟨a, u, e, ha, hs, ?_, hr, c⟩, fun y b _ eb => ?_, fun y b _ eb => ?_, nl⟩
    · cases q : E0.h a with
      | none => rfl
      | some w => exact absurd ⟨w, I.keep a w q hr, I.enT a w q⟩ nh
    · rw [e] at eb; cases eb
      exact fun ⟨i, x, h1, h2⟩ => by
        obtain ⟨v', h3, a', o', e', ha', _, _, _, c'⟩ := I.at_ i _ h1
        rw [h2] at h3; cases h3; cases e'
        exact nh ⟨o', ha', c'.notTbl⟩
    · rw [e] at eb; cases eb
      exact nh
  | lent x => exact absurd rfl (nl x)
  | row => exact ⟨h, (fun _ _ e => nomatch e), (fun _ _ e => nomatch e), nl⟩
  | fn n => exact ⟨h, (fun _ _ e => nomatch e), (fun _ _ e => nomatch e), nl⟩
end
end PX
end L2
/-! The expressions' rules. -/
namespace L2
namespace PX
open PySem PySem.Spec PyProof.Rows
theorem _root_.L2.PE.weak {X : Cx} {e : Expr} {t t' : TE} (h : PE X e t) (i : ∀ σ H Q, t' σ H Q → t σ H Q) : PE X e t' := ⟨fun pins s σ H Q I hw => h.run pins s σ H Q I (i σ H Q hw)⟩
theorem _root_.L2.PT.weak {X : Cx} {e : Expr} {t t' : TT} (h : PT X e t) (i : ∀ σ H Q, t' σ H Q → t σ H Q) : PT X e t' := ⟨fun pins s σ H Q I hw => h.run pins s σ H Q I (i σ H Q hw)⟩
theorem _root_.L2.PA.weak {X : Cx} {e : List Expr} {t t' : TA} (h : PA X e t) (i : ∀ σ H Q, t' σ H Q → t σ H Q) : PA X e t' := ⟨fun pos pins s σ H Q I hw => h.run pos pins s σ H Q I (i σ H Q hw)⟩
theorem _root_.L2.PS.weak {X : Cx} {st : Stmt} {t t' : TS} (h : PS X st t) (i : ∀ D σ H, t' D σ H → t D σ H) : PS X st t' := ⟨fun pins s σ H D I hw => h.run pins s σ H D I (i D σ H hw)⟩
/-- an exception lies as told -/
def XRep (L : Lw) (S H : Hp) (cls : Value) (d : Option Addr) (x : Exn) : Prop :=
  cls = .ref (L.ct x.cls) ∧ ∃ dx fs v, d = some dx ∧ H dx = some (.xd fs) ∧ fs.lookup ("value" : Str) = some v ∧ Rp L.K S v x.val
/-- what is wanted of an exception -/
def XEX (L : Lw) (E0 : En) (EX : Exn → Prop) : XK := fun cls d H => ∃ S x, HI L E0 S H ∧ XRep L S H cls d x ∧ EX x
structure Fit (L : Lw) (E0 : En) (EX : Exn → Prop) (X : Cx) (k : Nat) : Prop where
  K : X.K = L.K
  tk : Takes X fun cls d _ H => XEX L E0 EX cls d H
  calm : X.calm = true
  room : Room k X.A
  nd : X.N.Nodup
  po : PassesOwn (model X.prog X.w) X.A X.env X.xe
/-- the value of an expression, on data -/
def tD (L : Lw) (E0 : En) (ev : Sl → (Vl → Sl → Prop) → Prop) : TE := fun σ H Q => ∃ st S Q', SI L E0 st σ S H ∧ ev st Q' ∧
  ∀ v H' st' S' vl, SI L E0 st' σ S' H' → Go L st σ S H st' S' H' → VR L E0 H st' σ S' H' vl v → Q' vl st' → Q v H'
/-- how a value lies that is only looked at -/
def RBc (L : Lw) (c : CE) (st : Sl) (σ : St) (S H : Hp) (v : V) (x : PyData) : Prop :=
  Rp L.K S v x ∨ (∃ i, c = .var i ∧ (gs st i = some (.own x) ∨ gs st i = some (.lent x)) ∧ σ[i]? = some (some v)) ∨
  ∃ a o, v = .ref a ∧ H a = some o ∧ Cont L.K S o x ∧ ¬ Owns st σ a ∧ L.R ≠ some a ∧ ∀ i, c ≠ .var i
def tB (L : Lw) (E0 : En) (c : CE) (ev : Sl → (Vl → Sl → Prop) → Prop) : TE := fun σ H Q => ∃ st S Q', SI L E0 st σ S H ∧ bw c ev st Q' ∧
  ∀ v H' st' S' x, SI L E0 st' σ S' H' → Go L st σ S H st' S' H' → RBc L c st' σ S' H' v x → Q' x st' → Q v H'
/-- the expression is worked out as the small language says -/
structure JE (L : Lw) (E0 : En) (G : Gm) (EX : Exn → Prop) (X : Cx) (e : Expr) (c : CE) : Prop where
  d : PE X e (tD L E0 (evE G c EX))
  b : PE X e (tB L E0 c (evE G c EX))
section
variable {L : Lw} {E0 : En} {G : Gm} {EX : Exn → Prop} {X : Cx} {c c2 : CE} {e e2 : Expr} {st st' st1 st2 : Sl} {σ : St} {S S' S1 S2 H H' H1 H2 : Hp} {v : V} {x : PyData} {vl : Vl}
theorem RBc.now (r : RBc L c st σ S H v x) (I : SI L E0 st σ S H) : Now L.K S H v x := by
  rcases r with r | ⟨i, rfl, h, hv⟩ | ⟨a, o, e, ha, hc, _⟩
  · exact .inl r
  · rcases h with h | h
    · obtain ⟨w, h1, a, o, e, ha, _, _, _, hc⟩ := I.at_ i _ (gs_get.mp h)
      rw [hv] at h1; cases h1
      exact .inr ⟨a, o, e, ha, hc⟩
    · obtain ⟨w, h1, a, o, e, ha, _, _, _, hc⟩ := I.at_ i _ (gs_get.mp h)
      rw [hv] at h1; cases h1
      exact .inr ⟨a, o, e, ha, hc⟩
  · exact .inr ⟨a, o, e, ha, hc⟩
theorem RBc.stay (r : RBc L c st1 σ S1 H1 v x) (g : Go L st1 σ S1 H1 st2 S2 H2) (s : stab c st1 st2) : RBc L c st2 σ S2 H2 v x := by
  rcases r with r | ⟨i, rfl, h, hv⟩ | ⟨a, o, e, ha, hc, no, nr, hn⟩
  · exact .inl (r.mono g.mono)
  · have s' : gs st2 i = gs st1 i := s
    exact .inr (.inl ⟨i, rfl, by rw [s']; exact h, hv⟩)
  · exact .inr (.inr ⟨a, o, e, g.fr a o ha no nr hc.notTbl, hc.mono g.mono, fun ⟨i, y, h1, h2⟩ => by
      obtain ⟨z, h3, _⟩ := g.ownS i y h1
      exact no ⟨i, z, h3, h2⟩, nr, hn⟩)
theorem bw_no (h : ∀ i, c ≠ .var i) {ev : Sl → (Vl → Sl → Prop) → Prop} {Q : PyData → Sl → Prop} : bw c ev st Q = ev st fun vl st1 => shr vl fun z => Q z st1 := by
  cases c <;> first | rfl | exact absurd rfl (h _)
theorem VR.rbc (h : VR L E0 H' st σ S H vl v) (hn : ∀ i, c ≠ .var i) (hs : shr vl fun z => z = x) : RBc L c st σ S H v x := by
  cases vl with
  | d y =>
    have e : y = x := hs
    subst e
    exact .inl h.val
  | own y =>
    have e : y = x := hs
    subst e
    obtain ⟨a, o, e, ha, hS, he, hr, hc⟩ := h.val
    exact .inr (.inr ⟨a, o, e, ha, hc, h.new y a rfl e, hr, hn⟩)
  | lent y => exact hs.elim
  | row => exact hs.elim
  | fn n => exact hs.elim
theorem shr_at {Q : PyData → Prop} (h : shr vl Q) : ∃ x, (shr vl fun z => z = x) ∧ Q x := by
  cases vl with
  | d y => exact ⟨y, rfl, h⟩
  | own y => exact ⟨y, rfl, h⟩
  | lent y => exact h.elim
  | row => exact h.elim
  | fn n => exact h.elim
/-- anything but a name -/
theorem JE.of (h : PE X e (tD L E0 (evE G c EX))) (hn : ∀ i, c ≠ .var i) : JE L E0 G EX X e c := by
  refine ⟨h, h.weak fun σ H Q ⟨st, S, Q', I, ev, k⟩ => ?_⟩
  rw [bw_no hn] at ev
  refine ⟨st, S, _, I, ev, fun v H' st' S' vl I' g r q => ?_⟩
  obtain ⟨x, hx, q⟩ := shr_at q
  exact k v H' st' S' x I' g (r.rbc hn hx) q
/-! ### names, constants -/
/-- a name read; a dict may be locked with it -/
theorem pe_varF {i : Nat} {y : Str} {pos : Pos} (hN : X.N[i]? = some y) (hv : Vis X.env.scope y) (hd : (y == ("__debug__" : Str)) = false) (hcd : (y == ("__classdict__" : Str)) = false) :
    PE X (.Name y pos) (fun σ H Q => ∃ v, σ[i]? = some (some v) ∧ (Q v H ∨ ∃ a u, v = .ref a ∧ H a = some u ∧ Mut (some u) ∧ ∀ od, Q v (upd H a (.frz od u)))) := by
  refine ⟨fun pins s σ H Q I h => ?_⟩
  obtain ⟨v, e, h⟩ := h
  refine thn ((pe_var (pos := pos) hN hv hd hcd).run pins s σ H (fun w H1 => w = v ∧ H1 = H) I ⟨v, e, rfl, rfl⟩) fun u s1 ⟨w, H1, I1, r1, e1, e2⟩ => ?_
  subst e1 e2
  rcases h with h | ⟨a, o, ea, ha, mu, h⟩
  · exact ⟨_, _, I1, r1, h⟩
  · obtain ⟨od, I2⟩ := I1.lock ha mu
    exact ⟨_, _, I2, r1, h od⟩
theorem Owns.ss_d {i : Nat} {y : PyData} {a : Addr} (h : Owns (ss st i (some (.d y))) σ a) : Owns st σ a := by
  obtain ⟨j, z, h1, h2⟩ := h
  rcases ss_get h1 with ⟨_, e⟩ | ⟨_, e⟩
  · cases e
  · exact ⟨j, z, e, h2⟩
/-- a slot's own list is kept from now on as it is -/
theorem SI.freezeL {i : Nat} {ds : List PyData} (I : SI L E0 st σ S H) (h : gs st i = some (.own (.list ds))) (hv : σ[i]? = some (some v)) :
    ∃ S', SI L E0 (ss st i (some (.d (.list ds)))) σ S' H ∧ Go L st σ S H (ss st i (some (.d (.list ds)))) S' H ∧ Rp L.K S' v (.list ds) := by
  have h' := gs_get.mp h
  obtain ⟨w, h1, a, o, e, ha, hs, he, hr, vs, eo, r⟩ := I.at_ i _ h'
  rw [hv] at h1; cases h1
  subst e eo
  have no : ∀ (j : Nat) (z : Vl) (y : PyData), j ≠ i → st[j]? = some (some z) → (z = .own y ∨ z = .lent y) → σ[j]? ≠ some (some (.ref a)) := fun j z y ne hj hz hw => by
    rcases hz with rfl | rfl
    · exact ne (I.dis j i y _ a hj h' hw hv)
    · obtain ⟨w, h2, b, o', e', hb, _, hE, _⟩ := I.at_ j _ hj
      rw [hw] at h2; cases h2; cases e'
      rw [he] at hE; cases hE
  have R' : Rp L.K (upd S a (.lst vs)) (.ref a) (.list ds) := .lst upd_same (r.mono (Mono.upd hs))
  refine ⟨upd S a (.lst vs), { I.toHI.addS ha hs he hr with len := by rw [ss_len]; exact I.len, at_ := fun j vl hj => ?_, dis := fun j k y z b hj hk => ?_ }, ⟨Mono.upd hs, fun _ _ h _ _ _ => h, fun j y hj => ?_, fun _ h => h, fun b h1 h2 n => by rw [upd_ne (fun z => n ⟨i, _, h', by rw [hv, z]⟩)]; exact h2⟩, R'⟩
  · rcases ss_get hj with ⟨rfl, e⟩ | ⟨ne, e⟩
    · cases e; exact ⟨_, hv, R'⟩
    · obtain ⟨w, h2, h3⟩ := I.at_ j vl e
      exact ⟨w, h2, h3.addS hs fun y hy ew => no j vl y ne e hy (by rw [h2, ew])⟩
  · rcases ss_get hj with ⟨_, e⟩ | ⟨ne, e⟩
    · cases e
    · rcases ss_get hk with ⟨_, e'⟩ | ⟨ne', e'⟩
      · cases e'
      · exact I.dis j k y z b e e'
  · rcases ss_get hj with ⟨_, e⟩ | ⟨ne, e⟩
    · cases e
    · exact ⟨y, e, rfl⟩
theorem DicO.frz {K : PySem.W.Frag} {M : Hp} {a : Addr} {o : HO} {od : Obj} {kvs : List (PyData × PyData)} (h : DicO K M o kvs) (e : M a = some (.frz od o)) : Rp K M (.ref a) (.dict kvs) := by
  rcases h with ⟨ks, xs, ds, rfl, h2, h3, rfl⟩ | ⟨ks, xs, ds, rfl, h2, h3, rfl⟩
  · exact .dicK e h2 h3
  · exact .dicT e h2 h3
theorem SI.freezeD {i : Nat} {kvs : List (PyData × PyData)} {od : Obj} (I : SI L E0 st σ S H) (h : gs st i = some (.own (.dict kvs))) {a : Addr} {o : HO} (hv : σ[i]? = some (some (.ref a))) (ha : H a = some o) :
    ∃ S', SI L E0 (ss st i (some (.d (.dict kvs)))) σ S' (upd H a (.frz od o)) ∧ Go L st σ S H (ss st i (some (.d (.dict kvs)))) S' (upd H a (.frz od o)) ∧ Rp L.K S' (.ref a) (.dict kvs) := by
  have h' := gs_get.mp h
  obtain ⟨w, h1, a', o', e, ha', hs, he, hr, c⟩ := I.at_ i _ h'
  rw [hv] at h1; cases h1
  cases e
  rw [ha] at ha'; cases ha'
  have c : DicO L.K S o kvs := c
  have no : ∀ (j : Nat) (z : Vl) (y : PyData), j ≠ i → st[j]? = some (some z) → (z = .own y ∨ z = .lent y) → σ[j]? ≠ some (some (.ref a)) := fun j z y ne hj hz hw => by
    rcases hz with rfl | rfl
    · exact ne (I.dis j i y _ a hj h' hw hv)
    · obtain ⟨w, h2, b, o', e', hb, _, hE, _⟩ := I.at_ j _ hj
      rw [hw] at h2; cases h2; cases e'
      rw [he] at hE; cases hE
  have R' : Rp L.K (upd S a (.frz od o)) (.ref a) (.dict kvs) := DicO.frz (c.mono (Mono.upd hs)) upd_same
  have nt : notTbl o := Cont.notTbl (x := .dict kvs) c
  have st1 : ∀ b u, b ≠ a → H b = some u → upd H a (.frz od o) b = some u := fun b u n e => by rw [upd_ne n]; exact e
  refine ⟨upd S a (.frz od o), { base := I.base.trans (Mono.upd hs), sub := fun b u h => ?_, ns := fun b h1 h2 => ?_, keep := fun b u h r => ?_, row := fun b h => ?_, tabs := fun p hp => ?_, enT := I.enT, snt := fun b u h => (by
      by_cases q : b = a
      · subst q; rw [upd_same] at h; cases h; exact fun _ z => by cases z
      · rw [upd_ne q] at h; exact I.snt b u h), len := by rw [ss_len]; exact I.len, at_ := fun j vl hj => ?_, dis := fun j k y z b hj hk => ?_ }, ⟨Mono.upd hs, fun b u h n r t => ?_, fun j y hj => ?_, fun b h => ?_, fun b h1 h2 n => by rw [upd_ne (fun z => n ⟨i, _, h', by rw [hv, z]⟩)]; exact h2⟩, R'⟩
  · by_cases q : b = a
    · subst q; rw [upd_same] at h ⊢; exact h
    · rw [upd_ne q] at h ⊢; exact I.sub b u h
  · have ne : b ≠ a := fun z => h2 (by rw [z]; exact he)
    rw [upd_ne ne]; exact I.ns b h1 h2
  · exact st1 b u (fun z => by rw [z, he] at h; cases h) (I.keep b u h r)
  · have ne : b ≠ a := fun z => hr (by rw [h, z])
    exact ⟨(I.row b h).1.ext (Mono.upd hs) fun o e => st1 b o ne e, by rw [upd_ne ne]; exact (I.row b h).2⟩
  · obtain ⟨ps, h1, h2, h3⟩ := I.tabs p hp
    refine ⟨ps, st1 _ _ (fun z => by rw [z, ha] at h1; exact nt ps (Option.some.inj h1)) h1, h2, fun pos cv hc => ?_⟩
    obtain ⟨b, e1, e2⟩ := h3 pos cv hc
    refine ⟨b, e1, st1 _ _ (fun z => ?_) e2⟩
    rw [z, ha] at e2
    have e2 := Option.some.inj e2
    rcases c with ⟨_, _, _, q, _⟩ | ⟨_, _, _, q, _⟩ <;> rw [q] at e2 <;> unfold LamX.CodeO at e2 <;> cases e2
  · rcases ss_get hj with ⟨rfl, e⟩ | ⟨ne, e⟩
    · cases e; exact ⟨_, hv, R'⟩
    · obtain ⟨w, h2, h3⟩ := I.at_ j vl e
      refine ⟨w, h2, ?_⟩
      have n' := fun y hy => no j vl y ne e hy
      have h4 : SVal L (upd S a (.frz od o)) H E0 vl w := h3.addS hs fun y hy ew => n' y hy (by rw [h2, ew])
      cases vl with
      | own y =>
        obtain ⟨b, u, e', hb, q1, q2, q3, q4⟩ := h4
        exact ⟨b, u, e', st1 b u (fun z => n' y (.inl rfl) (by rw [h2, e', z])) hb, q1, q2, q3, q4⟩
      | lent y =>
        obtain ⟨b, u, e', hb, q1, q2, q3, q4⟩ := h4
        exact ⟨b, u, e', st1 b u (fun z => n' y (.inr rfl) (by rw [h2, e', z])) hb, q1, q2, q3, q4⟩
      | d y => exact h4
      | row => exact h4
      | fn n => exact h4
  · rcases ss_get hj with ⟨_, e⟩ | ⟨ne, e⟩
    · cases e
    · rcases ss_get hk with ⟨_, e'⟩ | ⟨ne', e'⟩
      · cases e'
      · exact I.dis j k y z b e e'
  · exact st1 b u (fun z => n ⟨i, _, h', by rw [hv, z]⟩) h
  · rcases ss_get hj with ⟨_, e⟩ | ⟨ne, e⟩
    · cases e
    · exact ⟨y, e, rfl⟩
  · exact fun ⟨u, h1, h2⟩ => by
      by_cases q : b = a
      · subst q; exact h ⟨_, upd_same, fun _ z => by cases z⟩
      · exact h ⟨u, st1 b u q h1, h2⟩
theorem VR.d (r : Rp L.K S v x) : VR L E0 H' st σ S H (.d x) v := ⟨r, (fun _ _ e => nomatch e), (fun _ _ e => nomatch e), fun _ e => nomatch e⟩
theorem je_var {i : Nat} {y : Str} {pos : Pos} (hN : X.N[i]? = some y) (hv : Vis X.env.scope y) (hd : (y == ("__debug__" : Str)) = false) (hcd : (y == ("__classdict__" : Str)) = false) : JE L E0 G EX X (.Name y pos) (.var i) := by
  refine ⟨(pe_varF hN hv hd hcd).weak fun σ H Q ⟨st, S, Q', I, ev, k⟩ => ?_, (pe_var hN hv hd hcd).weak fun σ H Q ⟨st, S, Q', I, ev, k⟩ => ?_⟩
  · have ev : take (gs st i) (fun v => Q' v st) (fun x => Q' (.d x) (ss st i (some (.d x)))) := ev
    cases hg : gs st i with
    | none => rw [hg] at ev; exact ev.elim
    | some vl =>
      rw [hg] at ev
      obtain ⟨v, h1, h2⟩ := I.at_ i vl (gs_get.mp hg)
      refine ⟨v, h1, ?_⟩
      cases vl with
      | d x => exact .inl (k v H st S _ I (.refl ..) ⟨h2, (fun _ _ e => nomatch e), (fun _ _ e => nomatch e), fun _ e => nomatch e⟩ ev)
      | row => exact .inl (k v H st S _ I (.refl ..) ⟨h2, (fun _ _ e => nomatch e), (fun _ _ e => nomatch e), fun _ e => nomatch e⟩ ev)
      | fn n => exact .inl (k v H st S _ I (.refl ..) ⟨h2, (fun _ _ e => nomatch e), (fun _ _ e => nomatch e), fun _ e => nomatch e⟩ ev)
      | lent x => exact ev.elim
      | own x =>
        cases x with
        | list ds =>
          obtain ⟨S', I', g, r⟩ := I.freezeL hg h1
          exact .inl (k v H _ S' _ I' g (.d r) ev)
        | dict kvs =>
          obtain ⟨a, o, e, ha, hs, he, hr, c⟩ := h2
          subst e
          have mu : Mut (some o) := by
            have c : DicO L.K S o kvs := c
            rcases c with ⟨_, _, _, q, _⟩ | ⟨_, _, _, q, _⟩ <;> rw [q] <;> trivial
          refine .inr ⟨a, o, rfl, ha, mu, fun od => ?_⟩
          obtain ⟨S', I', g, r⟩ := I.freezeD (od := od) hg h1 ha
          exact k _ _ _ S' _ I' g (.d r) ev
        | none => obtain ⟨_, _, _, _, _, _, _, c⟩ := h2; exact c.elim
        | bool b => obtain ⟨_, _, _, _, _, _, _, c⟩ := h2; exact c.elim
        | int b => obtain ⟨_, _, _, _, _, _, _, c⟩ := h2; exact c.elim
        | str b => obtain ⟨_, _, _, _, _, _, _, c⟩ := h2; exact c.elim
        | tuple b => obtain ⟨_, _, _, _, _, _, _, c⟩ := h2; exact c.elim
  · have ev : look (gs st i) (fun x => Q' x st) := ev
    cases hg : gs st i with
    | none => rw [hg] at ev; exact ev.elim
    | some vl =>
      rw [hg] at ev
      obtain ⟨v, h1, h2⟩ := I.at_ i vl (gs_get.mp hg)
      refine ⟨v, h1, ?_⟩
      cases vl with
      | d x => exact k v H st S x I (.refl ..) (.inl h2) ev
      | row => exact ev.elim
      | fn n => exact ev.elim
      | lent x => exact k v H st S x I (.refl ..) (.inr (.inl ⟨i, rfl, .inr hg, h1⟩)) ev
      | own x => exact k v H st S x I (.refl ..) (.inr (.inl ⟨i, rfl, .inl hg, h1⟩)) ev
/-- what is always the same -/
theorem je_imm {u : V} (h : PE X e (tC u)) (hr : ∀ S, Rp L.K S u x) (hc : evE G c EX = fun st Q => Q (.d x) st) (hn : ∀ i, c ≠ .var i) : JE L E0 G EX X e c := by
  refine JE.of (h.weak fun σ H Q ⟨st, S, Q', I, ev, k⟩ => ?_) hn
  rw [hc] at ev
  exact k u H st S _ I (.refl ..) (.d (hr S)) ev
theorem je_lit_int {i : Int} {j pos} : JE L E0 G EX X (.Constant (.int i) j pos) (.lit (.int i)) := je_imm pe_int (fun _ => .int i) rfl (fun _ z => by cases z)
theorem je_lit_bool {i : Bool} {j pos} : JE L E0 G EX X (.Constant (.bool i) j pos) (.lit (.bool i)) := je_imm pe_bl (fun _ => .bl i) rfl (fun _ z => by cases z)
theorem je_lit_str {i : Str} {j pos} : JE L E0 G EX X (.Constant (.str i) j pos) (.lit (.str i)) := je_imm pe_str (fun _ => .str i) rfl (fun _ z => by cases z)
theorem je_lit_none {j pos} : JE L E0 G EX X (.Constant .none j pos) (.lit .none) := je_imm pe_non (fun _ => .non) rfl (fun _ z => by cases z)
/-! ### two operands -/
/-- a rule by values whose answer is told on data -/
def OpD (K : PySem.W.Frag) (X : Cx) (f : Value → Value → Sem Value) (P : PyData → PyData → Prop) (W : PyData → PyData → Vl) : Prop :=
  OpR X f fun x y H Q => ∃ S dx dy, Mono S H ∧ Now K S H x dx ∧ Now K S H y dy ∧ P dx dy ∧ ∀ v H', NewV K S H v H' (W dx dy) → Q v H'
theorem je_bin2 {f : Expr → Expr → Expr} {cc : CE} {P : PyData → PyData → Prop} {W : PyData → PyData → Vl} (ha : JE L E0 G EX X e c) (hb : JE L E0 G EX X e2 c2)
    (hp : ∀ {ta tb : TE}, PE X e ta → PE X e2 tb → PE X (f e e2) (tOp (fun x y H Q => ∃ S dx dy, Mono S H ∧ Now L.K S H x dx ∧ Now L.K S H y dy ∧ P dx dy ∧ ∀ v H', NewV L.K S H v H' (W dx dy) → Q v H') ta tb))
    (hc : evE G cc EX = fun st Q => bw c (evE G c EX) st fun x st1 => bw c2 (evE G c2 EX) st1 fun y st2 => stab c st1 st2 ∧ P x y ∧ Q (W x y) st2) (hn : ∀ i, cc ≠ .var i) : JE L E0 G EX X (f e e2) cc := by
  refine JE.of ((hp ha.b hb.b).weak fun σ H Q ⟨st, S, Q', I, ev, k⟩ => ?_) hn
  rw [hc] at ev
  refine ⟨st, S, _, I, ev, fun v1 H1 st1 S1 x I1 g1 r1 q1 => ⟨st1, S1, _, I1, q1, fun v2 H2 st2 S2 y I2 g2 r2 ⟨s, p, q2⟩ => ?_⟩⟩
  refine ⟨S2, x, y, I2.sub, (r1.stay g2 s).now I2, r2.now I2, p, fun v3 H3 n => ?_⟩
  obtain ⟨S3, I3, g3, r3⟩ := I2.closeV n
  exact k v3 H3 st2 S3 _ I3 ((g1.trans g2).trans g3) (r3.from (g1.trans g2)) q2
end
end PX
end L2
/-! Operators and built-ins on data. -/
namespace L2
namespace PX
open PySem PySem.Spec PyProof.Rows
section
variable {K : PySem.W.Frag} {S H H' : Hp} {v w : V}
theorem Now.int {i : Int} (h : Now K S H v (.int i)) : v = .int i := by
  rcases h with h | ⟨_, _, _, _, c⟩
  · cases h; rfl
  · exact c.elim
theorem Now.bool {i : Bool} (h : Now K S H v (.bool i)) : v = .bl i := by
  rcases h with h | ⟨_, _, _, _, c⟩
  · cases h; rfl
  · exact c.elim
theorem Now.str {i : Str} (h : Now K S H v (.str i)) : v = .str i := by
  rcases h with h | ⟨_, _, _, _, c⟩
  · cases h; rfl
  · exact c.elim
theorem Now.none (h : Now K S H v .none) : v = .non := by
  rcases h with h | ⟨_, _, _, _, c⟩
  · cases h; rfl
  · exact c.elim
theorem Now.list {ds : List PyData} (h : Now K S H v (.list ds)) (m : Mono S H) : ∃ a vs, v = .ref a ∧ H a = some (.lst vs) ∧ RpAll K S vs ds := by
  rcases h with h | ⟨a, o, e, ha, vs, eo, r⟩
  · cases h with | lst q r => exact ⟨_, _, rfl, m _ _ q, r⟩
  · subst eo
    exact ⟨a, vs, e, ha, r⟩
theorem Now.tuple {ds : List PyData} (h : Now K S H v (.tuple ds)) (m : Mono S H) : ∃ a vs, v = .ref a ∧ SqT K H a vs ∧ RpAll K S vs ds ∧ Rp K S v (.tuple ds) := by
  rcases h with h | ⟨_, _, _, _, c⟩
  · have h' := h
    cases h with | tup q r => exact ⟨_, _, rfl, m.seqT q, r, h'⟩
  · exact c.elim
theorem Now.rp (h : Now K S H v x) (m : Mono S H) : x.plain = true → Rp K H v x := fun p => by
  rcases h with h | ⟨a, o, e, ha, c⟩
  · exact h.mono m
  · cases x with
    | list ds =>
      obtain ⟨vs, eo, r⟩ := c
      subst e eo
      exact .lst ha (r.mono m)
    | dict kvs => simp [PyData.plain] at p
    | none => exact c.elim
    | bool b => exact c.elim
    | int b => exact c.elim
    | str b => exact c.elim
    | tuple b => exact c.elim
theorem NewV.int (i : Int) : NewV K S H (.int i) H (.d (.int i)) := .inl ⟨rfl, .int i⟩
theorem NewV.bool (i : Bool) : NewV K S H (.bl i) H (.d (.bool i)) := .inl ⟨rfl, .bl i⟩
theorem NewV.str (i : Str) : NewV K S H (.str i) H (.d (.str i)) := .inl ⟨rfl, .str i⟩
theorem NewV.none : NewV K S H .non H (.d .none) := .inl ⟨rfl, .non⟩
theorem NewV.old {x : PyData} (h : Rp K S v x) : NewV K S H v H (.d x) := .inl ⟨rfl, h⟩
theorem NewV.tup {p : Addr} {vs : List V} {ds : List PyData} (hp : H p = Option.none) (r : RpAll K S vs ds) : NewV K S H (.ref p) (upd H p (.tup vs)) (.d (.tuple ds)) := .inr ⟨p, vs, ds, rfl, hp, rfl, rfl, r⟩
theorem NewV.lst {p : Addr} {vs : List V} {ds : List PyData} (hp : H p = Option.none) (r : RpAll K S vs ds) : NewV K S H (.ref p) (upd H p (.lst vs)) (.own (.list ds)) := ⟨p, _, hp, rfl, rfl, vs, rfl, r⟩
theorem RpAll.at_ {vs : List V} {ds : List PyData} {i : Int} {d : PyData} (r : RpAll K S vs ds) (h : atI ds i = some d) : ∃ v, atI vs i = some v ∧ Rp K S v d := by
  unfold atI at h ⊢
  rw [r.length]
  cases e : ixN ds.length i with
  | none => rw [e] at h; simp at h
  | some j =>
    rw [e] at h
    exact r.get (by simpa using h)
theorem RpAll.nil_iff {vs : List V} {ds : List PyData} (r : RpAll K S vs ds) : vs = [] ↔ ds = [] := by
  have := r.length
  constructor
  · intro e; subst e; exact List.length_eq_zero_iff.mp this.symm
  · intro e; subst e; exact List.length_eq_zero_iff.mp this
end
section
variable {X : Cx}
theorem opD_of {f : Value → Value → Sem Value} {P : PyData → PyData → Prop} {W : PyData → PyData → Vl} (h : OpR X f fun x y H Q => ∃ S dx dy, Mono S H ∧ Now X.K S H x dx ∧ Now X.K S H y dy ∧ P dx dy ∧ ∀ v H', NewV X.K S H v H' (W dx dy) → Q v H') : OpD X.K X f P W := h
theorem opD_add : OpD X.K X (binaryOp .Add) (binP .add) (binV .add) := by
  intro pins s σ H x y v u Q I rx ry h
  obtain ⟨S, dx, dy, m, nx, ny, p, k⟩ := h
  cases dx <;> cases dy <;> try exact (show False from p).elim
  · rw [nx.int] at rx; rw [ny.int] at ry
    exact op_add pins s σ H _ _ v u Q I rx ry ⟨_, _, rfl, rfl, k _ _ (.int _)⟩
  · rw [nx.str] at rx; rw [ny.str] at ry
    exact op_add_str pins s σ H _ _ v u Q I rx ry ⟨_, _, rfl, rfl, p, k _ _ (.str _)⟩
  · obtain ⟨a, vs, rfl, qa, ra⟩ := nx.list m
    obtain ⟨b, ws, rfl, qb, rb⟩ := ny.list m
    refine op_cat pins s σ H _ _ v u Q I rx ry ⟨a, b, vs, ws, rfl, rfl, qa, qb, ?_, fun p hp => k _ _ (.lst hp (ra.append rb))⟩
    have p : _ + _ ≤ _ := p
    rw [ra.length, rb.length]; exact p
  · obtain ⟨a, vs, rfl, qa, ra, ta⟩ := nx.tuple m
    obtain ⟨b, ws, rfl, qb, rb, tb⟩ := ny.tuple m
    refine op_catA pins s σ H _ _ v u Q I rx ry ⟨a, b, vs, ws, rfl, rfl, qa, qb, ?_, fun e => ?_, fun n e => ?_, fun n n' p hp => k _ _ (.tup hp (ra.append rb))⟩
    · have p : _ + _ ≤ _ := p
      rw [ra.length, rb.length]; exact p
    · have e' := ra.nil_iff.mp e
      subst e'
      exact k _ _ (.old (by simpa [binV] using tb))
    · have e' := rb.nil_iff.mp e
      subst e'
      exact k _ _ (.old (by simpa [binV] using ta))
theorem opD_sub : OpD X.K X (binaryOp .Sub) (binP .sub) (binV .sub) := by
  intro pins s σ H x y v u Q I rx ry h
  obtain ⟨S, dx, dy, m, nx, ny, p, k⟩ := h
  cases dx <;> cases dy <;> try exact (show False from p).elim
  rw [nx.int] at rx; rw [ny.int] at ry
  exact op_sub pins s σ H _ _ v u Q I rx ry ⟨_, _, rfl, rfl, k _ _ (.int _)⟩
theorem RpAll.rep {K : PySem.W.Frag} {S : Hp} {vs : List V} {ds : List PyData} (r : RpAll K S vs ds) : ∀ n, RpAll K S (List.replicate n vs).flatten (List.replicate n ds).flatten
  | 0 => .nil
  | n + 1 => by
    rw [List.replicate_succ, List.replicate_succ, List.flatten_cons, List.flatten_cons]
    exact r.append (r.rep n)
theorem opD_mul : OpD X.K X (binaryOp .Mult) (binP .mul) (binV .mul) := by
  intro pins s σ H x y v u Q I rx ry h
  obtain ⟨S, dx, dy, m, nx, ny, p, k⟩ := h
  cases dx <;> cases dy <;> try exact (show False from p).elim
  · rw [nx.int] at rx; rw [ny.int] at ry
    exact op_mul pins s σ H _ _ v u Q I rx ry ⟨_, _, rfl, rfl, p, k _ _ (.int _)⟩
  · obtain ⟨a, vs, rfl, qa, ra⟩ := nx.list m
    rw [ny.int] at ry
    obtain ⟨p1, p2, p3⟩ := (show _ ∧ _ ∧ _ from p)
    exact op_rep pins s σ H _ _ v u Q I rx ry ⟨a, _, vs, rfl, rfl, qa, p1, p2, by rw [ra.length]; exact p3, fun q hq => k _ _ (.lst hq (ra.rep _))⟩
theorem opD_fdiv : OpD X.K X (binaryOp .FloorDiv) (binP .fdiv) (binV .fdiv) := by
  intro pins s σ H x y v u Q I rx ry h
  obtain ⟨S, dx, dy, m, nx, ny, p, k⟩ := h
  cases dx <;> cases dy <;> try exact (show False from p).elim
  rw [nx.int] at rx; rw [ny.int] at ry
  exact op_fdiv pins s σ H _ _ v u Q I rx ry ⟨_, _, rfl, rfl, p, k _ _ (.int _)⟩
theorem opD_mod : OpD X.K X (binaryOp .Mod) (binP .mod) (binV .mod) := by
  intro pins s σ H x y v u Q I rx ry h
  obtain ⟨S, dx, dy, m, nx, ny, p, k⟩ := h
  cases dx <;> cases dy <;> try exact (show False from p).elim
  rw [nx.int] at rx; rw [ny.int] at ry
  exact op_mod pins s σ H _ _ v u Q I rx ry ⟨_, _, rfl, rfl, p, k _ _ (.int _)⟩
theorem opD_pow : OpD X.K X (binaryOp .Pow) (binP .pow) (binV .pow) := by
  intro pins s σ H x y v u Q I rx ry h
  obtain ⟨S, dx, dy, m, nx, ny, p, k⟩ := h
  cases dx <;> cases dy <;> try exact (show False from p).elim
  rw [nx.int] at rx; rw [ny.int] at ry
  exact op_pow pins s σ H _ _ v u Q I rx ry ⟨_, _, rfl, rfl, p, k _ _ (.int _)⟩
def opOf : BOp → Operator
  | .add => .Add
  | .sub => .Sub
  | .mul => .Mult
  | .fdiv => .FloorDiv
  | .mod => .Mod
  | .pow => .Pow
theorem opD_all : ∀ o : BOp, OpD X.K X (binaryOp (opOf o)) (binP o) (binV o)
  | .add => opD_add
  | .sub => opD_sub
  | .mul => opD_mul
  | .fdiv => opD_fdiv
  | .mod => opD_mod
  | .pow => opD_pow
/-! ### comparisons -/
def cmpOf : COp → CmpOp
  | .eq => .Eq
  | .ne => .NotEq
  | .lt => .Lt
  | .le => .LtE
  | .gt => .Gt
  | .ge => .GtE
  | .isin => .In
  | .notin => .NotIn
abbrev cmpW (o : COp) (x y : PyData) : Vl := .d (.bool (cmpV o x y))
theorem fin_b {pins : List (Addr × Obj)} {σ : L2.St} {H : Hp} {s : Shared} {Q : VK} {S : Hp} {b : Bool} (I : Inv X pins σ H s) (k : ∀ v H', NewV X.K S H v H' (.d (.bool b)) → Q v H') : EP X pins σ Q (.bool b) s := ⟨.bl b, H, I, rfl, k _ _ (.bool b)⟩
theorem room_ok {A : Around} {k : Nat} {d e : PyData} (r : Room k A) (h : okD d) : A.units + min d.depth e.depth < cLine := by
  have := r.units
  have := h.2
  omega
theorem opD_eq {k : Nat} (r : Room k X.A) : OpD X.K X (compareOp .Eq) (cmpP .eq) (cmpW .eq) := by
  intro pins s σ H x y v u Q I rx ry h
  obtain ⟨S, dx, dy, m, nx, ny, p, kk⟩ := h
  have p : okD dx ∧ okD dy := p
  obtain ⟨as, r1⟩ := Rp.reads I dx x v (nx.rp m p.1.1) rx p.1.1
  obtain ⟨bs, r2⟩ := Rp.reads I dy y u (ny.rp m p.2.1) ry p.2.1
  exact SeqAt.eq_plain r1 r2 p.1.1 p.2.1 (room_ok r p.1) (fin_b I kk)
theorem opD_ne {k : Nat} (r : Room k X.A) : OpD X.K X (compareOp .NotEq) (cmpP .ne) (cmpW .ne) := by
  intro pins s σ H x y v u Q I rx ry h
  obtain ⟨S, dx, dy, m, nx, ny, p, kk⟩ := h
  have p : okD dx ∧ okD dy := p
  obtain ⟨as, r1⟩ := Rp.reads I dx x v (nx.rp m p.1.1) rx p.1.1
  obtain ⟨bs, r2⟩ := Rp.reads I dy y u (ny.rp m p.2.1) ry p.2.1
  exact SeqAt.ne_plain r1 r2 p.1.1 p.2.1 (room_ok r p.1) (fin_b I kk)
theorem room_in {A : Around} {k : Nat} {d e : PyData} (r : Room k A) (h : okD d) : A.units + 1 + min e.depth d.depth < cLine := by
  have := r.units
  have := h.2
  omega
theorem opD_in {k : Nat} (r : Room k X.A) : OpD X.K X (compareOp .In) (cmpP .isin) (cmpW .isin) := by
  intro pins s σ H x y v u Q I rx ry h
  obtain ⟨S, dx, dy, m, nx, ny, p, kk⟩ := h
  cases dy with
  | list ys =>
    have p : okD dx ∧ okD (.list ys) := by cases dx <;> exact p
    have kk : ∀ v H', NewV X.K S H v H' (.d (.bool (inD dx ys))) → Q v H' := by cases dx <;> exact kk
    obtain ⟨as, r1⟩ := Rp.reads I dx x v (nx.rp m p.1.1) rx p.1.1
    obtain ⟨bs, r2⟩ := Rp.reads I _ y u (ny.rp m p.2.1) ry p.2.1
    exact SeqAt.in_list_data r2 r1 (by simpa [PyData.plain] using p.2.1) p.1.1 (by have := r.units; have := p.1.2; omega) (fin_b I kk)
  | tuple ys =>
    have p : okD dx ∧ okD (.tuple ys) := by cases dx <;> exact p
    have kk : ∀ v H', NewV X.K S H v H' (.d (.bool (inD dx ys))) → Q v H' := by cases dx <;> exact kk
    obtain ⟨as, r1⟩ := Rp.reads I dx x v (nx.rp m p.1.1) rx p.1.1
    obtain ⟨bs, r2⟩ := Rp.reads I _ y u (ny.rp m p.2.1) ry p.2.1
    exact SeqAt.in_tuple_data r2 r1 (by simpa [PyData.plain] using p.2.1) p.1.1 (by have := r.units; have := p.1.2; omega) (fin_b I kk)
  | str z =>
    cases dx <;> try exact (show False from p).elim
    rw [nx.str] at rx; rw [ny.str] at ry
    exact op_in_str pins s σ H _ _ v u Q I rx ry ⟨_, _, rfl, rfl, kk _ _ (.bool _)⟩
  | none => exact (show False by cases dx <;> exact p).elim
  | bool b => exact (show False by cases dx <;> exact p).elim
  | int b => exact (show False by cases dx <;> exact p).elim
  | dict b => exact (show False by cases dx <;> exact p).elim
theorem opD_notin {k : Nat} (r : Room k X.A) : OpD X.K X (compareOp .NotIn) (cmpP .notin) (cmpW .notin) := by
  intro pins s σ H x y v u Q I rx ry h
  obtain ⟨S, dx, dy, m, nx, ny, p, kk⟩ := h
  cases dy with
  | list ys =>
    have p : okD dx ∧ okD (.list ys) := by cases dx <;> exact p
    have kk : ∀ v H', NewV X.K S H v H' (.d (.bool (!inD dx ys))) → Q v H' := by cases dx <;> exact kk
    obtain ⟨as, r1⟩ := Rp.reads I dx x v (nx.rp m p.1.1) rx p.1.1
    obtain ⟨bs, r2⟩ := Rp.reads I _ y u (ny.rp m p.2.1) ry p.2.1
    exact SeqAt.notIn_list_data r2 r1 (by simpa [PyData.plain] using p.2.1) p.1.1 (by have := r.units; have := p.1.2; omega) (fin_b I kk)
  | tuple ys =>
    have p : okD dx ∧ okD (.tuple ys) := by cases dx <;> exact p
    have kk : ∀ v H', NewV X.K S H v H' (.d (.bool (!inD dx ys))) → Q v H' := by cases dx <;> exact kk
    obtain ⟨as, r1⟩ := Rp.reads I dx x v (nx.rp m p.1.1) rx p.1.1
    obtain ⟨bs, r2⟩ := Rp.reads I _ y u (ny.rp m p.2.1) ry p.2.1
    exact SeqAt.notIn_tuple_data r2 r1 (by simpa [PyData.plain] using p.2.1) p.1.1 (by have := r.units; have := p.1.2; omega) (fin_b I kk)
  | str z =>
    cases dx <;> try exact (show False from p).elim
    rw [nx.str] at rx; rw [ny.str] at ry
    exact op_notin_str pins s σ H _ _ v u Q I rx ry ⟨_, _, rfl, rfl, kk _ _ (.bool _)⟩
  | none => exact (show False by cases dx <;> exact p).elim
  | bool b => exact (show False by cases dx <;> exact p).elim
  | int b => exact (show False by cases dx <;> exact p).elim
  | dict b => exact (show False by cases dx <;> exact p).elim
theorem opD_lt {k : Nat} (r : Room k X.A) : OpD X.K X (compareOp .Lt) (cmpP .lt) (cmpW .lt) := by
  intro pins s σ H x y v u Q I rx ry h
  obtain ⟨S, dx, dy, m, nx, ny, p, kk⟩ := h
  have gen : ltP dx dy → (∀ v H', NewV X.K S H v H' (.d (.bool (PySem.W.dataLt dx dy))) → Q v H') → wpAny (model X.prog X.w) X.A (compareOp .Lt v u) (EP X pins σ Q) X.xe s := fun p kk => by
    obtain ⟨as, r1⟩ := Rp.reads I dx x v (nx.rp m p.1.1) rx p.1.1
    obtain ⟨bs, r2⟩ := Rp.reads I dy y u (ny.rp m p.2.1.1) ry p.2.1.1
    exact PySem.W.lt_data r1 r2 p.2.2.1 p.2.2.2 (room_ok r p.1) (fin_b I kk)
  cases dx with
  | int i =>
    cases dy with
    | int j =>
      rw [nx.int] at rx; rw [ny.int] at ry
      exact op_lt pins s σ H _ _ v u Q I rx ry ⟨_, _, rfl, rfl, kk _ _ (.bool _)⟩
    | _ => exact gen p kk
  | _ => exact gen p kk
theorem opD_le : OpD X.K X (compareOp .LtE) (cmpP .le) (cmpW .le) := by
  intro pins s σ H x y v u Q I rx ry h
  obtain ⟨S, dx, dy, m, nx, ny, p, kk⟩ := h
  cases dx <;> cases dy <;> try exact (show False from p).elim
  rw [nx.int] at rx; rw [ny.int] at ry
  exact op_le pins s σ H _ _ v u Q I rx ry ⟨_, _, rfl, rfl, kk _ _ (.bool _)⟩
theorem opD_gt : OpD X.K X (compareOp .Gt) (cmpP .gt) (cmpW .gt) := by
  intro pins s σ H x y v u Q I rx ry h
  obtain ⟨S, dx, dy, m, nx, ny, p, kk⟩ := h
  cases dx <;> cases dy <;> try exact (show False from p).elim
  rw [nx.int] at rx; rw [ny.int] at ry
  exact op_gt pins s σ H _ _ v u Q I rx ry ⟨_, _, rfl, rfl, kk _ _ (.bool _)⟩
theorem opD_ge : OpD X.K X (compareOp .GtE) (cmpP .ge) (cmpW .ge) := by
  intro pins s σ H x y v u Q I rx ry h
  obtain ⟨S, dx, dy, m, nx, ny, p, kk⟩ := h
  cases dx <;> cases dy <;> try exact (show False from p).elim
  rw [nx.int] at rx; rw [ny.int] at ry
  exact op_ge pins s σ H _ _ v u Q I rx ry ⟨_, _, rfl, rfl, kk _ _ (.bool _)⟩
theorem opD_cmp {k : Nat} (r : Room k X.A) : ∀ o : COp, OpD X.K X (compareOp (cmpOf o)) (cmpP o) (cmpW o)
  | .eq => opD_eq r
  | .ne => opD_ne r
  | .lt => opD_lt r
  | .le => opD_le
  | .gt => opD_gt
  | .ge => opD_ge
  | .isin => opD_in r
  | .notin => opD_notin r
end
end PX
end L2
/-! Expressions, on. -/
namespace L2
namespace PX
open PySem PySem.Spec PyProof.Rows
section
variable {L : Lw} {E0 : En} {G : Gm} {EX : Exn → Prop} {X : Cx} {k : Nat} {c c2 c3 : CE} {e e2 e3 : Expr} {st st' st1 st2 : Sl} {σ : L2.St} {S S' S1 S2 H H' H1 H2 : Hp} {v : V} {x : PyData} {vl : Vl} {pos : Pos}
theorem je_bin (F : Fit L E0 EX X k) (o : BOp) (ha : JE L E0 G EX X e c) (hb : JE L E0 G EX X e2 c2) : JE L E0 G EX X (.BinOp e (opOf o) e2 pos) (.bin o c c2) :=
  je_bin2 (f := fun a b => .BinOp a (opOf o) b pos) ha hb (fun h1 h2 => by rw [← F.K]; exact pe_op (opD_all o) h1 h2) rfl (fun _ z => by cases z)
/-- what a comparison asks by values -/
abbrev rCmp (K : PySem.W.Frag) (o : COp) : R2 := fun x y H Q => ∃ S dx dy, Mono S H ∧ Now K S H x dx ∧ Now K S H y dy ∧ cmpP o dx dy ∧ ∀ v H', NewV K S H v H' (cmpW o dx dy) → Q v H'
theorem NewV.bool_eq {K : PySem.W.Frag} {b : Bool} (h : NewV K S H v H' (.d (.bool b))) : v = .bl b ∧ H' = H := by
  rcases h with ⟨e, h⟩ | ⟨p, vs, ds, e, _⟩
  · cases h; exact ⟨rfl, e⟩
  · cases e
theorem wk_cmp (o : COp) {Q : VK} {R : Bool → Sl → Prop} (I : SI L E0 st σ S H) (ev : bw c (evE G c EX) st fun x st1 => bw c2 (evE G c2 EX) st1 fun y st2 => stab c st1 st2 ∧ cmpP o x y ∧ R (cmpV o x y) st2)
    (k : ∀ b H' st' S', SI L E0 st' σ S' H' → Go L st σ S H st' S' H' → R b st' → Q (.bl b) H') : tOp (rCmp L.K o) (tB L E0 c (evE G c EX)) (tB L E0 c2 (evE G c2 EX)) σ H Q := by
  refine ⟨st, S, _, I, ev, fun v1 H1 st1 S1 x I1 g1 r1 q1 => ⟨st1, S1, _, I1, q1, fun v2 H2 st2 S2 y I2 g2 r2 ⟨s, p, q2⟩ => ?_⟩⟩
  refine ⟨S2, x, y, I2.sub, (r1.stay g2 s).now I2, r2.now I2, p, fun v3 H3 n => ?_⟩
  obtain ⟨rfl, rfl⟩ := n.bool_eq
  exact k _ _ st2 S2 I2 (g1.trans g2) q2
theorem je_cmp (F : Fit L E0 EX X k) (o : COp) (ha : JE L E0 G EX X e c) (hb : JE L E0 G EX X e2 c2) (hm : behindInMarks (cmpOf o) e2 = false) : JE L E0 G EX X (.Compare e [cmpOf o] [e2] pos) (.cmp c o c2) :=
  JE.of ((pe_cmpR (by have := opD_cmp F.room o; rw [F.K] at this; exact this) ha.b hb.b hm).weak fun σ H Q ⟨st, S, Q', I, ev, k⟩ =>
    wk_cmp (R := fun b st' => Q' (.d (.bool b)) st') o I ev fun b H' st' S' I' g q => k _ _ st' S' _ I' g (.d (.bl b)) q) (fun _ z => by cases z)
/-- a test -/
def tQ (L : Lw) (E0 : En) (ev : Sl → (Bool → Sl → Prop) → Prop) : TT := fun σ H Q => ∃ st S Q', SI L E0 st σ S H ∧ ev st Q' ∧
  ∀ b H' st' S', SI L E0 st' σ S' H' → Go L st σ S H st' S' H' → Q' b st' → Q b H'
theorem jq_cmp (F : Fit L E0 EX X k) (o : COp) (ha : JE L E0 G EX X e c) (hb : JE L E0 G EX X e2 c2) (hm : behindInMarks (cmpOf o) e2 = false) : PT X (.Compare e [cmpOf o] [e2] pos) (tQ L E0 (evQ G (.v (.cmp c o c2)) EX)) :=
  (pt_cmpR (by have := opD_cmp F.room o; rw [F.K] at this; exact this) ha.b hb.b hm).weak fun σ H Q ⟨st, S, Q', I, ev, k⟩ =>
    wk_cmp (R := fun b st' => True ∧ Q' b st') o I ev fun b H' st' S' I' g q => ⟨b, rfl, k _ _ st' S' I' g q.2⟩
abbrev rCmp2 (L : Lw) (E0 : En) (G : Gm) (EX : Exn → Prop) (o o' : COp) (c c2 c3 : CE) : TE := tChain (rCmp L.K o) (rCmp L.K o') (tB L E0 c (evE G c EX)) (tB L E0 c2 (evE G c2 EX)) (tB L E0 c3 (evE G c3 EX))
theorem wk_cmp2 (o o' : COp) {Q : VK} {R : Bool → Sl → Prop} (I : SI L E0 st σ S H) (ev : bw c (evE G c EX) st fun x st1 => bw c2 (evE G c2 EX) st1 fun y st2 => stab c st1 st2 ∧ cmpP o x y ∧
    ifB (cmpV o x y) (bw c3 (evE G c3 EX) st2 fun z st3 => stab c2 st2 st3 ∧ cmpP o' y z ∧ R (cmpV o' y z) st3) (R false st2))
    (k : ∀ b H' st' S', SI L E0 st' σ S' H' → Go L st σ S H st' S' H' → R b st' → Q (.bl b) H') : rCmp2 L E0 G EX o o' c c2 c3 σ H Q := by
  refine ⟨st, S, _, I, ev, fun v1 H1 st1 S1 x I1 g1 r1 q1 => ⟨st1, S1, _, I1, q1, fun v2 H2 st2 S2 y I2 g2 r2 ⟨s, p, q2⟩ => ?_⟩⟩
  refine ⟨S2, x, y, I2.sub, (r1.stay g2 s).now I2, r2.now I2, p, fun v3 H3 n => ?_⟩
  obtain ⟨rfl, rfl⟩ := n.bool_eq
  refine ⟨_, rfl, ?_⟩
  cases hv : cmpV o x y with
  | false =>
    rw [hv] at q2
    exact k _ _ st2 S2 I2 (g1.trans g2) q2
  | true =>
    rw [hv] at q2
    have q2 : bw c3 (evE G c3 EX) st2 fun z st3 => stab c2 st2 st3 ∧ cmpP o' y z ∧ R (cmpV o' y z) st3 := q2
    refine ⟨st2, S2, _, I2, q2, fun v4 H4 st4 S4 z I4 g4 r4 ⟨s4, p4, q4⟩ => ?_⟩
    refine ⟨S4, y, z, I4.sub, (r2.stay g4 s4).now I4, r4.now I4, p4, fun v5 H5 n => ?_⟩
    obtain ⟨rfl, rfl⟩ := n.bool_eq
    exact k _ _ st4 S4 I4 ((g1.trans g2).trans g4) q4
theorem lastM {o o' : CmpOp} (hm : behindInMarks o' e3 = false) : lastMarks [o, o'] [e2, e3] = false := hm
theorem je_cmp2 (F : Fit L E0 EX X k) (o o' : COp) (ha : JE L E0 G EX X e c) (hb : JE L E0 G EX X e2 c2) (hc : JE L E0 G EX X e3 c3)
    (hm' : behindInMarks (cmpOf o') e3 = false) : JE L E0 G EX X (.Compare e [cmpOf o, cmpOf o'] [e2, e3] pos) (.cmp2 c o c2 o' c3) :=
  JE.of ((pe_chain (by have := opD_cmp F.room o; rw [F.K] at this; exact this) (by have := opD_cmp F.room o'; rw [F.K] at this; exact this) ha.b hb.b hc.b (lastM hm')).weak fun σ H Q ⟨st, S, Q', I, ev, k⟩ =>
    wk_cmp2 (R := fun b st' => Q' (.d (.bool b)) st') o o' I ev fun b H' st' S' I' g q => k _ _ st' S' _ I' g (.d (.bl b)) q) (fun _ z => by cases z)
theorem jq_cmp2 (F : Fit L E0 EX X k) (o o' : COp) (ha : JE L E0 G EX X e c) (hb : JE L E0 G EX X e2 c2) (hc : JE L E0 G EX X e3 c3)
    (hm' : behindInMarks (cmpOf o') e3 = false) : PT X (.Compare e [cmpOf o, cmpOf o'] [e2, e3] pos) (tQ L E0 (evQ G (.v (.cmp2 c o c2 o' c3)) EX)) :=
  (pt_chain (by have := opD_cmp F.room o; rw [F.K] at this; exact this) (by have := opD_cmp F.room o'; rw [F.K] at this; exact this) ha.b hb.b hc.b (lastM hm')).weak fun σ H Q ⟨st, S, Q', I, ev, k⟩ =>
    wk_cmp2 (R := fun b st' => True ∧ Q' b st') o o' I ev fun b H' st' S' I' g q => ⟨b, rfl, k _ _ st' S' I' g q.2⟩
theorem Now.non_iff {K : PySem.W.Frag} (h : Now K S H v x) : decide (v = .non) = isNoneD x := by
  cases x with
  | none => rw [h.none]; rfl
  | bool b => rw [h.bool]; rfl
  | int b => rw [h.int]; rfl
  | str b => rw [h.str]; rfl
  | list ds =>
    rcases h with h | ⟨a, o, e, _⟩
    · cases h; rfl
    · subst e; rfl
  | tuple ds =>
    rcases h with h | ⟨a, o, e, _⟩
    · cases h; rfl
    · subst e; rfl
  | dict ds =>
    rcases h with h | ⟨a, o, e, _⟩
    · cases h <;> rfl
    · subst e; rfl
theorem je_isN {j pos'} (ha : JE L E0 G EX X e c) : JE L E0 G EX X (.Compare e [.Is] [.Constant .none j pos'] pos) (.isN c) :=
  JE.of ((pe_cmp (pc_isN ha.b)).weak fun σ H Q ⟨st, S, Q', I, ev, k⟩ => by
    have ev : bw c (evE G c EX) st fun x st1 => Q' (.d (.bool (isNoneD x))) st1 := ev
    refine ⟨st, S, _, I, ev, fun v1 H1 st1 S1 x I1 g1 r1 q1 => ?_⟩
    show Q (.bl (decide (v1 = .non))) H1
    rw [(r1.now I1).non_iff]
    exact k _ _ st1 S1 _ I1 g1 (.d (.bl _)) q1) (fun _ z => by cases z)
theorem je_notN {j pos'} (ha : JE L E0 G EX X e c) : JE L E0 G EX X (.Compare e [.IsNot] [.Constant .none j pos'] pos) (.notN c) :=
  JE.of ((pe_cmp (pc_notN ha.b)).weak fun σ H Q ⟨st, S, Q', I, ev, k⟩ => by
    have ev : bw c (evE G c EX) st fun x st1 => Q' (.d (.bool (!isNoneD x))) st1 := ev
    refine ⟨st, S, _, I, ev, fun v1 H1 st1 S1 x I1 g1 r1 q1 => ?_⟩
    show Q (.bl (!decide (v1 = .non))) H1
    rw [(r1.now I1).non_iff]
    exact k _ _ st1 S1 _ I1 g1 (.d (.bl _)) q1) (fun _ z => by cases z)
theorem asB_at {Q : Bool → Prop} (h : asB x Q) : ∃ b, x = .bool b ∧ Q b := by
  cases x <;> first | exact h.elim | exact ⟨_, rfl, h⟩
theorem asI_at {Q : Int → Prop} (h : asI x Q) : ∃ b, x = .int b ∧ Q b := by
  cases x <;> first | exact h.elim | exact ⟨_, rfl, h⟩
theorem ex_at {α : Type} {o : Option α} {Q : α → Prop} (h : ex o Q) : ∃ b, o = some b ∧ Q b := by
  cases o <;> first | exact h.elim | exact ⟨_, rfl, h⟩
theorem je_isB {b : Bool} {j pos'} (ha : JE L E0 G EX X e c) : JE L E0 G EX X (.Compare e [.Is] [.Constant (.bool b) j pos'] pos) (.isB c b) :=
  JE.of ((pe_cmpR op_is_bl ha.b pe_bl (nomark _)).weak fun σ H Q ⟨st, S, Q', I, ev, k⟩ => by
    have ev : bw c (evE G c EX) st fun x st1 => asB x fun j => Q' (.d (.bool (decide (j = b)))) st1 := ev
    refine ⟨st, S, _, I, ev, fun v1 H1 st1 S1 x I1 g1 r1 q1 => ?_⟩
    obtain ⟨y, rfl, q1⟩ := asB_at q1
    rw [(r1.now I1).bool]
    exact ⟨_, _, rfl, rfl, k _ _ st1 S1 _ I1 g1 (.d (.bl _)) q1⟩) (fun _ z => by cases z)
theorem je_notB {b : Bool} {j pos'} (ha : JE L E0 G EX X e c) : JE L E0 G EX X (.Compare e [.IsNot] [.Constant (.bool b) j pos'] pos) (.notB c b) :=
  JE.of ((pe_cmpR op_isnot_bl ha.b pe_bl (nomark _)).weak fun σ H Q ⟨st, S, Q', I, ev, k⟩ => by
    have ev : bw c (evE G c EX) st fun x st1 => asB x fun j => Q' (.d (.bool (!decide (j = b)))) st1 := ev
    refine ⟨st, S, _, I, ev, fun v1 H1 st1 S1 x I1 g1 r1 q1 => ?_⟩
    obtain ⟨y, rfl, q1⟩ := asB_at q1
    rw [(r1.now I1).bool]
    exact ⟨_, _, rfl, rfl, k _ _ st1 S1 _ I1 g1 (.d (.bl _)) q1⟩) (fun _ z => by cases z)
theorem jq_isN {j pos'} (ha : JE L E0 G EX X e c) : PT X (.Compare e [.Is] [.Constant .none j pos'] pos) (tQ L E0 (evQ G (.v (.isN c)) EX)) :=
  (pt_cmp (pc_isN ha.b)).weak fun σ H Q ⟨st, S, Q', I, ev, k⟩ => by
    have ev : bw c (evE G c EX) st fun x st1 => True ∧ Q' (isNoneD x) st1 := ev
    refine ⟨st, S, _, I, ev, fun v1 H1 st1 S1 x I1 g1 r1 q1 => ⟨_, rfl, ?_⟩⟩
    rw [(r1.now I1).non_iff]
    exact k _ _ st1 S1 I1 g1 q1.2
theorem jq_notN {j pos'} (ha : JE L E0 G EX X e c) : PT X (.Compare e [.IsNot] [.Constant .none j pos'] pos) (tQ L E0 (evQ G (.v (.notN c)) EX)) :=
  (pt_cmp (pc_notN ha.b)).weak fun σ H Q ⟨st, S, Q', I, ev, k⟩ => by
    have ev : bw c (evE G c EX) st fun x st1 => True ∧ Q' (!isNoneD x) st1 := ev
    refine ⟨st, S, _, I, ev, fun v1 H1 st1 S1 x I1 g1 r1 q1 => ⟨_, rfl, ?_⟩⟩
    rw [(r1.now I1).non_iff]
    exact k _ _ st1 S1 I1 g1 q1.2
theorem jq_isB {b : Bool} {j pos'} (ha : JE L E0 G EX X e c) : PT X (.Compare e [.Is] [.Constant (.bool b) j pos'] pos) (tQ L E0 (evQ G (.v (.isB c b)) EX)) :=
  (pt_cmpR op_is_bl ha.b pe_bl (nomark _)).weak fun σ H Q ⟨st, S, Q', I, ev, k⟩ => by
    have ev : bw c (evE G c EX) st fun x st1 => asB x fun j => True ∧ Q' (decide (j = b)) st1 := ev
    refine ⟨st, S, _, I, ev, fun v1 H1 st1 S1 x I1 g1 r1 q1 => ?_⟩
    obtain ⟨y, rfl, q1⟩ := asB_at q1
    rw [(r1.now I1).bool]
    exact ⟨_, _, rfl, rfl, _, rfl, k _ _ st1 S1 I1 g1 q1.2⟩
theorem jq_notB {b : Bool} {j pos'} (ha : JE L E0 G EX X e c) : PT X (.Compare e [.IsNot] [.Constant (.bool b) j pos'] pos) (tQ L E0 (evQ G (.v (.notB c b)) EX)) :=
  (pt_cmpR op_isnot_bl ha.b pe_bl (nomark _)).weak fun σ H Q ⟨st, S, Q', I, ev, k⟩ => by
    have ev : bw c (evE G c EX) st fun x st1 => asB x fun j => True ∧ Q' (!decide (j = b)) st1 := ev
    refine ⟨st, S, _, I, ev, fun v1 H1 st1 S1 x I1 g1 r1 q1 => ?_⟩
    obtain ⟨y, rfl, q1⟩ := asB_at q1
    rw [(r1.now I1).bool]
    exact ⟨_, _, rfl, rfl, _, rfl, k _ _ st1 S1 I1 g1 q1.2⟩
theorem je_neg (ha : JE L E0 G EX X e c) : JE L E0 G EX X (.UnaryOp .USub e pos) (.neg c) :=
  JE.of ((pe_un un_neg ha.b).weak fun σ H Q ⟨st, S, Q', I, ev, k⟩ => by
    have ev : bw c (evE G c EX) st fun x st1 => asI x fun i => Q' (.d (.int (-i))) st1 := ev
    refine ⟨st, S, _, I, ev, fun v1 H1 st1 S1 x I1 g1 r1 q1 => ?_⟩
    obtain ⟨y, rfl, q1⟩ := asI_at q1
    rw [(r1.now I1).int]
    exact ⟨_, rfl, k _ _ st1 S1 _ I1 g1 (.d (.int _)) q1⟩) (fun _ z => by cases z)
/-! ### and, or, not -/
theorem je_and1 (ha : JE L E0 G EX X e c) {op : BoolOp} (hn : ∀ i, c ≠ .var i) : JE L E0 G EX X (.BoolOp op [e] pos) c := JE.of (pe_one ha.d) hn
theorem je_and {rest : List Expr} (ha : JE L E0 G EX X e c) (hb : PE X (.BoolOp .And (e2 :: rest) pos) (tD L E0 (evE G c2 EX))) : JE L E0 G EX X (.BoolOp .And (e :: e2 :: rest) pos) (.and c c2) :=
  JE.of ((pe_and ha.b hb).weak fun σ H Q ⟨st, S, Q', I, ev, k⟩ => by
    have ev : bw c (evE G c EX) st fun x st1 => asB x fun b => ifB b (evE G c2 EX st1 Q') (Q' (.d (.bool false)) st1) := ev
    refine ⟨st, S, _, I, ev, fun v1 H1 st1 S1 x I1 g1 r1 q1 => ?_⟩
    obtain ⟨y, rfl, q1⟩ := asB_at q1
    refine ⟨y, (r1.now I1).bool, ?_⟩
    cases y with
    | true => exact ⟨st1, S1, Q', I1, q1, fun v2 H2 st2 S2 vl I2 g2 r2 q2 => k v2 H2 st2 S2 vl I2 (g1.trans g2) (r2.from g1) q2⟩
    | false => exact k _ _ st1 S1 _ I1 g1 (.d (.bl _)) q1) (fun _ z => by cases z)
theorem je_or {rest : List Expr} (ha : JE L E0 G EX X e c) (hb : PE X (.BoolOp .Or (e2 :: rest) pos) (tD L E0 (evE G c2 EX))) : JE L E0 G EX X (.BoolOp .Or (e :: e2 :: rest) pos) (.or c c2) :=
  JE.of ((pe_or ha.b hb).weak fun σ H Q ⟨st, S, Q', I, ev, k⟩ => by
    have ev : bw c (evE G c EX) st fun x st1 => asB x fun b => ifB b (Q' (.d (.bool true)) st1) (evE G c2 EX st1 Q') := ev
    refine ⟨st, S, _, I, ev, fun v1 H1 st1 S1 x I1 g1 r1 q1 => ?_⟩
    obtain ⟨y, rfl, q1⟩ := asB_at q1
    refine ⟨y, (r1.now I1).bool, ?_⟩
    cases y with
    | true => exact k _ _ st1 S1 _ I1 g1 (.d (.bl _)) q1
    | false => exact ⟨st1, S1, Q', I1, q1, fun v2 H2 st2 S2 vl I2 g2 r2 q2 => k v2 H2 st2 S2 vl I2 (g1.trans g2) (r2.from g1) q2⟩) (fun _ z => by cases z)
theorem zip_empty {α β : Type} {ks : List α} {xs : List β} (h : ks.length = xs.length) : (ks.zip xs).isEmpty = xs.isEmpty := by
  cases ks with
  | nil => cases xs with
    | nil => rfl
    | cons _ _ => simp at h
  | cons _ _ => cases xs with
    | nil => simp at h
    | cons _ _ => rfl
theorem rpall_empty {K : PySem.W.Frag} {vs : List V} {ds : List PyData} (r : RpAll K S vs ds) : vs.isEmpty = ds.isEmpty := by cases r <;> rfl
theorem Now.tru {K : PySem.W.Frag} (h : Now K S H v x) (m : Mono S H) (p : truP x) : TruV K v H (truV x) := by
  cases x with
  | none => rw [h.none]; rfl
  | bool b => rw [h.bool]; rfl
  | int b => rw [h.int]; rfl
  | str b =>
    rw [h.str]
    refine ⟨p, ?_⟩
    show (b.length != 0) = ((b.length : Int) != 0)
    rw [Bool.eq_iff_iff]
    simp
  | list ds =>
    obtain ⟨a, vs, rfl, ha, r⟩ := h.list m
    exact .inl ⟨vs, SqL.of ha, by show (!ds.isEmpty) = !vs.isEmpty; rw [rpall_empty r]⟩
  | tuple ds =>
    obtain ⟨a, vs, rfl, ha, r, _⟩ := h.tuple m
    exact .inr (.inl ⟨vs, ha, by show (!ds.isEmpty) = !vs.isEmpty; rw [rpall_empty r]⟩)
  | dict kvs => exact (show False from p).elim
theorem je_not (F : Fit L E0 EX X k) (ha : JE L E0 G EX X e c) : JE L E0 G EX X (.UnaryOp .Not e pos) (.not c) :=
  JE.of ((pe_notT ha.b).weak fun σ H Q ⟨st, S, Q', I, ev, k⟩ => by
    have ev : bw c (evE G c EX) st fun x st1 => truP x ∧ Q' (.d (.bool (!truV x))) st1 := ev
    refine ⟨st, S, _, I, ev, fun v1 H1 st1 S1 x I1 g1 r1 ⟨p, q1⟩ => ⟨truV x, ?_, k _ _ st1 S1 _ I1 g1 (.d (.bl _)) q1⟩⟩
    rw [F.K]
    exact (r1.now I1).tru I1.sub p) (fun _ z => by cases z)
/-! ### tests -/
/-- a test by its value's truth -/
theorem jq_v (F : Fit L E0 EX X k) (ha : JE L E0 G EX X e c) (he : ∀ whole, isTrue e X.env whole = (do let v ← whole; standAt e.pos; holding [v] (truthy v))) : PT X e (tQ L E0 (evQ G (.v c) EX)) :=
  (pt_truth ha.b he).weak fun σ H Q ⟨st, S, Q', I, ev, k⟩ => by
    have ev : bw c (evE G c EX) st fun x st1 => truP x ∧ Q' (truV x) st1 := ev
    refine ⟨st, S, _, I, ev, fun v1 H1 st1 S1 x I1 g1 r1 ⟨p, q1⟩ => ⟨truV x, ?_, k _ _ st1 S1 I1 g1 q1⟩⟩
    rw [F.K]
    exact (r1.now I1).tru I1.sub p
theorem jq_and {rest : List Expr} {q q2 : CQ} (ha : PT X e (tQ L E0 (evQ G q EX))) (hb : PW X (.BoolOp .And (e2 :: rest) pos) (tQ L E0 (evQ G q2 EX))) : PW X (.BoolOp .And (e :: e2 :: rest) pos) (tQ L E0 (evQ G (.and q q2) EX)) :=
  ⟨fun wh pins s σ H Q I hw => (pw_and ha hb).run wh pins s σ H Q I (by
    obtain ⟨st, S, Q', I, ev, k⟩ := hw
    have ev : evQ G q EX st fun b st1 => ifB b (evQ G q2 EX st1 Q') (Q' false st1) := ev
    refine ⟨st, S, _, I, ev, fun b H1 st1 S1 I1 g1 q1 => ?_⟩
    cases b with
    | true => exact ⟨st1, S1, Q', I1, q1, fun b2 H2 st2 S2 I2 g2 q2 => k b2 H2 st2 S2 I2 (g1.trans g2) q2⟩
    | false => exact k _ _ st1 S1 I1 g1 q1)⟩
theorem jq_or {rest : List Expr} {q q2 : CQ} (ha : PT X e (tQ L E0 (evQ G q EX))) (hb : PW X (.BoolOp .Or (e2 :: rest) pos) (tQ L E0 (evQ G q2 EX))) : PW X (.BoolOp .Or (e :: e2 :: rest) pos) (tQ L E0 (evQ G (.or q q2) EX)) :=
  ⟨fun wh pins s σ H Q I hw => (pw_or ha hb).run wh pins s σ H Q I (by
    obtain ⟨st, S, Q', I, ev, k⟩ := hw
    have ev : evQ G q EX st fun b st1 => ifB b (Q' true st1) (evQ G q2 EX st1 Q') := ev
    refine ⟨st, S, _, I, ev, fun b H1 st1 S1 I1 g1 q1 => ?_⟩
    cases b with
    | false => exact ⟨st1, S1, Q', I1, q1, fun b2 H2 st2 S2 I2 g2 q2 => k b2 H2 st2 S2 I2 (g1.trans g2) q2⟩
    | true => exact k _ _ st1 S1 I1 g1 q1)⟩
theorem jq_not {q : CQ} (ha : PT X e (tQ L E0 (evQ G q EX))) : PT X (.UnaryOp .Not e pos) (tQ L E0 (evQ G (.not q) EX)) :=
  (pt_not ha).weak fun σ H Q ⟨st, S, Q', I, ev, k⟩ => by
    have ev : evQ G q EX st fun b st1 => Q' (!b) st1 := ev
    exact ⟨st, S, _, I, ev, fun b H1 st1 S1 I1 g1 q1 => k _ _ st1 S1 I1 g1 q1⟩
theorem je_ife {q : CQ} (ht : PT X e (tQ L E0 (evQ G q EX))) (ha : PE X e2 (tD L E0 (evE G c EX))) (hb : PE X e3 (tD L E0 (evE G c2 EX))) : JE L E0 G EX X (.IfExp e e2 e3 pos) (.ife q c c2) :=
  JE.of ((pe_ifExp ht ha hb).weak fun σ H Q ⟨st, S, Q', I, ev, k⟩ => by
    have ev : evQ G q EX st fun b st1 => ifB b (evE G c EX st1 Q') (evE G c2 EX st1 Q') := ev
    refine ⟨st, S, _, I, ev, fun b H1 st1 S1 I1 g1 q1 => ?_⟩
    cases b with
    | true => exact ⟨st1, S1, Q', I1, q1, fun v2 H2 st2 S2 vl I2 g2 r2 q2 => k v2 H2 st2 S2 vl I2 (g1.trans g2) (r2.from g1) q2⟩
    | false => exact ⟨st1, S1, Q', I1, q1, fun v2 H2 st2 S2 vl I2 g2 r2 q2 => k v2 H2 st2 S2 vl I2 (g1.trans g2) (r2.from g1) q2⟩) (fun _ z => by cases z)
end
end PX
end L2
/-! Sharing, arguments, displays. -/
namespace L2
namespace PX
open PySem PySem.Spec PyProof.Rows
section
variable {L : Lw} {E0 : En} {G : Gm} {EX : Exn → Prop} {X : Cx} {k : Nat} {c c2 c3 : CE} {e e2 e3 : Expr} {st st' st1 st2 : Sl} {σ : L2.St} {S S' S1 S2 H H' H1 H2 : Hp} {v : V} {x : PyData} {vl : Vl} {pos : Pos}
/-- behind an expression a dict may be locked -/
theorem pe_lk {t : TE} (h : PE X e t) : PE X e (fun σ H Q => t σ H fun v H' => Q v H' ∨ ∃ a u, v = .ref a ∧ H' a = some u ∧ Mut (some u) ∧ ∀ od, Q v (upd H' a (.frz od u))) := by
  refine ⟨fun pins s σ H Q I hw => thn (h.run pins s σ H _ I hw) fun u s1 ⟨v, H1, I1, r1, q⟩ => ?_⟩
  rcases q with q | ⟨a, o, e, ha, mu, q⟩
  · exact ⟨v, H1, I1, r1, q⟩
  · obtain ⟨od, I2⟩ := I1.lock ha mu
    exact ⟨v, _, I2, r1, q od⟩
/-- a dict that was just made and that no slot has is locked for good -/
theorem SI.lockNew {st0 : Sl} {S0 H0 : Hp} {kvs : List (PyData × PyData)} {od : Obj} (I : SI L E0 st σ S H) (g : Go L st0 σ S0 H0 st S H) {a : Addr} {o : HO} (h0 : ¬ Has H0 a) (ha : H a = some o) (hs : S a = none) (he : E0.h a = none) (hr : L.R ≠ some a) (no : ¬ Owns st σ a) (c : DicO L.K S o kvs) :
    ∃ S', SI L E0 st σ S' (upd H a (.frz od o)) ∧ Go L st0 σ S0 H0 st S' (upd H a (.frz od o)) ∧ Rp L.K S' (.ref a) (.dict kvs) := by
  have no' : ∀ (j : Nat) (z : Vl) (y : PyData), st[j]? = some (some z) → (z = .own y ∨ z = .lent y) → σ[j]? ≠ some (some (.ref a)) := fun j z y hj hz hw => by
    rcases hz with rfl | rfl
    · exact no ⟨j, y, hj, hw⟩
    · obtain ⟨w, h2, b, o', e', hb, _, hE, _⟩ := I.at_ j _ hj
      rw [hw] at h2; cases h2; cases e'
      rw [he] at hE; cases hE
  have R' : Rp L.K (upd S a (.frz od o)) (.ref a) (.dict kvs) := DicO.frz (c.mono (Mono.upd hs)) upd_same
  have nt : notTbl o := Cont.notTbl (x := .dict kvs) c
  have st1 : ∀ b u, b ≠ a → H b = some u → upd H a (.frz od o) b = some u := fun b u n e => by rw [upd_ne n]; exact e
  refine ⟨upd S a (.frz od o), { base := I.base.trans (Mono.upd hs), sub := fun b u h => ?_, ns := fun b h1 h2 => ?_, keep := fun b u h r => ?_, row := fun b h => ?_, tabs := fun p hp => ?_, enT := I.enT, snt := fun b u h => (by
      by_cases q : b = a
      · subst q; rw [upd_same] at h; cases h; exact fun _ z => by cases z
      · rw [upd_ne q] at h; exact I.snt b u h), len := I.len, at_ := fun j vl hj => ?_, dis := I.dis },
    ⟨g.mono.trans (Mono.upd hs), fun b u h n r t => ?_, g.ownS, fun b h => ?_, fun b h1 h2 n => by rw [upd_ne (fun z => h0 (by rw [← z]; exact h1))]; exact g.uns b h1 h2 n⟩, R'⟩
  · by_cases q : b = a
    · subst q; rw [upd_same] at h ⊢; exact h
    · rw [upd_ne q] at h ⊢; exact I.sub b u h
  · have ne : b ≠ a := fun z => h2 (by rw [z]; exact he)
    rw [upd_ne ne]; exact I.ns b h1 h2
  · exact st1 b u (fun z => by rw [z, he] at h; cases h) (I.keep b u h r)
  · have ne : b ≠ a := fun z => hr (by rw [h, z])
    exact ⟨(I.row b h).1.ext (Mono.upd hs) fun o e => st1 b o ne e, by rw [upd_ne ne]; exact (I.row b h).2⟩
  · obtain ⟨ps, h1, h2, h3⟩ := I.tabs p hp
    refine ⟨ps, st1 _ _ (fun z => by rw [z, ha] at h1; exact nt ps (Option.some.inj h1)) h1, h2, fun pos cv hc => ?_⟩
    obtain ⟨b, e1, e2⟩ := h3 pos cv hc
    refine ⟨b, e1, st1 _ _ (fun z => ?_) e2⟩
    rw [z, ha] at e2
    have e2 := Option.some.inj e2
    rcases c with ⟨_, _, _, q, _⟩ | ⟨_, _, _, q, _⟩ <;> rw [q] at e2 <;> unfold LamX.CodeO at e2 <;> cases e2
  · obtain ⟨w, h2, h3⟩ := I.at_ j vl hj
    refine ⟨w, h2, ?_⟩
    have n' := fun y hy => no' j vl y hj hy
    have h4 : SVal L (upd S a (.frz od o)) H E0 vl w := h3.addS hs fun y hy ew => n' y hy (by rw [h2, ew])
    cases vl with
    | own y =>
      obtain ⟨b, u, e', hb, q1, q2, q3, q4⟩ := h4
      exact ⟨b, u, e', st1 b u (fun z => n' y (.inl rfl) (by rw [h2, e', z])) hb, q1, q2, q3, q4⟩
    | lent y =>
      obtain ⟨b, u, e', hb, q1, q2, q3, q4⟩ := h4
      exact ⟨b, u, e', st1 b u (fun z => n' y (.inr rfl) (by rw [h2, e', z])) hb, q1, q2, q3, q4⟩
    | d y => exact h4
    | row => exact h4
    | fn n => exact h4
  · exact st1 b u (fun z => h0 (by rw [← z]; exact ⟨u, h, t⟩)) (g.fr b u h n r t)
  · by_cases q : b = a
    · rw [q]; exact h0
    · exact g.dom b fun ⟨u, h1, h2⟩ => h ⟨u, st1 b u q h1, h2⟩
/-- an argument of one's own defs -/
def ArgV (L : Lw) (S : Hp) : Vl → V → Prop
  | .d x, v => Rp L.K S v x
  | .row, v => ∃ a, L.R = some a ∧ v = .ref a
  | .fn n, v => v = .ref (L.ft n)
  | _, _ => False
theorem ArgV.mono (h : ArgV L S vl v) (m : Mono S S') : ArgV L S' vl v := by
  cases vl with
  | d x => exact Rp.mono m h
  | row => exact h
  | fn n => exact h
  | own x => exact h.elim
  | lent x => exact h.elim
/-- a value kept as it is from now on -/
theorem SI.share {st0 : Sl} {S0 H0 : Hp} (I : SI L E0 st σ S H) (g : Go L st0 σ S0 H0 st S H) (r : VR L E0 H0 st σ S H vl v) :
    (∃ S', SI L E0 st σ S' H ∧ Go L st0 σ S0 H0 st S' H ∧ ArgV L S' (shrV vl) v) ∨
    ∃ a u, v = .ref a ∧ H a = some u ∧ Mut (some u) ∧ ∀ od, ∃ S', SI L E0 st σ S' (upd H a (.frz od u)) ∧ Go L st0 σ S0 H0 st S' (upd H a (.frz od u)) ∧ ArgV L S' (shrV vl) v := by
  cases vl with
  | d x => exact .inl ⟨S, I, g, r.val⟩
  | row => exact .inl ⟨S, I, g, r.val⟩
  | fn n => exact .inl ⟨S, I, g, r.val⟩
  | lent x => exact absurd rfl (r.nl x)
  | own x =>
    obtain ⟨a, o, e, ha, hs, he, hr, c⟩ := r.val
    have no := r.new x a rfl e
    have h0 := r.fr x a rfl e
    subst e
    cases x with
    | list ds =>
      obtain ⟨vs, eo, q⟩ := c
      subst eo
      exact .inl ⟨_, I.addS ha hs no he hr, g.addS hs h0, (.lst upd_same (q.mono (Mono.upd hs)) : Rp L.K _ _ _)⟩
    | dict kvs =>
      have c : DicO L.K S o kvs := c
      refine .inr ⟨a, o, rfl, ha, ?_, fun od => ?_⟩
      · rcases c with ⟨_, _, _, q, _⟩ | ⟨_, _, _, q, _⟩ <;> rw [q] <;> trivial
      · exact I.lockNew g h0 ha hs he hr no c
    | none => exact c.elim
    | bool b => exact c.elim
    | int b => exact c.elim
    | str b => exact c.elim
    | tuple b => exact c.elim
/-- the value, shared -/
def tS (L : Lw) (E0 : En) (ev : Sl → (Vl → Sl → Prop) → Prop) : TE := fun σ H Q => ∃ st S Q', SI L E0 st σ S H ∧ ev st Q' ∧
  ∀ v H' st' S' vl, SI L E0 st' σ S' H' → Go L st σ S H st' S' H' → ArgV L S' (shrV vl) v → Q' vl st' → Q v H'
theorem JE.s (h : PE X e (tD L E0 (evE G c EX))) : PE X e (tS L E0 (evE G c EX)) :=
  (pe_lk h).weak fun σ H Q ⟨st, S, Q', I, ev, k⟩ => by
    refine ⟨st, S, Q', I, ev, fun v H' st' S' vl I' g r q => ?_⟩
    rcases I'.share g r with ⟨S2, I2, g2, r2⟩ | ⟨a, u, e, ha, mu, h2⟩
    · exact .inl (k v H' st' S2 vl I2 g2 r2 q)
    · refine .inr ⟨a, u, e, ha, mu, fun od => ?_⟩
      obtain ⟨S2, I2, g2, r2⟩ := h2 od
      exact k v _ st' S2 vl I2 g2 r2 q
/-! ### arguments -/
/-- no starred item -/
def noStar : Expr → Bool
  | .Starred _ _ => false
  | _ => true
theorem starEach_no {es : List Expr} {env : Env} (h : noStar e = true) : starEach (e :: es) env = (false, eval e env) :: starEach es env := by
  cases e <;> first | rfl | cases h
inductive ArgVs (L : Lw) (S : Hp) : List Vl → List V → Prop
  | nil : ArgVs L S [] []
  | cons {vl v vls vs} : ArgV L S vl v → ArgVs L S vls vs → ArgVs L S (vl :: vls) (v :: vs)
theorem ArgVs.mono (m : Mono S S') : ∀ {vls vs}, ArgVs L S vls vs → ArgVs L S' vls vs
  | _, _, .nil => .nil
  | _, _, .cons h r => .cons (h.mono m) (r.mono m)
def tAs (L : Lw) (E0 : En) (ev : Sl → (List Vl → Sl → Prop) → Prop) : TA := fun σ H Q => ∃ st S Q', SI L E0 st σ S H ∧ ev st Q' ∧
  ∀ vs H' st' S' vls, SI L E0 st' σ S' H' → Go L st σ S H st' S' H' → ArgVs L S' vls vs → Q' vls st' → Q vs H'
theorem ja_nil : PA X [] (tAs L E0 (evAs G .nil EX)) := pa_nil.weak fun σ H Q ⟨st, S, Q', I, ev, k⟩ => k [] H st S [] I (.refl ..) .nil ev
theorem ja_cons {es : List Expr} {cs : CEs} {b : Bool} (ha : JE L E0 G EX X e c) (hr : PA X es (tAs L E0 (evAs G cs EX))) (hs : noStar e = true) : PA X (e :: es) (tAs L E0 (evAs G (.cons b c cs) EX)) :=
  (pa_cons (JE.s ha.d) hr (starEach_no hs)).weak fun σ H Q ⟨st, S, Q', I, ev, k⟩ => by
    have ev : evE G c EX st fun vl st1 => evAs G cs EX st1 fun vs st2 => Q' (shrV vl :: vs) st2 := ev
    refine ⟨st, S, _, I, ev, fun v1 H1 st1 S1 vl I1 g1 r1 q1 => ⟨st1, S1, _, I1, q1, fun vs H2 st2 S2 vls I2 g2 r2 q2 => ?_⟩⟩
    exact k _ H2 st2 S2 _ I2 (g1.trans g2) (.cons (r1.mono g2.mono) r2) q2
/-- arguments that are only looked at -/
inductive Nows (K : PySem.W.Frag) (S H : Hp) : List V → List PyData → Prop
  | nil : Nows K S H [] []
  | cons {v x vs xs} : Now K S H v x → Nows K S H vs xs → Nows K S H (v :: vs) (x :: xs)
def tBs (L : Lw) (E0 : En) (ev : Sl → (List PyData → Sl → Prop) → Prop) : TA := fun σ H Q => ∃ st S Q', SI L E0 st σ S H ∧ ev st Q' ∧
  ∀ vs H' st' S' xs, SI L E0 st' σ S' H' → Go L st σ S H st' S' H' → Nows L.K S' H' vs xs → Q' xs st' → Q vs H'
theorem jb_nil : PA X [] (tBs L E0 (evBs G .nil EX)) := pa_nil.weak fun σ H Q ⟨st, S, Q', I, ev, k⟩ => k [] H st S [] I (.refl ..) .nil ev
theorem jb_cons {es : List Expr} {cs : CEs} {b : Bool} (ha : JE L E0 G EX X e c) (hr : PA X es (tBs L E0 (evBs G cs EX))) (hs : noStar e = true) : PA X (e :: es) (tBs L E0 (evBs G (.cons b c cs) EX)) :=
  (pa_cons ha.b hr (starEach_no hs)).weak fun σ H Q ⟨st, S, Q', I, ev, k⟩ => by
    have ev : bw c (evE G c EX) st fun x st1 => evBs G cs EX st1 fun xs st2 => stab c st1 st2 ∧ Q' (x :: xs) st2 := ev
    refine ⟨st, S, _, I, ev, fun v1 H1 st1 S1 x I1 g1 r1 q1 => ⟨st1, S1, _, I1, q1, fun vs H2 st2 S2 xs I2 g2 r2 ⟨s, q2⟩ => ?_⟩⟩
    exact k _ H2 st2 S2 _ I2 (g1.trans g2) (.cons ((r1.stay g2 s).now I2) r2) q2
/-! ### displays -/
def tDs (L : Lw) (E0 : En) (ev : Sl → (List PyData → Sl → Prop) → Prop) : TA := fun σ H Q => ∃ st S Q', SI L E0 st σ S H ∧ ev st Q' ∧
  ∀ vs H' st' S' xs, SI L E0 st' σ S' H' → Go L st σ S H st' S' H' → RpAll L.K S' vs xs → Q' xs st' → Q vs H'
theorem jd_nil : PA X [] (tDs L E0 (evD G .nil EX)) := pa_nil.weak fun σ H Q ⟨st, S, Q', I, ev, k⟩ => k [] H st S [] I (.refl ..) .nil ev
theorem argV_shr {Q : PyData → Prop} (r : ArgV L S (shrV vl) v) (h : shr vl Q) : ∃ x, Rp L.K S v x ∧ Q x := by
  cases vl with
  | d y => exact ⟨y, r, h⟩
  | own y => exact ⟨y, r, h⟩
  | lent y => exact h.elim
  | row => exact h.elim
  | fn n => exact h.elim
theorem jd_cons {es : List Expr} {cs : CEs} (ha : JE L E0 G EX X e c) (hr : PA X es (tDs L E0 (evD G cs EX))) (hs : noStar e = true) : PA X (e :: es) (tDs L E0 (evD G (.cons false c cs) EX)) :=
  (pa_cons (JE.s ha.d) hr (starEach_no hs)).weak fun σ H Q ⟨st, S, Q', I, ev, k⟩ => by
    have ev : evE G c EX st fun vl st1 => shr vl fun x => evD G cs EX st1 fun xs st2 => Q' (x :: xs) st2 := ev
    refine ⟨st, S, _, I, ev, fun v1 H1 st1 S1 vl I1 g1 r1 q1 => ?_⟩
    obtain ⟨x, r1, q1⟩ := argV_shr r1 q1
    refine ⟨st1, S1, _, I1, q1, fun vs H2 st2 S2 xs I2 g2 r2 q2 => ?_⟩
    exact k _ H2 st2 S2 _ I2 (g1.trans g2) (.cons (r1.mono g2.mono) r2) q2
/-- *e, of a list or a tuple -/
theorem star_seqN {prog : Program} {w : World} {A : Around} {E : Value → Shared → Prop} {s : Shared} {a : Addr} {o : Obj} {T : String} {its : Array Value} {n : Nat} {Q : List Value → Shared → Prop} (D : s.heap.get? a = some o) (hc : o.cls = .type T) (hd : o.data = .seq its n) (hT : T = "list" ∨ T = "tuple")
    (hz : its.size ≤ sizeLine) (h : ∀ h', (∀ b o, s.heap.get? b = some o → h'.get? b = some o) → Q its.toList { s with heap := h' }) : PySem.W.StarOf (model prog w) A E (.ref a) Q s := by
  have hT' : s.TypeIs (.ref a) T := ⟨o, D, hc⟩
  have z : wpAny (model prog w) A (collect (.ref a)) Q E s := wpAny_collect_seq a hT D hc hd (fun h' hk => h h' hk) hz
  unfold PySem.W.StarOf notIterableAtAll
  rcases hT with rfl | rfl
  · exact wpAny_bind (wpAny_specialOf hT' PySem.F.slot_list_iter.lookup (wpAny_pure ⟨rfl, z⟩))
  · exact wpAny_bind (wpAny_specialOf hT' PySem.F.slot_tuple_iter.lookup (wpAny_pure ⟨rfl, z⟩))
def tStar (te : TE) (tr : TA) (K : PySem.W.Frag) : TA := fun σ H Q => te σ H fun v H1 => ∃ a ws, v = .ref a ∧ (SqL K H1 a ws ∨ SqT K H1 a ws) ∧ tr σ H1 fun vs H2 => Q (ws ++ vs) H2
theorem pa_star {es : List Expr} {te : TE} {tr : TA} {p : Pos} (ha : PE X e te) (hr : PA X es tr) : PA X (.Starred e p :: es) (tStar te tr X.K) := by
  refine ⟨fun pos pins s σ H Q I h => PySem.W.items_star (thn (ha.run pins s σ H _ I h) fun u s1 ⟨v, H1, I1, r1, a, ws, ev, hq, q⟩ => ?_)⟩
  subst ev
  cases r1
  have fin : ∀ (its : List Value), Vals ws its → ∀ h', (∀ b o, s1.heap.get? b = some o → h'.get? b = some o) → wpAny (model X.prog X.w) X.A (spliced (backTo pos (starEach es X.env))) (fun us s₃ => AP X pins σ Q (its ++ us) s₃) X.xe { s1 with heap := h' } := fun its rv h' hk =>
    thn (hr.run pos pins _ σ H1 _ (I1.kept (t' := s1.toks) hk) q) fun us s2 ⟨vs, H2, I2, r2, q2⟩ => ⟨ws ++ vs, H2, I2, rv.append r2, q2⟩
  rcases hq with hq | hq
  · obtain ⟨its, rv, ⟨o, n, e1, e2, e3, e4⟩, hz⟩ := I1.list hq
    refine star_seqN e1 e2 e4 (.inl rfl) (by have := rv.length; simp only [List.size_toArray]; omega) fun h' hk => ?_
    exact fin its rv h' hk
  · obtain ⟨its, rv, ⟨o, e1, e2, n, e3⟩, hz⟩ := I1.tuple hq
    refine star_seqN e1 e2 e3 (.inr rfl) (by have := rv.length; simp only [List.size_toArray]; omega) fun h' hk => ?_
    exact fin its rv h' hk
theorem asT_at {Q : List PyData → Prop} (h : asT x Q) : ∃ ds, (x = .list ds ∨ x = .tuple ds) ∧ Q ds := by
  cases x <;> first | exact h.elim | exact ⟨_, .inl rfl, h⟩ | exact ⟨_, .inr rfl, h⟩
theorem jd_star {es : List Expr} {cs : CEs} {p : Pos} (F : Fit L E0 EX X k) (ha : JE L E0 G EX X e c) (hr : PA X es (tDs L E0 (evD G cs EX))) :
    PA X (.Starred e p :: es) (tDs L E0 (evD G (.cons true c cs) EX)) :=
  (pa_star ha.b hr).weak fun σ H Q ⟨st, S, Q', I, ev, k⟩ => by
    have ev : bw c (evE G c EX) st fun x st1 => asT x fun ds => evD G cs EX st1 fun xs st2 => Q' (ds ++ xs) st2 := ev
    refine ⟨st, S, _, I, ev, fun v1 H1 st1 S1 x I1 g1 r1 q1 => ?_⟩
    obtain ⟨ds, hx, q1⟩ := asT_at q1
    rcases hx with rfl | rfl
    · obtain ⟨a, ws, rfl, ha, ra⟩ := (r1.now I1).list I1.sub
      exact ⟨a, ws, rfl, .inl (SqL.of ha), st1, S1, _, I1, q1, fun vs H2 st2 S2 xs I2 g2 r2 q2 => k _ H2 st2 S2 _ I2 (g1.trans g2) ((ra.mono g2.mono).append r2) q2⟩
    · obtain ⟨a, ws, rfl, ha, ra, _⟩ := (r1.now I1).tuple I1.sub
      exact ⟨a, ws, rfl, .inr (by rw [F.K]; exact ha), st1, S1, _, I1, q1, fun vs H2 st2 S2 xs I2 g2 r2 q2 => k _ H2 st2 S2 _ I2 (g1.trans g2) ((ra.mono g2.mono).append r2) q2⟩
theorem je_tup {es : List Expr} {cs : CEs} {j} (h : PA X es (tDs L E0 (evD G cs EX))) : JE L E0 G EX X (.Tuple es j pos) (.tup cs) :=
  JE.of ((pe_tup h).weak fun σ H Q ⟨st, S, Q', I, ev, k⟩ => by
    have ev : evD G cs EX st fun xs st1 => xs.length ≤ sizeLine ∧ Q' (.d (.tuple xs)) st1 := ev
    refine ⟨st, S, _, I, ev, fun vs H1 st1 S1 xs I1 g1 r1 ⟨z, q1⟩ => ⟨by rw [r1.length]; exact z, fun p hp => ?_⟩⟩
    obtain ⟨S2, I2, g2, r2⟩ := I1.closeV (NewV.tup hp r1)
    exact k _ _ st1 S2 _ I2 (g1.trans g2) (r2.from g1) q1) (fun _ z => by cases z)
theorem je_lst {es : List Expr} {cs : CEs} (h : PA X es (tDs L E0 (evD G cs EX))) : JE L E0 G EX X (.List es pos) (.lst cs) :=
  JE.of ((pe_lst h).weak fun σ H Q ⟨st, S, Q', I, ev, k⟩ => by
    have ev : evD G cs EX st fun xs st1 => xs.length ≤ sizeLine ∧ Q' (.own (.list xs)) st1 := ev
    refine ⟨st, S, _, I, ev, fun vs H1 st1 S1 xs I1 g1 r1 ⟨z, q1⟩ => ⟨by rw [r1.length]; exact z, fun p hp => ?_⟩⟩
    obtain ⟨S2, I2, g2, r2⟩ := I1.closeV (NewV.lst hp r1)
    exact k _ _ st1 S2 _ I2 (g1.trans g2) (r2.from g1) q1) (fun _ z => by cases z)
end
end PX
end L2
/-! Subscripts, built-ins, calls. -/
namespace L2
namespace PX
open PySem PySem.Spec PyProof.Rows
section
variable {L : Lw} {E0 : En} {G : Gm} {EX : Exn → Prop} {X : Cx} {k : Nat} {c c2 c3 : CE} {e e2 e3 : Expr} {st st' st1 st2 : Sl} {σ : L2.St} {S S' S1 S2 H H' H1 H2 : Hp} {v : V} {x : PyData} {vl : Vl} {pos : Pos}
/-! ### constants, defs by name -/
theorem je_gc {y : Str} {d : PyData} {v : V} {u : Value} (hg : Gl X y) (hm : X.mg y = some u) (r : RelV v u) (hr : ∀ S, Rp L.K S v d) (hd : (y == ("__debug__" : Str)) = false) : JE L E0 G EX X (.Name y pos) (.gc y d) :=
  je_imm (pe_glob hg hm r hd) hr rfl (fun _ z => by cases z)
theorem je_fnr {y : Str} {n : Nat} (hg : Gl X y) (hm : X.mg y = some (.ref (L.ft n))) (hd : (y == ("__debug__" : Str)) = false) : JE L E0 G EX X (.Name y pos) (.fnr n) :=
  JE.of ((pe_glob hg hm (v := .ref (L.ft n)) rfl hd).weak fun σ H Q ⟨st, S, Q', I, ev, k⟩ => k _ H st S (.fn n) I (.refl ..) ⟨rfl, (fun _ _ e => nomatch e), (fun _ _ e => nomatch e), fun _ e => nomatch e⟩ ev) (fun _ z => by cases z)
/-! ### subscripts -/
/-- a subscript that is no slice -/
def noSlice : Expr → Bool
  | .Slice _ _ _ _ => false
  | _ => true
theorem plainIx_no (h : noSlice e = true) : PlainIx e := by
  cases e <;> first | exact fun _ _ => rfl | cases h
/-- by values -/
def rSub (K : PySem.W.Frag) : R2 := fun y z H Q => ∃ S x i R, Mono S H ∧ Now K S H y x ∧ Now K S H z i ∧ subD x i R ∧ ∀ v d, Rp K S v d → R d → Q v H
theorem ix_data : IxR X (rSub X.K) := by
  intro value slice pins s σ H y z v u Q I ry rz h hs
  obtain ⟨S, x, i, R, m, nx, ni, sd, k⟩ := h
  cases x with
  | list ds =>
    cases i with
    | int j =>
      obtain ⟨a, vs, rfl, ha, ra⟩ := nx.list m
      obtain ⟨d, hd, r⟩ := ex_at (show ex (atI ds j) R from sd)
      obtain ⟨w, hw, rw'⟩ := ra.at_ hd
      rw [ni.int] at rz
      exact ix_list value slice pins s σ H _ _ v u Q I ry rz ⟨a, vs, j, w, rfl, rfl, SqL.of ha, hw, k w d rw' r⟩ hs
    | _ => exact (show False from sd).elim
  | tuple ds =>
    cases i with
    | int j =>
      obtain ⟨a, vs, rfl, ha, ra, _⟩ := nx.tuple m
      obtain ⟨d, hd, r⟩ := ex_at (show ex (atI ds j) R from sd)
      obtain ⟨w, hw, rw'⟩ := ra.at_ hd
      rw [ni.int] at rz
      exact ix_tup value slice pins s σ H _ _ v u Q I ry rz ⟨a, vs, j, w, rfl, rfl, ha, hw, k w d rw' r⟩ hs
    | _ => exact (show False from sd).elim
  | str y =>
    cases i with
    | int j =>
      obtain ⟨z, sd⟩ := (show y.length ≤ sizeLine ∧ ex (atI y.cps.toList j) fun c => R (.str ⟨#[c]⟩) from sd)
      obtain ⟨d, hd, r⟩ := ex_at sd
      rw [nx.str] at ry
      rw [ni.int] at rz
      exact ix_str value slice pins s σ H _ _ v u Q I ry rz ⟨y, j, d, rfl, rfl, z, hd, k _ _ (.str _) r⟩ hs
    | _ => exact (show False from sd).elim
  | dict kvs => exact (show False by cases i <;> exact sd).elim
  | none => exact (show False by cases i <;> exact sd).elim
  | bool b => exact (show False by cases i <;> exact sd).elim
  | int b => exact (show False by cases i <;> exact sd).elim
theorem je_sub (F : Fit L E0 EX X k) (ha : JE L E0 G EX X e c) (hb : JE L E0 G EX X e2 c2) (hs : noSlice e2 = true) : JE L E0 G EX X (.Subscript e e2 pos) (.sub c c2) :=
  JE.of ((pe_ix ix_data ha.b hb.b (plainIx_no hs)).weak fun σ H Q ⟨st, S, Q', I, ev, k⟩ => by
    have ev : bw c (evE G c EX) st fun x st1 => bw c2 (evE G c2 EX) st1 fun i st2 => stab c st1 st2 ∧ subD x i fun r => Q' (.d r) st2 := ev
    refine ⟨st, S, _, I, ev, fun v1 H1 st1 S1 x I1 g1 r1 q1 => ⟨st1, S1, _, I1, q1, fun v2 H2 st2 S2 i I2 g2 r2 ⟨s, q2⟩ => ?_⟩⟩
    refine ⟨S2, x, i, _, I2.sub, by rw [F.K]; exact (r1.stay g2 s).now I2, by rw [F.K]; exact r2.now I2, q2, fun w d r q => ?_⟩
    rw [F.K] at r
    obtain ⟨S3, I3, g3, r3⟩ := I2.closeV (NewV.old r)
    exact k w H2 st2 S3 _ I3 ((g1.trans g2).trans g3) (r3.from (g1.trans g2)) q) (fun _ z => by cases z)
/-! ### slices -/
theorem RpAll.cut {K : PySem.W.Frag} {vs : List V} {ds : List PyData} (r : RpAll K S vs ds) (lo hi : Option Int) : RpAll K S (cutV vs lo hi) (cutD ds lo hi) := by
  unfold cutV cutD
  rw [r.length]
  exact (r.drop _).take _
def tO (L : Lw) (E0 : En) (ev : Sl → (Option Int → Sl → Prop) → Prop) : TO := fun σ H Q => ∃ st S Q', SI L E0 st σ S H ∧ ev st Q' ∧
  ∀ o H' st' S', SI L E0 st' σ S' H' → Go L st σ S H st' S' H' → Q' o st' → Q o H'
theorem _root_.L2.PO.weak {e : Option Expr} {t t' : TO} (h : PO X e t) (i : ∀ σ H Q, t' σ H Q → t σ H Q) : PO X e t' := ⟨fun pins s σ H Q I hw => h.run pins s σ H Q I (i σ H Q hw)⟩
theorem jo_no : PO X none (tO L E0 (evO G .no EX)) := po_none.weak fun σ H Q ⟨st, S, Q', I, ev, k⟩ => k none H st S I (.refl ..) ev
theorem jo_yes (ha : JE L E0 G EX X e c) : PO X (some e) (tO L E0 (evO G (.yes c) EX)) := (po_some ha.b).weak fun σ H Q ⟨st, S, Q', I, ev, k⟩ => by
  have ev : bw c (evE G c EX) st fun x st1 => asI x fun i => Q' (some i) st1 := ev
  refine ⟨st, S, _, I, ev, fun v1 H1 st1 S1 x I1 g1 r1 q1 => ?_⟩
  obtain ⟨i, rfl, q⟩ := asI_at q1
  exact ⟨i, (r1.now I1).int, k _ H1 st1 S1 I1 g1 q⟩
def rSlc (K : PySem.W.Frag) : V → Option Int → Option Int → Hp → VK → Prop := fun y lo hi H Q => ∃ S x R, Mono S H ∧ Now K S H y x ∧ slcD x lo hi R ∧ ∀ v H' vl, NewV K S H v H' vl → R vl → Q v H'
theorem sl_data : SlR X (rSlc X.K) := by
  intro pins s σ H y v vl vu lo hi sl Q I ry hs pl pu h
  obtain ⟨S, x, R, m, nx, sd, k⟩ := h
  cases x with
  | list ds =>
    obtain ⟨a, vs, rfl, ha, ra⟩ := nx.list m
    exact sl_list pins s σ H _ v vl vu lo hi sl Q I ry hs pl pu ⟨a, vs, rfl, SqL.of ha, fun p hp => k _ _ _ (.lst hp (ra.cut lo hi)) sd⟩
  | tuple ds =>
    obtain ⟨a, vs, rfl, ha, ra, hr⟩ := nx.tuple m
    refine sl_tupA pins s σ H _ v vl vu lo hi sl Q I ry hs pl pu ⟨a, vs, rfl, ha, fun hw => k _ _ _ (.old ?_) sd, fun _ p hp => k _ _ _ (.tup hp (ra.cut lo hi)) sd⟩
    have e : cutD ds lo hi = ds := by
      rw [ra.length] at hw
      unfold cutD
      rw [hw.1, hw.2, List.drop_zero, Nat.sub_zero, List.take_length]
    rw [e]
    exact hr
  | str z =>
    rw [nx.str] at ry
    obtain ⟨hz, sd⟩ := (show _ ∧ _ from sd)
    exact sl_str pins s σ H _ v vl vu lo hi sl Q I ry hs pl pu ⟨z, rfl, hz, k _ _ _ (.str _) sd⟩
  | none => exact (show False from sd).elim
  | bool b => exact (show False from sd).elim
  | int b => exact (show False from sd).elim
  | dict b => exact (show False from sd).elim
theorem je_slice (F : Fit L E0 EX X k) {lo hi : Option Expr} {co ci : CO} {p2 : Pos} (ha : JE L E0 G EX X e c) (hl : PO X lo (tO L E0 (evO G co EX))) (hh : PO X hi (tO L E0 (evO G ci EX))) :
    JE L E0 G EX X (.Subscript e (.Slice lo hi none p2) pos) (.slice c co ci) :=
  JE.of ((pe_slice sl_data ha.b hl hh).weak fun σ H Q ⟨st, S, Q', I, ev, k⟩ => by
    have ev : bw c (evE G c EX) st fun x st1 => evO G co EX st1 fun l st2 => evO G ci EX st2 fun u st3 => stab c st1 st3 ∧ slcD x l u fun vl => Q' vl st3 := ev
    refine ⟨st, S, _, I, ev, fun v1 H1 st1 S1 x I1 g1 r1 q1 => ⟨st1, S1, _, I1, q1, fun l H2 st2 S2 I2 g2 q2 => ⟨st2, S2, _, I2, q2, fun u H3 st3 S3 I3 g3 ⟨s, q3⟩ => ?_⟩⟩⟩
    refine ⟨S3, x, _, I3.sub, by rw [F.K]; exact (r1.stay (g2.trans g3) s).now I3, q3, fun w H4 vl n q => ?_⟩
    rw [F.K] at n
    obtain ⟨S4, I4, g4, r4⟩ := I3.closeV n
    exact k w H4 st3 S4 _ I4 (((g1.trans g2).trans g3).trans g4) (r4.from ((g1.trans g2).trans g3)) q) (fun _ z => by cases z)
theorem asLs_at {Q : List PyData → Prop} (h : asLs x Q) : ∃ ds, x = .list ds ∧ Q ds := by
  cases x <;> first | exact h.elim | exact ⟨_, rfl, h⟩
theorem je_rev (F : Fit L E0 EX X k) {j : Nat} {p1 p2 p3 : Pos} (ha : JE L E0 G EX X e c) : JE L E0 G EX X (.Subscript e (.Slice none none (some (.UnaryOp .USub (.Constant (.int 1) j p1) p2)) p3) pos) (.rev c) :=
  JE.of ((pe_revL ha.b).weak fun σ H Q ⟨st, S, Q', I, ev, k⟩ => by
    have ev : bw c (evE G c EX) st fun x st1 => asLs x fun ds => Q' (.own (.list ds.reverse)) st1 := ev
    refine ⟨st, S, _, I, ev, fun v1 H1 st1 S1 x I1 g1 r1 q1 => ?_⟩
    obtain ⟨ds, rfl, q⟩ := asLs_at q1
    obtain ⟨a, vs, rfl, ha, ra⟩ := (r1.now I1).list I1.sub
    refine ⟨a, vs, rfl, SqL.of ha, fun p hp => ?_⟩
    obtain ⟨S4, I4, g4, r4⟩ := I1.closeV (NewV.lst hp ra.reverse)
    exact k _ _ st1 S4 _ I4 (g1.trans g4) (r4.from g1) q) (fun _ z => by cases z)
end
end PX
end L2
/-! isinstance, built-ins. -/
namespace L2
namespace PX
open PySem PySem.Spec PyProof.Rows
section
variable {L : Lw} {E0 : En} {G : Gm} {EX : Exn → Prop} {X : Cx} {k : Nat} {c c2 c3 : CE} {e e2 e3 : Expr} {st st' st1 st2 : Sl} {σ : L2.St} {S S' S1 S2 H H' H1 H2 : Hp} {v : V} {x : PyData} {vl : Vl} {pos : Pos}
theorem star_no {es : List Expr} {env : Env} {p : Pos} (h : es.all noStar = true) : (backTo p (starEach es env)).any (·.1) = false := by
  induction es with
  | nil => rfl
  | cons e r ih =>
    rw [List.all_cons, Bool.and_eq_true] at h
    rw [starEach_no h.1]
    have := ih h.2
    simp only [backTo, List.map_cons, List.any_cons, Bool.false_or] at this ⊢
    exact this
/-- the type's name -/
def tyN : PyData → String
  | .none => "NoneType"
  | .bool _ => "bool"
  | .int _ => "int"
  | .str _ => "str"
  | .list _ => "list"
  | .tuple _ => "tuple"
  | .dict _ => "dict"
theorem Now.tyX {K : PySem.W.Frag} (h : Now K S H v x) (m : Mono S H) (nd : ndP x) : TyX K H v (.type (tyN x)) := by
  cases x with
  | none => rw [h.none]; exact .base .non
  | bool b => rw [h.bool]; exact .base (.bl b)
  | int b => rw [h.int]; exact .base (.int b)
  | str b => rw [h.str]; exact .base (.str b)
  | list ds =>
    obtain ⟨a, vs, rfl, ha, _⟩ := h.list m
    exact .base (.lst ha)
  | tuple ds =>
    obtain ⟨a, vs, rfl, ha, _⟩ := h.tuple m
    rcases ha with (ha | ⟨o, ha⟩) | ⟨o, its, n, hk, hc, _⟩
    · exact .base (.tup ha)
    · exact .fTuple ha
    · exact .kTuple hk hc
  | dict kvs => exact (show False from nd).elim
def kiN : Ki → String
  | .int => "int"
  | .bool => "bool"
  | .str => "str"
  | .list => "list"
  | .tuple => "tuple"
  | .dict => "dict"
  | .row => "list"
theorem kit_data (ki : Ki) (hk : ki ≠ .row) (x : PyData) : kitB (tyN x) (kiN ki) = some (kiD ki x) := by
  cases x <;> cases ki <;> first
    | exact absurd rfl hk
    | (dsimp only [tyN, kiN, kiD, PyData.isInt, PyData.isBool, PyData.isStr, PyData.isList, PyData.isTuple, PyData.isDict]; decide +kernel)
theorem kiN_boot (ki : Ki) : bootBuiltins (kiN ki) = some (.type (kiN ki)) := by cases ki <;> decide +kernel
theorem kiN_ne (ki : Ki) : ((kiN ki : String) : Str) ≠ "__name__" := by cases ki <;> decide
theorem kiN_db (ki : Ki) : (((kiN ki : String) : Str) == ("__debug__" : Str)) = false := by cases ki <;> decide
theorem je_isi (F : Fit L E0 EX X k) {ki : Ki} {p1 p2 : Pos} (ha : JE L E0 G EX X e c) (hk : ki ≠ .row) (hs : noStar e = true) (hg : Gl X "isinstance") (hm : X.mg "isinstance" = none) (hg2 : Gl X (kiN ki)) (hm2 : X.mg (kiN ki) = none) :
    JE L E0 G EX X (.Call (.Name "isinstance" p1) [e, .Name (kiN ki) p2] [] pos) (.isi c ki) :=
  JE.of ((pe_callB call_isi hg hm boot_isinstance (pa_cons ha.b (pa_cons (pe_bltn hg2 hm2 (kiN_boot ki) (v := .ty (kiN ki)) rfl (kiN_ne ki) (kiN_db ki)) pa_nil) (starEach_no hs)) (by decide) (by decide) (starEach_no hs)).weak fun σ H Q ⟨st, S, Q', I, ev, k⟩ => by
    have ev : bw c (evE G c EX) st fun x st1 => ndP x ∧ Q' (.d (.bool (kiD ki x))) st1 := ev
    refine ⟨st, S, _, I, ev, fun v1 H1 st1 S1 x I1 g1 r1 ⟨nd, q1⟩ => ?_⟩
    refine ⟨v1, .ty (kiN ki), .type (tyN x), _, kiD ki x, rfl, .ty _, ?_, kit_ty (kit_data ki hk x), k _ _ st1 S1 _ I1 g1 (.d (.bl _)) q1⟩
    rw [F.K]
    exact (r1.now I1).tyX I1.sub nd) (fun _ z => by cases z)
theorem kit_row (x : PyData) (K : PySem.W.Frag) : PySem.W.kitAny K (.type (tyN x)) [.type "list", .type "tuple"] = some (x.isList || x.isTuple) ∧ PySem.W.kitAny K (.type (tyN x)) [.type "tuple", .type "list"] = some (x.isList || x.isTuple) := by
  have h1 := kit_ty (K := K) (kit_data .list (fun z => by cases z) x)
  have h2 := kit_ty (K := K) (kit_data .tuple (fun z => by cases z) x)
  constructor
  · refine kitAny_cons h1 (fun e1 => kitAny_cons h2 (fun e2 => ?_) fun e2 => ?_) fun e1 => ?_
    · have e1 : x.isList = false := e1
      have e2 : x.isTuple = false := e2
      rw [e1, e2]; rfl
    · have e2 : x.isTuple = true := e2
      rw [e2, Bool.or_true]
    · have e1 : x.isList = true := e1
      rw [e1, Bool.true_or]
  · refine kitAny_cons h2 (fun e1 => kitAny_cons h1 (fun e2 => ?_) fun e2 => ?_) fun e1 => ?_
    · have e1 : x.isTuple = false := e1
      have e2 : x.isList = false := e2
      rw [e1, e2]; rfl
    · have e2 : x.isList = true := e2
      rw [e2, Bool.true_or]
    · have e1 : x.isTuple = true := e1
      rw [e1, Bool.or_true]
/-- isinstance(e, (list, tuple)), in either order -/
theorem je_isiT (F : Fit L E0 EX X k) {a b : Ki} {p1 p2 p3 p4 : Pos} {j} (ha : JE L E0 G EX X e c) (hab : (a = .list ∧ b = .tuple) ∨ (a = .tuple ∧ b = .list)) (hs : noStar e = true) (hg : Gl X "isinstance") (hm : X.mg "isinstance" = none)
    (hg2 : Gl X (kiN a)) (hm2 : X.mg (kiN a) = none) (hg3 : Gl X (kiN b)) (hm3 : X.mg (kiN b) = none) :
    JE L E0 G EX X (.Call (.Name "isinstance" p1) [e, .Tuple [.Name (kiN a) p2, .Name (kiN b) p3] j p4] [] pos) (.isi c .row) :=
  JE.of ((pe_callB call_isiT hg hm boot_isinstance (pa_cons ha.b (pa_cons (pe_tup (pa_cons (pe_bltn hg2 hm2 (kiN_boot a) (v := .ty (kiN a)) rfl (kiN_ne a) (kiN_db a)) (pa_cons (pe_bltn hg3 hm3 (kiN_boot b) (v := .ty (kiN b)) rfl (kiN_ne b) (kiN_db b)) pa_nil))) pa_nil) (starEach_no hs)) (by decide) (by decide) (starEach_no hs)).weak fun σ H Q ⟨st, S, Q', I, ev, k⟩ => by
    have ev : bw c (evE G c EX) st fun x st1 => ndP x ∧ Q' (.d (.bool (kiD .row x))) st1 := ev
    refine ⟨st, S, _, I, ev, fun v1 H1 st1 S1 x I1 g1 r1 ⟨nd, q1⟩ => ?_⟩
    refine ⟨by show 2 ≤ sizeLine; decide, fun p hp => ?_⟩
    have I2 := I1.laid (o := .tup [.ty (kiN a), .ty (kiN b)]) hp
    refine ⟨v1, p, [.ty (kiN a), .ty (kiN b)], .type (tyN x), [.type (kiN a), .type (kiN b)], kiD .row x, rfl, upd_same, .cons (.ty _) (.cons (.ty _) .nil), ?_, ?_, k _ _ st1 S1 _ I2 (g1.trans (Go.laid hp)) (.d (.bl _)) q1⟩
    · rw [F.K]
      exact ((r1.stay (Go.laid hp) (by cases c <;> first | trivial | rfl)).now I2).tyX I2.sub nd
    · rcases hab with ⟨rfl, rfl⟩ | ⟨rfl, rfl⟩
      · exact (kit_row x _).1
      · exact (kit_row x _).2) (fun _ z => by cases z)
/-! ### built-ins -/
theorem Nows.one {K : PySem.W.Frag} {vs : List V} {x : PyData} (h : Nows K S H vs [x]) : ∃ v, vs = [v] ∧ Now K S H v x := by
  cases h with | cons a r => cases r; exact ⟨_, rfl, a⟩
theorem Nows.two {K : PySem.W.Frag} {vs : List V} {x y : PyData} (h : Nows K S H vs [x, y]) : ∃ v w, vs = [v, w] ∧ Now K S H v x ∧ Now K S H w y := by
  cases h with | cons a r => cases r with | cons b r => cases r; exact ⟨_, _, rfl, a, b⟩
/-- by values -/
def rBlt (K : PySem.W.Frag) (f : Bf) : List V → Hp → VK → Prop := fun vs H Q => ∃ S xs R, Mono S H ∧ Nows K S H vs xs ∧ bltD f xs R ∧ ∀ v H' vl, NewV K S H v H' vl → R vl → Q v H'
/-- one argument -/
theorem rBlt_one {K : PySem.W.Frag} {f : Bf} {vs : List V} {Q : VK} (h : rBlt K f vs H Q) (h0 : ∀ R, bltD f [] R = False) (h2 : ∀ x y r R, bltD f (x :: y :: r) R = False) :
    ∃ S v x R, vs = [v] ∧ Mono S H ∧ Now K S H v x ∧ bltD f [x] R ∧ ∀ w H' vl, NewV K S H w H' vl → R vl → Q w H' := by
  obtain ⟨S, xs, R, m, n, b, k⟩ := h
  cases xs with
  | nil => rw [h0] at b; exact b.elim
  | cons x r =>
    cases r with
    | nil =>
      obtain ⟨v, rfl, n1⟩ := n.one
      exact ⟨S, v, x, R, rfl, m, n1, b, k⟩
    | cons y r => rw [h2] at b; exact b.elim
theorem rBlt_two {K : PySem.W.Frag} {f : Bf} {vs : List V} {Q : VK} (h : rBlt K f vs H Q) (h0 : ∀ R, bltD f [] R = False) (h1 : ∀ x R, bltD f [x] R = False) (h3 : ∀ x y z r R, bltD f (x :: y :: z :: r) R = False) :
    ∃ S v w x y R, vs = [v, w] ∧ Mono S H ∧ Now K S H v x ∧ Now K S H w y ∧ bltD f [x, y] R ∧ ∀ w H' vl, NewV K S H w H' vl → R vl → Q w H' := by
  obtain ⟨S, xs, R, m, n, b, k⟩ := h
  cases xs with
  | nil => rw [h0] at b; exact b.elim
  | cons x r =>
    cases r with
    | nil => rw [h1] at b; exact b.elim
    | cons y r =>
      cases r with
      | nil =>
        obtain ⟨v, w, rfl, n1, n2⟩ := n.two
        exact ⟨S, v, w, x, y, R, rfl, m, n1, n2, b, k⟩
      | cons z r => rw [h3] at b; exact b.elim
theorem cb_len : CallR X (.builtin "len") (rBlt X.K .len) := by
  intro pins s σ H vs us Q I r h
  obtain ⟨S, v, x, R, rfl, m, n, b, k⟩ := rBlt_one h (fun _ => rfl) (fun x _ _ _ => by cases x <;> rfl)
  cases x with
  | list ds =>
    obtain ⟨a, ws, rfl, ha, ra⟩ := n.list m
    exact call_len_seq pins s σ H _ us Q I r ⟨a, ws, rfl, .inl (SqL.of ha), by rw [ra.length]; exact k _ _ _ (.int _) b⟩
  | tuple ds =>
    obtain ⟨a, ws, rfl, ha, ra, _⟩ := n.tuple m
    exact call_len_seq pins s σ H _ us Q I r ⟨a, ws, rfl, .inr ha, by rw [ra.length]; exact k _ _ _ (.int _) b⟩
  | str z =>
    have b : z.length ≤ sizeLine ∧ R (.d (.int z.length)) := b
    rw [n.str] at r
    exact call_len_str pins s σ H _ us Q I r ⟨z, rfl, b.1, k _ _ _ (.int _) b.2⟩
  | none => exact (show False from b).elim
  | bool _ => exact (show False from b).elim
  | int _ => exact (show False from b).elim
  | dict _ => exact (show False from b).elim
theorem cb_abs : CallR X (.builtin "abs") (rBlt X.K .abs) := by
  intro pins s σ H vs us Q I r h
  obtain ⟨S, v, x, R, rfl, m, n, b, k⟩ := rBlt_one h (fun _ => rfl) (fun x _ _ _ => by cases x <;> rfl)
  cases x with
  | int i =>
    rw [n.int] at r
    exact call_abs pins s σ H _ us Q I r ⟨i, rfl, k _ _ _ (.int _) b⟩
  | _ => exact (show False from b).elim
theorem cb_int : CallR X (.type "int") (rBlt X.K .int) := by
  intro pins s σ H vs us Q I r h
  obtain ⟨S, v, x, R, rfl, m, n, b, k⟩ := rBlt_one h (fun _ => rfl) (fun x _ _ _ => by cases x <;> rfl)
  cases x with
  | int i =>
    rw [n.int] at r
    exact call_int1 pins s σ H _ us Q I r (.inl ⟨i, rfl, k _ _ _ (.int _) b⟩)
  | _ => exact (show False from b).elim
theorem cb_str : CallR X (.type "str") (rBlt X.K .str) := by
  intro pins s σ H vs us Q I r h
  obtain ⟨S, v, x, R, rfl, m, n, b, k⟩ := rBlt_one h (fun _ => rfl) (fun x _ _ _ => by cases x <;> rfl)
  cases x with
  | int i =>
    have b : i.natAbs.log2 < 1920 ∧ R (.d (.str (toString i))) := b
    rw [n.int] at r
    exact call_str_int pins s σ H _ us Q I r ⟨i, rfl, b.1, k _ _ _ (.str _) b.2⟩
  | _ => exact (show False from b).elim
theorem cb_min2 (hc : X.calm = true) : CallR X (.builtin "min") (rBlt X.K .min2) := by
  intro pins s σ H vs us Q I r h
  obtain ⟨S, v, w, x, y, R, rfl, m, n1, n2, b, k⟩ := rBlt_two h (fun _ => rfl) (fun x _ => by cases x <;> rfl) (fun x y _ _ _ => by cases x <;> cases y <;> rfl)
  cases x <;> cases y <;> try exact (show False from b).elim
  rw [n1.int, n2.int] at r
  exact call_min2 hc pins s σ H _ us Q I r ⟨_, _, rfl, k _ _ _ (.int _) b⟩
theorem cb_max2 (hc : X.calm = true) : CallR X (.builtin "max") (rBlt X.K .max2) := by
  intro pins s σ H vs us Q I r h
  obtain ⟨S, v, w, x, y, R, rfl, m, n1, n2, b, k⟩ := rBlt_two h (fun _ => rfl) (fun x _ => by cases x <;> rfl) (fun x y _ _ _ => by cases x <;> cases y <;> rfl)
  cases x <;> cases y <;> try exact (show False from b).elim
  rw [n1.int, n2.int] at r
  exact call_max2 hc pins s σ H _ us Q I r ⟨_, _, rfl, k _ _ _ (.int _) b⟩
theorem cb_gcd : CallR X (.builtin "math.gcd") (rBlt X.K .gcd) := by
  intro pins s σ H vs us Q I r h
  obtain ⟨S, v, w, x, y, R, rfl, m, n1, n2, b, k⟩ := rBlt_two h (fun _ => rfl) (fun x _ => by cases x <;> rfl) (fun x y _ _ _ => by cases x <;> cases y <;> rfl)
  cases x <;> cases y <;> try exact (show False from b).elim
  rw [n1.int, n2.int] at r
  exact cr_gcd pins s σ H _ us Q I r ⟨_, _, rfl, k _ _ _ (.int _) b⟩
theorem intsD_of {K : PySem.W.Frag} : ∀ {ds : List PyData} {ns : List Int} {vs : List V}, intsD ds = some ns → RpAll K S vs ds → vs = ns.map V.int
  | [], ns, _, h, .nil => by cases h; rfl
  | .int i :: r, ns, _, h, .cons a q => by
    cases e : intsD r with
    | none => rw [intsD, e] at h; cases h
    | some ms =>
      rw [intsD, e] at h
      cases h
      cases a
      rw [intsD_of e q]; rfl
  | .none :: r, _, _, h, _ => by cases h
  | .bool _ :: r, _, _, h, _ => by cases h
  | .str _ :: r, _, _, h, _ => by cases h
  | .list _ :: r, _, _, h, _ => by cases h
  | .tuple _ :: r, _, _, h, _ => by cases h
  | .dict _ :: r, _, _, h, _ => by cases h
theorem boolsD_of {K : PySem.W.Frag} : ∀ {ds : List PyData} {ns : List Bool} {vs : List V}, boolsD ds = some ns → RpAll K S vs ds → vs = ns.map V.bl
  | [], ns, _, h, .nil => by cases h; rfl
  | .bool i :: r, ns, _, h, .cons a q => by
    cases e : boolsD r with
    | none => rw [boolsD, e] at h; cases h
    | some ms =>
      rw [boolsD, e] at h
      cases h
      cases a
      rw [boolsD_of e q]; rfl
  | .none :: r, _, _, h, _ => by cases h
  | .int _ :: r, _, _, h, _ => by cases h
  | .str _ :: r, _, _, h, _ => by cases h
  | .list _ :: r, _, _, h, _ => by cases h
  | .tuple _ :: r, _, _, h, _ => by cases h
  | .dict _ :: r, _, _, h, _ => by cases h
theorem cb_sum (hc : X.calm = true) : CallR X (.builtin "sum") (rBlt X.K .sum) := by
  intro pins s σ H vs us Q I r h
  obtain ⟨S, v, x, R, rfl, m, n, b, k⟩ := rBlt_one h (fun _ => rfl) (fun x _ _ _ => by cases x <;> rfl)
  cases x with
  | list ds =>
    obtain ⟨a, ws, rfl, ha, ra⟩ := n.list m
    obtain ⟨ns, e, b⟩ := ex_at (show ex (intsD ds) fun ns => R (.d (.int ns.sum)) from b)
    rw [intsD_of e ra] at ha
    exact cr_sum hc pins s σ H _ us Q I r ⟨a, ns, rfl, SqL.of ha, k _ _ _ (.int _) b⟩
  | tuple ds =>
    obtain ⟨a, ws, rfl, ha, ra, _⟩ := n.tuple m
    obtain ⟨ns, e, b⟩ := ex_at (show ex (intsD ds) fun ns => R (.d (.int ns.sum)) from b)
    rw [intsD_of e ra] at ha
    obtain ⟨its, rv, hl, _⟩ := I.tuple ha
    rw [Vals.ref1 r]
    have hi := rv.ints
    obtain ⟨xs, hx⟩ := hi.allInts.items
    have hn : numsOf (intItems xs).toList = ns := by rw [← hx]; exact hi.numsOf
    rw [nums_intItems] at hn
    have hl : s.heap.IsTuple a its.toArray := hl
    rw [hx] at hl
    refine PySem.W.ktm_sumG (I.ok.hd hc) hl fun h' tk t' hk => ?_
    rw [preSum_eq, List.take_of_length_le (by simp), hn]
    exact ⟨.int _, H, I.kept hk, ⟨_, rfl⟩, k _ _ _ (.int _) b⟩
  | _ => exact (show False from b).elim
theorem cb_all (hc : X.calm = true) : CallR X (.builtin "all") (rBlt X.K .all) := by
  intro pins s σ H vs us Q I r h
  obtain ⟨S, v, x, R, rfl, m, n, b, k⟩ := rBlt_one h (fun _ => rfl) (fun x _ _ _ => by cases x <;> rfl)
  cases x with
  | list ds =>
    obtain ⟨a, ws, rfl, ha, ra⟩ := n.list m
    obtain ⟨ns, e, b⟩ := ex_at (show ex (boolsD ds) fun bs => R (.d (.bool (bs.all id))) from b)
    rw [boolsD_of e ra] at ha
    exact cr_all hc pins s σ H _ us Q I r ⟨a, ns, rfl, SqL.of ha, k _ _ _ (.bool _) b⟩
  | _ => exact (show False from b).elim
theorem cb_any (hc : X.calm = true) : CallR X (.builtin "any") (rBlt X.K .any) := by
  intro pins s σ H vs us Q I r h
  obtain ⟨S, v, x, R, rfl, m, n, b, k⟩ := rBlt_one h (fun _ => rfl) (fun x _ _ _ => by cases x <;> rfl)
  cases x with
  | list ds =>
    obtain ⟨a, ws, rfl, ha, ra⟩ := n.list m
    obtain ⟨ns, e, b⟩ := ex_at (show ex (boolsD ds) fun bs => R (.d (.bool (bs.any id))) from b)
    rw [boolsD_of e ra] at ha
    exact cr_any hc pins s σ H _ us Q I r ⟨a, ns, rfl, SqL.of ha, k _ _ _ (.bool _) b⟩
  | _ => exact (show False from b).elim
theorem cb_list : CallR X (.type "list") (rBlt X.K .list) := by
  intro pins s σ H vs us Q I r h
  obtain ⟨S, v, x, R, rfl, m, n, b, k⟩ := rBlt_one h (fun _ => rfl) (fun x _ _ _ => by cases x <;> rfl)
  cases x with
  | list ds =>
    obtain ⟨a, ws, rfl, ha, ra⟩ := n.list m
    exact call_list_of pins s σ H _ us Q I r ⟨a, ws, rfl, .inl (SqL.of ha), fun l hl => k _ _ _ (.lst hl ra) b⟩
  | tuple ds =>
    obtain ⟨a, ws, rfl, ha, ra, _⟩ := n.tuple m
    exact call_list_of pins s σ H _ us Q I r ⟨a, ws, rfl, .inr ha, fun l hl => k _ _ _ (.lst hl ra) b⟩
  | _ => exact (show False from b).elim
theorem cb_tuple : CallR X (.type "tuple") (rBlt X.K .tuple) := by
  intro pins s σ H vs us Q I r h
  obtain ⟨S, v, x, R, rfl, m, n, b, k⟩ := rBlt_one h (fun _ => rfl) (fun x _ _ _ => by cases x <;> rfl)
  cases x with
  | list ds =>
    obtain ⟨a, ws, rfl, ha, ra⟩ := n.list m
    exact call_tuple_of pins s σ H _ us Q I r ⟨a, ws, rfl, .inl ⟨SqL.of ha, fun l hl => k _ _ _ (.tup hl ra) b⟩⟩
  | tuple ds =>
    obtain ⟨a, ws, rfl, ha, ra, hr⟩ := n.tuple m
    exact call_tuple_of pins s σ H _ us Q I r ⟨a, ws, rfl, .inr ⟨ha, k _ _ _ (.old hr) b⟩⟩
  | _ => exact (show False from b).elim
end
end PX
end L2
/-! min, max, sorted, repr; calls of built-ins. -/
namespace L2
namespace PX
open PySem PySem.Spec PyProof.Rows
section
variable {L : Lw} {E0 : En} {G : Gm} {EX : Exn → Prop} {X : Cx} {k : Nat} {c c2 c3 : CE} {e e2 e3 : Expr} {st st' st1 st2 : Sl} {σ : L2.St} {S S' S1 S2 H H' H1 H2 : Hp} {v : V} {x : PyData} {vl : Vl} {pos : Pos}
theorem Vals.get' {xs : List V} {us : List Value} {i : Nat} {u : Value} (r : Vals xs us) (h : us[i]? = some u) : ∃ x, xs[i]? = some x ∧ RelV x u := by
  have hl := r.length
  have hi : i < us.length := (List.getElem?_eq_some_iff.mp h).1
  have hx : xs[i]? = some xs[i] := List.getElem?_eq_getElem (by omega)
  obtain ⟨w, h1, h2⟩ := r.get hx
  rw [h] at h1; cases h1
  exact ⟨_, hx, h2⟩
theorem plainAll_get : ∀ {ds : List PyData} {i : Nat} {d : PyData}, PyData.plainAll ds = true → ds[i]? = some d → d.plain = true
  | [], _, _, _, h => by simp at h
  | x :: r, 0, _, p, h => by
    simp at h; subst h
    rw [PyData.plainAll, Bool.and_eq_true] at p
    exact p.1
  | x :: r, i + 1, d, p, h => by
    rw [PyData.plainAll, Bool.and_eq_true] at p
    exact plainAll_get p.2 (by simpa using h)
/-- an item of a list, told by its data -/
theorem mm_item {pins : List (Addr × Obj)} {s : Shared} {vs : List V} {ds : List PyData} {us : List Value} {i : Nat} {u : Value} {m : PyData} {bs : List Addr} {h' : Heap} (I : Inv X pins σ H s) (mm : Mono S H) (ra : RpAll X.K S vs ds) (rv : Vals vs us) (p : PyData.plainAll ds = true)
    (hu : us[i]? = some u) (hk : ∀ b o, s.heap.get? b = some o → h'.get? b = some o) (hr : Reads h' u m bs) : ∃ w, RelV w u ∧ Rp X.K S w m := by
  obtain ⟨w, h1, h2⟩ := Vals.get' rv hu
  obtain ⟨d, h3, h4⟩ := ra.get' h1
  have pd := plainAll_get p h3
  obtain ⟨as, r⟩ := Rp.reads I d w u (h4.mono mm) h2 pd
  have e := PySem.SeqAt.plain_unique d m u _ _ pd (PySem.W.reads_keeps hk r) hr
  subst e
  exact ⟨w, h2, h4⟩
theorem okD_all {ds : List PyData} (h : okD (.list ds)) : PyData.plainAll ds = true ∧ PyData.depthAll ds ≤ 19 := by
  obtain ⟨h1, h2⟩ := h
  refine ⟨by simpa [PyData.plain] using h1, ?_⟩
  have : PyData.depthAll ds + 1 ≤ 20 := by simpa [PyData.depth] using h2
  omega
/-- what min, max find -/
theorem mm_fin {pins : List (Addr × Obj)} {s : Shared} {vs : List V} {ds : List PyData} {us : List Value} {Q : VK} {R : Vl → Prop} {m : PyData} (I : Inv X pins σ H s) (mm : Mono S H) (ra : RpAll X.K S vs ds) (rv : Vals vs us) (p : PyData.plainAll ds = true)
    (b : R (.d m)) (kk : ∀ v H' vl, NewV X.K S H v H' vl → R vl → Q v H') {i : Nat} {u : Value} {h' : Heap} {tk : Nat} {bs : List Addr} (hu : us.toArray[i]? = some u) (hr : Reads h' u m bs) (hk : ∀ b o, s.heap.get? b = some o → h'.get? b = some o) :
    EP X pins σ Q u { s with heap := h', toks := tk } := by
  obtain ⟨w, h1, h2⟩ := mm_item I mm ra rv p (i := i) (by simpa using hu) hk hr
  exact ⟨w, H, I.kept hk, h1, kk _ _ _ (.old h2) b⟩
theorem cb_min1 (hc : X.calm = true) (r : Room k X.A) : CallR X (.builtin "min") (rBlt X.K .min1) := by
  intro pins s σ H vs us Q I rv h
  obtain ⟨S, v, x, R, rfl, m, n, b, kk⟩ := rBlt_one h (fun _ => rfl) (fun x _ _ _ => match x with | .none => rfl | .bool _ => rfl | .int _ => rfl | .str _ => rfl | .list [] => rfl | .list (_ :: _) => rfl | .tuple [] => rfl | .tuple (_ :: _) => rfl | .dict _ => rfl)
  have hu := r.units
  cases x with
  | list ds =>
    cases ds with
    | nil => exact (show False from b).elim
    | cons d ds =>
      obtain ⟨a, ws, rfl, ha, ra⟩ := n.list m
      obtain ⟨ok, al, b⟩ := (show _ ∧ _ ∧ _ from b)
      obtain ⟨p, dp⟩ := okD_all ok
      obtain ⟨its, rw', pl, hz⟩ := I.list (SqL.of ha)
      obtain ⟨as, rr⟩ := RpAll.reads I _ _ _ (ra.mono m) rw' p
      rw [Vals.ref1 rv]
      exact PySem.W.min_list_data (I.ok.hd hc) pl.isList (by simpa using rr) al (by omega) fun i u h' tk bs hi hr hk => mm_fin I m ra rw' p b kk hi hr hk
  | tuple ds =>
    cases ds with
    | nil => exact (show False from b).elim
    | cons d ds =>
      obtain ⟨a, ws, rfl, ha, ra, _⟩ := n.tuple m
      obtain ⟨ok, al, b⟩ := (show _ ∧ _ ∧ _ from b)
      obtain ⟨p, dp⟩ := okD_all ok
      obtain ⟨its, rw', pl, hz⟩ := I.tuple ha
      obtain ⟨as, rr⟩ := RpAll.reads I _ _ _ (ra.mono m) rw' p
      rw [Vals.ref1 rv]
      exact PySem.W.min_tuple_data (I.ok.hd hc) (show s.heap.IsTuple a its.toArray from pl) (by simpa using rr) al (by omega) fun i u h' tk bs hi hr hk => mm_fin I m ra rw' p b kk hi hr hk
  | none => exact (show False from b).elim
  | bool _ => exact (show False from b).elim
  | int _ => exact (show False from b).elim
  | str _ => exact (show False from b).elim
  | dict _ => exact (show False from b).elim
theorem cb_max1 (hc : X.calm = true) (r : Room k X.A) : CallR X (.builtin "max") (rBlt X.K .max1) := by
  intro pins s σ H vs us Q I rv h
  obtain ⟨S, v, x, R, rfl, m, n, b, kk⟩ := rBlt_one h (fun _ => rfl) (fun x _ _ _ => match x with | .none => rfl | .bool _ => rfl | .int _ => rfl | .str _ => rfl | .list [] => rfl | .list (_ :: _) => rfl | .tuple [] => rfl | .tuple (_ :: _) => rfl | .dict _ => rfl)
  have hu := r.units
  cases x with
  | list ds =>
    cases ds with
    | nil => exact (show False from b).elim
    | cons d ds =>
      obtain ⟨a, ws, rfl, ha, ra⟩ := n.list m
      obtain ⟨ok, al, b⟩ := (show _ ∧ _ ∧ _ from b)
      obtain ⟨p, dp⟩ := okD_all ok
      obtain ⟨its, rw', pl, hz⟩ := I.list (SqL.of ha)
      obtain ⟨as, rr⟩ := RpAll.reads I _ _ _ (ra.mono m) rw' p
      rw [Vals.ref1 rv]
      exact PySem.W.max_list_data (I.ok.hd hc) pl.isList (by simpa using rr) al (by omega) fun i u h' tk bs hi hr hk => mm_fin I m ra rw' p b kk hi hr hk
  | tuple ds =>
    cases ds with
    | nil => exact (show False from b).elim
    | cons d ds =>
      obtain ⟨a, ws, rfl, ha, ra, _⟩ := n.tuple m
      obtain ⟨ok, al, b⟩ := (show _ ∧ _ ∧ _ from b)
      obtain ⟨p, dp⟩ := okD_all ok
      obtain ⟨its, rw', pl, hz⟩ := I.tuple ha
      obtain ⟨as, rr⟩ := RpAll.reads I _ _ _ (ra.mono m) rw' p
      rw [Vals.ref1 rv]
      exact PySem.W.max_tuple_data (I.ok.hd hc) (show s.heap.IsTuple a its.toArray from pl) (by simpa using rr) al (by omega) fun i u h' tk bs hi hr hk => mm_fin I m ra rw' p b kk hi hr hk
  | none => exact (show False from b).elim
  | bool _ => exact (show False from b).elim
  | int _ => exact (show False from b).elim
  | str _ => exact (show False from b).elim
  | dict _ => exact (show False from b).elim
/-- with default -/
def rMmD (K : PySem.W.Frag) (f : Bf) : List V → List V → Hp → VK → Prop := fun vs zs H Q => ∃ S x d v w R, vs = [v] ∧ zs = [w] ∧ Mono S H ∧ Now K S H v x ∧ Rp K S w d ∧ bltD f [x, d] R ∧ ∀ v H' vl, NewV K S H v H' vl → R vl → Q v H'
theorem ck_min (hc : X.calm = true) (r : Room k X.A) : CallRK X (.builtin "min") [(Str.ofString "default")] (rMmD X.K .minD) := by
  intro pins s σ H vs zs us ws Q I rv rz h
  obtain ⟨S, x, d, v, w, R, rfl, rfl, m, n, rd, b, kk⟩ := h
  have hu := r.units
  obtain ⟨w', rfl, rw1⟩ := vals1 rz
  cases x with
  | list ds =>
    obtain ⟨a, xs, rfl, ha, ra⟩ := n.list m
    obtain ⟨its, rw', pl, hz⟩ := I.list (SqL.of ha)
    rw [Vals.ref1 rv]
    cases ds with
    | nil =>
      have rr : RpAll X.K H xs [] := ra.mono m
      obtain ⟨as, rr⟩ := RpAll.reads I _ _ _ rr rw' rfl
      exact PySem.W.min_list_default (I.ok.hd hc) pl.isList (xs := []) (by simpa using rr) ⟨(fun _ hx => by cases hx), fun _ hx => by cases hx⟩ (by have : PyData.depthAll [] = 0 := rfl; omega) (fun _ h' tk hk => ⟨w, H, I.kept hk, rw1, kk _ _ _ (.old rd) b⟩) fun y ys _ _ _ _ _ e => by cases e
    | cons y ys =>
      obtain ⟨ok, al, b⟩ := (show _ ∧ _ ∧ _ from b)
      obtain ⟨p, dp⟩ := okD_all ok
      obtain ⟨as, rr⟩ := RpAll.reads I _ _ _ (ra.mono m) rw' p
      exact PySem.W.min_list_default (I.ok.hd hc) pl.isList (xs := y :: ys) (by simpa using rr) al (by omega) (fun e => by cases e) fun y' ys' i u h' tk bs e hi hr hk => by cases e; exact mm_fin I m ra rw' p b kk hi hr hk
  | none => exact (show False by cases d <;> exact b).elim
  | bool _ => exact (show False by cases d <;> exact b).elim
  | int _ => exact (show False by cases d <;> exact b).elim
  | str _ => exact (show False by cases d <;> exact b).elim
  | tuple ds =>
    obtain ⟨a, xs, rfl, ha, ra, _⟩ := n.tuple m
    obtain ⟨its, rw', pl, hz⟩ := I.tuple ha
    have pl : s.heap.IsTuple a its.toArray := pl
    rw [Vals.ref1 rv]
    cases ds with
    | nil =>
      have rr : RpAll X.K H xs [] := ra.mono m
      obtain ⟨as, rr⟩ := RpAll.reads I _ _ _ rr rw' rfl
      exact PySem.W.min_tuple_default (I.ok.hd hc) pl (xs := []) (by simpa using rr) ⟨(fun _ hx => by cases hx), fun _ hx => by cases hx⟩ (by have : PyData.depthAll [] = 0 := rfl; omega) (fun _ h' tk hk => ⟨w, H, I.kept hk, rw1, kk _ _ _ (.old rd) b⟩) fun y ys _ _ _ _ _ e => by cases e
    | cons y ys =>
      obtain ⟨ok, al, b⟩ := (show _ ∧ _ ∧ _ from b)
      obtain ⟨p, dp⟩ := okD_all ok
      obtain ⟨as, rr⟩ := RpAll.reads I _ _ _ (ra.mono m) rw' p
      exact PySem.W.min_tuple_default (I.ok.hd hc) pl (xs := y :: ys) (by simpa using rr) al (by omega) (fun e => by cases e) fun y' ys' i u h' tk bs e hi hr hk => by cases e; exact mm_fin I m ra rw' p b kk hi hr hk
  | dict _ => exact (show False by cases d <;> exact b).elim
theorem ck_max (hc : X.calm = true) (r : Room k X.A) : CallRK X (.builtin "max") [(Str.ofString "default")] (rMmD X.K .maxD) := by
  intro pins s σ H vs zs us ws Q I rv rz h
  obtain ⟨S, x, d, v, w, R, rfl, rfl, m, n, rd, b, kk⟩ := h
  have hu := r.units
  obtain ⟨w', rfl, rw1⟩ := vals1 rz
  cases x with
  | list ds =>
    obtain ⟨a, xs, rfl, ha, ra⟩ := n.list m
    obtain ⟨its, rw', pl, hz⟩ := I.list (SqL.of ha)
    rw [Vals.ref1 rv]
    cases ds with
    | nil =>
      have rr : RpAll X.K H xs [] := ra.mono m
      obtain ⟨as, rr⟩ := RpAll.reads I _ _ _ rr rw' rfl
      exact PySem.W.max_list_default (I.ok.hd hc) pl.isList (xs := []) (by simpa using rr) ⟨(fun _ hx => by cases hx), fun _ hx => by cases hx⟩ (by have : PyData.depthAll [] = 0 := rfl; omega) (fun _ h' tk hk => ⟨w, H, I.kept hk, rw1, kk _ _ _ (.old rd) b⟩) fun y ys _ _ _ _ _ e => by cases e
    | cons y ys =>
      obtain ⟨ok, al, b⟩ := (show _ ∧ _ ∧ _ from b)
      obtain ⟨p, dp⟩ := okD_all ok
      obtain ⟨as, rr⟩ := RpAll.reads I _ _ _ (ra.mono m) rw' p
      exact PySem.W.max_list_default (I.ok.hd hc) pl.isList (xs := y :: ys) (by simpa using rr) al (by omega) (fun e => by cases e) fun y' ys' i u h' tk bs e hi hr hk => by cases e; exact mm_fin I m ra rw' p b kk hi hr hk
  | none => exact (show False by cases d <;> exact b).elim
  | bool _ => exact (show False by cases d <;> exact b).elim
  | int _ => exact (show False by cases d <;> exact b).elim
  | str _ => exact (show False by cases d <;> exact b).elim
  | tuple ds =>
    obtain ⟨a, xs, rfl, ha, ra, _⟩ := n.tuple m
    obtain ⟨its, rw', pl, hz⟩ := I.tuple ha
    have pl : s.heap.IsTuple a its.toArray := pl
    rw [Vals.ref1 rv]
    cases ds with
    | nil =>
      have rr : RpAll X.K H xs [] := ra.mono m
      obtain ⟨as, rr⟩ := RpAll.reads I _ _ _ rr rw' rfl
      exact PySem.W.max_tuple_default (I.ok.hd hc) pl (xs := []) (by simpa using rr) ⟨(fun _ hx => by cases hx), fun _ hx => by cases hx⟩ (by have : PyData.depthAll [] = 0 := rfl; omega) (fun _ h' tk hk => ⟨w, H, I.kept hk, rw1, kk _ _ _ (.old rd) b⟩) fun y ys _ _ _ _ _ e => by cases e
    | cons y ys =>
      obtain ⟨ok, al, b⟩ := (show _ ∧ _ ∧ _ from b)
      obtain ⟨p, dp⟩ := okD_all ok
      obtain ⟨as, rr⟩ := RpAll.reads I _ _ _ (ra.mono m) rw' p
      exact PySem.W.max_tuple_default (I.ok.hd hc) pl (xs := y :: ys) (by simpa using rr) al (by omega) (fun e => by cases e) fun y' ys' i u h' tk bs e hi hr hk => by cases e; exact mm_fin I m ra rw' p b kk hi hr hk
  | dict _ => exact (show False by cases d <;> exact b).elim
/-! ### the calls -/
/-- f(e, ..) -/
theorem je_blt1 {f : Bf} {id : String} {y : Str} {es : List Expr} {cs : CEs} {p : Pos} (F : Fit L E0 EX X k) (hc : CallR X (.builtin id) (rBlt X.K f)) (ha : PA X (e :: es) (tBs L E0 (evBs G cs EX))) (hg : Gl X y) (hm : X.mg y = none) (hv : bootBuiltins y = some (.builtin id))
    (hs : (e :: es).all noStar = true) (hn : y ≠ "__name__") (hdb : (y == ("__debug__" : Str)) = false) : JE L E0 G EX X (.Call (.Name y p) (e :: es) [] pos) (.blt f cs) :=
  JE.of ((pe_callB hc hg hm hv ha hn hdb (starEach_no (by rw [List.all_cons, Bool.and_eq_true] at hs; exact hs.1)) (star_no (by rw [List.all_cons, Bool.and_eq_true] at hs; exact hs.2))).weak fun σ H Q ⟨st, S, Q', I, ev, k⟩ => by
    have ev : evBs G cs EX st fun xs st1 => bltD f xs fun r => Q' r st1 := ev
    refine ⟨st, S, _, I, ev, fun vs H1 st1 S1 xs I1 g1 r1 q1 => ⟨S1, xs, _, I1.sub, by rw [F.K]; exact r1, q1, fun w H2 vl n q => ?_⟩⟩
    rw [F.K] at n
    obtain ⟨S2, I2, g2, r2⟩ := I1.closeV n
    exact k _ _ st1 S2 _ I2 (g1.trans g2) (r2.from g1) q) (fun _ z => by cases z)
/-- T(e, ..) -/
theorem je_bltT {f : Bf} {id : String} {y : Str} {es : List Expr} {cs : CEs} {p : Pos} (F : Fit L E0 EX X k) (hc : CallR X (.type id) (rBlt X.K f)) (ha : PA X (e :: es) (tBs L E0 (evBs G cs EX))) (hg : Gl X y) (hm : X.mg y = none) (hv : bootBuiltins y = some (.type id))
    (hs : (e :: es).all noStar = true) (hn : y ≠ "__name__") (hdb : (y == ("__debug__" : Str)) = false) : JE L E0 G EX X (.Call (.Name y p) (e :: es) [] pos) (.blt f cs) :=
  JE.of ((pe_callTy hc hg hm hv ha hn hdb (starEach_no (by rw [List.all_cons, Bool.and_eq_true] at hs; exact hs.1)) (star_no (by rw [List.all_cons, Bool.and_eq_true] at hs; exact hs.2))).weak fun σ H Q ⟨st, S, Q', I, ev, k⟩ => by
    have ev : evBs G cs EX st fun xs st1 => bltD f xs fun r => Q' r st1 := ev
    refine ⟨st, S, _, I, ev, fun vs H1 st1 S1 xs I1 g1 r1 q1 => ⟨S1, xs, _, I1.sub, by rw [F.K]; exact r1, q1, fun w H2 vl n q => ?_⟩⟩
    rw [F.K] at n
    obtain ⟨S2, I2, g2, r2⟩ := I1.closeV n
    exact k _ _ st1 S2 _ I2 (g1.trans g2) (r2.from g1) q) (fun _ z => by cases z)
/-- f(e, ..), f a name of the module for a built-in -/
theorem je_bltM {f : Bf} {id : String} {y : Str} {es : List Expr} {cs : CEs} {p : Pos} (F : Fit L E0 EX X k) (hc : CallR X (.builtin id) (rBlt X.K f)) (ha : PA X (e :: es) (tBs L E0 (evBs G cs EX))) (hg : Gl X y) (hm : X.mg y = some (.builtin id))
    (hs : (e :: es).all noStar = true) (hdb : (y == ("__debug__" : Str)) = false) : JE L E0 G EX X (.Call (.Name y p) (e :: es) [] pos) (.blt f cs) :=
  JE.of ((pe_callBfun hc hg hm ha hdb (starEach_no (by rw [List.all_cons, Bool.and_eq_true] at hs; exact hs.1)) (star_no (by rw [List.all_cons, Bool.and_eq_true] at hs; exact hs.2))).weak fun σ H Q ⟨st, S, Q', I, ev, k⟩ => by
    have ev : evBs G cs EX st fun xs st1 => bltD f xs fun r => Q' r st1 := ev
    refine ⟨st, S, _, I, ev, fun vs H1 st1 S1 xs I1 g1 r1 q1 => ⟨S1, xs, _, I1.sub, by rw [F.K]; exact r1, q1, fun w H2 vl n q => ?_⟩⟩
    rw [F.K] at n
    obtain ⟨S2, I2, g2, r2⟩ := I1.closeV n
    exact k _ _ st1 S2 _ I2 (g1.trans g2) (r2.from g1) q) (fun _ z => by cases z)
/-- min(e, default=x), x a constant -/
theorem je_bltD {f : Bf} {id : String} {y : Str} {d : PyData} {w : V} {p kp : Pos} (F : Fit L E0 EX X k) (hc : CallRK X (.builtin id) [(Str.ofString "default")] (rMmD X.K f)) (ha : JE L E0 G EX X e c) (hd : PE X e2 (tC w)) (hw : ∀ S, Rp X.K S w d) (hg : Gl X y) (hm : X.mg y = none) (hv : bootBuiltins y = some (.builtin id))
    (hs : noStar e = true) (hn : y ≠ "__name__") (hdb : (y == ("__debug__" : Str)) = false) : JE L E0 G EX X (.Call (.Name y p) [e] [⟨some "default", e2, kp⟩] pos) (.blt f (.cons false c (.cons false (.lit d) .nil))) :=
  JE.of ((pe_callBK hc hg hm hv (pa_cons ha.b pa_nil (starEach_no hs)) (pk_cons hd pk_nil) hn hdb (by rw [starEach_no hs]; rfl) (star_no (by simpa using hs))).weak fun σ H Q ⟨st, S, Q', I, ev, k⟩ => by
    have ev : bw c (evE G c EX) st fun x st1 => True ∧ (stab c st1 st1 ∧ bltD f [x, d] fun r => Q' r st1) := ev
    refine ⟨st, S, _, I, ev, fun v1 H1 st1 S1 x I1 g1 r1 ⟨_, _, q1⟩ => ⟨S1, x, d, v1, w, _, rfl, rfl, I1.sub, by rw [F.K]; exact r1.now I1, hw S1, q1, fun w H2 vl n q => ?_⟩⟩
    rw [F.K] at n
    obtain ⟨S2, I2, g2, r2⟩ := I1.closeV n
    exact k _ _ st1 S2 _ I2 (g1.trans g2) (r2.from g1) q) (fun _ z => by cases z)
end
end PX
end L2
/-! What is walked. -/
namespace PySem
open Sem (wp)
open AutoSeq1 (wpAny_loadPart')
theorem meets_enumerate_newT (l : Addr) (items : Array Value) (n : Nat) (dct : Option Addr) (sl : Array (Option Value)) :
    Meets (Builtin.«enumerate.__new__» ⟨[.type "enumerate", .ref l], []⟩) (fun _ R s => s.heap.get? l = some { cls := .type "tuple", dict := dct, data := .seq items n, slots := sl } ∧
      R (.ok (.ret (.ref (s.heap.push { cls := .type "tuple_iterator", data := .fields #[.ref l, .int 0 0] }).objs.size)))
        { s with heap := (s.heap.push { cls := .type "tuple_iterator", data := .fields #[.ref l, .int 0 0] }).push { cls := .type "enumerate", data := .fields #[.none, .bool false, .ref s.heap.objs.size, rawInt 0, .none, .none] } }) :=
  .of_wp fun prog w A R s h => by
    obtain ⟨hp, g, d, tk, os⟩ := s; obtain ⟨hl, h⟩ := h
    have hsub := sub_enumerate
    have hT : Heap.IsTuple (Shared.heap ⟨hp, g, d, tk, os⟩) l items := ⟨_, hl, rfl, n, rfl⟩
    wp_walk using wpAny_loadPart' hl
    refine wpAny_stack_any fun st => wpAny_pure ?_
    split
    · rename_i c _ _ _ _ _
      cases (c == Value.type "enumerate")
      · wp_walk using wpAny_loadPart' hl, wpAny_pyIter_tuple hT
        exact ⟨_, rfl, h⟩
      · wp_walk using wpAny_loadPart' hl, wpAny_pyIter_tuple hT
        exact ⟨_, rfl, h⟩
    · wp_walk using wpAny_loadPart' hl, wpAny_pyIter_tuple hT
      exact ⟨_, rfl, h⟩
theorem call_enumerate_tuple {prog : Program} {w : World} {A : Around} {E : Value → Shared → Prop} {s : Shared} {l : Addr} {items : Array Value} {Q : Value → Shared → Prop} (hL : s.heap.IsTuple l items)
    (h : ∀ h', IsEnum h' (s.heap.objs.size + 1) s.heap.objs.size 0 .none → h'.IsTupleIter s.heap.objs.size l 0 → h'.objs.size = s.heap.objs.size + 2 → (∀ b o, s.heap.get? b = some o → h'.get? b = some o) → Q (.ref (s.heap.objs.size + 1)) { s with heap := h' }) :
    wpAny (model prog w) A (call (.type "enumerate") [.ref l]) Q E s := by
  obtain ⟨⟨c, dct, dt, sl⟩, hl, hc, n, hd⟩ := hL
  replace hc : c = .type "tuple" := hc
  replace hd : dt = .seq items n := hd
  subst hc hd
  refine callType_new F.called_enumerate (by decide) (F.typeCall_enumerate_1 _) (F.newCall_enumerate_1 _) (fun obj => F.args_object_init_2 obj _) F.entry_enumerate_new (meets_enumerate_newT l items n dct sl) ⟨hl, ?_⟩
  have hz : (s.heap.push { cls := .type "tuple_iterator", data := .fields #[.ref l, .int 0 0] }).objs.size = s.heap.objs.size + 1 := Heap.size_push ..
  show _ ∧ _
  rw [hz]
  have he : IsEnum ((s.heap.push { cls := .type "tuple_iterator", data := .fields #[.ref l, .int 0 0] }).push
      { cls := .type "enumerate", data := .fields #[.none, .bool false, .ref s.heap.objs.size, rawInt 0, .none, .none] }) (s.heap.objs.size + 1) s.heap.objs.size 0 .none := by
    have := Heap.get?_push_size (s.heap.push { cls := .type "tuple_iterator", data := .fields #[.ref l, .int 0 0] }) (o := { cls := .type "enumerate", data := .fields #[.none, .bool false, .ref s.heap.objs.size, rawInt 0, .none, .none] }) rfl
    rw [hz] at this; exact this
  refine ⟨⟨_, he, rfl⟩, h _ he ⟨_, Heap.get?_push_of_some _ (Heap.get?_push_size _ rfl), rfl, rfl⟩ (by rw [Heap.size_push, hz]) fun b o x => Heap.get?_push_of_some _ (Heap.get?_push_of_some _ x)⟩
end PySem
namespace L2
namespace PX
open PySem PySem.Spec PyProof.Rows
/-- the tuple at a, each item in a new pair -/
def Itu (K : PySem.W.Frag) (a : Addr) : It :=
  ⟨fun i H => ∃ (xs : List V) (x : V), SqT K H a xs ∧ xs[i]? = some x, fun i H v H' => ∃ T x, v = .ref T ∧ H T = none ∧ H' = upd H T (.tup [.int (i : Nat), x]) ∧ ∀ xs, SqT K H a xs → xs[i]? = some x, fun i H => ∃ xs : List V, SqT K H a xs ∧ xs.length ≤ i⟩
theorem turn_enumT {P : Program} {w : World} {K : PySem.W.Frag} {elts : List Expr} {kk : Nat} {tpos : Pos} (a e it : Addr) :
    Turn P w K (.Tuple elts kk tpos) (Itu K a) [e, it] e (fun i h => (∃ old, IsEnum h e it ((i : Nat) : Int) old) ∧ h.IsTupleIter it a i ∧ e ≠ it) where
  mem := by simp
  obj := fun i h st b hb => by
    obtain ⟨⟨old, he⟩, ⟨o, ho, hc, hd⟩, _⟩ := st
    have e' : b = e ∨ b = it := by simpa using hb
    rcases e' with z | z
    · rw [z]; exact ⟨_, he, fun v q => nomatch q⟩
    · rw [z]; exact ⟨o, ho, fun v q => by rw [hd] at q; cases q⟩
  keep := fun i h h' st k => let ⟨⟨old, he⟩, hi, hne⟩ := st; ⟨⟨old, k e (by simp) _ he⟩, hi.at fun o q => k it (by simp) o q, hne⟩
  item := by
    intro X hP hw hK hc i pins s σ H E I hf st hg
    subst hP hw hK
    obtain ⟨⟨old, he⟩, hit, hne⟩ := st
    obtain ⟨xs, x, hq, hx⟩ := hg
    obtain ⟨its, rv, p, hz⟩ := I.tuple hq
    obtain ⟨u, hu, ru⟩ := rv.get hx
    have hel : e < s.heap.objs.size := Heap.lt_size he
    have hil : it < s.heap.objs.size := by obtain ⟨_, q, _⟩ := hit; exact Heap.lt_size q
    have nai : a ≠ it := fun z => by
      obtain ⟨o, e1, e2, _⟩ := p
      obtain ⟨o', e1', e2', _⟩ := id hit
      rw [z, e1'] at e1; cases e1
      rw [e2'] at e2
      exact absurd e2 (by decide)
    have nea : e ≠ a := fun z => by
      obtain ⟨o, e1, e2, _⟩ := p
      have he' := he
      unfold IsEnum at he'
      rw [z, e1] at he'
      cases he'
      exact absurd (show Value.type "enumerate" = .type "tuple" from e2) (by decide)
    have D := Draws.tuple (prog := X.prog) (w := X.w) (A := X.A.in1) (I.ok.hd hc) it a nai its.toArray
    have hlt : i < its.toArray.size := by
      have := (List.getElem?_eq_some_iff.mp hu).1
      simpa using this
    refine wpAny_pyNext_enum_itemD D he ⟨hit, (show s.heap.IsTuple a its.toArray from p)⟩ hlt hne (fun hm => by
      rcases List.mem_cons.mp hm with z | z
      · exact hne z
      · exact nea (List.mem_singleton.mp z)) fun y h' tk hP ho hit' hT hsz hk => ?_
    have ey : y = u := by
      have hP' : its.toArray[i]? = some y := hP
      have := hP'.symm.trans (by simpa using hu)
      exact Option.some.inj this
    subst ey
    refine ⟨_, rfl, wpAny_letOwnedTupleGo_enum (s := { s with heap := h', toks := tk + 1 }) ho fun h'' he' sb => ?_⟩
    have hT2 : h''.get? s.heap.objs.size = some { cls := .type "tuple", data := .seq #[.int i tk, y] } := (sb.2 _ (Nat.ne_of_gt hel)).trans hT
    have new : ObjOk X.prog X.w (upd H s.heap.objs.size (.tup [.int (i : Nat), x])) h'' s.heap.objs.size (.tup [.int (i : Nat), x]) :=
      ⟨by show 2 ≤ sizeLine; decide, [.int i tk, y], .cons ⟨_, rfl⟩ (.cons ru .nil), ⟨_, hT2, rfl, _, rfl⟩⟩
    have I1 : Inv X pins σ (upd H s.heap.objs.size (.tup [.int (i : Nat), x])) { s with heap := h'', toks := tk + 1 } :=
      I.turnedNew (ch := [e, it]) (fun b ob hb q => (sb.2 b (fun z => hb (by simp [z]))).trans (hk b ob (fun z => hb (by simp [z])) (fun z => hb (by simp [z])) q)) hf (Nat.le_refl _) new
    refine ⟨.ref s.heap.objs.size, _, I1, rfl, ⟨_, x, rfl, I.hok.fresh (Nat.le_refl _), rfl, fun ys hy => by rw [I.tuple_inj hy hq]; exact hx⟩, ⟨⟨y, ?_⟩, hit'.1.at fun o q => (sb.2 it (Ne.symm hne)).trans q, hne⟩, fun b hb => ?_⟩
    · have e1 : ((i + 1 : Nat) : Int) = (i : Int) + 1 := by omega
      rw [e1]; exact he'
    · have hb' : b < s.heap.objs.size := by
        have e' : b = e ∨ b = it := by simpa using hb
        rcases e' with z | z
        · rw [z]; exact hel
        · rw [z]; exact hil
      rw [upd_ne (Nat.ne_of_lt hb')]
      exact (hf b hb).1
  done := by
    intro X hP hw hK hc i pins s σ H E I hf st hg
    subst hP hw hK
    obtain ⟨⟨old, he⟩, hit, hne⟩ := st
    obtain ⟨xs, hq, hx⟩ := hg
    obtain ⟨its, rv, p, hz⟩ := I.tuple hq
    obtain ⟨f0, f1, f2, f3, f4, f5⟩ := hf it (by simp)
    have hl := rv.length
    have nai : a ≠ it := fun z => by
      obtain ⟨o, e1, e2, _⟩ := p
      obtain ⟨o', e1', e2', _⟩ := id hit
      rw [z, e1'] at e1; cases e1
      rw [e2'] at e2
      exact absurd e2 (by decide)
    have hT : s.TypeIs (.ref e) "enumerate" := ⟨_, he, rfl⟩
    unfold pyNext
    refine wpAny_bind (wpAny_attempt (wpAny_callSpecial?_slot (name := Str.ofString "__next__") hT F.slot_enumerate_next (wpAny_call_entry F.slot_enumerate_next hT F.entry_enumerate_next ?_ (F.args_enumerate_next_1 _))))
    show wpAny _ _ (field (.ref e) 2 >>= _) _ _ _
    refine wpAny_bind (wpAny_field he rfl (x := .ref it) rfl ?_)
    refine wpAny_bind (wpAny_nextOf_tuple_end (I.ok.hd hc) hit (show s.heap.IsTuple a its.toArray from p) (by simp; omega) fun h' x he' hx' => ?_)
    obtain ⟨o, ho, hcl⟩ := hx'
    refine wpAny_bind (wpAny_isInstance (T := "StopIteration") (b := true) ⟨o, ho, hcl⟩ isSubtype_stop ?_)
    exact wpAny_pure ⟨rfl, I.turned (t' := s.toks) (fun b o hb q => he' b o hb q) f0 f1 f3 f4 f5⟩
  self := fun A i s Q E st h => let ⟨⟨_, he⟩, _⟩ := st; wpAny_pyIter_enum he h
section
variable {X : Cx} {tg : Expr}
/-- a list, a tuple, a text -/
def iAny (K : PySem.W.Frag) (te : TE) : TI := fun σ H R => te σ H fun x H1 => (∃ a xs, x = .ref a ∧ SqL K H1 a xs ∧ (xs.length ≤ sizeLine → R (Itl K a) H1)) ∨ (∃ a xs, x = .ref a ∧ SqT K H1 a xs ∧ (xs.length ≤ sizeLine → R (Itt K a) H1)) ∨ ∃ z, x = .str z ∧ R (Its z) H1
theorem pi_any {l : Expr} {tl : TE} (hl : PE X l tl) : PI X tg l (iAny X.K tl) := by
  refine ⟨fun pins s σ H R I h => thn (hl.run pins s σ H _ I h) fun v s1 ⟨x, H1, I1, r1, q1⟩ => ?_⟩
  rcases q1 with ⟨a, xs, e, hq, q⟩ | ⟨a, xs, e, hq, q⟩ | ⟨z, e, q⟩
  · subst e
    cases r1
    obtain ⟨its, rv, p, hz⟩ := I1.list hq
    exact wpAny_pyIter_list p.isList (pi_one (tk := s1.toks) I1 _ (turn_list a _) ⟨_, Heap.get?_push_size _ rfl, rfl, rfl⟩ (q hz))
  · subst e
    cases r1
    obtain ⟨its, rv, p, hz⟩ := I1.tuple hq
    exact wpAny_pyIter_tuple (show s1.heap.IsTuple a its.toArray from p) (pi_one (tk := s1.toks) I1 _ (turn_tuple a _) ⟨_, Heap.get?_push_size _ rfl, rfl, rfl⟩ (q hz))
  · subst e
    obtain ⟨t, rfl⟩ := r1
    cases ha : z.cps.all (· < 128)
    · exact wpAny_pyIter_wide ha (pi_one (tk := s1.toks) I1 _ (turn_str _ z t "str_iterator" (.inr rfl)) ⟨_, Heap.get?_push_size _ rfl, rfl, rfl⟩ q)
    · exact wpAny_pyIter_ascii ha (pi_one (tk := s1.toks) I1 _ (turn_str _ z t "str_ascii_iterator" (.inl rfl)) ⟨_, Heap.get?_push_size _ rfl, rfl, rfl⟩ q)
/-- enumerate of a list, a tuple -/
def iEnumA (K : PySem.W.Frag) (ta : TA) : TI := fun σ H R => ta σ H fun vs H1 => ∃ a xs, vs = [.ref a] ∧ ((SqL K H1 a xs ∧ (xs.length ≤ sizeLine → R (Ite K a) H1)) ∨ (SqT K H1 a xs ∧ (xs.length ≤ sizeLine → R (Itu K a) H1)))
theorem pi_enumA {e : Expr} {ta : TA} {p pos tpos : Pos} {elts : List Expr} {kk : Nat} (hg : Gl X "enumerate") (hm : X.mg "enumerate" = none) (ha : PA X [e] ta) (hs : starEach [e] X.env = [(false, eval e X.env)]) :
    PI X (.Tuple elts kk tpos) (.Call (.Name "enumerate" p) [e] [] pos) (iEnumA X.K ta) := by
  refine ⟨fun pins s σ H R I h => ?_⟩
  refine Call_ (ld_blt I hg hm boot_enumerate (PyProof.Rows.callWith_type1 (thn (ha.run pos pins s σ H _ I h) fun us s1 ⟨vs, H1, I1, r1, q1⟩ => ?_) hs rfl))
  obtain ⟨a, xs, ex, q⟩ := q1
  subst ex
  have fp : ∀ b ∈ [s1.heap.objs.size + 1, s1.heap.objs.size], s1.heap.objs.size ≤ b := fun b hb => by
    have e' : b = s1.heap.objs.size + 1 ∨ b = s1.heap.objs.size := by simpa using hb
    rcases e' with z | z
    · rw [z]; exact Nat.le_add_right _ _
    · rw [z]; exact Nat.le_refl _
  cases r1 with
  | cons r rr =>
    cases rr
    cases r
    rcases q with ⟨hq, q⟩ | ⟨hq, q⟩
    · obtain ⟨its, rv, p', hz⟩ := I1.list hq
      refine call_enumerate_list p'.isList fun h' he hit hsz hk => wpAny_pyIter_enum he ?_
      exact ⟨s1.heap.objs.size + 1, [s1.heap.objs.size + 1, s1.heap.objs.size], _, _, H1, rfl, I1.kept (t' := s1.toks) hk, turn_enum a (s1.heap.objs.size + 1) s1.heap.objs.size, ⟨⟨.none, he⟩, hit, Nat.succ_ne_self _⟩, fun b hb => I1.fpOk (fp b hb) (I1.hok.fresh (fp b hb)), q hz⟩
    · obtain ⟨its, rv, p', hz⟩ := I1.tuple hq
      refine call_enumerate_tuple (show s1.heap.IsTuple a its.toArray from p') fun h' he hit hsz hk => wpAny_pyIter_enum he ?_
      exact ⟨s1.heap.objs.size + 1, [s1.heap.objs.size + 1, s1.heap.objs.size], _, _, H1, rfl, I1.kept (t' := s1.toks) hk, turn_enumT a (s1.heap.objs.size + 1) s1.heap.objs.size, ⟨⟨.none, he⟩, hit, Nat.succ_ne_self _⟩, fun b hb => I1.fpOk (fp b hb) (I1.hok.fresh (fp b hb)), q hz⟩
end
end PX
end L2
/-! Iterators on data. -/
namespace L2
namespace PX
open PySem PySem.Spec PyProof.Rows
theorem _root_.L2.PI.weak {X : Cx} {tg e : Expr} {t t' : TI} (h : PI X tg e t) (i : ∀ σ H R, t' σ H R → t σ H R) : PI X tg e t' := ⟨fun pins s σ H R I hw => h.run pins s σ H R I (i σ H R hw)⟩
/-- the iterator gives these, as long as things are Ok -/
structure WD (K : PySem.W.Frag) (Ok : Hp → Hp → Prop) (J : It) (ds : List PyData) : Prop where
  len : ds.length ≤ sizeLine
  stop : ∀ S' H', Ok S' H' → J.stop ds.length H'
  go : ∀ (i : Nat) (d : PyData) S' H', ds[i]? = some d → Ok S' H' → J.go i H' ∧ ∀ x H'', J.yld i H' x H'' → NewV K S' H' x H'' (.d d)
/-- what stays: for a loop what is shared; for a comprehension all that was there -/
def OkOf (L : Lw) (S H : Hp) : Bool → Hp → Hp → Prop
  | true => fun S' H' => Mono S S' ∧ Mono S' H'
  | false => fun S' H' => HI L (ent H S) S' H'
section
variable {L : Lw} {E0 : En} {G : Gm} {EX : Exn → Prop} {X : Cx} {k : Nat} {c c2 c3 : CE} {e e2 e3 tg : Expr} {st st' st1 st2 : Sl} {σ : L2.St} {S S' S1 S2 H H' H1 H2 : Hp} {v : V} {x : PyData} {vl : Vl} {pos : Pos} {K : PySem.W.Frag} {Ok : Hp → Hp → Prop} {a : Addr} {vs : List V} {ds : List PyData}
theorem okOf_mono {f : Bool} (h : OkOf L S H f S' H') : Mono S S' ∧ Mono S' H' := by
  cases f with
  | true => exact h
  | false =>
    have h : HI L (ent H S) S' H' := h
    exact ⟨h.base, h.sub⟩
theorem wd_list (h : ∀ S' H', Ok S' H' → Mono S S' ∧ H' a = some (.lst vs)) (r : RpAll K S vs ds) (hz : vs.length ≤ sizeLine) : WD K Ok (Itl K a) ds where
  len := by rw [← r.length]; exact hz
  stop := fun S' H' o => ⟨vs, SqL.of (h S' H' o).2, Nat.le_of_eq r.length⟩
  go := fun i d S' H' hd o => by
    obtain ⟨m, q⟩ := h S' H' o
    obtain ⟨v, hv, rv⟩ := r.get hd
    refine ⟨⟨vs, v, SqL.of q, hv⟩, fun x H'' ⟨e, y⟩ => ?_⟩
    subst e
    have e2 := (y vs (SqL.of q)).symm.trans hv
    cases e2
    exact .old (rv.mono m)
theorem wd_tup (h : ∀ S' H', Ok S' H' → Mono S S' ∧ SqT K H' a vs) (r : RpAll K S vs ds) (hz : vs.length ≤ sizeLine) : WD K Ok (Itt K a) ds where
  len := by rw [← r.length]; exact hz
  stop := fun S' H' o => ⟨vs, (h S' H' o).2, Nat.le_of_eq r.length⟩
  go := fun i d S' H' hd o => by
    obtain ⟨m, q⟩ := h S' H' o
    obtain ⟨v, hv, rv⟩ := r.get hd
    refine ⟨⟨vs, v, q, hv⟩, fun x H'' ⟨e, y⟩ => ?_⟩
    subst e
    have e2 := (y vs q).symm.trans hv
    cases e2
    exact .old (rv.mono m)
theorem enumD_len : ∀ (n : Int) (ds : List PyData), (enumD n ds).length = ds.length
  | _, [] => rfl
  | n, _ :: r => congrArg (· + 1) (enumD_len (n + 1) r)
theorem enumD_get : ∀ (n : Int) (ds : List PyData) (i : Nat), (enumD n ds)[i]? = (ds[i]?).map fun d => .tuple [.int (n + i), d]
  | _, [], _ => by simp [enumD]
  | n, d :: r, 0 => by simp [enumD]
  | n, d :: r, i + 1 => by
    simp only [enumD, List.getElem?_cons_succ]
    rw [enumD_get (n + 1) r i]
    congr 1
    funext d
    have : n + 1 + (i : Int) = n + ((i + 1 : Nat) : Int) := by omega
    rw [this]
theorem wd_enum (h : ∀ S' H', Ok S' H' → Mono S S' ∧ H' a = some (.lst vs)) (r : RpAll K S vs ds) (hz : vs.length ≤ sizeLine) : WD K Ok (Ite K a) (enumD 0 ds) where
  len := by rw [enumD_len, ← r.length]; exact hz
  stop := fun S' H' o => ⟨vs, SqL.of (h S' H' o).2, by rw [enumD_len, r.length]; exact Nat.le_refl _⟩
  go := fun i d S' H' hd o => by
    obtain ⟨m, q⟩ := h S' H' o
    rw [enumD_get] at hd
    obtain ⟨d', hd', rfl⟩ := Option.map_eq_some_iff.mp hd
    obtain ⟨v, hv, rv⟩ := r.get hd'
    refine ⟨⟨vs, v, SqL.of q, hv⟩, fun x H'' ⟨T, y, e1, e2, e3, y4⟩ => ?_⟩
    have e5 := (y4 vs (SqL.of q)).symm.trans hv
    cases e5
    subst e1 e3
    have e6 : (0 : Int) + (i : Int) = (i : Int) := by omega
    rw [e6]
    exact .tup e2 (.cons (.int _) (.cons (rv.mono m) .nil))
theorem wd_enumT (h : ∀ S' H', Ok S' H' → Mono S S' ∧ SqT K H' a vs) (r : RpAll K S vs ds) (hz : vs.length ≤ sizeLine) : WD K Ok (Itu K a) (enumD 0 ds) where
  len := by rw [enumD_len, ← r.length]; exact hz
  stop := fun S' H' o => ⟨vs, (h S' H' o).2, by rw [enumD_len, r.length]; exact Nat.le_refl _⟩
  go := fun i d S' H' hd o => by
    obtain ⟨m, q⟩ := h S' H' o
    rw [enumD_get] at hd
    obtain ⟨d', hd', rfl⟩ := Option.map_eq_some_iff.mp hd
    obtain ⟨v, hv, rv⟩ := r.get hd'
    refine ⟨⟨vs, v, q, hv⟩, fun x H'' ⟨T, y, e1, e2, e3, y4⟩ => ?_⟩
    have e5 := (y4 vs q).symm.trans hv
    cases e5
    subst e1 e3
    have e6 : (0 : Int) + (i : Int) = (i : Int) := by omega
    rw [e6]
    exact .tup e2 (.cons (.int _) (.cons (rv.mono m) .nil))
theorem wd_str {z : Str} (hz : z.length ≤ sizeLine) : WD K Ok (Its z) (z.cps.toList.map fun c => .str ⟨#[c]⟩) where
  len := by rw [List.length_map, Array.length_toList]; exact hz
  stop := fun S' H' o => by
    show z.cps.size ≤ _
    rw [List.length_map, Array.length_toList]
    exact Nat.le_refl _
  go := fun i d S' H' hd o => by
    rw [List.getElem?_map, Array.getElem?_toList] at hd
    obtain ⟨c, hc, rfl⟩ := Option.map_eq_some_iff.mp hd
    refine ⟨(Array.getElem?_eq_some_iff.mp hc).1, fun x H'' ⟨e, c', hc', ex⟩ => ?_⟩
    subst e ex
    rw [hc] at hc'; cases hc'
    exact .str _
theorem wd_range {lo : Int} {n : Nat} (hn : n ≤ sizeLine) : WD K Ok (Itr lo n) (rangeD lo n) where
  len := by unfold rangeD; rw [List.length_map, List.length_range]; exact hn
  stop := fun S' H' o => by
    show n ≤ _
    unfold rangeD
    rw [List.length_map, List.length_range]
    exact Nat.le_refl _
  go := fun i d S' H' hd o => by
    unfold rangeD at hd
    rw [List.getElem?_map] at hd
    obtain ⟨j, hj, rfl⟩ := Option.map_eq_some_iff.mp hd
    obtain ⟨h1, h2⟩ := List.getElem?_eq_some_iff.mp hj
    rw [List.length_range] at h1
    have e : i = j := by simpa using h2
    subst e
    refine ⟨h1, fun x H'' ⟨e, ex⟩ => ?_⟩
    subst e ex
    exact .int _
theorem wd_rangeN {hi : Int} {n : Nat} (hn : n ≤ sizeLine) : WD K Ok (Itc hi (-1) n) (rangeDn hi n) where
  len := by unfold rangeDn; rw [List.length_map, List.length_range]; exact hn
  stop := fun S' H' o => by
    show n ≤ _
    unfold rangeDn
    rw [List.length_map, List.length_range]
    exact Nat.le_refl _
  go := fun i d S' H' hd o => by
    unfold rangeDn at hd
    rw [List.getElem?_map] at hd
    obtain ⟨j, hj, rfl⟩ := Option.map_eq_some_iff.mp hd
    obtain ⟨h1, h2⟩ := List.getElem?_eq_some_iff.mp hj
    rw [List.length_range] at h1
    have e : i = j := by simpa using h2
    subst e
    refine ⟨h1, fun x H'' ⟨e, ex⟩ => ?_⟩
    subst e ex
    have e3 : hi + (i : Int) * -1 = hi - (i : Int) := by omega
    rw [e3]
    exact .int _
/-! ### the walk's start -/
def tI (L : Lw) (E0 : En) (f : Bool) (ev : Sl → (List PyData → Sl → Prop) → Prop) : TI := fun σ H R => ∃ st S Q', SI L E0 st σ S H ∧ ev st Q' ∧
  ∀ J H' st' S' ds, SI L E0 st' σ S' H' → Go L st σ S H st' S' H' → WD L.K (OkOf L S' H' f) J ds → Q' ds st' → R J H'
def Stays (L : Lw) (S H : Hp) (f : Bool) (v : V) : PyData → Prop
  | .list ds => ∃ a vs, v = .ref a ∧ RpAll L.K S vs ds ∧ ∀ S' H', OkOf L S H f S' H' ∨ (S' = S ∧ H' = H) → Mono S S' ∧ H' a = some (.lst vs)
  | .tuple ds => ∃ a vs, v = .ref a ∧ RpAll L.K S vs ds ∧ ∀ S' H', OkOf L S H f S' H' ∨ (S' = S ∧ H' = H) → Mono S S' ∧ SqT L.K H' a vs
  | .str z => v = .str z
  | _ => True
/-- a value that is walked, as long as it stands -/
theorem now_stay (I : SI L E0 st σ S H) (f : Bool) (h : (f = true ∧ ∃ (vl : Vl), ArgV L S (shrV vl) v ∧ shr vl fun z => z = x) ∨ (f = false ∧ RBc L c st σ S H v x)) :
    Stays L S H f v x := by
  have key : Rp L.K S v x → Stays L S H f v x := fun r => by
    have mo : ∀ S' H', OkOf L S H f S' H' ∨ (S' = S ∧ H' = H) → Mono S S' ∧ Mono S' H' := fun S' H' o => by
      rcases o with o | ⟨rfl, rfl⟩
      · exact okOf_mono o
      · exact ⟨.refl _, I.sub⟩
    cases x with
    | list ds =>
      cases r with
      | lst q r => exact ⟨_, _, rfl, r, fun S' H' o => ⟨(mo S' H' o).1, (mo S' H' o).2 _ _ ((mo S' H' o).1 _ _ q)⟩⟩
    | tuple ds =>
      cases r with
      | tup q r => exact ⟨_, _, rfl, r, fun S' H' o => ⟨(mo S' H' o).1, (mo S' H' o).2.seqT ((mo S' H' o).1.seqT q)⟩⟩
    | str z => cases r; rfl
    | _ => trivial
  rcases h with ⟨rfl, vl, hv, hs⟩ | ⟨rfl, hv⟩
  · obtain ⟨y, r, e⟩ := argV_shr hv hs
    subst e
    exact key r
  · have fin : ∀ b o, v = .ref b → H b = some o → Cont L.K S o x → L.R ≠ some b → Stays L S H false v x := fun b o e hb hc nr => by
      cases x with
      | list ds =>
        obtain ⟨ws, eo, r⟩ := hc
        subst eo
        refine ⟨b, ws, e, r, fun S' H' o => ?_⟩
        rcases o with o | ⟨rfl, rfl⟩
        · have o : HI L (ent H S) S' H' := o
          exact ⟨o.base, o.kept hb (fun _ z => by cases z) nr⟩
        · exact ⟨.refl _, hb⟩
      | tuple ds => exact hc.elim
      | str z => exact hc.elim
      | _ => trivial
    rcases hv with r | ⟨i, rfl, h, hv⟩ | ⟨b, o, e, hb, hc, no, nr, hn⟩
    · exact key r
    · rcases h with h | h
      · obtain ⟨w, h1, b, o, e, hb, _, _, nr, hc⟩ := I.at_ i _ (gs_get.mp h)
        rw [hv] at h1; cases h1
        exact fin b o e hb hc nr
      · obtain ⟨w, h1, b, o, e, hb, _, _, nr, hc⟩ := I.at_ i _ (gs_get.mp h)
        rw [hv] at h1; cases h1
        exact fin b o e hb hc nr
    · exact fin b o e hb hc nr
theorem walk_any (F : Fit L E0 EX X k) (I : SI L E0 st σ S H) (f : Bool) {Q' : List PyData → Sl → Prop} {R : It → Hp → Prop} (h : (f = true ∧ ∃ (vl : Vl), ArgV L S (shrV vl) v ∧ shr vl fun z => z = x) ∨ (f = false ∧ RBc L c st σ S H v x))
    (q : itemsD x fun ds => Q' ds st) (kk : ∀ J ds, WD L.K (OkOf L S H f) J ds → Q' ds st → R J H) :
    (∃ a xs, v = .ref a ∧ SqL X.K H a xs ∧ (xs.length ≤ sizeLine → R (Itl X.K a) H)) ∨ (∃ a xs, v = .ref a ∧ SqT X.K H a xs ∧ (xs.length ≤ sizeLine → R (Itt X.K a) H)) ∨ ∃ z, v = .str z ∧ R (Its z) H := by
  have n := now_stay I f h
  rw [F.K]
  cases x with
  | list ds =>
    obtain ⟨a, vs, e, r, st⟩ := n
    exact .inl ⟨a, vs, e, SqL.of (st S H (.inr ⟨rfl, rfl⟩)).2, fun hz => kk _ ds (wd_list (fun S' H' o => st S' H' (.inl o)) r hz) q⟩
  | tuple ds =>
    obtain ⟨a, vs, e, r, st⟩ := n
    exact .inr (.inl ⟨a, vs, e, (st S H (.inr ⟨rfl, rfl⟩)).2, fun hz => kk _ ds (wd_tup (fun S' H' o => st S' H' (.inl o)) r hz) q⟩)
  | str z =>
    obtain ⟨hz, q⟩ := (show _ ∧ _ from q)
    exact .inr (.inr ⟨z, n, kk _ _ (wd_str hz) q⟩)
  | none => exact (show False from q).elim
  | bool _ => exact (show False from q).elim
  | int _ => exact (show False from q).elim
  | dict _ => exact (show False from q).elim
theorem shr_get {Q : PyData → Prop} (h : shr vl Q) : ∃ x, (shr vl fun z => z = x) ∧ Q x := shr_at h
theorem ji_e (F : Fit L E0 EX X k) (ha : JE L E0 G EX X e c) (f : Bool) : PI X tg e (tI L E0 f (evI G (.e c) f EX)) := by
  cases f with
  | true =>
    exact (pi_any (JE.s ha.d)).weak fun σ H R ⟨st, S, Q', I, ev, kk⟩ => by
      have ev : evE G c EX st fun vl st1 => shr vl fun x => itemsD x fun ds => Q' ds st1 := ev
      refine ⟨st, S, _, I, ev, fun v1 H1 st1 S1 vl I1 g1 r1 q1 => ?_⟩
      obtain ⟨x, hx, q⟩ := shr_get q1
      exact walk_any (c := c) F I1 true (.inl ⟨rfl, vl, r1, hx⟩) q fun J ds w q => kk J H1 st1 S1 ds I1 g1 w q
  | false =>
    exact (pi_any ha.b).weak fun σ H R ⟨st, S, Q', I, ev, kk⟩ => by
      have ev : bw c (evE G c EX) st fun x st1 => itemsD x fun ds => Q' ds st1 := ev
      refine ⟨st, S, _, I, ev, fun v1 H1 st1 S1 x I1 g1 r1 q => ?_⟩
      exact walk_any F I1 false (.inr ⟨rfl, r1⟩) q fun J ds w q => kk J H1 st1 S1 ds I1 g1 w q
theorem walk_enum (F : Fit L E0 EX X k) (I : SI L E0 st σ S H) (f : Bool) {Q' : List PyData → Sl → Prop} {R : It → Hp → Prop} (h : (f = true ∧ ∃ (vl : Vl), ArgV L S (shrV vl) v ∧ shr vl fun z => z = x) ∨ (f = false ∧ RBc L c st σ S H v x))
    (q : asT x fun ds => Q' (enumD 0 ds) st) (kk : ∀ J ds, WD L.K (OkOf L S H f) J ds → Q' ds st → R J H) :
    ∃ a xs, [v] = [.ref a] ∧ ((SqL X.K H a xs ∧ (xs.length ≤ sizeLine → R (Ite X.K a) H)) ∨ (SqT X.K H a xs ∧ (xs.length ≤ sizeLine → R (Itu X.K a) H))) := by
  have n := now_stay I f h
  rw [F.K]
  cases x with
  | list ds =>
    obtain ⟨a, vs, e, r, st⟩ := n
    exact ⟨a, vs, by rw [e], .inl ⟨SqL.of (st S H (.inr ⟨rfl, rfl⟩)).2, fun hz => kk _ _ (wd_enum (fun S' H' o => st S' H' (.inl o)) r hz) q⟩⟩
  | tuple ds =>
    obtain ⟨a, vs, e, r, st⟩ := n
    exact ⟨a, vs, by rw [e], .inr ⟨(st S H (.inr ⟨rfl, rfl⟩)).2, fun hz => kk _ _ (wd_enumT (fun S' H' o => st S' H' (.inl o)) r hz) q⟩⟩
  | str z => exact (show False from q).elim
  | none => exact (show False from q).elim
  | bool _ => exact (show False from q).elim
  | int _ => exact (show False from q).elim
  | dict _ => exact (show False from q).elim
theorem asT_shr {Q : PyData → Prop} (h : shr vl Q) : ∃ x, (shr vl fun z => z = x) ∧ Q x := shr_at h
theorem ji_enum (F : Fit L E0 EX X k) (ha : JE L E0 G EX X e c) (f : Bool) {elts : List Expr} {kk : Nat} {tpos p : Pos} (hs : noStar e = true) (hg : Gl X "enumerate") (hm : X.mg "enumerate" = none) :
    PI X (.Tuple elts kk tpos) (.Call (.Name "enumerate" p) [e] [] pos) (tI L E0 f (evI G (.enum c 0) f EX)) := by
  cases f with
  | true =>
    exact (pi_enumA hg hm (pa_cons (JE.s ha.d) pa_nil (starEach_no hs)) (starEach_no hs)).weak fun σ H R ⟨st, S, Q', I, ev, kk⟩ => by
      have ev : evE G c EX st fun vl st1 => shr vl fun x => asT x fun ds => Q' (enumD 0 ds) st1 := ev
      refine ⟨st, S, _, I, ev, fun v1 H1 st1 S1 vl I1 g1 r1 q1 => ?_⟩
      obtain ⟨x, hx, q⟩ := shr_get q1
      exact walk_enum (c := c) F I1 true (.inl ⟨rfl, vl, r1, hx⟩) q fun J ds w q => kk J H1 st1 S1 ds I1 g1 w q
  | false =>
    exact (pi_enumA hg hm (pa_cons ha.b pa_nil (starEach_no hs)) (starEach_no hs)).weak fun σ H R ⟨st, S, Q', I, ev, kk⟩ => by
      have ev : bw c (evE G c EX) st fun x st1 => asT x fun ds => Q' (enumD 0 ds) st1 := ev
      refine ⟨st, S, _, I, ev, fun v1 H1 st1 S1 x I1 g1 r1 q => ?_⟩
      exact walk_enum F I1 false (.inr ⟨rfl, r1⟩) q fun J ds w q => kk J H1 st1 S1 ds I1 g1 w q
theorem ji_rng1 (F : Fit L E0 EX X k) (ha : JE L E0 G EX X e c) (f : Bool) {p : Pos} (hs : noStar e = true) (hg : Gl X "range") (hm : X.mg "range" = none) : PI X tg (.Call (.Name "range" p) [e] [] pos) (tI L E0 f (evI G (.rng1 c) f EX)) :=
  (pi_range1 hg hm (pa_cons ha.b pa_nil (starEach_no hs)) (starEach_no hs)).weak fun σ H R ⟨st, S, Q', I, ev, kk⟩ => by
    have ev : bw c (evE G c EX) st fun x st1 => asI x fun i => (smallR i ∧ i ≤ sizeLine) ∧ Q' (rangeD 0 i.toNat) st1 := by cases f <;> exact ev
    refine ⟨st, S, _, I, ev, fun v1 H1 st1 S1 x I1 g1 r1 q1 => ?_⟩
    obtain ⟨i, rfl, ⟨hi, hz⟩, q⟩ := asI_at q1
    exact ⟨i, by rw [(r1.now I1).int], hi.1, hi.2, kk _ H1 st1 S1 _ I1 g1 (wd_range (by omega)) q⟩
theorem ji_rng2 (F : Fit L E0 EX X k) (ha : JE L E0 G EX X e c) (hb : JE L E0 G EX X e2 c2) (f : Bool) {p : Pos} (hs : noStar e = true) (hs2 : noStar e2 = true) (hg : Gl X "range") (hm : X.mg "range" = none) :
    PI X tg (.Call (.Name "range" p) [e, e2] [] pos) (tI L E0 f (evI G (.rng2 c c2) f EX)) :=
  (pi_range2 hg hm (pa_cons ha.b (pa_cons hb.b pa_nil (starEach_no hs2)) (starEach_no hs)) (by rw [starEach_no hs, starEach_no hs2]; rfl) (starEach_no hs2)).weak fun σ H R ⟨st, S, Q', I, ev, kk⟩ => by
    have ev : bw c (evE G c EX) st fun x st1 => bw c2 (evE G c2 EX) st1 fun y st2 => asI x fun i => asI y fun j => (smallR i ∧ smallR j ∧ j - i ≤ sizeLine) ∧ Q' (rangeD i (j - i).toNat) st2 := by cases f <;> exact ev
    refine ⟨st, S, _, I, ev, fun v1 H1 st1 S1 x I1 g1 r1 q1 => ⟨st1, S1, _, I1, q1, fun v2 H2 st2 S2 y I2 g2 r2 q2 => ?_⟩⟩
    obtain ⟨i, rfl, q3⟩ := asI_at q2
    obtain ⟨j, rfl, ⟨hi, hj, hz⟩, q⟩ := asI_at q3
    exact ⟨i, j, by rw [(r1.now I1).int, (r2.now I2).int], ⟨hi.1, hi.2, hj.1, hj.2⟩, kk _ H2 st2 S2 _ I2 (g1.trans g2) (wd_range (by omega)) q⟩
theorem ji_rngN (F : Fit L E0 EX X k) (ha : JE L E0 G EX X e c) (hb : JE L E0 G EX X e2 c2) (f : Bool) {p p1 p2 : Pos} {j : Nat} (hs : noStar e = true) (hs2 : noStar e2 = true) (hg : Gl X "range") (hm : X.mg "range" = none) :
    PI X tg (.Call (.Name "range" p) [e, e2, .UnaryOp .USub (.Constant (.int 1) j p1) p2] [] pos) (tI L E0 f (evI G (.rngN c c2) f EX)) :=
  (pi_range3 hg hm (pa_cons ha.b (pa_cons hb.b (pa_cons (pe_un un_neg pe_int) pa_nil) (starEach_no hs2)) (starEach_no hs)) (starEach_no hs) (star_no (by rw [List.all_cons, hs2]; rfl))).weak fun σ H R ⟨st, S, Q', I, ev, kk⟩ => by
    have ev : bw c (evE G c EX) st fun x st1 => bw c2 (evE G c2 EX) st1 fun y st2 => asI x fun i => asI y fun j => (smallR i ∧ smallR j ∧ i - j ≤ sizeLine) ∧ Q' (rangeDn i (i - j).toNat) st2 := by cases f <;> exact ev
    refine ⟨st, S, _, I, ev, fun v1 H1 st1 S1 x I1 g1 r1 q1 => ⟨st1, S1, _, I1, q1, fun v2 H2 st2 S2 y I2 g2 r2 q2 => ?_⟩⟩
    obtain ⟨i, rfl, q3⟩ := asI_at q2
    obtain ⟨j, rfl, ⟨hi, hj, hz⟩, q⟩ := asI_at q3
    refine ⟨_, rfl, i, j, -1, _, by rw [(r1.now I1).int, (r2.now I2).int], RgC.neg hi.1 hi.2 hj.1 hj.2, kk _ H2 st2 S2 _ I2 (g1.trans g2) (wd_rangeN (by omega)) q⟩
end
end PX
end L2
/-! Calls of one's own defs; comprehensions. -/
namespace L2
namespace PX
open PySem PySem.Spec PyProof.Rows
/-- the law's things with another row -/
abbrev Lw.at_ (L : Lw) (R : Option Addr) : Lw := { L with R := R }
/-- a promise on data, on heaps -/
def liftSp (L : Lw) (f : FSp) : Sp := fun vs H Q E => ∃ R S vls Q' E', HI (L.at_ R) (ent H S) S H ∧ ArgVs (L.at_ R) S vls vs ∧ f vls Q' E' ∧
  (∀ v H' S' vl, HI (L.at_ R) (ent H S) S' H' → SVal (L.at_ R) S' H' (ent H S) vl v → (∀ x, vl ≠ .lent x) → Q' vl → Q v H') ∧ ∀ cls d H', XEX (L.at_ R) (ent H S) E' cls d H' → E cls d H'
/-- the def with the number n is there and keeps its promise -/
structure Callee (L : Lw) (P : Program) (w : World) (K : PySem.W.Frag) (mg : Str → Option Value) (base : Heap) (k n : Nat) (f : FSp) : Prop where
  ex : ∃ (j : Nat) (fd : FuncData) (ps : List Str), j ≤ k ∧ FnOk P w K mg base (L2.CX P w) j (L.ft n) fd ps (liftSp L f) ∧ PySem.W.keepIn K (.ref (L.ft n)) = true ∧ Binds K fd ps []
/-- all the defs that are promised -/
def GOk (L : Lw) (G : Gm) (X : Cx) (k : Nat) : Prop := ∀ n, n < G.dom → Callee L X.prog X.w X.K X.mg X.base k n (G.fs n)
section
variable {L : Lw} {E0 E1 : En} {G : Gm} {EX : Exn → Prop} {X : Cx} {k : Nat} {c c2 c3 : CE} {e e2 e3 : Expr} {st st' st1 st2 : Sl} {σ : L2.St} {S S' S1 S2 H H' H1 H2 : Hp} {v : V} {x : PyData} {vl : Vl} {pos : Pos}
theorem HI.after (I : HI L E0 S H) (J : HI L (ent H S) S' H') : HI L E0 S' H' where
  base := I.base.trans J.base
  sub := J.sub
  ns := fun a h1 h2 => by
    by_cases hr : L.R = some a
    · exact (J.row a hr).2
    · cases q : E0.h a with
      | none => exact absurd q h2
      | some u => exact J.un ⟨u, I.keep a u q hr, I.enT a u q⟩ (I.ns a h1 h2)
  keep := fun a o h r => J.kept (I.keep a o h r) (I.enT a o h) r
  row := J.row
  tabs := J.tabs
  enT := I.enT
  snt := J.snt
theorem HI.enter (I : HI L E0 S H) : HI L (ent H S) S H where
  base := .refl S
  sub := I.sub
  ns := fun a h _ => h
  keep := fun a o h _ => (noT_of h).1
  row := I.row
  tabs := I.tabs
  enT := fun a o h => (noT_of h).2
  snt := I.snt
theorem sp_of {f : Nat} {vls : List Vl} {vs : List V} {Q : VK} {Q' : Vl → Prop} (I : SI L E0 st σ S H) (r : ArgVs L S vls vs) (q : G.fs f vls Q' EX)
    (kk : ∀ v H' S' vl, SI L E0 st σ S' H' → Go L st σ S H st S' H' → VR L E0 H st σ S' H' vl v → Q' vl → Q v H') : liftSp L (G.fs f) vs H Q (XEX L E0 EX) :=
  ⟨L.R, S, vls, Q', EX, I.toHI.enter, r, q, fun v H' S' vl J sv nl qq => kk v H' S' vl (I.after J) (Go.after J) (I.afterV J sv nl) qq, fun cls d H' ⟨S', x, J, rp, ee⟩ => ⟨S', x, I.toHI.after J, rp, ee⟩⟩
/-- f(e, ..): the def is found when its promise is -/
theorem je_call (F : Fit L E0 EX X k) {f : Nat} {y : Str} {es : List Expr} {cs : CEs} {p : Pos} (Gk : GOk L G X k) (hf : f < G.dom)
    (ha : PA X (e :: es) (tAs L E0 (evAs G cs EX))) (hg : Gl X y) (hm : X.mg y = some (.ref (L.ft f))) (hs : (e :: es).all noStar = true) (hdb : (y == ("__debug__" : Str)) = false) : JE L E0 G EX X (.Call (.Name y p) (e :: es) [] pos) (.call f cs) := by
  obtain ⟨j, fd, ps, hj, Fn, hk, hb⟩ := (Gk f hf).ex
  exact JE.of ((pe_call Fn (F.room.mono hj) hg hm hk hb .nil (passes_call (E := XEX L E0 EX) F.tk fun _ _ _ _ h => h) ha hdb (starEach_no (by rw [List.all_cons, Bool.and_eq_true] at hs; exact hs.1)) (star_no (by rw [List.all_cons, Bool.and_eq_true] at hs; exact hs.2))).weak fun σ H Q ⟨st, S, Q', I, ev, kk⟩ => by
    have ev : evAs G cs EX st fun vs st1 => G.fs f vs (fun r => Q' r st1) EX := ev
    refine ⟨st, S, _, I, ev, fun vs H1 st1 S1 vls I1 g1 r1 q1 => ?_⟩
    show liftSp L (G.fs f) (vs ++ []) H1 Q (XEX L E0 EX)
    rw [List.append_nil]
    exact sp_of I1 r1 q1 fun v H' S' vl I2 g2 r2 q2 => kk v H' st1 S' vl I2 (g1.trans g2) (r2.from g1) q2) (fun _ z => by cases z)
theorem je_call0 (F : Fit L E0 EX X k) {f : Nat} {y : Str} {p : Pos} (Gk : GOk L G X k) (hf : f < G.dom)
    (hg : Gl X y) (hm : X.mg y = some (.ref (L.ft f))) (hdb : (y == ("__debug__" : Str)) = false) : JE L E0 G EX X (.Call (.Name y p) [] [] pos) (.call f .nil) := by
  obtain ⟨j, fd, ps, hj, Fn, hk, hb⟩ := (Gk f hf).ex
  exact JE.of ((pe_call0 Fn (F.room.mono hj) hg hm hk hb .nil (passes_call (E := XEX L E0 EX) F.tk fun _ _ _ _ h => h) hdb).weak fun σ H Q ⟨st, S, Q', I, ev, kk⟩ => by
    have ev : G.fs f [] (fun r => Q' r st) EX := ev
    show liftSp L (G.fs f) ([] ++ []) H Q (XEX L E0 EX)
    exact sp_of I .nil ev fun v H' S' vl I2 g2 r2 q2 => kk v H' st S' vl I2 g2 r2 q2) (fun _ z => by cases z)
theorem asF_at {o : Option Vl} {Q : Nat → Prop} (h : asF o Q) : ∃ n, o = some (.fn n) ∧ Q n := by
  cases o with
  | none => exact h.elim
  | some v => cases v <;> first | exact h.elim | exact ⟨_, rfl, h⟩
/-- f(e, ..), f a name that holds a def -/
theorem je_callv (F : Fit L E0 EX X k) (Gk : GOk L G X k)
    {i : Nat} {y : Str} {es : List Expr} {cs : CEs} {p : Pos} (hN : X.N[i]? = some y) (hv : Vis X.env.scope y) (ha : PA X (e :: es) (tAs L E0 (evAs G cs EX))) (hs : (e :: es).all noStar = true) (hdb : (y == ("__debug__" : Str)) = false) (hcd : (y == ("__classdict__" : Str)) = false) :
    JE L E0 G EX X (.Call (.Name y p) (e :: es) [] pos) (.callv i cs) := by
  refine JE.of ⟨fun pins s σ H Q Iv hw => ?_⟩ (fun _ z => by cases z)
  obtain ⟨st, S, Q', I, ev, kk⟩ := hw
  have ev : asF (gs st i) fun f => f < G.dom ∧ evAs G cs EX st fun vs st1 => G.fs f vs (fun r => Q' r st1) EX := ev
  obtain ⟨f, hf, hd, ev⟩ := asF_at ev
  obtain ⟨j, fd, ps, hj, Fn, hk, hb⟩ := (Gk f hd).ex
  obtain ⟨w, h1, h2⟩ := I.at_ i _ (gs_get.mp hf)
  have h2 : w = .ref (L.ft f) := h2
  subst h2
  refine (pe_callL Fn (F.room.mono hj) hN hv hk hb .nil (passes_call (E := XEX L E0 EX) F.tk fun _ _ _ _ h => h) ha hdb hcd (starEach_no (by rw [List.all_cons, Bool.and_eq_true] at hs; exact hs.1)) (star_no (by rw [List.all_cons, Bool.and_eq_true] at hs; exact hs.2))).run pins s σ H Q Iv ⟨h1, ?_⟩
  refine ⟨st, S, _, I, ev, fun vs H1 st1 S1 vls I1 g1 r1 q1 => ?_⟩
  show liftSp L (G.fs f) (vs ++ []) H1 Q (XEX L E0 EX)
  rw [List.append_nil]
  exact sp_of I1 r1 q1 fun v H' S' vl I2 g2 r2 q2 => kk v H' st1 S' vl I2 (g1.trans g2) (r2.from g1) q2
end
end PX
end L2
/-! Targets. -/
namespace L2
namespace PX
open PySem PySem.Spec PyProof.Rows
theorem _root_.L2.PG.weak {X : Cx} {e : Expr} {t t' : TG} (h : PG X e t) (i : ∀ v σ H Q, t' v σ H Q → t v σ H Q) : PG X e t' := ⟨fun pins s σ H v u Q I r hw => h.run pins s σ H v u Q I r (i v σ H Q hw)⟩
theorem _root_.L2.PGs.weak {X : Cx} {e : List Expr} {t t' : TGs} (h : PGs X e t) (i : ∀ v σ H Q, t' v σ H Q → t v σ H Q) : PGs X e t' := ⟨fun pins s σ H v u Q I r hw => h.run pins s σ H v u Q I r (i v σ H Q hw)⟩
/-- a value in hand, in no slot -/
structure VT (L : Lw) (E0 : En) (st : Sl) (σ : L2.St) (S H : Hp) (vl : Vl) (v : V) : Prop where
  val : SVal L S H E0 vl v
  new : ∀ x a, vl = .own x → v = .ref a → ¬ Owns st σ a
  nl : ∀ x, vl ≠ .lent x
section
variable {L : Lw} {E0 E1 : En} {G : Gm} {EX : Exn → Prop} {X : Cx} {k : Nat} {c c2 c3 : CE} {e e2 e3 : Expr} {st st' st1 st2 : Sl} {σ σ' : L2.St} {S S' S1 S2 H H' H1 H2 : Hp} {v : V} {x y : PyData} {vl : Vl} {pos : Pos}
theorem VR.vt {H0 : Hp} (r : VR L E0 H0 st σ S H vl v) : VT L E0 st σ S H vl v := ⟨r.val, r.new, r.nl⟩
theorem VT.d (r : Rp L.K S v x) : VT L E0 st σ S H (.d x) v := ⟨r, (fun _ _ e => nomatch e), fun _ e => nomatch e⟩
theorem set_get {σ : L2.St} {i j : Nat} {y z : Option V} (h : (σ.set i y)[j]? = some z) : (j = i ∧ z = y) ∨ (j ≠ i ∧ σ[j]? = some z) := by
  by_cases e : i = j
  · subst e
    rw [List.getElem?_set_self'] at h
    cases q : σ[i]? with
    | none => rw [q] at h; simp at h
    | some w => rw [q] at h; simp at h; exact .inl ⟨rfl, h.symm⟩
  · rw [List.getElem?_set_ne e] at h
    exact .inr ⟨fun q => e q.symm, h⟩
/-- a value stored -/
theorem SI.put {i : Nat} (I : SI L E0 st σ S H) (r : VT L E0 st σ S H vl v) : SI L E0 (ss st i (some vl)) (σ.set i (some v)) S H :=
  { I.toHI with
    len := by rw [ss_len, List.length_set]; exact I.len
    at_ := fun j wl hj => by
      rcases ss_get hj with ⟨rfl, e⟩ | ⟨ne, e⟩
      · cases e
        have hl : j < st.length := by
          have := (List.getElem?_eq_some_iff.mp hj).1
          rwa [ss_len] at this
        exact ⟨v, List.getElem?_set_self (by rw [← I.len]; exact hl), r.val⟩
      · obtain ⟨w, h1, h2⟩ := I.at_ j wl e
        exact ⟨w, by rw [List.getElem?_set_ne (fun z => ne z.symm)]; exact h1, h2⟩
    dis := fun j k x y a hj hk h1 h2 => by
      rcases ss_get hj with ⟨rfl, e⟩ | ⟨ne, e⟩
      · cases e
        rcases ss_get hk with ⟨rfl, e'⟩ | ⟨ne', e'⟩
        · rfl
        · rcases set_get h1 with ⟨_, e1⟩ | ⟨n1, _⟩
          · rcases set_get h2 with ⟨n2, _⟩ | ⟨_, h2⟩
            · exact absurd n2 ne'
            · exact absurd ⟨k, y, e', h2⟩ (r.new x a rfl (by cases e1; rfl))
          · exact absurd rfl n1
      · rcases ss_get hk with ⟨rfl, e'⟩ | ⟨ne', e'⟩
        · cases e'
          rcases set_get h2 with ⟨_, e1⟩ | ⟨n1, _⟩
          · rcases set_get h1 with ⟨n2, _⟩ | ⟨_, h1⟩
            · exact absurd n2 ne
            · exact absurd ⟨j, x, e, h1⟩ (r.new y a rfl (by cases e1; rfl))
          · exact absurd rfl n1
        · rcases set_get h1 with ⟨n1, _⟩ | ⟨_, h1⟩
          · exact absurd n1 ne
          · rcases set_get h2 with ⟨n2, _⟩ | ⟨_, h2⟩
            · exact absurd n2 ne'
            · exact I.dis j k x y a e e' h1 h2 }
/-- a slot's own list or dict changes -/
theorem SI.mut {i : Nat} {a : Addr} {o o' : HO} (I : SI L E0 st σ S H) (h : gs st i = some (.own x)) (hv : σ[i]? = some (some (.ref a))) (ho : H a = some o) (hx : Cont L.K S o x) (c : Cont L.K S o' y) : SI L E0 (ss st i (some (.own y))) σ S (upd H a o') := by
  have h' := gs_get.mp h
  obtain ⟨w, h1, b, o2, e, ha, hs, he, hr, _⟩ := I.at_ i _ h'
  rw [hv] at h1; cases h1
  cases e
  have nt := hx.notTbl
  have no : ∀ (j : Nat) (z : Vl) (y : PyData), j ≠ i → st[j]? = some (some z) → (z = .own y ∨ z = .lent y) → σ[j]? ≠ some (some (.ref a)) := fun j z y ne hj hz hw => by
    rcases hz with rfl | rfl
    · exact ne (I.dis j i y _ a hj h' hw hv)
    · obtain ⟨w, h2, b, o', e', hb, _, hE, _⟩ := I.at_ j _ hj
      rw [hw] at h2; cases h2; cases e'
      rw [he] at hE; cases hE
  have stay : ∀ b u, b ≠ a → H b = some u → upd H a o' b = some u := fun b u n e => by rw [upd_ne n]; exact e
  refine { base := I.base, sub := fun b u q => stay b u (fun z => by rw [z, hs] at q; cases q) (I.sub b u q), ns := I.ns, keep := fun b u q r => stay b u (fun z => by rw [z, he] at q; cases q) (I.keep b u q r), row := fun b q => ?_, tabs := fun p hp => ?_, enT := I.enT, snt := I.snt, len := by rw [ss_len]; exact I.len, at_ := fun j vl hj => ?_, dis := fun j k x1 y1 b hj hk h1 h2 => ?_ }
  · have ne : b ≠ a := fun z => hr (by rw [q, z])
    exact ⟨(I.row b q).1.ext (.refl S) fun u e => stay b u ne e, (I.row b q).2⟩
  · obtain ⟨ps, h1, h2, h3⟩ := I.tabs p hp
    refine ⟨ps, stay _ _ (fun z => by rw [z, ho] at h1; exact nt ps (Option.some.inj h1)) h1, h2, fun pos cv hc => ?_⟩
    obtain ⟨b, e1, e2⟩ := h3 pos cv hc
    refine ⟨b, e1, stay _ _ (fun z => ?_) e2⟩
    rw [z, ho] at e2
    have e2 := Option.some.inj e2
    cases x with
    | list ds => obtain ⟨vs, q, _⟩ := hx; rw [q] at e2; unfold LamX.CodeO at e2; cases e2
    | dict kvs => rcases hx with ⟨_, _, _, q, _⟩ | ⟨_, _, _, q, _⟩ <;> rw [q] at e2 <;> unfold LamX.CodeO at e2 <;> cases e2
    | none => exact hx.elim
    | bool _ => exact hx.elim
    | int _ => exact hx.elim
    | str _ => exact hx.elim
    | tuple _ => exact hx.elim
  · rcases ss_get hj with ⟨rfl, e⟩ | ⟨ne, e⟩
    · cases e
      exact ⟨_, hv, a, o', rfl, upd_same, hs, he, hr, c⟩
    · obtain ⟨w, h2, h3⟩ := I.at_ j vl e
      refine ⟨w, h2, ?_⟩
      have n' := fun y hy => no j vl y ne e hy
      cases vl with
      | own y =>
        obtain ⟨b, u, e', hb, q1, q2, q3, q4⟩ := h3
        exact ⟨b, u, e', stay b u (fun z => n' y (.inl rfl) (by rw [h2, e', z])) hb, q1, q2, q3, q4⟩
      | lent y =>
        obtain ⟨b, u, e', hb, q1, q2, q3, q4⟩ := h3
        exact ⟨b, u, e', stay b u (fun z => n' y (.inr rfl) (by rw [h2, e', z])) hb, q1, q2, q3, q4⟩
      | d y => exact h3
      | row => exact h3
      | fn n => exact h3
  · have own : ∀ {l z : Nat} {y2 : PyData}, (ss st i (some (.own y)))[l]? = some (some (.own y2)) → ∃ y3, st[l]? = some (some (.own y3)) := fun {l z y2} q => by
      rcases ss_get q with ⟨rfl, _⟩ | ⟨_, e⟩
      · exact ⟨x, h'⟩
      · exact ⟨y2, e⟩
    obtain ⟨y3, e3⟩ := own (z := 0) hj
    obtain ⟨y4, e4⟩ := own (z := 0) hk
    exact I.dis j k y3 y4 b e3 e4 h1 h2
/-! ### targets -/
/-- only these slots changed -/
def Agree (sl : List Nat) (σ σ' : L2.St) : Prop := σ'.length = σ.length ∧ ∀ j, j ∉ sl → σ'[j]? = σ[j]?
def tG (L : Lw) (E0 : En) (sl : List Nat) (ev : Vl → Sl → (Sl → Prop) → Prop) : TG := fun v σ H Q => ∃ st S vl Q', SI L E0 st σ S H ∧ VT L E0 st σ S H vl v ∧ ev vl st Q' ∧
  ∀ σ' H' st' S', SI L E0 st' σ' S' H' → Mono S S' → Agree sl σ σ' → Q' st' → Q σ' H'
def tGs (L : Lw) (E0 : En) (n : Nat) (sl : List Nat) (ev : List PyData → Sl → (Sl → Prop) → Prop) : TGs := fun vs σ H Q => ∃ st S ds Q', SI L E0 st σ S H ∧ RpAll L.K S vs ds ∧ ds.length = n ∧ ev ds st Q' ∧
  ∀ σ' H' st' S', SI L E0 st' σ' S' H' → Mono S S' → Agree sl σ σ' → Q' st' → Q σ' H'
theorem jg_slot (F : Fit L E0 EX X k) {i : Nat} {n : Str} (hi : X.N[i]? = some n) (hx : Loc X.env.scope n) (hf : X.fn n = true ∨ X.env.scope.names.lookup n = some .local) : PG X (.Name n pos) (tG L E0 (CT.slots (.slot i)) fun vl st Q => evTg G (.slot i) vl EX st Q) :=
  (pg_name F.nd hi hx hf).weak fun v σ H Q ⟨st, S, vl, Q', I, r, ev, kk⟩ => by
    have ev : Q' (ss st i (some vl)) := ev
    refine kk _ H _ S (I.put r) (.refl S) ⟨List.length_set, fun j hj => ?_⟩ ev
    exact List.getElem?_set_ne (fun z => hj (by show j ∈ [i]; rw [z]; exact List.mem_singleton.mpr rfl))
/-- no starred target -/
theorem assignEach_no {es : List Expr} {env : Env} (h : noStar e = true) : assignEach (e :: es) env = (false, assign e env) :: assignEach es env := by
  cases e <;> first | rfl | cases h
theorem assignEach_len {es : List Expr} {env : Env} (h : es.all noStar = true) : (assignEach es env).length = es.length ∧ (assignEach es env).findIdx? (·.1) = none := by
  induction es with
  | nil => exact ⟨rfl, rfl⟩
  | cons e r ih =>
    rw [List.all_cons, Bool.and_eq_true] at h
    rw [assignEach_no h.1]
    obtain ⟨h1, h2⟩ := ih h.2
    refine ⟨by rw [List.length_cons, List.length_cons, h1], ?_⟩
    rw [List.findIdx?_cons]
    simp only [Bool.false_eq_true, if_false, h2]
    rfl
theorem jgs_nil : PGs X [] (tGs L E0 (CTs.len .nil) (CTs.slots .nil) fun ds st Q => evTgs G .nil ds EX st Q) :=
  pgs_nil.weak fun vs σ H Q ⟨st, S, ds, Q', I, r, hl, ev, kk⟩ => by
    have ev : Q' st := ev
    cases ds with
    | nil => cases r; exact ⟨rfl, kk σ H st S I (.refl S) ⟨rfl, fun _ _ => rfl⟩ ev⟩
    | cons d ds => cases hl
theorem jgs_cons {es : List Expr} {t : CT} {ts : CTs} (ht : PG X e (tG L E0 (CT.slots t) fun vl st Q => evTg G t vl EX st Q)) (hr : PGs X es (tGs L E0 (CTs.len ts) (CTs.slots ts) fun ds st Q => evTgs G ts ds EX st Q)) (hs : noStar e = true) :
    PGs X (e :: es) (tGs L E0 (CTs.len (.cons t ts)) (CTs.slots (.cons t ts)) fun ds st Q => evTgs G (.cons t ts) ds EX st Q) :=
  (pgs_cons ht hr (by rw [assignEach_no hs]; rfl)).weak fun vs σ H Q ⟨st, S, ds, Q', I, r, hl, ev, kk⟩ => by
    cases ds with
    | nil => cases hl
    | cons d ds =>
      cases r with
      | @cons v vs _ _ h1 h2 =>
        have ev : evTg G t (.d d) EX st fun st1 => evTgs G ts ds EX st1 Q' := ev
        refine ⟨v, vs, rfl, st, S, .d d, _, I, .d h1, ev, fun σ1 H1 st1 S1 I1 m1 a1 q1 => ?_⟩
        refine ⟨st1, S1, ds, Q', I1, h2.mono m1, by simpa [CTs.len] using hl, q1, fun σ2 H2 st2 S2 I2 m2 a2 q2 => kk σ2 H2 st2 S2 I2 (m1.trans m2) ⟨a2.1.trans a1.1, fun j hj => ?_⟩ q2⟩
        have hj : j ∉ CT.slots t ++ CTs.slots ts := hj
        rw [List.mem_append, not_or] at hj
        rw [a2.2 j hj.2, a1.2 j hj.1]
theorem CTs.len_pos {es : List Expr} {n : Nat} (h : es.length = n) : n = es.length := h.symm
theorem VT.now (r : VT L E0 st σ S H vl v) (hs : shr vl fun z => z = x) : Now L.K S H v x := by
  cases vl with
  | d y => have e : y = x := hs; subst e; exact .inl r.val
  | own y =>
    have e : y = x := hs
    subst e
    obtain ⟨a, o, e, ha, _, _, _, c⟩ := r.val
    exact .inr ⟨a, o, e, ha, c⟩
  | lent y => exact hs.elim
  | row => exact hs.elim
  | fn n => exact hs.elim
theorem jg_tup (F : Fit L E0 EX X k) {es : List Expr} {ts : CTs} {j : Nat} (h : PGs X es (tGs L E0 (CTs.len ts) (CTs.slots ts) fun ds st Q => evTgs G ts ds EX st Q)) (hs : es.all noStar = true) (hl : es.length = CTs.len ts) :
    PG X (.Tuple es j pos) (tG L E0 (CT.slots (.tup ts)) fun vl st Q => evTg G (.tup ts) vl EX st Q) := by
  obtain ⟨a1, a2⟩ := assignEach_len (env := X.env) hs
  rw [hl] at a1
  refine ⟨fun pins s σ H v u Q Iv ru hw => ?_⟩
  obtain ⟨st, S, vl, Q', I, r, ev, kk⟩ := hw
  have ev : shr vl fun x => asT x fun ds => ds.length = CTs.len ts ∧ evTgs G ts ds EX st Q' := ev
  obtain ⟨x, hx, ev1⟩ := shr_at ev
  obtain ⟨ds, hd, hz, ev2⟩ := asT_at ev1
  rcases hd with rfl | rfl
  · obtain ⟨a, vs, rfl, ha, ra⟩ := (r.now hx).list I.sub
    exact (pg_lst F.calm h a1 a2).run pins s σ H _ u Q Iv ru ⟨a, vs, rfl, SqL.of ha, by rw [ra.length, hz], st, S, ds, Q', I, ra, hz, ev2, kk⟩
  · obtain ⟨a, vs, rfl, ha, ra, _⟩ := (r.now hx).tuple I.sub
    exact (pg_tup F.calm h a1 a2).run pins s σ H _ u Q Iv ru ⟨a, vs, rfl, by rw [F.K]; exact ha, by rw [ra.length, hz], st, S, ds, Q', I, ra, hz, ev2, kk⟩
theorem asO_at {o : Option Vl} {Q : PyData → Prop} (h : asO o Q) : ∃ x, o = some (.own x) ∧ Q x := by
  cases o with
  | none => exact h.elim
  | some v => cases v <;> first | exact h.elim | exact ⟨_, rfl, h⟩
/-- what is stored in a list is kept as it is from now on -/
theorem VT.shareL {Q : PyData → Prop} (I : SI L E0 st σ S H) (r : VT L E0 st σ S H vl v) (h : shrL vl Q) : ∃ x S', SI L E0 st σ S' H ∧ Mono S S' ∧ Rp L.K S' v x ∧ Q x := by
  cases vl with
  | d x => exact ⟨x, S, I, .refl _, r.val, h⟩
  | own x =>
    cases x with
    | list ds =>
      obtain ⟨a, o, e, ha, hs, he, hr, vs, eo, c⟩ := r.val
      subst e eo
      have no := r.new _ a rfl rfl
      exact ⟨_, _, I.addS ha hs no he hr, Mono.upd hs, .lst upd_same (c.mono (Mono.upd hs)), h⟩
    | _ => exact h.elim
  | lent x => exact h.elim
  | row => exact h.elim
  | fn n => exact h.elim
theorem setD_at {i y : PyData} {Q : PyData → Prop} (h : setD x i y Q) : ∃ ds n j, x = .list ds ∧ i = .int n ∧ ixN ds.length n = some j ∧ Q (.list (ds.set j y)) := by
  cases x with
  | list ds =>
    cases i with
    | int n =>
      obtain ⟨j, hj, q⟩ := ex_at (show ex (ixN ds.length n) fun j => Q (.list (ds.set j y)) from h)
      exact ⟨ds, n, j, rfl, rfl, hj, q⟩
    | _ => exact h.elim
  | none => exact (show False by cases i <;> exact h).elim
  | bool _ => exact (show False by cases i <;> exact h).elim
  | int _ => exact (show False by cases i <;> exact h).elim
  | str _ => exact (show False by cases i <;> exact h).elim
  | tuple _ => exact (show False by cases i <;> exact h).elim
  | dict _ => exact (show False by cases i <;> exact h).elim
theorem jg_sub (F : Fit L E0 EX X k) {i : Nat} {n : Str} {p1 : Pos} (hN : X.N[i]? = some n) (hv : Vis X.env.scope n) (hd : (n == ("__debug__" : Str)) = false) (hcd : (n == ("__classdict__" : Str)) = false) (ha : JE L E0 G EX X e c)
    (hass : ∀ v, assign (.Subscript (.Name n p1) e pos) X.env v = (do
      let ov ← holding [v] (eval (.Name n p1) X.env)
      let iv ← holding [v, ov] (eval e X.env)
      standAt pos
      holding [v, ov, iv] (setItem ov iv v)
      release [v, ov, iv] [])) : PG X (.Subscript (.Name n p1) e pos) (tG L E0 (CT.slots (.sub i c)) fun vl st Q => evTg G (.sub i c) vl EX st Q) :=
  (pg_sub (pe_var hN hv hd hcd) ha.b set_list hass).weak fun v σ H Q ⟨st, S, vl, Q', I, r, ev, kk⟩ => by
    have ev : shrL vl fun y => asO (gs st i) fun _ => bw c (evE G c EX) st fun kx st1 => asO (gs st1 i) fun x => setD x kx y fun x' => Q' (ss st1 i (some (.own x'))) := ev
    obtain ⟨y, S1, I1, m1, ry, ev1⟩ := r.shareL I ev
    obtain ⟨x0, h0, ev2⟩ := asO_at ev1
    obtain ⟨w, hw, a, o, e0, ha0, _⟩ := I1.at_ i _ (gs_get.mp h0)
    subst e0
    refine ⟨_, hw, st, S1, _, I1, ev2, fun v2 H2 st2 S2 kx I2 g2 r2 q2 => ?_⟩
    obtain ⟨x, hx, q3⟩ := asO_at q2
    obtain ⟨ds, n, j, ex, ei, hj, q4⟩ := setD_at q3
    subst ex ei
    obtain ⟨w2, hw2, a2, o2, e2, ha2, hs2, he2, hr2, vs, eo, rv⟩ := I2.at_ i _ (gs_get.mp hx)
    rw [hw] at hw2; cases hw2; cases e2
    subst eo
    refine ⟨a, vs, n, j, rfl, (r2.now I2).int, ha2, by rw [rv.length]; exact hj, ?_⟩
    exact kk σ _ _ S2 (I2.mut (y := .list (ds.set j y)) hx hw ha2 ⟨vs, rfl, rv⟩ ⟨_, rfl, rv.set (ry.mono g2.mono) j⟩) (m1.trans g2.mono) ⟨rfl, fun _ _ => rfl⟩ q4
/-! ### values side by side -/
inductive VTs (L : Lw) (E0 : En) (st : Sl) (σ : L2.St) (S H : Hp) : List Vl → List V → Prop
  | nil : VTs L E0 st σ S H [] []
  | cons {vl v vls vs} : VT L E0 st σ S H vl v → VTs L E0 st σ S H vls vs → (∀ x a, vl = .own x → v = .ref a → ∀ (i : Nat) y, vls[i]? = some (.own y) → vs[i]? ≠ some (.ref a)) → VTs L E0 st σ S H (vl :: vls) (v :: vs)
def tVs (L : Lw) (E0 : En) (ev : Sl → (List Vl → Sl → Prop) → Prop) : TA := fun σ H Q => ∃ st S Q', SI L E0 st σ S H ∧ ev st Q' ∧
  ∀ vs H' st' S' vls, SI L E0 st' σ S' H' → Go L st σ S H st' S' H' → VTs L E0 st' σ S' H' vls vs → (∀ (i : Nat) x a, vls[i]? = some (.own x) → vs[i]? = some (.ref a) → ¬ Has H a) → Q' vls st' → Q vs H'
theorem jv_nil : PA X [] (tVs L E0 (evP G .nil EX)) := pa_nil.weak fun σ H Q ⟨st, S, Q', I, ev, kk⟩ => kk [] H st S [] I (.refl ..) .nil (fun i x a h => by simp at h) ev
/-- it stands behind the next ones -/
theorem VR.stay {H0 : Hp} (I1 : SI L E0 st1 σ S1 H1) (r : VR L E0 H0 st1 σ S1 H1 vl v) (g : Go L st1 σ S1 H1 st2 S2 H2) : VR L E0 H0 st2 σ S2 H2 vl v := by
  cases vl with
  | d x => exact ⟨Rp.mono g.mono r.val, (fun _ _ e => nomatch e), (fun _ _ e => nomatch e), fun _ e => nomatch e⟩
  | own x =>
    obtain ⟨a, o, e, ha, hs, he, hr, c⟩ := r.val
    have no := r.new x a rfl e
    refine ⟨⟨a, o, e, g.fr a o ha no hr c.notTbl, g.uns a ⟨o, ha, c.notTbl⟩ hs no, he, hr, c.mono g.mono⟩, fun y b e1 e2 ⟨i, z, h1, h2⟩ => ?_, r.fr, fun _ e => nomatch e⟩
    rw [e] at e2; cases e2
    obtain ⟨z', h3, _⟩ := g.ownS i z h1
    exact no ⟨i, z', h3, h2⟩
  | lent x => exact absurd rfl (r.nl x)
  | row => exact ⟨r.val, (fun _ _ e => nomatch e), (fun _ _ e => nomatch e), fun _ e => nomatch e⟩
  | fn n => exact ⟨r.val, (fun _ _ e => nomatch e), (fun _ _ e => nomatch e), fun _ e => nomatch e⟩
theorem jv_cons {es : List Expr} {cs : CEs} {b : Bool} (ha : JE L E0 G EX X e c) (hr : PA X es (tVs L E0 (evP G cs EX))) (hs : noStar e = true) : PA X (e :: es) (tVs L E0 (evP G (.cons b c cs) EX)) :=
  (pa_cons ha.d hr (starEach_no hs)).weak fun σ H Q ⟨st, S, Q', I, ev, kk⟩ => by
    have ev : evE G c EX st fun vl st1 => evP G cs EX st1 fun vs st2 => Q' (vl :: vs) st2 := ev
    refine ⟨st, S, _, I, ev, fun v1 H1 st1 S1 vl I1 g1 r1 q1 => ⟨st1, S1, _, I1, q1, fun vs H2 st2 S2 vls I2 g2 r2 f2 q2 => ?_⟩⟩
    have r3 := r1.stay I1 g2
    refine kk _ H2 st2 S2 _ I2 (g1.trans g2) (.cons r3.vt r2 fun x a e1 e2 i y h1 h2 => ?_) (fun i x a h1 h2 => ?_) q2
    · have z := f2 i y a h1 h2
      subst e1
      obtain ⟨a', o, e, ha', _, _, _, c⟩ := r1.val
      rw [e2] at e; cases e
      exact z ⟨o, ha', c.notTbl⟩
    · cases i with
      | zero =>
        simp at h1 h2
        exact r1.fr x a h1 h2
      | succ i =>
        simp at h1 h2
        exact g1.dom a (f2 i x a h1 h2)
/-- stored, one after another -/
theorem puts : ∀ {is : List Nat} {vls : List Vl} {vs : List V} {st : Sl} {σ : L2.St} {Q : Sl → Prop}, SI L E0 st σ S H → VTs L E0 st σ S H vls vs → evTgV is vls st Q →
    ∃ st', SI L E0 st' (List.foldl (fun σ (p : Nat × V) => σ.set p.1 (some p.2)) σ (is.zip vs)) S H ∧ Q st'
  | [], [], _, st, σ, Q, I, .nil, ev => ⟨st, I, ev⟩
  | i :: is, vl :: vls, v :: vs, st, σ, Q, I, .cons h r d, ev => by
    have I1 := I.put (i := i) h
    refine puts (st := ss st i (some vl)) (σ := σ.set i (some v)) I1 ?_ ev
    have key : ∀ {vls : List Vl} {vs : List V}, VTs L E0 st σ S H vls vs → (∀ x a, vl = .own x → v = .ref a → ∀ (i : Nat) y, vls[i]? = some (.own y) → vs[i]? ≠ some (.ref a)) → VTs L E0 (ss st i (some vl)) (σ.set i (some v)) S H vls vs := fun {vls vs} r => by
      induction r with
      | nil => exact fun _ => .nil
      | @cons wl w wls ws h1 h2 d2 ih =>
        intro d
        refine .cons ⟨h1.val, fun x a e1 e2 ⟨j, y, h3, h4⟩ => ?_, h1.nl⟩ (ih fun x a e1 e2 j y h3 h4 => d x a e1 e2 (j + 1) y (by simpa using h3) (by simpa using h4)) d2
        rcases ss_get h3 with ⟨rfl, e⟩ | ⟨ne, e⟩
        · cases e
          rcases set_get h4 with ⟨_, e5⟩ | ⟨n5, _⟩
          · exact d y a rfl (by cases e5; rfl) 0 x (by rw [e1]; rfl) (by rw [e2]; rfl)
          · exact n5 rfl
        · rcases set_get h4 with ⟨n5, _⟩ | ⟨_, h4⟩
          · exact ne n5
          · exact h1.new x a e1 e2 ⟨j, y, e, h4⟩
    exact key r d
  | [], _ :: _, _, _, _, _, _, _, ev => ev.elim
  | _ :: _, [], _, _, _, _, _, _, ev => ev.elim
end
end PX
end L2
/-! Statements. -/
namespace L2
namespace PX
open PySem PySem.Spec PyProof.Rows
/-- the ends on data lead to the ends on heaps -/
structure EndsOk (L : Lw) (E0 : En) (S : Hp) (D' : Ed) (D : Ends) : Prop where
  nx : ∀ st' σ' S' H', SI L E0 st' σ' S' H' → Mono S S' → D'.nx st' → D.nx σ' H'
  bk : ∀ st' σ' S' H', SI L E0 st' σ' S' H' → Mono S S' → D'.bk st' → D.bk σ' H'
  ct : ∀ st' σ' S' H', SI L E0 st' σ' S' H' → Mono S S' → D'.ct st' → D.ct σ' H'
  rt : ∀ v vl S' H', HI L E0 S' H' → SVal L S' H' E0 vl v → (∀ x, vl ≠ .lent x) → D'.rt vl → D.rt v H'
def tSt (L : Lw) (E0 : En) (ev : Ed → Sl → Prop) : TS := fun D σ H => ∃ st S D', SI L E0 st σ S H ∧ ev D' st ∧ EndsOk L E0 S D' D
theorem _root_.L2.PSs.weak {X : Cx} {st : List Stmt} {t t' : TS} (h : PSs X st t) (i : ∀ D σ H, t' D σ H → t D σ H) : PSs X st t' := ⟨fun pins s σ H D I hw => h.run pins s σ H D I (i D σ H hw)⟩
section
variable {L : Lw} {E0 E1 : En} {G : Gm} {EX : Exn → Prop} {X : Cx} {k : Nat} {c c2 c3 : CE} {e e2 e3 tg : Expr} {st st' st1 st2 : Sl} {σ σ' : L2.St} {S S' S1 S2 H H' H1 H2 : Hp} {v : V} {x y : PyData} {vl : Vl} {pos : Pos} {D' : Ed} {D : Ends} {body orelse : List Stmt} {sm : Stmt} {cs cs2 : CSs} {q : CQ}
theorem EndsOk.mono (E : EndsOk L E0 S D' D) (m : Mono S S') : EndsOk L E0 S' D' D :=
  ⟨fun st σ S2 H2 I m2 => E.nx st σ S2 H2 I (m.trans m2), fun st σ S2 H2 I m2 => E.bk st σ S2 H2 I (m.trans m2), fun st σ S2 H2 I m2 => E.ct st σ S2 H2 I (m.trans m2), E.rt⟩
theorem jss_nil : PSs X [] (tSt L E0 (evSs G EX .nil)) := pss_nil.weak fun D σ H ⟨st, S, D', I, ev, E⟩ => E.nx st σ S H I (.refl S) ev
theorem jss_cons {s : CS} {rest : List Stmt} (h1 : PS X sm (tSt L E0 (evS G EX s))) (h2 : PSs X rest (tSt L E0 (evSs G EX cs))) : PSs X (sm :: rest) (tSt L E0 (evSs G EX (.cons s cs))) :=
  (pss_cons h1 h2).weak fun D σ H ⟨st, S, D', I, ev, E⟩ => by
    have ev : evS G EX s { D' with nx := fun st' => evSs G EX cs D' st' } st := ev
    exact ⟨st, S, _, I, ev, ⟨fun st' σ' S' H' I' m q => ⟨st', S', D', I', q, E.mono m⟩, E.bk, E.ct, E.rt⟩⟩
theorem js_pass : PS X (.Pass pos) (tSt L E0 (evS G EX .pass)) := ps_pass.weak fun D σ H ⟨st, S, D', I, ev, E⟩ => E.nx st σ S H I (.refl S) ev
theorem js_brk : PS X (.Break pos) (tSt L E0 (evS G EX .brk)) := ps_break.weak fun D σ H ⟨st, S, D', I, ev, E⟩ => E.bk st σ S H I (.refl S) ev
theorem js_cont : PS X (.Continue pos) (tSt L E0 (evS G EX .cont)) := ps_continue.weak fun D σ H ⟨st, S, D', I, ev, E⟩ => E.ct st σ S H I (.refl S) ev
/-- target = e -/
theorem js_asg {t : CT} (ha : PE X e (tD L E0 (evE G c EX))) (ht : PG X tg (tG L E0 (CT.slots t) fun vl st Q => evTg G t vl EX st Q)) (hs : swapsWithSole [tg] e pos.line X.env = pure false) (hw : swappedStores [tg] e X.env = pure none)
    (h1 : (assignEach [tg] X.env).map (·.2) = [assign tg X.env]) : PS X (.Assign [tg] e pos) (tSt L E0 (evS G EX (.asg t c))) :=
  (ps_asg ha ht hs hw h1).weak fun D σ H ⟨st, S, D', I, ev, E⟩ => by
    have ev : evE G c EX st fun vl st1 => evTg G t vl EX st1 D'.nx := ev
    exact ⟨st, S, _, I, ev, fun v H1 st1 S1 vl I1 g1 r1 q1 => ⟨st1, S1, vl, _, I1, r1.vt, q1, fun σ' H' st' S' I' m _ q' => E.nx _ _ _ _ I' (g1.mono.trans m) q'⟩⟩
theorem js_ex (ha : PE X e (tD L E0 (evE G c EX))) (hs : swapsWith e none pos.line X.env = pure false) : PS X (.Expr e pos) (tSt L E0 (evS G EX (.ex c))) :=
  (ps_expr ha hs).weak fun D σ H ⟨st, S, D', I, ev, E⟩ => by
    have ev : evE G c EX st fun _ st1 => D'.nx st1 := ev
    exact ⟨st, S, _, I, ev, fun v H1 st1 S1 vl I1 g1 r1 q1 => E.nx _ _ _ _ I1 g1.mono q1⟩
theorem retE_no (h : ∀ i, c ≠ .var i) {ev : Sl → (Vl → Sl → Prop) → Prop} {Q : Vl → Prop} : retE c ev st Q = ev st fun vl _ => Q vl := by
  cases c <;> first | rfl | exact absurd rfl (h _)
theorem js_ret (ha : PE X e (tD L E0 (evE G c EX))) (hn : ∀ i, c ≠ .var i) : PS X (.Return (some e) pos) (tSt L E0 (evS G EX (.ret c))) :=
  (ps_ret ha).weak fun D σ H ⟨st, S, D', I, ev, E⟩ => by
    have ev : retE c (evE G c EX) st D'.rt := ev
    rw [retE_no hn] at ev
    exact ⟨st, S, _, I, ev, fun v H1 st1 S1 vl I1 g1 r1 q1 => E.rt v vl S1 H1 I1.toHI r1.val r1.nl q1⟩
theorem js_retV {i : Nat} {n : Str} {p : Pos} (hN : X.N[i]? = some n) (hv : Vis X.env.scope n) (hd : (n == ("__debug__" : Str)) = false) (hcd : (n == ("__classdict__" : Str)) = false) : PS X (.Return (some (.Name n p)) pos) (tSt L E0 (evS G EX (.ret (.var i)))) :=
  (ps_ret (pe_var hN hv hd hcd)).weak fun D σ H ⟨st, S, D', I, ev, E⟩ => by
    have ev : retV (gs st i) D'.rt := ev
    cases hg : gs st i with
    | none => rw [hg] at ev; exact ev.elim
    | some vl =>
      rw [hg] at ev
      obtain ⟨v, h1, h2⟩ := I.at_ i vl (gs_get.mp hg)
      refine ⟨v, h1, ?_⟩
      cases vl with
      | d x => exact E.rt v _ S H I.toHI h2 (fun _ e => nomatch e) ev
      | own x => exact E.rt v _ S H I.toHI h2 (fun _ e => nomatch e) ev
      | lent x => exact ev.elim
      | row => exact ev.elim
      | fn n => exact ev.elim
theorem js_retN : PS X (.Return none pos) (tSt L E0 (evS G EX .retN)) := ps_retN.weak fun D σ H ⟨st, S, D', I, ev, E⟩ => E.rt .non (.d .none) S H I.toHI (.non : Rp L.K S .non .none) (fun _ e => nomatch e) ev
theorem js_if (hq : PT X e (tQ L E0 (evQ G q EX))) (h1 : PSs X body (tSt L E0 (evSs G EX cs))) (h2 : PSs X orelse (tSt L E0 (evSs G EX cs2))) : PS X (.If e body orelse pos) (tSt L E0 (evS G EX (.ife q cs cs2))) :=
  (ps_if hq h1 h2).weak fun D σ H ⟨st, S, D', I, ev, E⟩ => by
    have ev : evQ G q EX st fun k st1 => ifB k (evSs G EX cs D' st1) (evSs G EX cs2 D' st1) := ev
    refine ⟨st, S, _, I, ev, fun b H1 st1 S1 I1 g1 q1 => ?_⟩
    cases b with
    | true => exact ⟨st1, S1, D', I1, q1, E.mono g1.mono⟩
    | false => exact ⟨st1, S1, D', I1, q1, E.mono g1.mono⟩
theorem js_for (F : Fit L E0 EX X k) {it : CI} {t : CT} (hi : PI X tg e (tI L E0 true (evI G it true EX))) (ht : PG X tg (tG L E0 (CT.slots t) fun vl st Q => evTg G t vl EX st Q)) (hb : PSs X body (tSt L E0 (evSs G EX cs))) (hs : ∀ x, foldedSetIterable e X.env x = pure x) :
    PS X (.For tg e body [] pos) (tSt L E0 (evS G EX (.for_ t it cs))) :=
  (ps_for F.po F.calm hi ht hb hs).weak fun D σ H ⟨st, S, D', I, ev, E⟩ => by
    have ev : evI G it true EX st fun items st1 => forL (fun x D' st' => evTg G t (.d x) EX st' fun st2 => evSs G EX cs D' st2) items D' st1 := ev
    refine ⟨st, S, _, I, ev, fun J H1 st1 S1 ds I1 g1 wd q1 => ?_⟩
    refine ⟨fun i m σ' H' => m = ds.length - i ∧ i ≤ ds.length ∧ ∃ st' S', SI L E0 st' σ' S' H' ∧ Mono S1 S' ∧ forL (fun x D' st' => evTg G t (.d x) EX st' fun st2 => evSs G EX cs D' st2) (ds.drop i) D' st', ⟨_, rfl, Nat.zero_le _, st1, S1, I1, .refl _, q1⟩, ?_⟩
    rintro i m σ' H' ⟨rfl, hi, st2, S2, I2, m2, q2⟩
    by_cases hlt : i < ds.length
    · have hd : ds[i]? = some ds[i] := List.getElem?_eq_getElem hlt
      obtain ⟨go, yl⟩ := wd.go i _ S2 H' hd ⟨m2, I2.sub⟩
      rw [List.drop_eq_getElem_cons hlt] at q2
      refine .inr ⟨go, fun σ3 H3 => ∃ st3 S3, SI L E0 st3 σ3 S3 H3 ∧ Mono S1 S3 ∧ forL (fun x D' st' => evTg G t (.d x) EX st' fun st2 => evSs G EX cs D' st2) (ds.drop (i + 1)) D' st3, fun σ3 H3 ⟨st3, S3, I3, m3, q3⟩ => ⟨ds.length - (i + 1), by omega, rfl, hlt, st3, S3, I3, m3, q3⟩, fun x H3 y => ?_⟩
      obtain ⟨S3, I3, g3, r3⟩ := I2.closeV (yl x H3 y)
      refine ⟨st2, S3, _, _, I3, r3.vt, q2, fun σ4 H4 st4 S4 I4 m4 _ q4 => ?_⟩
      refine ⟨st4, S4, _, I4, q4, ⟨fun st5 σ5 S5 H5 I5 m5 q5 => ⟨st5, S5, I5, ((m2.trans g3.mono).trans m4).trans m5, q5⟩, fun st5 σ5 S5 H5 I5 m5 q5 => ?_, fun st5 σ5 S5 H5 I5 m5 q5 => ⟨st5, S5, I5, ((m2.trans g3.mono).trans m4).trans m5, q5⟩, E.rt⟩⟩
      exact E.nx st5 σ5 S5 H5 I5 ((((g1.mono.trans m2).trans g3.mono).trans m4).trans m5) q5
    · have e1 : i = ds.length := by omega
      subst e1
      rw [List.drop_length] at q2
      exact .inl ⟨wd.stop S2 H' ⟨m2, I2.sub⟩, E.nx st2 σ' S2 H' I2 (g1.mono.trans m2) q2⟩
theorem js_while (F : Fit L E0 EX X k) (hq : PT X e (tQ L E0 (evQ G q EX))) (hb : PSs X body (tSt L E0 (evSs G EX cs))) : PS X (.While e body [] pos) (tSt L E0 (evS G EX (.while_ q cs))) :=
  (ps_while F.po hq hb).weak fun D σ H ⟨st, S, D', I, ev, E⟩ => by
    obtain ⟨W, ⟨m0, w0⟩, step⟩ := (show ∃ W : Nat → Sl → Prop, (∃ m, W m st) ∧ ∀ m st, W m st → evQ G q EX st fun k st1 => ifB k (evSs G EX cs { D' with nx := fun st' => ∃ m', m' < m ∧ W m' st', ct := fun st' => ∃ m', m' < m ∧ W m' st', bk := D'.nx } st1) (D'.nx st1) from ev)
    refine ⟨fun m σ' H' => ∃ st' S', SI L E0 st' σ' S' H' ∧ Mono S S' ∧ W m st', ⟨m0, st, S, I, .refl S, w0⟩, ?_⟩
    rintro m σ1 H1 ⟨st1, S1, I1, m1, w1⟩
    refine ⟨st1, S1, _, I1, step m st1 w1, fun b H2 st2 S2 I2 g2 q2 => ?_⟩
    cases b with
    | true =>
      refine ⟨fun σ' H' => ∃ m', m' < m ∧ ∃ st' S', SI L E0 st' σ' S' H' ∧ Mono S S' ∧ W m' st', fun σ' H' h => h, ?_⟩
      refine ⟨st2, S2, _, I2, q2, ⟨fun st3 σ3 S3 H3 I3 m3 ⟨m', hm, w'⟩ => ⟨m', hm, st3, S3, I3, (m1.trans g2.mono).trans m3, w'⟩, fun st3 σ3 S3 H3 I3 m3 q3 => ?_, fun st3 σ3 S3 H3 I3 m3 ⟨m', hm, w'⟩ => ⟨m', hm, st3, S3, I3, (m1.trans g2.mono).trans m3, w'⟩, E.rt⟩⟩
      exact E.nx st3 σ3 S3 H3 I3 ((m1.trans g2.mono).trans m3) q3
    | false => exact E.nx st2 σ1 S2 H2 I2 (m1.trans g2.mono) q2
/-! ### name op= e -/
def augOk : BOp → Bool
  | .pow => false
  | _ => true
theorem iop_all : ∀ o : BOp, augOk o = true → PIp X (opOf o) fun x y H Q => ∃ a b n, x = .int a ∧ y = .int b ∧ binP o (.int a) (.int b) ∧ binV o (.int a) (.int b) = .d (.int n) ∧ Q (.int n) H
  | .add, _ => fun pins s σ H x y v u Q I rx ry ⟨a, b, n, h1, h2, p, hn, q⟩ => by cases hn; exact iop_add pins s σ H x y v u Q I rx ry ⟨a, b, h1, h2, q⟩
  | .sub, _ => fun pins s σ H x y v u Q I rx ry ⟨a, b, n, h1, h2, p, hn, q⟩ => by cases hn; exact iop_sub pins s σ H x y v u Q I rx ry ⟨a, b, h1, h2, q⟩
  | .mul, _ => fun pins s σ H x y v u Q I rx ry ⟨a, b, n, h1, h2, p, hn, q⟩ => by cases hn; exact iop_mul pins s σ H x y v u Q I rx ry ⟨a, b, h1, h2, p, q⟩
  | .fdiv, _ => fun pins s σ H x y v u Q I rx ry ⟨a, b, n, h1, h2, p, hn, q⟩ => by cases hn; exact iop_fdiv pins s σ H x y v u Q I rx ry ⟨a, b, h1, h2, p, q⟩
  | .mod, _ => fun pins s σ H x y v u Q I rx ry ⟨a, b, n, h1, h2, p, hn, q⟩ => by cases hn; exact iop_mod pins s σ H x y v u Q I rx ry ⟨a, b, h1, h2, p, q⟩
  | .pow, h => by cases h
theorem binV_int : ∀ (o : BOp) (a b : Int), ∃ n, binV o (.int a) (.int b) = .d (.int n)
  | .add, _, _ => ⟨_, rfl⟩
  | .sub, _, _ => ⟨_, rfl⟩
  | .mul, _, _ => ⟨_, rfl⟩
  | .fdiv, _, _ => ⟨_, rfl⟩
  | .mod, _, _ => ⟨_, rfl⟩
  | .pow, _, _ => ⟨_, rfl⟩
theorem look_at {o : Option Vl} {Q : PyData → Prop} (h : look o Q) : ∃ x, (o = some (.d x) ∨ o = some (.own x) ∨ o = some (.lent x)) ∧ Q x := by
  cases o with
  | none => exact h.elim
  | some v => cases v <;> first | exact h.elim | exact ⟨_, .inl rfl, h⟩ | exact ⟨_, .inr (.inl rfl), h⟩ | exact ⟨_, .inr (.inr rfl), h⟩
theorem js_aug (F : Fit L E0 EX X k) (o : BOp) (ho : augOk o = true) {i : Nat} {n : Str} {p : Pos} (hN : X.N[i]? = some n) (hx : Loc X.env.scope n) (hf : X.fn n = true ∨ X.env.scope.names.lookup n = some .local) (ha : JE L E0 G EX X e c) :
    PS X (.AugAssign (.Name n p) (opOf o) e pos) (tSt L E0 (evS G EX (.aug o i c))) :=
  (ps_aug F.nd hN hx ha.b (iop_all o ho) hf).weak fun D σ H ⟨st, S, D', I, ev, E⟩ => by
    have ev : look (gs st i) fun x => bw c (evE G c EX) st fun y st2 => gs st2 i = gs st i ∧ asI x fun a => asI y fun b => binP o (.int a) (.int b) ∧ shr (binV o (.int a) (.int b)) fun z => D'.nx (ss st2 i (some (.d z))) := ev
    obtain ⟨x, hx, ev1⟩ := look_at ev
    have hw : ∃ w, σ[i]? = some (some w) ∧ ∃ vl, gs st i = some vl ∧ SVal L S H E0 vl w ∧ (vl = .d x ∨ vl = .own x ∨ vl = .lent x) := by
      rcases hx with hx | hx | hx
      · obtain ⟨w, h1, h2⟩ := I.at_ i _ (gs_get.mp hx); exact ⟨w, h1, _, hx, h2, .inl rfl⟩
      · obtain ⟨w, h1, h2⟩ := I.at_ i _ (gs_get.mp hx); exact ⟨w, h1, _, hx, h2, .inr (.inl rfl)⟩
      · obtain ⟨w, h1, h2⟩ := I.at_ i _ (gs_get.mp hx); exact ⟨w, h1, _, hx, h2, .inr (.inr rfl)⟩
    obtain ⟨w, hw, vl, hg, sv, hvl⟩ := hw
    refine ⟨w, hw, st, S, _, I, ev1, fun v2 H2 st2 S2 y I2 g2 r2 ⟨_, q2⟩ => ?_⟩
    obtain ⟨a, ea, q3⟩ := asI_at q2
    obtain ⟨b, eb, p, q4⟩ := asI_at q3
    subst ea eb
    obtain ⟨n, hn⟩ := binV_int o a b
    rw [hn] at q4
    have ew : w = .int a := by
      rcases hvl with rfl | rfl | rfl
      · have sv : Rp L.K S w (.int a) := sv
        cases sv; rfl
      · obtain ⟨_, _, _, _, _, _, _, c⟩ := sv; exact c.elim
      · obtain ⟨_, _, _, _, _, _, _, c⟩ := sv; exact c.elim
    exact ⟨a, b, n, ew, (r2.now I2).int, p, hn, E.nx _ _ S2 H2 (I2.put (.d (.int n))) g2.mono q4⟩
/-! ### xs.append(e) -/
theorem asL_at {o : Option Vl} {Q : List PyData → Prop} (h : asL o Q) : ∃ x, o = some (.own (.list x)) ∧ Q x := by
  cases o with
  | none => exact h.elim
  | some v => cases v <;> first | exact h.elim | (rename_i x; cases x <;> first | exact h.elim | exact ⟨_, rfl, h⟩)
theorem js_append {i : Nat} {n : Str} {p apos cpos : Pos} (hN : X.N[i]? = some n) (hv : Vis X.env.scope n) (hd : (n == ("__debug__" : Str)) = false) (hcd : (n == ("__classdict__" : Str)) = false) (ha : JE L E0 G EX X e c) (hs : noStar e = true) (hline : (apos.endLine == cpos.line) = true)
    (hbase : attributeBase (.Name n p) "append" X.env (eval (.Name n p) X.env) = eval (.Name n p) X.env)
    (hfew : ((backTo cpos (starEach [e] X.env)).all (fun x => !x.1) && (backToKw cpos (keywordEach [] X.env)).all (fun x => x.1.isSome) && decide (([e] : List Expr).length + ([] : List Keyword).length + (if ([] : List Keyword).isEmpty then 0 else 1) < 30)) = true)
    (hsw : swapsWith (.Call (.Attribute (.Name n p) "append" apos) [e] [] cpos) none pos.line X.env = pure false) :
    PS X (.Expr (.Call (.Attribute (.Name n p) "append" apos) [e] [] cpos) pos) (tSt L E0 (evS G EX (.mut .append i (.cons false c .nil)))) :=
  (ps_expr (pe_bm PySem.F.plainAttrs_list PySem.F.slot_list_append PySem.F.type_list_append mt_append (pe_var hN hv hd hcd) (pa_cons (JE.s ha.d) pa_nil (starEach_no hs)) hbase hfew hline (starEach_no hs) (star_no rfl)) hsw).weak fun D σ H ⟨st, S, D', I, ev, E⟩ => by
    have ev : asL (gs st i) fun _ => evE G c EX st fun vl st1 => shr vl fun y => asL (gs st1 i) fun ds => ds.length < sizeLine ∧ D'.nx (ss st1 i (some (.own (.list (ds ++ [y]))))) := ev
    obtain ⟨ds0, h0, ev1⟩ := asL_at ev
    obtain ⟨w, hw, a, o, e0, ha0, _, _, _, vs0, eo0, _⟩ := I.at_ i _ (gs_get.mp h0)
    subst e0 eo0
    refine ⟨_, hw, .inl ⟨rfl, vs0, SqL.of ha0⟩, st, S, _, I, ev1, fun v2 H2 st2 S2 vl I2 g2 r2 q2 => ?_⟩
    obtain ⟨y, ry, q3⟩ := argV_shr r2 q2
    obtain ⟨ds, hx, hz, q4⟩ := asL_at q3
    obtain ⟨w2, hw2, a2, o2, e2, ha2, hs2, he2, hr2, vs, eo, rv⟩ := I2.at_ i _ (gs_get.mp hx)
    rw [hw] at hw2; cases hw2; cases e2
    subst eo
    refine ⟨a, vs, v2, rfl, rfl, ha2, by rw [rv.length]; exact hz, ?_⟩
    exact E.nx _ σ S2 _ (I2.mut (y := .list (ds ++ [y])) hx hw ha2 ⟨vs, rfl, rv⟩ ⟨_, rfl, rv.append (.cons ry .nil)⟩) g2.mono q4
theorem js_extend {i : Nat} {n : Str} {p apos cpos : Pos} (hN : X.N[i]? = some n) (hv : Vis X.env.scope n) (hd : (n == ("__debug__" : Str)) = false) (hcd : (n == ("__classdict__" : Str)) = false) (ha : JE L E0 G EX X e c) (hs : noStar e = true) (hline : (apos.endLine == cpos.line) = true)
    (hbase : attributeBase (.Name n p) "extend" X.env (eval (.Name n p) X.env) = eval (.Name n p) X.env)
    (hfew : ((backTo cpos (starEach [e] X.env)).all (fun x => !x.1) && (backToKw cpos (keywordEach [] X.env)).all (fun x => x.1.isSome) && decide (([e] : List Expr).length + ([] : List Keyword).length + (if ([] : List Keyword).isEmpty then 0 else 1) < 30)) = true)
    (hsw : swapsWith (.Call (.Attribute (.Name n p) "extend" apos) [e] [] cpos) none pos.line X.env = pure false) :
    PS X (.Expr (.Call (.Attribute (.Name n p) "extend" apos) [e] [] cpos) pos) (tSt L E0 (evS G EX (.mut .extend i (.cons false c .nil)))) :=
  (ps_expr (pe_bm PySem.F.plainAttrs_list PySem.F.slot_list_extend PySem.F.type_list_extend mt_extend (pe_var hN hv hd hcd) (pa_cons (JE.s ha.d) pa_nil (starEach_no hs)) hbase hfew hline (starEach_no hs) (star_no rfl)) hsw).weak fun D σ H ⟨st, S, D', I, ev, E⟩ => by
    have ev : asL (gs st i) fun _ => evE G c EX st fun vl st1 => shr vl fun y => asLs y fun es => asL (gs st1 i) fun ds => ds.length + es.length ≤ sizeLine ∧ D'.nx (ss st1 i (some (.own (.list (ds ++ es))))) := ev
    obtain ⟨ds0, h0, ev1⟩ := asL_at ev
    obtain ⟨w, hw, a, o, e0, ha0, _, _, _, vs0, eo0, _⟩ := I.at_ i _ (gs_get.mp h0)
    subst e0 eo0
    refine ⟨_, hw, .inl ⟨rfl, vs0, SqL.of ha0⟩, st, S, _, I, ev1, fun v2 H2 st2 S2 vl I2 g2 r2 q2 => ?_⟩
    obtain ⟨y, ry, q3⟩ := argV_shr r2 q2
    obtain ⟨es, hy, q3⟩ := asLs_at q3
    subst hy
    obtain ⟨ds, hx, hz, q4⟩ := asL_at q3
    obtain ⟨w2, hw2, a2, o2, e2, ha2, hs2, he2, hr2, vs, eo, rv⟩ := I2.at_ i _ (gs_get.mp hx)
    rw [hw] at hw2; cases hw2; cases e2
    subst eo
    cases ry with
    | lst hb rb =>
      refine ⟨a, _, vs, _, rfl, rfl, ha2, I2.sub _ _ hb, by rw [rv.length, rb.length]; exact hz, ?_⟩
      exact E.nx _ σ S2 _ (I2.mut (y := .list (ds ++ es)) hx hw ha2 ⟨vs, rfl, rv⟩ ⟨_, rfl, rv.append rb⟩) g2.mono q4
/-! ### a, b = e, f -/
def tNames (is : List Nat) : TGs := fun vs σ H Q => vs.length = is.length ∧ Q (List.foldl (fun σ (p : Nat × V) => σ.set p.1 (some p.2)) σ (is.zip vs)) H
theorem jn_nil : PGs X [] (tNames []) := pgs_nil.weak fun vs σ H Q ⟨hl, q⟩ => by
  cases vs with
  | nil => exact ⟨rfl, q⟩
  | cons _ _ => cases hl
theorem jn_cons (F : Fit L E0 EX X k) {i : Nat} {n : Str} {p : Pos} {es : List Expr} {is : List Nat} (hi : X.N[i]? = some n) (hx : Loc X.env.scope n) (hf : X.fn n = true ∨ X.env.scope.names.lookup n = some .local) (h : PGs X es (tNames is)) : PGs X (.Name n p :: es) (tNames (i :: is)) :=
  (pgs_cons (pg_name F.nd hi hx hf) h (by rw [assignEach_no rfl]; rfl)).weak fun vs σ H Q ⟨hl, q⟩ => by
    cases vs with
    | nil => cases hl
    | cons v vs => exact ⟨v, vs, rfl, by simpa using hl, q⟩
theorem VTs.len {vls : List Vl} {vs : List V} (r : VTs L E0 st σ S H vls vs) : vls.length = vs.length := by
  induction r with
  | nil => rfl
  | cons _ _ _ ih => rw [List.length_cons, List.length_cons, ih]
theorem VTs.laid {vls : List Vl} {vs : List V} {p : Addr} {o : HO} (r : VTs L E0 st σ S H vls vs) (hp : H p = none) : VTs L E0 st σ S (L2.upd H p o) vls vs := by
  induction r with
  | nil => exact .nil
  | cons h _ d ih => exact .cons ⟨h.val.upd hp, h.new, h.nl⟩ ih d
theorem evTgV_len : ∀ {is : List Nat} {vls : List Vl} {st : Sl} {Q : Sl → Prop}, evTgV is vls st Q → is.length = vls.length
  | [], [], _, _, _ => rfl
  | i :: r, v :: vs, _, _, h => congrArg (· + 1) (evTgV_len (is := r) (vls := vs) h)
  | [], _ :: _, _, _, h => h.elim
  | _ :: _, [], _, _, h => h.elim
/-- through a tuple that is laid and unpacked -/
theorem js_parT (F : Fit L E0 EX X k) {ts es : List Expr} {is : List Nat} {ce : CEs} {kt k2 : Nat} {pt pt2 : Pos} (ha : PA X es (tVs L E0 (evP G ce EX))) (ht : PGs X ts (tNames is)) (hts : ts.all noStar = true) (hl : ts.length = is.length) (hz : is.length ≤ sizeLine)
    (hs : swapsWithSole [.Tuple ts kt pt] (.Tuple es k2 pt2) pos.line X.env = pure false) (hw : swappedStores [.Tuple ts kt pt] (.Tuple es k2 pt2) X.env = pure none) : PS X (.Assign [.Tuple ts kt pt] (.Tuple es k2 pt2) pos) (tSt L E0 (evS G EX (.par is ce))) := by
  obtain ⟨a1, a2⟩ := assignEach_len (env := X.env) hts
  rw [hl] at a1
  refine (ps_asg (pe_tup ha) (pg_tup F.calm ht a1 a2) hs hw rfl).weak fun D σ H ⟨st, S, D', I, ev, E⟩ => ?_
  have ev : evP G ce EX st fun vs st1 => evTgV is vs st1 D'.nx := ev
  refine ⟨st, S, _, I, ev, fun vs H1 st1 S1 vls I1 g1 r1 f1 q1 => ?_⟩
  have e1 := r1.len
  have e2 := evTgV_len q1
  refine ⟨by omega, fun p hp => ⟨p, vs, rfl, SqT.of upd_same, by omega, by omega, ?_⟩⟩
  obtain ⟨st', I', q'⟩ := puts (I1.laid (o := .tup vs) hp) (r1.laid hp) q1
  exact E.nx st' _ S1 _ I' g1.mono q'
theorem js_par2 (F : Fit L E0 EX X k) {i j : Nat} {n m : Str} {ce : CEs} {px py pt pt2 : Pos} {kt k2 : Nat} (hi : X.N[i]? = some n) (hj : X.N[j]? = some m) (hij : i ≠ j) (hx : X.env.scope.names.lookup n = some .local) (hy : X.env.scope.names.lookup m = some .local) (ha : PA X [e, e2] (tVs L E0 (evP G ce EX)))
    (hw : swappedStores [.Tuple [.Name n px, .Name m py] kt pt] (.Tuple [e, e2] k2 pt2) X.env = pure (some [n, m])) (hs : swapsWithSole [.Tuple [.Name n px, .Name m py] kt pt] (.Tuple [e, e2] k2 pt2) pos.line X.env = pure false) :
    PS X (.Assign [.Tuple [.Name n px, .Name m py] kt pt] (.Tuple [e, e2] k2 pt2) pos) (tSt L E0 (evS G EX (.par [i, j] ce))) :=
  (ps_par F.calm F.nd hi hj hij hx hy ha hw hs).weak fun D σ H ⟨st, S, D', I, ev, E⟩ => by
    have ev : evP G ce EX st fun vs st1 => evTgV [i, j] vs st1 D'.nx := ev
    refine ⟨st, S, _, I, ev, fun vs H1 st1 S1 vls I1 g1 r1 f1 q1 => ?_⟩
    have e1 := r1.len
    have e2 := evTgV_len q1
    obtain ⟨st', I', q'⟩ := puts I1 r1 q1
    match vs, (show vs.length = 2 by rw [← e1, ← e2]; rfl), I' with
    | [v, w], _, I' => exact ⟨v, w, rfl, E.nx st' _ S1 _ I' g1.mono q'⟩
theorem js_par3 (F : Fit L E0 EX X k) {i j l : Nat} {n m o : Str} {ce : CEs} {px py pz pt pt2 : Pos} {kt k2 : Nat} (hi : X.N[i]? = some n) (hj : X.N[j]? = some m) (hl : X.N[l]? = some o) (hij : i ≠ j) (hil : i ≠ l) (hjl : j ≠ l) (hx : X.env.scope.names.lookup n = some .local) (hy : X.env.scope.names.lookup m = some .local) (hz : X.env.scope.names.lookup o = some .local) (ha : PA X [e, e2, e3] (tVs L E0 (evP G ce EX)))
    (hw : swappedStores [.Tuple [.Name n px, .Name m py, .Name o pz] kt pt] (.Tuple [e, e2, e3] k2 pt2) X.env = pure (some [n, m, o])) (hs : swapsWithSole [.Tuple [.Name n px, .Name m py, .Name o pz] kt pt] (.Tuple [e, e2, e3] k2 pt2) pos.line X.env = pure false) :
    PS X (.Assign [.Tuple [.Name n px, .Name m py, .Name o pz] kt pt] (.Tuple [e, e2, e3] k2 pt2) pos) (tSt L E0 (evS G EX (.par [i, j, l] ce))) :=
  (ps_par3 F.calm F.nd hi hj hl hij hil hjl hx hy hz ha hw hs).weak fun D σ H ⟨st, S, D', I, ev, E⟩ => by
    have ev : evP G ce EX st fun vs st1 => evTgV [i, j, l] vs st1 D'.nx := ev
    refine ⟨st, S, _, I, ev, fun vs H1 st1 S1 vls I1 g1 r1 f1 q1 => ?_⟩
    have e1 := r1.len
    have e2 := evTgV_len q1
    obtain ⟨st', I', q'⟩ := puts I1 r1 q1
    match vs, (show vs.length = 3 by rw [← e1, ← e2]; rfl), I' with
    | [v, w, z], _, I' => exact ⟨v, w, z, rfl, E.nx st' _ S1 _ I' g1.mono q'⟩
/-- a list of one's own kept as it is from now on: nothing runs -/
theorem jss_frz {i : Nat} (hs : PSs X body (tSt L E0 (evSs G EX cs))) : PSs X body (tSt L E0 (evSs G EX (.cons (.frz i) cs))) :=
  hs.weak fun D σ H ⟨st, S, D', I, ev, E⟩ => by
    have ev : frzP (gs st i) (evSs G EX cs D' st) fun x => evSs G EX cs D' (ss st i (some (.d (.list x)))) := ev
    by_cases h : ∃ ds, gs st i = some (.own (.list ds))
    · obtain ⟨ds, h⟩ := h
      obtain ⟨w, hv, _⟩ := I.at_ i _ (gs_get.mp h)
      obtain ⟨S', I', g, _⟩ := I.freezeL h hv
      rw [h] at ev
      exact ⟨_, S', D', I', ev, E.mono g.mono⟩
    · refine ⟨st, S, D', I, ?_, E⟩
      cases q : gs st i with
      | none => rw [q] at ev; exact ev
      | some vl =>
        rw [q] at ev
        cases vl with
        | own x =>
          cases x with
          | list ds => exact absurd ⟨ds, q⟩ h
          | _ => exact ev
        | _ => exact ev
end
end PX
end L2
/-! Comprehensions. -/
namespace L2
namespace PX
open PySem PySem.Spec PyProof.Rows
section
variable {L : Lw} {E0 E1 : En} {G : Gm} {EX : Exn → Prop} {X : Cx} {k : Nat} {c c2 c3 : CE} {e e2 e3 tg : Expr} {st st' st1 st2 : Sl} {σ σ' : L2.St} {S S' S1 S2 H H' H1 H2 : Hp} {v : V} {x y : PyData} {vl : Vl} {pos : Pos}
theorem wipeS_get : ∀ {is : List Nat} {st : Sl} {j : Nat} {vl : Vl}, (wipeS st is)[j]? = some (some vl) → st[j]? = some (some vl) ∧ j ∉ is
  | [], _, _, _, h => ⟨h, by simp⟩
  | i :: r, st, j, vl, h => by
    obtain ⟨h1, h2⟩ := wipeS_get (is := r) (st := ss st i none) h
    rcases ss_get h1 with ⟨_, e⟩ | ⟨ne, e⟩
    · cases e
    · exact ⟨e, by simp only [List.mem_cons, not_or]; exact ⟨ne, h2⟩⟩
theorem wipeS_len : ∀ {is : List Nat} {st : Sl}, (wipeS st is).length = st.length
  | [], _ => rfl
  | i :: r, st => by
    show (wipeS (ss st i none) r).length = _
    rw [wipeS_len, ss_len]
theorem wipe_get : ∀ {is : List Nat} {σ : L2.St} {j : Nat}, j ∉ is → (wipe σ is)[j]? = σ[j]?
  | [], _, _, _ => rfl
  | i :: r, σ, j, h => by
    simp only [List.mem_cons, not_or] at h
    show ((wipe σ r).set i none)[j]? = _
    rw [List.getElem?_set_ne (fun z => h.1 z.symm)]
    exact wipe_get h.2
theorem wipe_in : ∀ {is : List Nat} {σ : L2.St} {j : Nat}, j ∈ is → (wipe σ is)[j]? = if j < σ.length then some none else none
  | i :: r, σ, j, h => by
    show ((wipe σ r).set i none)[j]? = _
    by_cases e : i = j
    · subst e
      rw [List.getElem?_set_self']
      by_cases hl : i < σ.length
      · rw [List.getElem?_eq_getElem (by rw [wipe_length]; exact hl)]
        simp [hl]
      · rw [List.getElem?_eq_none (by rw [wipe_length]; omega)]
        simp [hl]
    · rw [List.getElem?_set_ne e]
      rcases List.mem_cons.mp h with z | z
      · exact absurd z.symm e
      · exact wipe_in z
/-- back behind a turn -/
theorem wipe_back {is : List Nat} (a : Agree is (wipe σ is) σ') : wipe σ' is = wipe σ is := by
  apply List.ext_getElem?
  intro j
  have hl : σ'.length = σ.length := by rw [a.1, wipe_length]
  by_cases h : j ∈ is
  · rw [wipe_in h, wipe_in h, hl]
  · rw [wipe_get h, a.2 j h]
/-- the block's state -/
theorem SI.block (I : SI L E0 st σ S H) (is : List Nat) : SI L (ent H S) (wipeS (lendAll st) is) (wipe σ is) S H := lendAll_map st ▸
  { I.toHI.enter with
    len := by rw [wipeS_len, List.length_map, wipe_length]; exact I.len
    at_ := fun i vl h => by
      obtain ⟨h1, h2⟩ := wipeS_get h
      rw [List.getElem?_map] at h1
      cases q : st[i]? with
      | none => rw [q] at h1; cases h1
      | some o =>
        rw [q] at h1
        have h1 : lend1 o = some vl := Option.some.inj h1
        cases o with
        | none => cases h1
        | some w =>
          obtain ⟨v, h3, h4⟩ := I.at_ i w q
          refine ⟨v, by rw [wipe_get h2]; exact h3, ?_⟩
          cases w with
          | own x =>
            cases h1
            obtain ⟨a, o, e, ha, hs, he, hr, c⟩ := h4
            exact ⟨a, o, e, ha, hs, noT_some ha c.notTbl, hr, c⟩
          | d x => cases h1; exact h4
          | lent x =>
            cases h1
            obtain ⟨a, o, e, ha, hs, he, hr, c⟩ := h4
            exact ⟨a, o, e, ha, hs, noT_some ha c.notTbl, hr, c⟩
          | row => cases h1; exact h4
          | fn n => cases h1; exact h4
    dis := fun i j x y a h1 _ _ _ => by
      obtain ⟨h1, _⟩ := wipeS_get h1
      rw [List.getElem?_map] at h1
      cases q : st[i]? with
      | none => rw [q] at h1; cases h1
      | some o =>
        rw [q] at h1
        have h1 : lend1 o = some (.own x) := Option.some.inj h1
        cases o with
        | none => cases h1
        | some w => cases w <;> cases h1 }
theorem HI.updD {D : Addr} {vs vs' : List V} (I : HI L E0 S H) (hD : H D = some (.lst vs)) (hS : S D = none) (hE : E0.h D = none) (hR : L.R ≠ some D) : HI L E0 S (upd H D (.lst vs')) := by
  have stay : ∀ b u, b ≠ D → H b = some u → upd H D (.lst vs') b = some u := fun b u n e => by rw [upd_ne n]; exact e
  refine ⟨I.base, fun b u q => stay b u (fun z => by rw [z, hS] at q; cases q) (I.sub b u q), I.ns, fun b u q r => stay b u (fun z => by rw [z, hE] at q; cases q) (I.keep b u q r), fun b q => ?_, fun p hp => ?_, I.enT, I.snt⟩
  · have ne : b ≠ D := fun z => hR (by rw [q, z])
    exact ⟨(I.row b q).1.ext (.refl S) fun u e => stay b u ne e, (I.row b q).2⟩
  · obtain ⟨ps, h1, h2, h3⟩ := I.tabs p hp
    refine ⟨ps, stay _ _ (fun z => by rw [z, hD] at h1; cases h1) h1, h2, fun pos cv hc => ?_⟩
    obtain ⟨b, e1, e2⟩ := h3 pos cv hc
    refine ⟨b, e1, stay _ _ (fun z => ?_) e2⟩
    rw [z, hD] at e2
    have e2 := Option.some.inj e2
    unfold LamX.CodeO at e2
    cases e2
theorem SI.updD {D : Addr} {vs vs' : List V} (I : SI L E0 st σ S H) (hD : H D = some (.lst vs)) (hS : S D = none) (hE : E0.h D = none) (hR : L.R ≠ some D) (no : ¬ Owns st σ D) : SI L E0 st σ S (upd H D (.lst vs')) :=
  { I.toHI.updD hD hS hE hR with
    len := I.len
    at_ := fun i vl h => by
      obtain ⟨v, h1, h2⟩ := I.at_ i vl h
      refine ⟨v, h1, ?_⟩
      cases vl with
      | d x => exact h2
      | own x =>
        obtain ⟨a, o, e, ha, hs, he, hr, c⟩ := h2
        exact ⟨a, o, e, by rw [upd_ne (fun z => no ⟨i, x, h, by rw [h1, e, z]⟩)]; exact ha, hs, he, hr, c⟩
      | lent x =>
        obtain ⟨a, o, e, ha, hs, he, hr, c⟩ := h2
        exact ⟨a, o, e, by rw [upd_ne (fun z => by rw [z, hE] at he; cases he)]; exact ha, hs, he, hr, c⟩
      | row => exact h2
      | fn n => exact h2
    dis := I.dis }
/-- the fit of a block -/
theorem Fit.blk (F : Fit L E0 EX X k) (s : Shared) (H : Hp) (scope : Scope) (env : Env) (fp : List Addr) (E1 : En) : Fit L E1 (fun _ => False) (X.blk s H scope env fp) k where
  K := F.K
  tk := fun u s' ⟨_, _, _, _, _, _, _, _, _, _, _, _, _, _, _, _, _, _, _, _, z⟩ => z.elim
  calm := F.calm
  room := F.room
  nd := F.nd
  po := PassesOwn.never
/-- tests of a clause -/
def tW (L : Lw) (E0 : En) (ev : Sl → (Bool → Prop) → Prop) : TT := fun σ H Q => ∃ st S Q', SI L E0 st σ S H ∧ ev st Q' ∧ ∀ b H' S', SI L E0 st σ S' H' → Mono S S' → Q' b → Q b H'
theorem _root_.L2.PTs.weak {X : Cx} {e : List Expr} {t t' : TT} (h : PTs X e t) (i : ∀ σ H Q, t' σ H Q → t σ H Q) : PTs X e t' := ⟨fun pins s σ H Q I hw => h.run pins s σ H Q I (i σ H Q hw)⟩
theorem jw_no : PTs X [] (tW L E0 (evW G .no EX)) := pts_nil.weak fun σ H Q ⟨st, S, Q', I, ev, kk⟩ => kk true H S I (.refl S) ev
theorem jw_yes {q : CQ} (h : PT X e (tQ L E0 (evQ G q EX))) : PTs X [e] (tW L E0 (evW G (.yes q) EX)) := (pts_one h).weak fun σ H Q ⟨st, S, Q', I, ev, kk⟩ => by
  have ev : evQ G q EX st fun k st1 => st1 = st ∧ Q' k := ev
  exact ⟨st, S, _, I, ev, fun b H1 st1 S1 I1 g1 ⟨e1, q1⟩ => by subst e1; exact kk b H1 S1 I1 g1.mono q1⟩
/-- whatever the entry -/
def anyE (t : En → TE) : TE := fun σ H Q => ∃ E, t E σ H Q
def anyG (t : En → TG) : TG := fun v σ H Q => ∃ E, t E v σ H Q
def anyW (t : En → TT) : TT := fun σ H Q => ∃ E, t E σ H Q
theorem lc_data {wi : TI} {t : CT} {w : CW} {it : CI} {Q : VK} {Q' : Vl → Sl → Prop} (I : SI L E0 st σ S H)
    (ev : evI G it false EX st fun items st1 => loopC (fun x acc k => evTg G t (.d x) (fun _ => False) (wipeS (lendAll st1) t.slots) fun st2 => evW G w (fun _ => False) st2 fun b => ifB b (evE G c (fun _ => False) st2 fun vl st3 => shr vl fun y => st3 = st2 ∧ k (acc ++ [y])) (k acc)) items [] fun acc => Q' (.own (.list acc)) st1)
    (kk : ∀ v H' st' S' vl, SI L E0 st' σ S' H' → Go L st σ S H st' S' H' → VR L E0 H st' σ S' H' vl v → Q' vl st' → Q v H') :
    tLc (tI L E0 false (evI G it false EX)) (anyG fun E1 => tG L E1 t.slots fun vl st Q => evTg G t vl (fun _ => False) st Q) (anyW fun E1 => tW L E1 (evW G w fun _ => False)) (anyE fun E1 => tS L E1 (evE G c fun _ => False)) t.slots σ H Q := by
  refine ⟨st, S, _, I, ev, fun J H1 st1 S1 ds I1 g1 wd q1 => ?_⟩
  intro D hD
  have nE := I1.noE hD
  have nR := I1.noR hD
  have nO := I1.noOwn hD
  refine ⟨fun i m H' => m = ds.length - i ∧ i ≤ ds.length ∧ ∃ S' vs acc, SI L E0 st1 σ S' H' ∧ Go L st1 σ S1 H1 st1 S' H' ∧ HI L (ent H1 S1) S' H' ∧ H' D = some (.lst vs) ∧ RpAll L.K S' vs acc ∧ S' D = none ∧ acc.length ≤ i ∧
    loopC (fun x acc k => evTg G t (.d x) (fun _ => False) (wipeS (lendAll st1) t.slots) fun st2 => evW G w (fun _ => False) st2 fun b => ifB b (evE G c (fun _ => False) st2 fun vl st3 => shr vl fun y => st3 = st2 ∧ k (acc ++ [y])) (k acc)) (ds.drop i) acc fun acc => Q' (.own (.list acc)) st1,
    ⟨_, rfl, Nat.zero_le _, S1, [], [], I1.laid hD, Go.laid hD, I1.toHI.enter.laid hD, upd_same, .nil, I1.free hD, Nat.zero_le _, q1⟩, ?_⟩
  rintro i m H2 ⟨rfl, hi, S2, vs, acc, I2, g2, J2, hD2, rv, hS2, hz, q2⟩
  by_cases hlt : i < ds.length
  · have hd : ds[i]? = some ds[i] := List.getElem?_eq_getElem hlt
    obtain ⟨go, yl⟩ := wd.go i _ S2 H2 hd J2
    rw [List.drop_eq_getElem_cons hlt] at q2
    have fin : ∀ {S4 H4 : Hp} {acc' : List PyData} {vs' : List V}, HI L (ent H2 S2) S4 H4 → (H4 = H4) → RpAll L.K S4 vs' acc' → acc'.length ≤ i + 1 →
        loopC (fun x acc k => evTg G t (.d x) (fun _ => False) (wipeS (lendAll st1) t.slots) fun st2 => evW G w (fun _ => False) st2 fun b => ifB b (evE G c (fun _ => False) st2 fun vl st3 => shr vl fun y => st3 = st2 ∧ k (acc ++ [y])) (k acc)) (ds.drop (i + 1)) acc' (fun acc => Q' (.own (.list acc)) st1) →
        ∃ S' vs acc, SI L E0 st1 σ S' (upd H4 D (.lst vs')) ∧ Go L st1 σ S1 H1 st1 S' (upd H4 D (.lst vs')) ∧ HI L (ent H1 S1) S' (upd H4 D (.lst vs')) ∧ upd H4 D (.lst vs') D = some (.lst vs) ∧ RpAll L.K S' vs acc ∧ S' D = none ∧ acc.length ≤ i + 1 ∧
          loopC (fun x acc k => evTg G t (.d x) (fun _ => False) (wipeS (lendAll st1) t.slots) fun st2 => evW G w (fun _ => False) st2 fun b => ifB b (evE G c (fun _ => False) st2 fun vl st3 => shr vl fun y => st3 = st2 ∧ k (acc ++ [y])) (k acc)) (ds.drop (i + 1)) acc fun acc => Q' (.own (.list acc)) st1 := fun {S4 H4 acc' vs'} J4 _ r4 hz4 q4 => by
      have hD4 : H4 D = some (.lst vs) := J4.kept hD2 (fun _ z => by cases z) nR
      have hS4 : S4 D = none := J4.un (has_of hD2) hS2
      have I4 := I2.after J4
      have g4 := g2.trans (Go.after (st := st1) (σ := σ) J4)
      refine ⟨S4, vs', acc', I4.updD hD4 hS4 nE nR nO, ⟨g4.mono, fun a o h n r tt => ?_, g4.ownS, fun a h => ?_, g4.uns⟩, (J2.after J4).updD hD4 hS4 (noT_none (not_has hD)) nR, upd_same, r4, hS4, hz4, q4⟩
      · rw [upd_ne (fun z => by rw [z, hD] at h; cases h)]
        exact g4.fr a o h n r tt
      · by_cases e : a = D
        · rw [e]; exact not_has hD
        · exact g4.dom a fun ⟨u, h1, h2⟩ => h ⟨u, by rw [upd_ne e]; exact h1, h2⟩
    refine .inr ⟨go, fun H' => ∃ S' vs acc, SI L E0 st1 σ S' H' ∧ Go L st1 σ S1 H1 st1 S' H' ∧ HI L (ent H1 S1) S' H' ∧ H' D = some (.lst vs) ∧ RpAll L.K S' vs acc ∧ S' D = none ∧ acc.length ≤ i + 1 ∧
      loopC (fun x acc k => evTg G t (.d x) (fun _ => False) (wipeS (lendAll st1) t.slots) fun st2 => evW G w (fun _ => False) st2 fun b => ifB b (evE G c (fun _ => False) st2 fun vl st3 => shr vl fun y => st3 = st2 ∧ k (acc ++ [y])) (k acc)) (ds.drop (i + 1)) acc fun acc => Q' (.own (.list acc)) st1,
      fun H' ⟨S', vs, acc, h⟩ => ⟨ds.length - (i + 1), by omega, rfl, hlt, S', vs, acc, h⟩, fun x H3 yy => ?_⟩
    obtain ⟨S3, I3, g3, r3⟩ := (I2.block t.slots).closeV (yl x H3 yy)
    refine ⟨ent H2 S2, _, S3, _, _, I3, r3.vt, q2, fun σ4 H4 st4 S4 I4 m4 a4 q4 => ⟨wipe_back a4, ent H2 S2, st4, S4, _, I4, q4, fun b H5 S5 I5 m5 q5 => ?_⟩⟩
    cases b with
    | false =>
      have q5 : loopC _ (ds.drop (i + 1)) acc _ := q5
      obtain ⟨S6, vs6, acc6, h1, h2, h3, h4, h5, h6, h7, h8⟩ := fin (vs' := vs) I5.toHI rfl (rv.mono I5.base) (by omega) q5
      have hD5 : H5 D = some (.lst vs) := I5.kept hD2 (fun _ z => by cases z) nR
      have eH : upd H5 D (.lst vs) = H5 := by
        funext b
        by_cases e : b = D
        · rw [e, upd_same, hD5]
        · rw [upd_ne e]
      rw [eH] at h1 h2 h3 h4
      exact ⟨S6, vs6, acc6, h1, h2, h3, h4, h5, h6, h7, h8⟩
    | true =>
      have q5 : evE G c (fun _ => False) st4 fun vl st3 => shr vl fun y => st3 = st4 ∧ loopC _ (ds.drop (i + 1)) (acc ++ [y]) _ := q5
      refine ⟨ent H2 S2, st4, S5, _, I5, q5, fun v6 H6 st6 S6 vl I6 g6 r6 q6 => ?_⟩
      obtain ⟨y, ry, e6, q7⟩ := argV_shr r6 q6
      have hD6 : H6 D = some (.lst vs) := I6.kept hD2 (fun _ z => by cases z) nR
      refine ⟨vs, hD6, by have := wd.len; rw [rv.length]; omega, ?_⟩
      exact fin (vs' := vs ++ [v6]) I6.toHI rfl ((rv.mono I6.base).append (.cons ry .nil)) (by rw [List.length_append, List.length_singleton]; omega) q7
  · have e1 : i = ds.length := by omega
    subst e1
    rw [List.drop_length] at q2
    have q2 : Q' (.own (.list acc)) st1 := q2
    refine .inl ⟨wd.stop S2 H2 J2, kk _ H2 st1 S2 (.own (.list acc)) I2 (g1.trans g2) ⟨⟨D, _, rfl, hD2, hS2, nE, nR, vs, rfl, rv⟩, fun x a e1 e2 => ?_, fun x a e1 e2 => ?_, fun _ e => nomatch e⟩ q2⟩
    · cases e2; exact nO
    · cases e2; exact g1.dom D (not_has hD)
theorem je_comp (F : Fit L E0 EX X k) {elt iter : Expr} {ifs : List Expr} {scope : Scope} {own : List (Str × Nat)} {t : CT} {it : CI} {w : CW} (hi : PI X tg iter (tI L E0 false (evI G it false EX))) (ok : BlkOk X.N X.env.scope scope own) (ho : own.map (·.2) = t.slots)
    (hg : ∀ (E1 : En) (s : Shared) (H : Hp) (C : Addr) (cl : List (Str × Addr)) (fp : List Addr), Fit L E1 (fun _ => False) (X.blk s H scope (compEnvC scope cl C X.env) fp) k → PG (X.blk s H scope (compEnvC scope cl C X.env) fp) tg (tG L E1 t.slots fun vl st Q => evTg G t vl (fun _ => False) st Q))
    (ht : ∀ (E1 : En) (s : Shared) (H : Hp) (C : Addr) (cl : List (Str × Addr)) (fp : List Addr), Fit L E1 (fun _ => False) (X.blk s H scope (compEnvC scope cl C X.env) fp) k → PTs (X.blk s H scope (compEnvC scope cl C X.env) fp) ifs (tW L E1 (evW G w fun _ => False)))
    (he : ∀ (E1 : En) (s : Shared) (H : Hp) (C : Addr) (cl : List (Str × Addr)) (fp : List Addr), Fit L E1 (fun _ => False) (X.blk s H scope (compEnvC scope cl C X.env) fp) k → PE (X.blk s H scope (compEnvC scope cl C X.env) fp) elt (tD L E1 (evE G c fun _ => False)))
    (hs : ∀ x, foldedSetIterable iter X.env x = pure x) : JE L E0 G EX X (.ListComp elt [⟨tg, iter, ifs, 0⟩] scope pos) (.comp c t it w) :=
  JE.of ((pe_lc (g := anyG fun E1 => tG L E1 t.slots fun vl st Q => evTg G t vl (fun _ => False) st Q) (tt := anyW fun E1 => tW L E1 (evW G w fun _ => False)) (te := anyE fun E1 => tS L E1 (evE G c fun _ => False)) F.calm F.nd hi ok
    (fun s H C cl fp => ⟨fun pins s' σ H' v u Q I r ⟨E1, h⟩ => (hg E1 s H C cl fp (F.blk _ _ _ _ _ E1)).run pins s' σ H' v u Q I r h⟩)
    (fun s H C cl fp => ⟨fun pins s' σ H' Q I ⟨E1, h⟩ => (ht E1 s H C cl fp (F.blk _ _ _ _ _ E1)).run pins s' σ H' Q I h⟩)
    (fun s H C cl fp => ⟨fun pins s' σ H' Q I ⟨E1, h⟩ => (JE.s (he E1 s H C cl fp (F.blk _ _ _ _ _ E1))).run pins s' σ H' Q I h⟩) hs).weak fun σ H Q ⟨st, S, Q', I, ev, kk⟩ => by
    rw [ho]
    exact lc_data (wi := tI L E0 false (evI G it false EX)) I ev kk) (fun _ z => by cases z)
/-- name = [..] on one line, the name a local -/
theorem js_setLc (F : Fit L E0 EX X k) {i : Nat} {n : Str} {py spos : Pos} {elt iter : Expr} {ifs : List Expr} {scope : Scope} {own : List (Str × Nat)} {t : CT} {it : CI} {w : CW} (hy : X.N[i]? = some n) (hyl : X.env.scope.names.lookup n = some .local)
    (hsw : swapsWith (.ListComp elt [⟨tg, iter, ifs, 0⟩] scope pos) (some (.Name n py)) spos.line X.env = pure true) (hi : PI X tg iter (tI L E0 false (evI G it false EX))) (ok : BlkOk X.N X.env.scope scope own) (ho : own.map (·.2) = t.slots)
    (hg : ∀ (E1 : En) (s : Shared) (H : Hp) (C : Addr) (cl : List (Str × Addr)) (fp : List Addr), Fit L E1 (fun _ => False) (X.blk s H scope (compEnvC scope cl C X.env) fp) k → PG (X.blk s H scope (compEnvC scope cl C X.env) fp) tg (tG L E1 t.slots fun vl st Q => evTg G t vl (fun _ => False) st Q))
    (ht : ∀ (E1 : En) (s : Shared) (H : Hp) (C : Addr) (cl : List (Str × Addr)) (fp : List Addr), Fit L E1 (fun _ => False) (X.blk s H scope (compEnvC scope cl C X.env) fp) k → PTs (X.blk s H scope (compEnvC scope cl C X.env) fp) ifs (tW L E1 (evW G w fun _ => False)))
    (he : ∀ (E1 : En) (s : Shared) (H : Hp) (C : Addr) (cl : List (Str × Addr)) (fp : List Addr), Fit L E1 (fun _ => False) (X.blk s H scope (compEnvC scope cl C X.env) fp) k → PE (X.blk s H scope (compEnvC scope cl C X.env) fp) elt (tD L E1 (evE G c fun _ => False)))
    (hs : ∀ x, foldedSetIterable iter X.env x = pure x) : PS X (.Assign [.Name n py] (.ListComp elt [⟨tg, iter, ifs, 0⟩] scope pos) spos) (tSt L E0 (evS G EX (.asg (.slot i) (.comp c t it w)))) :=
  (ps_setLc (g := anyG fun E1 => tG L E1 t.slots fun vl st Q => evTg G t vl (fun _ => False) st Q) (tt := anyW fun E1 => tW L E1 (evW G w fun _ => False)) (te := anyE fun E1 => tS L E1 (evE G c fun _ => False)) F.calm F.nd hy hyl hsw hi ok
    (fun s H C cl fp => ⟨fun pins s' σ H' v u Q I r ⟨E1, h⟩ => (hg E1 s H C cl fp (F.blk _ _ _ _ _ E1)).run pins s' σ H' v u Q I r h⟩)
    (fun s H C cl fp => ⟨fun pins s' σ H' Q I ⟨E1, h⟩ => (ht E1 s H C cl fp (F.blk _ _ _ _ _ E1)).run pins s' σ H' Q I h⟩)
    (fun s H C cl fp => ⟨fun pins s' σ H' Q I ⟨E1, h⟩ => (JE.s (he E1 s H C cl fp (F.blk _ _ _ _ _ E1))).run pins s' σ H' Q I h⟩) hs).weak fun D σ H ⟨st, S, D', I, ev, E⟩ => by
    rw [ho]
    have ev : evI G it false EX st fun items st1 => loopC (fun x acc k => evTg G t (.d x) (fun _ => False) (wipeS (lendAll st1) t.slots) fun st2 => evW G w (fun _ => False) st2 fun b => ifB b (evE G c (fun _ => False) st2 fun vl st3 => shr vl fun y => st3 = st2 ∧ k (acc ++ [y])) (k acc)) items [] fun acc => D'.nx (ss st1 i (some (.own (.list acc)))) := ev
    exact lc_data (wi := tI L E0 false (evI G it false EX)) (Q' := fun vl st' => D'.nx (ss st' i (some vl))) I ev fun v H' st' S' vl I' g r q => E.nx _ _ S' H' (I'.put r.vt) g.mono q
end
end PX
end L2
/-! raise; defs; repr. -/
namespace L2
namespace PX
open PySem PySem.Spec PyProof.Rows
mutual
theorem plain_noDict : ∀ d : PyData, d.plain = true → d.hasDict = false
  | .none, _ => rfl
  | .bool _, _ => rfl
  | .int _, _ => rfl
  | .str _, _ => rfl
  | .list ds, h => by
    have := plainAll_noDict ds (by simpa [PyData.plain] using h)
    simpa [PyData.hasDict] using this
  | .tuple ds, h => by
    have := plainAll_noDict ds (by simpa [PyData.plain] using h)
    simpa [PyData.hasDict] using this
  | .dict _, h => by simp [PyData.plain] at h
theorem plainAll_noDict : ∀ ds : List PyData, PyData.plainAll ds = true → PyData.hasDictAll ds = false
  | [], _ => rfl
  | d :: r, h => by
    rw [PyData.plainAll, Bool.and_eq_true] at h
    rw [PyData.hasDictAll, plain_noDict d h.1, plainAll_noDict r h.2]
    rfl
end
section
variable {L : Lw} {E0 E1 : En} {G : Gm} {EX : Exn → Prop} {X : Cx} {k : Nat} {c c2 c3 : CE} {e e2 e3 tg : Expr} {st st' st1 st2 : Sl} {σ σ' : L2.St} {S S' S1 S2 H H' H1 H2 : Hp} {v : V} {x y : PyData} {vl : Vl} {pos : Pos}
/-! ### repr -/
theorem je_rep (F : Fit L E0 EX X k) (hgd : G.rep = true → X.A.guards = some []) {p : Pos} (ha : JE L E0 G EX X e c) (hs : noStar e = true) (hg : Gl X "repr") (hm : X.mg "repr" = none) : JE L E0 G EX X (.Call (.Name "repr" p) [e] [] pos) (.rep c) := by
  have hc : CallR X (.builtin "repr") (fun vs H Q => ∃ S x v, vs = [v] ∧ Mono S H ∧ Now L.K S H v x ∧ (G.rep = true ∧ (x.isList || x.isTuple) = true ∧ okD x ∧ x.showable = true ∧ x.shown.length ≤ sizeLine) ∧ Q (.str x.shown) H) := by
    intro pins s σ H vs us Q I rv h
    obtain ⟨S, x, v, rfl, m, n, ⟨h1, h2, h3, h4, h5⟩, q⟩ := h
    rw [← F.K] at n
    obtain ⟨u, rfl, ru⟩ := vals1 rv
    obtain ⟨as, rr⟩ := Rp.reads I x v u (n.rp m h3.1) ru h3.1
    have hu := F.room.units
    have hd := h3.2
    have fin : ∀ {a : Addr}, u = .ref a → wpAny (model X.prog X.w) X.A (call (.builtin "repr") [u]) (EP X pins σ Q) X.xe s := fun {a} e => by
      subst e
      have nd : x.hasDict = true → sysModules ∉ as := fun hz => by
        have : x.hasDict = false := by
          exact plain_noDict x h3.1
        rw [this] at hz; cases hz
      exact repr_of_reads' rr h4 nd (hgd h1) (by omega) (fun _ _ e => e) (fun h' t tk hk => ⟨.str x.shown, H, I.kept hk, ⟨t, rfl⟩, q⟩) h5
    cases x with
    | list ds => cases rr with | list e1 _ _ _ => exact fin rfl
    | tuple ds => cases rr with | tuple e1 _ _ _ => exact fin rfl
    | none => cases h2
    | bool _ => cases h2
    | int _ => cases h2
    | str _ => cases h2
    | dict _ => cases h2
  exact JE.of ((pe_callB hc hg hm PyProof.Rows.boot_repr (pa_cons ha.b pa_nil (starEach_no hs)) (by decide) (by decide) (starEach_no hs) (star_no rfl)).weak fun σ H Q ⟨st, S, Q', I, ev, kk⟩ => by
    have ev : bw c (evE G c EX) st fun x st1 => (G.rep = true ∧ (x.isList || x.isTuple) = true ∧ okD x ∧ x.showable = true ∧ x.shown.length ≤ sizeLine) ∧ Q' (.d (.str x.shown)) st1 := ev
    exact ⟨st, S, _, I, ev, fun v1 H1 st1 S1 x I1 g1 r1 ⟨p1, q1⟩ => ⟨S1, x, v1, rfl, I1.sub, r1.now I1, p1, kk _ H1 st1 S1 _ I1 g1 (.d (.str _)) q1⟩⟩) (fun _ z => by cases z)
/-! ### raise -/
/-- __init__ of an own exception class, as the layer needs it -/
def spInit (K : PySem.W.Frag) : Sp := fun vs H Q _ => ∃ (a C : Addr) (v : V), vs = [.ref a, v] ∧ OexC K C ∧ PySem.W.findIn K (.ref C) "value" = some none ∧ H a = some (exo a C none) ∧
  ∀ dx, H dx = none → dx ≠ a → Q .non (upd (upd H dx (exd dx [(("value" : Str), v)])) a (exo a C (some dx)))
structure ClsOk (L : Lw) (P : Program) (w : World) (K : PySem.W.Frag) (mg : Str → Option Value) (base : Heap) (k : Nat) (y : Str) (c : Nat) : Prop where
  gC : mg y = some (.ref (L.ct c))
  oex : OexC K (L.ct c)
  noV : PySem.W.findIn K (.ref (L.ct c)) "value" = some none
  ini : ∃ (j : Nat) (fI : Addr) (fd : FuncData) (ps : List Str), j + 1 ≤ k ∧ PySem.W.findIn K (.ref (L.ct c)) "__init__" = some (some (.ref fI)) ∧ PySem.W.typeIn K (.ref fI) = some (.type "function") ∧ FnOk P w K mg base (L2.CX P w) j fI fd ps (spInit K) ∧ Binds K fd ps []
theorem js_raise (F : Fit L E0 EX X k) {cn : Nat} {y : Str} {p cpos : Pos} (C : ClsOk L X.prog X.w X.K X.mg X.base k y cn) (hg : Gl X y) (ha : JE L E0 G EX X e c) (hs : noStar e = true) (hdb : (y == ("__debug__" : Str)) = false) :
    PS X (.Raise (some (.Call (.Name y p) [e] [] cpos)) none pos) (tSt L E0 (evS G EX (.raise_ cn c))) := by
  obtain ⟨j, fI, fd, ps, hj, iC, tI, Fn, hb⟩ := C.ini
  refine ⟨fun pins s σ H D Iv hw => (ps_raise F.calm F.tk (pmk_oex C.oex iC tI Fn (F.room.mono hj) hb .nil passL hg C.gC (pa_cons (JE.s ha.d) pa_nil (starEach_no hs)) hdb (starEach_no hs) (star_no rfl))).run pins s σ H D Iv ?_⟩
  obtain ⟨st, S, D', I, ev, E⟩ := hw
  have ev : evE G c EX st fun vl _ => shr vl fun x => EX ⟨cn, x⟩ := ev
  refine ⟨st, S, _, I, ev, fun v1 H1 st1 S1 vl I1 g1 r1 q1 => ?_⟩
  obtain ⟨x, rx, q⟩ := argV_shr r1 q1
  refine ⟨by show 1 ≤ 1000; decide, fun a hn => ⟨a, L.ct cn, v1, rfl, C.oex, C.noV, upd_same, fun dx hdx hne => ?_⟩⟩
  have hd1 : H1 dx = none := by rwa [upd_ne hne] at hdx
  refine ⟨rfl, dx, _, upd_same, by rw [upd_ne hne]; exact upd_same, hd1, ?_⟩
  have eH : upd (del (upd (upd (upd H1 a (exo a (L.ct cn) none)) dx (exd dx [(("value" : Str), v1)])) a (exo a (L.ct cn) (some dx))) a) dx (.xd [(("value" : Str), v1)]) = upd H1 dx (.xd [(("value" : Str), v1)]) := by
    funext b
    by_cases h1 : b = dx
    · rw [h1, upd_same, upd_same]
    · rw [upd_ne h1, upd_ne h1]
      by_cases h2 : b = a
      · rw [h2, del_same, hn]
      · rw [del_ne h2, upd_ne h2, upd_ne h1, upd_ne h2]
  rw [eH]
  exact ⟨S1, ⟨cn, x⟩, I1.toHI.laid hd1, ⟨rfl, dx, _, v1, rfl, upd_same, by simp [List.lookup], rx⟩, q⟩
/-- the body self.value = value -/
theorem init_ok {P : Program} {w : World} {K : PySem.W.Frag} {mg : Str → Option Value} {base : Heap} {fI : Addr} {name qual : Str} {params : Arguments} {scope : Scope} {dV kV doc pm cdv ct oc : Value} {an od : Option Addr} {osl : Array (Option Value)} {p1 p2 p3 p4 : Pos}
    (lk : K.lookup fI = some ⟨oc, od, .func (PySem.W.fnOf name qual params [.Assign [.Attribute (.Name "self" p1) "value" p2] (.Name "value" p3) p4] scope dV kV doc pm an cdv ct), osl⟩) (hcd : PySem.W.codeIn K cdv qual = true) (Sc : FnScope ["self", "value"] ["self", "value"] scope)
    (v1 : Vis scope "self") (v2 : Vis scope "value") : FnOk P w K mg base (L2.CX P w) 1 fI (PySem.W.fnOf name qual params [.Assign [.Attribute (.Name "self" p1) "value" p2] (.Name "value" p3) p4] scope dV kV doc pm an cdv ct) ["self", "value"] (spInit K) := by
  refine fn_of lk hcd Sc (fun vs H Q E ⟨a, C, v, e, _⟩ => by subst e; rfl) fun A outer s H vs Q E hr h => ⟨_, pss_one (ps_ost (pe_var (i := 0) rfl v1) (pe_var (i := 1) rfl v2)), ?_⟩
  obtain ⟨a, C, v, e, T, no, ha, q⟩ := h
  subst e
  exact ⟨v, rfl, .ref a, rfl, a, C, rfl, T, no, .inl ⟨ha, fun dx n ne => q dx n ne⟩⟩
end
/-! ### a def keeps its promise -/
theorem argVs_get {L : Lw} {S : Hp} : ∀ {vls : List Vl} {vs : List V} {i : Nat} {vl : Vl}, ArgVs L S vls vs → vls[i]? = some vl → ∃ v, vs[i]? = some v ∧ ArgV L S vl v
  | _, _, _, _, .nil, h => by simp at h
  | _, _, 0, _, .cons a _, h => by simp at h; subst h; exact ⟨_, rfl, a⟩
  | _, _, i + 1, _, .cons _ r, h => by
    obtain ⟨v, h1, h2⟩ := argVs_get r (i := i) (by simpa using h)
    exact ⟨v, by simpa using h1, h2⟩
theorem argVs_len {L : Lw} {S : Hp} {vls : List Vl} {vs : List V} (r : ArgVs L S vls vs) : vls.length = vs.length := by
  induction r with
  | nil => rfl
  | cons _ _ ih => rw [List.length_cons, List.length_cons, ih]
theorem start_at {L : Lw} {S H : Hp} {vls : List Vl} {vs : List V} {N : List Str} (I : HI L (ent H S) S H) (r : ArgVs L S vls vs) : SI L (ent H S) (vls.map some ++ List.replicate (N.length - vls.length) none) (L2.start N vs) S H := by
  have hl := argVs_len r
  have key : ∀ (i : Nat) vl, (vls.map some ++ List.replicate (N.length - vls.length) none)[i]? = some (some vl) → ∃ v, (L2.start N vs)[i]? = some (some v) ∧ ArgV L S vl v := fun i vl h => by
    by_cases hi : i < vls.length
    · rw [List.getElem?_append_left (by simpa using hi), List.getElem?_map] at h
      cases q : vls[i]? with
      | none => rw [q] at h; cases h
      | some w =>
        rw [q] at h; cases h
        obtain ⟨v, h1, h2⟩ := argVs_get r q
        refine ⟨v, ?_, h2⟩
        unfold L2.start
        rw [List.getElem?_append_left (by simpa [← hl] using hi), List.getElem?_map, h1]
        rfl
    · rw [List.getElem?_append_right (by simpa using hi), List.getElem?_replicate] at h
      split at h <;> cases h
  refine { I with len := by unfold L2.start; simp [hl], at_ := fun i vl h => ?_, dis := fun i j x y a h1 _ _ _ => ?_ }
  · obtain ⟨v, h1, h2⟩ := key i vl h
    refine ⟨v, h1, ?_⟩
    cases vl with
    | d x => exact h2
    | row => exact h2
    | fn n => exact h2
    | own x => exact h2.elim
    | lent x => exact h2.elim
  · obtain ⟨v, _, h2⟩ := key i _ h1
    exact h2.elim
theorem def_fn {L : Lw} {G : Gm} {fsp : FSp} {cs : CSs} {P : Program} {w : World} {mg : Str → Option Value} {base : Heap} {x qual : Str} {st : Stmt} {f : Addr} {fd : FuncData} {N ps : List Str} {k : Nat} {dvs : List V} {kws : List (Str × V)} (F : FunD L.K x qual (defArgs st) (defBody st) (defScope st) dvs kws f fd) (Sc : FnScope N ps (defScope st))
    (hl : ∀ vls Q E, fsp vls Q E → vls.length = ps.length) (hG : ∀ n, n < G.dom → Callee L P w L.K mg base k n (G.fs n))
    (walk : ∀ (R : Option Addr) (E0 : En) (EX : Exn → Prop) (cdv : Value) (A : Around) (outer : List Env) (s : Shared) (H : Hp) (E : XK),
      Fit (L.at_ R) E0 EX (cxOf (L2.CX P w) P w L.K mg base N qual (defScope st) f cdv A outer s H E) k → GOk (L.at_ R) G (cxOf (L2.CX P w) P w L.K mg base N qual (defScope st) f cdv A outer s H E) k →
      PSs (cxOf (L2.CX P w) P w L.K mg base N qual (defScope st) f cdv A outer s H E) (defBody st) (tSt (L.at_ R) E0 (evSs G EX cs)))
    (pure : ∀ vls Q E, fsp vls Q E → evSs G E cs ⟨fun _ => Q (.d .none), Q, fun _ => False, fun _ => False⟩ (vls.map some ++ List.replicate (N.length - vls.length) none)) :
    FnOk P w L.K mg base (L2.CX P w) (k + 1) f fd ps (liftSp L fsp) := by
  refine FunD.ok (CX := L2.CX P w) F Sc (fun vs H Q E ⟨R, S, vls, Q', E', I, r, q, _⟩ => by rw [← argVs_len r]; exact hl _ _ _ q) fun cdv A outer s H vs Q E hr h => ?_
  obtain ⟨R, S, vls, Q', E', I, r, q, k1, k2⟩ := h
  refine ⟨_, walk R (ent H S) E' cdv A outer s H E ⟨rfl, ?_, rfl, hr, Sc.nd, passes_of rfl⟩ (fun n hn => ⟨(hG n hn).ex⟩), ?_⟩
  · exact (takes_of rfl rfl rfl rfl).imp fun c d _ H' h => k2 c d H' h
  · refine ⟨_, S, _, start_at I r, pure vls Q' E' q, ⟨fun st' σ' S' H' I' m h => ?_, fun _ _ _ _ _ _ h => h.elim, fun _ _ _ _ _ _ h => h.elim, fun v vl S' H' I' sv nl h => k1 v H' S' vl I' sv nl h⟩⟩
    exact k1 .non H' S' (.d .none) I'.toHI (.non : Rp _ S' .non .none) (fun _ e => nomatch e) h
end PX
end L2
/-! Told exceptions: try with many clauses that bear a name; a lambda handed to a def. -/
namespace L2
namespace PX
open PySem PySem.Spec PyProof.Rows
/-- clauses 'except x as n' wish, one after the other -/
def wManyA (K : PySem.W.Frag) (i : Nat) (Wout : WX) (D : Ends) : List (Value × (Addr → Value → Option Addr → TS)) → WX
  | [] => Wout
  | (c, ts) :: r => fun cls d σ H => ∃ b, PySem.W.exmOne K cls c = some b ∧
    (b = true → ∀ a, H a = none → ts a cls d { nx := fun σ' H' => D.nx (σ'.set i none) H', rt := D.rt, bk := fun σ' H' => D.bk (σ'.set i none) H', ct := fun σ' H' => D.ct (σ'.set i none) H' } (σ.set i (some (.ref a))) H) ∧ (b = false → wManyA K i Wout D r cls d σ H)
inductive HdsA (X : Cx) (n : Str) : List ExceptHandler → List (Value × (Addr → Value → Option Addr → TS)) → Prop
  | nil : HdsA X n [] []
  | cons {x : Str} {c : Value} {ts : Addr → Value → Option Addr → TS} {b₀ : Stmt} {suite : List Stmt} {np pos' : Pos} {hds : List ExceptHandler} {l : List (Value × (Addr → Value → Option Addr → TS))} (hc : Names X x c)
      (hsu : ∀ (a : Addr) (oe : Obj) (cls : Value) (d : Option Addr) (pn : List (Addr × Obj)), Zc cls d oe → (∃ vs, oe.data = .fields vs) → PSs (X.suite a ((a, oe) :: pn)) (b₀ :: suite) (ts a cls d)) (r : HdsA X n hds l) :
      HdsA X n (.ExceptHandler (some (.Name x np)) (some n) (b₀ :: suite) pos' :: hds) ((c, ts) :: l)
section
variable {X : Cx} {body : List Stmt} {h₀ : ExceptHandler} {hds : List ExceptHandler} {l : List (Value × (Addr → Value → Option Addr → TS))} {pos : Pos} {tb : WX → TS} {Wout : WX} {i : Nat} {n : Str}
theorem ps_try_manyA (hs : X.stack = X.env :: X.outer) (hf : X.env.frame = some X.env.locals) (hN : X.N.Nodup) (hi : X.N[i]? = some n) (hln : X.env.kindOf n = some .local) (tk : Takes X Wout)
    (hb : ∀ (W : WX) (pn : List (Addr × Obj)) (xe : Value → Shared → Prop), Takes (X.tr pn xe) W → PassesOwn (model X.prog X.w) X.A X.env xe → PSs (X.tr pn xe) body (tb W))
    (hh : HdsA X n (h₀ :: hds) l) : PS X (.Try body (h₀ :: hds) [] [] pos) (fun D σ H => tb (wManyA X.K i Wout D l) D σ H) := by
  refine ⟨fun pins s σ H D I h => ?_⟩
  have ok := I.ok
  have hfr : X.A.frames = some (X.env :: X.outer) := by rw [ok.frames, hs]
  have hloc : Loc X.env.scope n := .inl hln
  refine wpAny_Try_except ?_
  refine wpAny_mono ((hb (wManyA X.K i Wout D l) (X.pn ++ pins) (fun e s₁ => wpAny (model X.prog X.w) X.A (noteFrame e X.env) (fun _ s₂ => wpAny (model X.prog X.w) X.A (setFlight e none) (fun _ s₃ =>
    wpAny (model X.prog X.w) X.A (handleBy e X.env (h₀ :: hds)) (SP X pins D) X.xe s₃) X.xe s₂) X.xe s₁) (fun u s' xx => ?_) PassesOwn.looking).run [] s σ H D (I.toTry _) h) (fun f s1 hsp => ?_) (fun e s1 he => he)
  · obtain ⟨a, B, sI, pins', σ', H', cls, d, rfl, J', nb, up, sky, na, os, ag, w⟩ := xx
    have J : Inv X pins σ' H' sI := J'.ofTry ok
    have sky' : Sky B (X.env :: X.outer) a (Zc cls d) X.env.locals s'.heap := by rw [← hs]; exact sky
    show wpAny (model X.prog X.w) X.A (noteFrame (.ref a) X.env) _ _ _
    refine Sky.land Zc.steady hfr hf sky' fun h3 fl3 up3 => ?_
    have J3 : Inv X pins σ' H' { s' with heap := h3 } := J.landed nb fl3.1 (up.trans up3) os ag
    obtain ⟨oe3, vs3, he3, hz3, hd3⟩ := fl3.there
    have notFr : ∀ {h : Heap} {o : Obj} {vs : Array Value}, h.FunFrames B (X.env :: X.outer) → h.get? a = some o → o.data = .fields vs → a ∉ frs (X.env :: X.outer) := fun {h o vs} ff e dd hm => by
      obtain ⟨_, o', e', hnf⟩ := ff.mem hm
      rw [e] at e'; cases e'
      exact hnf _ dd
    have nfr := notFr fl3.2.2.1 he3 hd3
    have nL : a ≠ X.env.locals := fun z => nfr (List.mem_filterMap.mpr ⟨X.env, List.mem_cons_self, by rw [hf, z]⟩)
    have nF : a ∉ X.fs := fun hm => by
      obtain ⟨e, he, q⟩ := List.mem_filterMap.mp hm
      exact nfr (List.mem_filterMap.mpr ⟨e, List.mem_cons_of_mem _ he, q⟩)
    have S3 := J3.suite he3 hd3 na nL nF
    have go : ∀ {hds' : List ExceptHandler} {l' : List (Value × (Addr → Value → Option Addr → TS))}, HdsA X n hds' l' → wManyA X.K i Wout D l' cls d σ' H' →
        wpAny (model X.prog X.w) X.A (handleBy (.ref a) X.env hds') (SP X pins D) X.xe { s' with heap := h3 } := by
      intro hds' l' hk
      induction hk with
      | nil =>
        intro w
        refine wpAny_handleBy_nil ?_
        obtain ⟨k1, k2, k3, oe, vs, T, oT, ts', he, hz, hd, h1, hr⟩ := id fl3
        unfold PySem.passOn
        refine wpAny_bind (wpAny_field he hd h1 ?_)
        rw [if_neg (show ¬ ((Value.ref T == Value.none) = true) from by simp)]
        have fin : wpAny (model X.prog X.w) X.A (setFlight (.ref a) X.env.frame) (fun _ s4 => wpAny (model X.prog X.w) X.A (throw (.ref a) : Sem Flow) (SP X pins D) X.xe s4) X.xe { s' with heap := h3 } := by
          rw [hf]
          refine HandSPX.setFlight_upZ fl3 fun h4 hh4 up4 => wpAny_throw (tk _ _ ?_)
          exact ⟨a, B, sI, pins, σ', H', cls, d, rfl, J, nb, (up.trans up3).trans up4, .inr (.inr (by rw [hs]; exact hh4)), na, os, ag, w⟩
        first
          | exact wpAny_bind (wpAny_pure (wpAny_bind fin))
          | exact wpAny_bind fin
      | @cons x c ts b₀ suite np pos' hds2 l2 hc hsu r ih =>
        intro w
        obtain ⟨b, hb1, hyes, hno⟩ := w
        refine wpAny_handleBy_cons (codeAny_handlers_test ?_) (by intro q; cases q)
        have LT : PySem.W.Looks (model X.prog X.w) h3 (typeOf (.ref a)) cls := fun A Q E s k q => wpAny_typeOf_ref (k _ _ he3) (by rw [hz3.1]; exact q)
        have LM := PySem.W.exm_one (M := model X.prog X.w) (J3.kIn) LT hb1
        have test : ∀ {Q : Value → Shared → Prop} {E : Value → Shared → Prop}, Q c { s' with heap := h3 } → wpAny (model X.prog X.w) (X.A.mark (some (.ref a))) (eval (.Name x np) X.env) Q E { s' with heap := h3 } := fun {Q E} q => by
          obtain ⟨hg, hdbg, hm | ⟨hm, hv, hnn⟩⟩ := hc
          · exact ld_glob (X := X.suite a ((a, oe3) :: (X.pn ++ pins))) S3 hg hm q hdbg
          · exact ld_blt (X := X.suite a ((a, oe3) :: (X.pn ++ pins))) S3 hg hm hv q hnn hdbg
        refine test (LM.here ?_)
        cases b with
        | true =>
          refine codeAny_handlers_suite_as ?_
          refine HandSPX.lands_againZ fl3 fun h4 fl4 up4 => ?_
          have J4 : Inv X pins σ' H' { s' with heap := h4 } := J.landed nb fl4.1 ((up.trans up3).trans up4) os ag
          obtain ⟨oe4, vs4, he4, hz4, hd4⟩ := fl4.there
          have S4 := J4.suite he4 hd4 na nL nF
          refine store_ok (X := X.suite a ((a, oe4) :: (X.pn ++ pins))) (v := .ref a) S4 hN hi hloc rfl (fun s5 S5 => ?_) (.inr hln)
          refine wpAny_mono ((hsu a oe4 cls d (X.pn ++ pins) hz4 ⟨_, hd4⟩).run [] s5 _ H' _ S5 (hyes rfl a na)) (fun f s6 hsp => ?_) (fun _ _ z => False.elim z)
          have end_ : ∀ {σ6 : L2.St} {H6 : Hp} {Q : Shared → Prop}, Inv (X.suite a ((a, oe4) :: (X.pn ++ pins))) [] σ6 H6 s6 → (∀ s7, Inv X pins (σ6.set i none) H6 s7 → Q s7) →
              wpAny (model X.prog X.w) X.A (do bindName X.env n .none; unbindBehindTheSuite X.env n pos') (fun _ s7 => Q s7) X.xe s6 := fun {σ6 H6 Q} S6 hq => gone_ok (S6.unsuite ok) hN hi hln hq
          cases f with
          | next =>
            obtain ⟨σ6, H6, S6, q6⟩ := hsp
            exact end_ S6 fun s7 J7 => ⟨_, _, J7, q6⟩
          | brk =>
            obtain ⟨σ6, H6, S6, q6⟩ := hsp
            exact end_ S6 fun s7 J7 => ⟨_, _, J7, q6⟩
          | cont =>
            obtain ⟨σ6, H6, S6, q6⟩ := hsp
            exact end_ S6 fun s7 J7 => ⟨_, _, J7, q6⟩
          | ret u =>
            obtain ⟨v6, σ6, H6, S6, r6, q6⟩ := hsp
            exact end_ S6 fun s7 J7 => ⟨_, _, _, J7, r6, q6⟩
        | false =>
          show wpAny _ X.A (handleBy (.ref a) X.env hds2) _ _ _
          exact ih (hno rfl)
    exact go hh w
  · cases f with
    | next =>
      obtain ⟨σ', H', J', q⟩ := hsp
      exact wpAny_execs_nil ⟨σ', H', J'.ofTry ok, q⟩
    | brk =>
      obtain ⟨σ', H', J', q⟩ := hsp
      exact ⟨σ', H', J'.ofTry ok, q⟩
    | cont =>
      obtain ⟨σ', H', J', q⟩ := hsp
      exact ⟨σ', H', J'.ofTry ok, q⟩
    | ret u =>
      obtain ⟨v, σ', H', J', r, q⟩ := hsp
      exact ⟨v, σ', H', J'.ofTry ok, r, q⟩
end
theorem mem_look {c : Nat} {w : Str} : ∀ {hs : List (Nat × Str)}, hs.lookup c = some w → (c, w) ∈ hs
  | (h, w') :: r, e => by
    rw [List.lookup_cons] at e
    cases q : c == h with
    | true =>
      rw [q] at e
      have e1 : c = h := by simpa using q
      cases e
      rw [e1]
      exact List.mem_cons_self
    | false =>
      rw [q] at e
      exact List.mem_cons_of_mem _ (mem_look e)
/-! ### the def that tells -/
/-- its reading by the thunk's -/
def TRef (L : Lw) (hs : List (Nat × Str)) : (XK → Hp → VK → Prop) → Hp → VK → Prop := fun tl H Q =>
  tl (fun cls d H' => ∃ c w dx fs v, cls = .ref (L.ct c) ∧ hs.lookup c = some w ∧ d = some dx ∧ H' dx = some (.xd fs) ∧ fs.lookup ("value" : Str) = some v ∧ ∀ p, H' p = none → Q (.ref p) (upd H' p (.tup [.str w, v]))) H
    fun _ H' => ([.str ("" : Str), .non] : List V).length ≤ sizeLine ∧ ∀ p, H' p = none → Q (.ref p) (upd H' p (.tup [.str ("" : Str), .non]))
/-- its clauses -/
inductive RefH (L : Lw) (K : PySem.W.Frag) (mg : Str → Option Value) (sg : Scope) : List ExceptHandler → List (Nat × Str) → Prop
  | nil : RefH L K mg sg [] []
  | cons {x w : Str} {h : Nat} {np pos' q1 q2 q3 q4 q5 : Pos} {j1 j2 : Nat} {hds : List ExceptHandler} {hs : List (Nat × Str)} (hm : mg x = some (.ref (L.ct h))) (hg : sg.names.lookup x = some .globalImplicit) (hd : (x == ("__debug__" : Str)) = false)
      (xf : XfC K (L.ct h)) (nv : PySem.W.findIn K (.ref (L.ct h)) "value" = some none) (r : RefH L K mg sg hds hs) :
      RefH L K mg sg (.ExceptHandler (some (.Name x np)) (some "e") [.Return (some (.Tuple [.Constant (.str w) j1 q1, .Attribute (.Name "e" q2) "value" q3] j2 q4)) q5] pos' :: hds) ((h, w) :: hs)
theorem _root_.L2.PSs.len {X : Cx} {b : List Stmt} {t : TS} (h : PSs X b t) : PSs X b (fun D σ H => σ.length = X.N.length → t D σ H) := ⟨fun pins s σ H D I hw => h.run pins s σ H D I (hw I.len)⟩
/-- a clause's reading -/
def tsRef (L : Lw) (h : Nat) (w : Str) : Addr → Value → Option Addr → TS := fun a cls d D σ H => σ.length = 2 → ∃ v, σ[1]? = some (some v) ∧ v = .ref a ∧ cls = .ref (L.ct h) ∧ ∃ dd fs u, d = some dd ∧ H dd = some (.xd fs) ∧ fs.lookup ("value" : Str) = some u ∧ ∀ p, H p = none → D.rt (.ref p) (upd H p (.tup [.str w, u]))
theorem refH_hds {L : Lw} {X : Cx} {sg : Scope} (hX : X.N = [("ask" : Str), ("e" : Str)]) (hS : X.env.scope = sg) (hk : sg.names.lookup ("e" : Str) = some .local) : ∀ {hds : List ExceptHandler} {hs : List (Nat × Str)}, RefH L X.K X.mg sg hds hs → HdsA X "e" hds (hs.map fun p => (.ref (L.ct p.1), tsRef L p.1 p.2))
  | _, _, .nil => .nil
  | _, _, .cons (h := h) (w := w) hm hg hd xf nv r => by
    refine .cons ⟨by show X.env.scope.names.lookup _ = _; rw [hS]; exact hg, hd, .inl hm⟩ (fun a oe cls d pn hz hf => ?_) (refH_hds hX hS hk r)
    have hv : Vis (X.suite a ((a, oe) :: pn)).env.scope "e" := .inl (by show X.env.scope.names.lookup _ = _; rw [hS]; exact hk)
    refine (pss_one (ps_ret (pe_tup (pa_cons pe_str (pa_cons (pe_xf xf nv hz hf (pe_var (i := 1) (by show X.N[1]? = _; rw [hX]; rfl) hv (by decide) (by decide))) pa_nil))))).len.weak fun D σ H hw hl => ?_
    have hl2 : σ.length = 2 := by rw [hl]; show X.N.length = 2; rw [hX]; rfl
    obtain ⟨v, h1, h2, h3, dd, fs, u, h4, h5, h6, q⟩ := hw hl2
    exact ⟨v, h1, h2, h3, dd, fs, u, h4, h5, h6, by show 2 ≤ sizeLine; decide, fun p hp => q p hp⟩
theorem many_ref {L : Lw} {K : PySem.W.Frag} {mg : Str → Option Value} {sg : Scope} {D : Ends} {cls : Value} {d : Option Addr} {σ : L2.St} {H : Hp} {c : Nat} {w : Str} {dx : Addr} {fs : List (Str × V)} {v : V} {hall : List (Nat × Str)}
    (ex : ∀ c h, (∃ w, (c, w) ∈ hall) → (∃ w, (h, w) ∈ hall) → PySem.W.exmOne K (.ref (L.ct c)) (.ref (L.ct h)) = some (decide (c = h))) (hc : ∃ w, (c, w) ∈ hall) (ec : cls = .ref (L.ct c)) (ed : d = some dx) (hx : H dx = some (.xd fs)) (hv : fs.lookup ("value" : Str) = some v) :
    ∀ {hds : List ExceptHandler} {hs : List (Nat × Str)}, RefH L K mg sg hds hs → (∀ p ∈ hs, p ∈ hall) → hs.lookup c = some w → (∀ p, H p = none → D.rt (.ref p) (upd H p (.tup [.str w, v]))) → wManyA K 1 (fun _ _ _ _ => False) D (hs.map fun p => (.ref (L.ct p.1), tsRef L p.1 p.2)) cls d σ H
  | _, _, .nil, _, hl, _ => by cases hl
  | _, (h, w') :: hs, .cons hm hg hd xf nv r, sub, hl, q => by
    subst ec
    refine ⟨decide (c = h), ex c h hc ⟨w', sub _ List.mem_cons_self⟩, fun hb a ha hlen => ?_, fun hb => ?_⟩
    · have e : c = h := of_decide_eq_true hb
      subst e
      have e2 : w' = w := by
        rw [List.lookup_cons, beq_self_eq_true] at hl
        exact Option.some.inj hl
      subst e2
      exact ⟨.ref a, by rw [List.length_set] at hlen; exact List.getElem?_set_self (by omega), rfl, rfl, dx, fs, v, ed, hx, hv, q⟩
    · have e : c ≠ h := of_decide_eq_false hb
      refine many_ref ex hc rfl ed hx hv r (fun p hp => sub p (List.mem_cons_of_mem _ hp)) ?_ q
      rw [List.lookup_cons, show (c == h) = false by simpa using e] at hl
      exact hl
theorem ref_gives {L : Lw} {X : Cx} {x q : Str} {sg : Scope} {g : Addr} {cdg : Value} {h₀ : ExceptHandler} {hds : List ExceptHandler} {hs : List (Nat × Str)} {p1 p2 p3 p4 q1 q2 q3 q4 : Pos} {j1 j2 j3 : Nat} (R : RefH L X.K X.mg sg (h₀ :: hds) hs) (hk : sg.names.lookup ("e" : Str) = some .local)
    (ex : ∀ c h, (∃ w, (c, w) ∈ hs) → (∃ w, (h, w) ∈ hs) → PySem.W.exmOne X.K (.ref (L.ct c)) (.ref (L.ct h)) = some (decide (c = h))) :
    LamX.GivesTo X ["ask", "e"] x sg g cdg [.Try [.Expr (.Call (.Name "ask" p1) [] [] p2) p3] (h₀ :: hds) [] [] p4, .Return (some (.Tuple [.Constant (.str ("" : Str)) j1 q1, .Constant .none j2 q2] j3 q3)) q4] "ask" q (TRef L hs) := by
  intro f c' s H Q tl act hc h
  refine ⟨_, pss_cons (ps_try_manyA (X := (cxOf C8.CX0 X.prog X.w X.K X.mg X.base ["ask", "e"] x sg g cdg X.A X.stack s H C8.E0).nox) (i := 1) (n := "e") (Wout := fun _ _ _ _ => False)
      (tb := fun W D σ H => ∃ Ech : XK, (∀ cls d σ' H', Ech cls d H' → W cls d σ' H') ∧ σ[0]? = some (some (.ref f)) ∧ H c' = some (LamX.CodeO c' q) ∧ tl Ech H (fun _ H' => D.nx σ H'))
      rfl rfl (show [("ask" : Str), ("e" : Str)].Nodup by decide) rfl hk LamX.takes0 (fun W pn xe tk _ => ?_) (refH_hds (L := L) rfl rfl hk R)) (pss_one (ps_ret (pe_tup (pa_cons pe_str (pa_cons pe_non pa_nil))))), ?_⟩
  · refine ⟨fun pins s' σ H' D I h' => ?_⟩
    obtain ⟨Ech, hW, h1, h2, h3⟩ := h'
    exact (pss_one (ps_expr (pos := p3) (act W pn xe Ech p1 p2 tk hW))).run pins s' σ H' D I ⟨h1, h2, h3⟩
  · refine ⟨_, fun cls d σ' H' hE => ?_, rfl, hc, h⟩
    obtain ⟨c, w, dx, fs, v, ec, hl, ed, hx, hv, qq⟩ := hE
    have hcm : ∃ w, (c, w) ∈ hs := ⟨w, mem_look hl⟩
    exact many_ref ex hcm ec ed hx hv R (fun _ h => h) hl qq
/-! ### x(lambda: body) -/
section
variable {L : Lw} {E0 : En} {G : Gm} {EX : Exn → Prop} {X : Cx} {k kb : Nat} {c : CE} {st : Sl} {σ : L2.St} {S S' H H' H1 : Hp} {v : V} {vl : Vl} {pos : Pos}
theorem SI.extN (I : SI L E0 st σ S H) (e : LamX.ExtN H H1) (t : LamX.Tabs L.T H1) : SI L E0 st σ S H1 where
  base := I.base
  sub := fun a o h => e a o (I.sub a o h) (I.snt a o h)
  ns := I.ns
  keep := fun a o h r => e a o (I.keep a o h r) (I.enT a o h)
  row := fun a h => by
    obtain ⟨⟨sa, ns, i, j, k, h1, h2, h3⟩, h4⟩ := I.row a h
    exact ⟨⟨sa, ns, i, j, k, e a _ h1 (fun _ z => by cases z), h2, h3⟩, h4⟩
  tabs := t
  enT := I.enT
  snt := I.snt
  len := I.len
  at_ := fun i vl h => by
    obtain ⟨v, h1, h2⟩ := I.at_ i vl h
    refine ⟨v, h1, ?_⟩
    cases vl with
    | d x => exact h2
    | own x =>
      obtain ⟨a, o, e1, ha, hs, he, hr, cc⟩ := h2
      exact ⟨a, o, e1, e a o ha cc.notTbl, hs, he, hr, cc⟩
    | lent x =>
      obtain ⟨a, o, e1, ha, hs, he, hr, cc⟩ := h2
      exact ⟨a, o, e1, e a o ha cc.notTbl, hs, he, hr, cc⟩
    | row => exact h2
    | fn n => exact h2
  dis := I.dis
theorem Go.extN (e : LamX.ExtN H H1) : Go L st σ S H st S H1 := ⟨.refl S, fun a o h _ _ t => e a o h t, fun _ x h => ⟨x, h, rfl⟩, fun a h ⟨o, h1, h2⟩ => h ⟨o, e a o h1 h2, h2⟩, fun _ _ h _ => h⟩
theorem je_lam (F : Fit L E0 EX X k) (hkb : kb + 2 ≤ k) {nf : Nat} {x : Str} {g cA PA : Addr} {fd : FuncData} {stg : Stmt} {hs : List (Nat × Str)} {h₀ : ExceptHandler} {hds : List ExceptHandler} {scope : Scope} {params : Arguments} {body : Expr} {p lpos p1 p2 p3 p4 q1 q2 q3 q4 : Pos} {j1 j2 j3 : Nat}
    (hg : Gl X x) (hm : X.mg x = some (.ref g)) {dvs : List V} {kws : List (Str × V)} (Fg : FunD X.K x x (defArgs stg) (defBody stg) (defScope stg) dvs kws g fd) (hbg : defBody stg = [.Try [.Expr (.Call (.Name "ask" p1) [] [] p2) p3] (h₀ :: hds) [] [] p4, .Return (some (.Tuple [.Constant (.str ("" : Str)) j1 q1, .Constant .none j2 q2] j3 q3)) q4])
    (hb : L2.Binds X.K fd [("ask" : Str)] []) (Sg : FnScope [("ask" : Str), ("e" : Str)] [("ask" : Str)] (defScope stg)) (hva : Vis (defScope stg) "ask") (hke : (defScope stg).names.lookup ("e" : Str) = some .local)
    (R : RefH L X.K X.mg (defScope stg) (h₀ :: hds) hs) (ex : ∀ c h, (∃ w, (c, w) ∈ hs) → (∃ w, (h, w) ∈ hs) → PySem.W.exmOne X.K (.ref (L.ct c)) (.ref (L.ct h)) = some (decide (c = h))) (hw : ∀ c w, G.word c = some w → hs.lookup c = some w)
    (TB : LamX.TabB X.base X.mg cA PA) (hcode : X.env.code = .ref cA) (hmT : (PA, X.env.qual ++ "<lambda>") ∈ L.T) (hu : ∀ p ∈ L.T, p.1 = PA → p.2 = X.env.qual ++ "<lambda>") (Ls : LamX.LamS X.env.scope scope) (hdef : defaultsOf params X.env = ([], []))
    (hbind : ∀ (q : Str) (cl : List (Str × Addr)) (pm cv ctv : Value), bindArgs (PySem.W.kla_fn "<lambda>" q params body scope cl pm cv ctv) ⟨[], []⟩ = pure [])
    (hbody : ∀ (E1 : En) (EX1 : Exn → Prop) (A : Around) (outer : List Env) (s : Shared) (H : Hp) (E : XK) (f c' : Addr), Fit L E1 EX1 (LamX.lamCx X A outer s H E scope f c') kb → PE (LamX.lamCx X A outer s H E scope f c') body (tD L E1 (evE G c EX1)))
    (hdb : (x == ("__debug__" : Str)) = false) : JE L E0 G EX X (.Call (.Name x p) [.Lambda params body scope lpos] [] pos) (.lam nf c) := by
  obtain ⟨oc, od, dV, kV, doc, pm, an, cdv, ct, osl, rfl, lk, hcd, _, _⟩ := Fg.ex
  have hG : LamX.GivesTo X [("ask" : Str), ("e" : Str)] x (defScope stg) g cdv (defBody stg) "ask" (X.env.qual ++ "<lambda>") (TRef L hs) := by
    rw [hbg]
    exact ref_gives R hke ex
  refine JE.of ((LamX.pe_lamcall (T := L.T) (TT := TRef L hs) (k := kb) (a := "ask") (t := fun E σ H Q => ∃ E1 EX1, (∀ cls d H', XEX L E1 EX1 cls d H' → E cls d H') ∧ tD L E1 (evE G c EX1) σ H Q) hg hm Fg.kp lk hcd hb Sg rfl hva hG TB hcode hmT hu (F.room.mono hkb) Ls hdef hbind
    (fun A outer s H E f c' hr => ⟨fun pins s' σ H' Q I hw => ?_⟩) hdb).weak fun σ H Q ⟨st, S, Q', I, ev, kk⟩ => ?_) (fun _ z => by cases z)
  · obtain ⟨E1, EX1, h1, h2⟩ := hw
    refine (hbody E1 EX1 A outer s H E f c' ⟨F.K, ?_, rfl, hr, F.nd, passes_of rfl⟩).run pins s' σ H' Q I h2
    exact (takes_of rfl rfl rfl rfl).imp fun c d _ H' h => h1 c d H' h
  · have ev : evE G c (fun x => ∃ w, G.word x.cls = some w ∧ Q' (.d (.tuple [.str w, x.val])) st) (lendAll st) fun _ st' => st' = lendAll st ∧ Q' (.d (.tuple [.str "", .none])) st := ev
    refine ⟨I.tabs, fun H1 eN T1 => ?_⟩
    have I1 := I.extN eN T1
    have fin : ∀ {S' H' : Hp} {vs : List V} {ds : List PyData}, HI L (ent H1 S) S' H' → RpAll L.K S' vs ds → Q' (.d (.tuple ds)) st → ∀ p, H' p = none → Q (.ref p) (upd H' p (.tup vs)) := fun {S' H' vs ds} J r q p hp => by
      have I2 := I1.after J
      obtain ⟨S3, I3, g3, r3⟩ := I2.closeV (NewV.tup hp r)
      have g2 : Go L st σ S H st S' H' := (Go.extN eN).trans (Go.after J)
      exact kk _ _ st S3 _ I3 (g2.trans g3) (r3.from g2) q
    refine ⟨ent H1 S, fun x => ∃ w, G.word x.cls = some w ∧ Q' (.d (.tuple [.str w, x.val])) st, fun cls d H' ⟨S', x, J, ⟨ec, dx, fs, v, ed, hx, hv, rv⟩, w, hword, q⟩ => ?_, ?_⟩
    · exact ⟨x.cls, w, dx, fs, v, ec, hw _ _ hword, ed, hx, hv, fin J (.cons (.str w) (.cons rv .nil)) q⟩
    · refine ⟨lendAll st, S, _, I1.block [], ev, fun v H' st' S' vl I' g' r' ⟨_, q⟩ => ?_⟩
      exact ⟨by show 2 ≤ sizeLine; decide, fin I'.toHI (.cons (.str _) (.cons .non .nil)) q⟩
end
end PX
end L2
/-! The law's end. -/
namespace L2
namespace PX
open PySem PySem.Spec PyProof.Rows LamX
theorem law_callG {P : Program} {w : World} {K : PySem.W.Frag} {mg mb : Str → Option Value} {CX : CXT} {fa a : Addr} {cs : List (Addr × Addr)} {s₁ : Shared} {vs : List Value} {ns : List Int}
    (KX : K.In s₁.heap) (hns : s₁.heap.Ns mainGlobals mg) (hb : s₁.heap.Ns builtinsNs mb) (hbb : ∀ x : Str, x ≠ "__name__" → mb x = bootBuiltins x) (hlim : s₁.heap.NoLimit) (hg : s₁.gens = #[])
    (hT : ∀ p ∈ cs, s₁.heap.get? p.2 = some { cls := .none, data := .fields #[] }) (nT : ∀ p ∈ cs, K.lookup p.2 = none) (C : ∀ p ∈ cs, PySem.W.CodeHd s₁.heap p.1 p.2)
    (hbm : ∃ (bm : Addr) (ob : Obj), mg "__builtins__" = some (.ref bm) ∧ bm ≠ builtinsNs ∧ s₁.heap.get? bm = some ob ∧ ob.cls = .type "module" ∧ ob.dict = some builtinsNs ∧ ob.data = .plain)
    (ha : s₁.heap.get? a = some { cls := .type "list", data := .seq vs.toArray }) (hi : IntsAre vs ns) (hl : ns.length ≤ sizeLine) (F : ∀ base : Heap, K.In base → base.Ns mainGlobals mg → (∀ p ∈ cs, LamX.TabB base mg p.1 p.2) → ∀ H : Hp, Env0 P w K mg base callerA [] s₁ H → (∀ p ∈ cs, H p.2 = some (.tbl #[])) → SqL K H a (ns.map V.int) →
      codeAny (model P w) callerA (.call (.ref fa) ⟨[.ref a], []⟩) (CR CX [] P w H s₁ (fun v _ => v = .bl true) fun _ _ _ => False) s₁)
    (hCX : ∀ H e s', CX [] H s₁ (fun _ _ _ => False) e s' → False) :
    codeAny (model P w) callerA (.call (.ref fa) ⟨[.ref a], []⟩) (fun r s' => r = .ok (.ret (.bool true)) ∧ OldK s₁.heap s'.heap ∧ s'.os = s₁.os ∧ AllBare s'.gens) s₁ := by
  have rv := vals_ints hi
  have lenV := hi.length
  have isT : ∀ b : Addr, b ∈ cs.map (·.2) → s₁.heap.get? b = some { cls := .none, data := .fields #[] } := fun b hb => by
    obtain ⟨p, hp, e⟩ := List.mem_map.mp hb
    rw [← e]
    exact hT p hp
  have aT : a ∉ cs.map (·.2) := fun z => by
    have q := isT a z
    rw [ha] at q
    have z' : Data.seq vs.toArray _ = Data.fields #[] := congrArg Obj.data (Option.some.inj q)
    cases z'
  have memT : ∀ p ∈ cs, p.2 ∈ cs.map (·.2) := fun p hp => List.mem_map.mpr ⟨p, hp, rfl⟩
  -- from an abstract heap in which nothing but the script and the tables may be tracked
  have core : ∀ H : Hp, (∀ p ∈ cs, H p.2 = some (.tbl #[])) → (∀ b, H b = none ∨ b ∈ cs.map (·.2) ∨ ∃ o xs, H b = some (.frz o (.lst xs))) → SqL K H a (ns.map V.int) → HOk P w H s₁.heap → (∀ b, H b ≠ none → b = a ∨ b ∈ cs.map (·.2)) → (H a ≠ none → K.lookup a = none) →
      codeAny (model P w) callerA (.call (.ref fa) ⟨[.ref a], []⟩) (fun r s' => r = .ok (.ret (.bool true)) ∧ OldK s₁.heap s'.heap ∧ s'.os = s₁.os ∧ AllBare s'.gens) s₁ := by
    intro H hH hO hS hok hA hK
    have base_of : ∀ {b : Addr} {o : Obj}, s₁.heap.get? b = some o → H b = none → (hidT s₁.heap H).get? b = some o := fun e n => hidT_get e n
    have noD : ∀ {b : Addr} {o : Obj}, s₁.heap.get? b = some o → (∀ vs n, o.data ≠ .seq vs n) → o.data ≠ .fields #[] → H b = none := fun {b o} e h1 h2 => by
      cases q : H b with
      | none => rfl
      | some u =>
        rcases hA b (by rw [q]; simp) with e' | e'
        · rw [e', ha] at e
          cases e
          exact (h1 _ _ rfl).elim
        · rw [isT b e'] at e
          cases e
          exact (h2 rfl).elim
    have noA : ∀ {b : Addr} {o : Obj} {es : Array DictEntry} {ep : Nat}, s₁.heap.get? b = some o → o.data = .dict es ep → H b = none := fun {b o es ep} e d => by
      refine noD e (fun vs n z => ?_) fun z => ?_
      · rw [d] at z
        cases z
      · rw [d] at z
        cases z
    have nsK : ∀ {b : Addr} {m : Str → Option Value}, s₁.heap.Ns b m → (hidT s₁.heap H).Ns b m := fun {b m} ⟨o, es, ep, e, d, r⟩ => ⟨o, es, ep, base_of e (noA e d), d, r⟩
    have hKb : K.In (hidT s₁.heap H) := fun b o e => base_of (KX b o e) (by
      cases q : H b with
      | none => rfl
      | some u =>
        rcases hA b (by rw [q]; simp) with e' | e'
        · rw [e'] at e q
          rw [hK (by rw [q]; simp)] at e
          cases e
        · obtain ⟨p, hp, ep⟩ := List.mem_map.mp e'
          rw [← ep, nT p hp] at e
          cases e)
    have hM : L2.Mod K mg (hidT s₁.heap H) := ⟨hKb, nsK hns, ⟨mb, nsK hb, hbb⟩, let ⟨mc, h1, h2⟩ := hlim; ⟨mc, nsK h1, h2⟩⟩
    have TB : ∀ p ∈ cs, LamX.TabB (hidT s₁.heap H) mg p.1 p.2 := fun p hp => by
      have hTp := hT p hp
      refine ⟨?_, ?_, fun z => ?_⟩
      · obtain ⟨o, us, file, tf, flags, tg, inF, text, tt, e1, r1, r2, r3, r4, r5, r6, r7, r8, hne⟩ := C p hp
        refine ⟨o, us, file, tf, flags, tg, inF, text, tt, base_of e1 (noD e1 (fun vs n z => ?_) fun z => ?_), r1, r2, r3, r4, r5, r6, r7, r8, hne⟩
        · rw [r2] at z
          cases z
        · rw [r2] at z
          cases z
          simp at r3
      · obtain ⟨bm, ob, b1, b2, b3, b4, b5, b6⟩ := hbm
        have nG : bm ≠ mainGlobals := fun q => by
          obtain ⟨o, es, ep, e, hd, _⟩ := hns
          rw [q, e] at b3
          cases b3
          rw [hd] at b6
          cases b6
        have nP : bm ≠ p.2 := fun q => by
          rw [q, hTp] at b3
          cases b3
          cases b6
        refine ⟨bm, ob, b1, b2, nG, nP, base_of b3 (noD b3 (fun vs n z => ?_) fun z => ?_), b4, b5, b6⟩
        · rw [b6] at z
          cases z
        · rw [b6] at z
          cases z
      · obtain ⟨o, es, ep, e, hd, _⟩ := hns
        rw [z, hTp] at e
        cases e
        cases hd
    have e0 : Env0 P w K mg (hidT s₁.heap H) callerA [] s₁ H := ⟨rfl, hM, fun b o e => of_hidT e, Nat.le_of_eq (hidT_size _ _), trivial, fun b hb => absurd (show b ∈ ([] : List Addr) from hb) (by simp), hok, .of_eq hg⟩
    refine codeAny_mono (F _ hKb (nsK hns) TB H e0 hH hS) fun r s' h => ?_
    cases r with
    | error e => exact (hCX H e s' h).elim
    | ok fl =>
      cases fl with
      | next => exact False.elim h
      | brk => exact False.elim h
      | cont => exact False.elim h
      | ret u =>
        obtain ⟨v, H', os, bare, un, hok', r', q⟩ := h
        have q' : v = .bl true := q
        subst q'
        obtain rfl : u = Value.bool true := r'
        have key : ∀ b o, b ∉ cs.map (·.2) → s₁.heap.get? b = some o → s'.heap.get? b = some o := fun b o nb e => by
          cases q : H b with
          | none => exact un.keep b o e q (by intro z; exact absurd (show b ∈ ([] : List Addr) from z) (by simp)) (by simp)
          | some u =>
            rcases hO b with z | z | ⟨ob, xs, z⟩
            · rw [q] at z; cases z
            · exact absurd z nb
            · have z2 := un.frzs b ob _ z
              obtain ⟨e1, _⟩ := hok b _ z
              obtain ⟨e2, _⟩ := hok' b _ z2
              rw [e] at e1; cases e1
              exact e2
        have grown : ∀ p ∈ cs, ∃ more : Array Value, s'.heap.get? p.2 = some { cls := .none, data := .fields more } := fun p hp => by
          obtain ⟨more, z⟩ := un.tbls p.2 #[] (hH p hp)
          exact ⟨_, hok' p.2 _ z⟩
        refine ⟨rfl, ⟨fun b o e => ?_, fun b o e => ?_⟩, os, bare⟩
        · by_cases hb : b ∈ cs.map (·.2)
          · obtain ⟨p, hp, ep⟩ := List.mem_map.mp hb
            obtain ⟨more, hm⟩ := grown p hp
            rw [← ep] at e ⊢
            rw [hT p hp] at e
            cases e
            exact .inr (.inl ⟨((C p hp).tab (hT p hp)).isCodeTable, rfl, #[], more, rfl, by rw [Array.empty_append]; exact hm⟩)
          · exact .inl (key b o hb e)
        · by_cases hb : b ∈ cs.map (·.2)
          · obtain ⟨p, hp, ep⟩ := List.mem_map.mp hb
            obtain ⟨more, hm⟩ := grown p hp
            rw [← ep]
            exact ⟨_, hm⟩
          · exact ⟨o, key b o hb e⟩
  cases hk : K.lookup a with
  | some o =>
    have e := KX a o hk
    rw [ha] at e
    cases e
    refine core (fun b => if b ∈ cs.map (·.2) then some (.tbl #[]) else none) (fun p hp => if_pos (memT p hp)) (fun b => ?_) (.inr ⟨_, vs.toArray, _, hk, rfl, rfl, rfl, by rw [List.size_toArray, lenV]; exact hl, by simpa using rv⟩) (fun b u z => ?_) (fun b z => ?_) fun z => absurd (show (if a ∈ cs.map (·.2) then some (HO.tbl #[]) else none) = none from if_neg aT) z
    · by_cases hb : b ∈ cs.map (·.2)
      · exact .inr (.inl hb)
      · exact .inl (if_neg hb)
    · by_cases hb : b ∈ cs.map (·.2)
      · have z' := (if_pos hb).symm.trans z
        cases z'
        exact isT b hb
      · have z' := (if_neg hb).symm.trans z
        cases z'
    · by_cases hb : b ∈ cs.map (·.2)
      · exact .inr hb
      · exact absurd (if_neg hb) z
  | none =>
    refine core (fun b => if b = a then some (.frz { cls := .type "list", data := .seq vs.toArray } (.lst (ns.map V.int))) else if b ∈ cs.map (·.2) then some (.tbl #[]) else none) (fun p hp => (if_neg (show ¬ p.2 = a from fun z => aT (by rw [← z]; exact memT p hp))).trans (if_pos (memT p hp))) (fun b => ?_)
      (.inl (.inr ⟨{ cls := .type "list", data := .seq vs.toArray }, if_pos rfl⟩)) (fun b u z => ?_) (fun b z => ?_) fun _ => hk
    · by_cases hb : b = a
      · exact .inr (.inr ⟨_, _, if_pos hb⟩)
      · by_cases hb2 : b ∈ cs.map (·.2)
        · exact .inr (.inl hb2)
        · exact .inl ((if_neg hb).trans (if_neg hb2))
    · by_cases hb : b = a
      · have z' := (if_pos hb).symm.trans z
        cases z'
        rw [hb]
        exact ⟨ha, by rw [List.length_map]; exact hl, vs, _, rv, ha⟩
      · have z1 := (if_neg hb).symm.trans z
        by_cases hb2 : b ∈ cs.map (·.2)
        · have z' := (if_pos hb2).symm.trans z1
          cases z'
          exact isT b hb2
        · have z' := (if_neg hb2).symm.trans z1
          cases z'
    · by_cases hb : b = a
      · exact .inl hb
      · by_cases hb2 : b ∈ cs.map (·.2)
        · exact .inr hb2
        · exact absurd ((if_neg hb).trans (if_neg hb2)) z
/-- what is known of the law at the head's heap h -/
def LawAtG (l : PySem.W.OpenLaw) (w : World) (K : PySem.W.Frag) (n : Nat) (mg : Str → Option Value) (fa : Addr) (h : Heap) : Prop :=
  ∃ cs : List (Addr × Addr), (∀ p ∈ cs, h.get? p.2 = some { cls := .none, data := .fields #[] }) ∧ (∀ p ∈ cs, K.lookup p.2 = none) ∧ (∀ p ∈ cs, PySem.W.CodeHd h p.1 p.2) ∧
    ∀ base : Heap, K.In base → base.Ns mainGlobals mg → (∀ p ∈ cs, LamX.TabB base mg p.1 p.2) → ∀ (s : Shared) (H : Hp) (a : Addr) (ns : List Int), ns.length ≤ n → (∀ z ∈ ns, Builtin.Int.intBits z ≤ 1048576) → Env0 l.prog w K mg base callerA [] s H → (∀ p ∈ cs, H p.2 = some (.tbl #[])) → SqL K H a (ns.map V.int) →
      codeAny (model l.prog w) callerA (.call (.ref fa) ⟨[.ref a], []⟩) (CR (L2.CX l.prog w) [] l.prog w H s (fun v _ => v = .bl true) fun _ _ _ => False) s
theorem walk_G {l : PySem.W.OpenLaw} {n : Nat} {q : Program} {loose : List Str} {XP : (Str → Option Value) → Heap → Prop} {YP : World → Heap → Prop} {d : DefRec}
    (hn : l.most = some n) (hn2 : n ≤ sizeLine) (hdf : d.params.defaults = [])
    (F : ∀ (w : World) (mg : Str → Option Value) (fa : Addr) (h : Heap), YP w h → h.Ns mainGlobals mg → mg d.name = some (.ref fa) → ∃ K : PySem.W.Frag, K.In h ∧ LawAtG l w K n mg fa h) :
    PySem.W.WalkO q loose XP YP l.row.toRowW d [] (fun f vs => PySem.call f vs) := by
  refine Att.attach_callB hn hdf fun w s₀ s₁ mg mb fa o pm cd doc a vs ns G Y ho hd hcd hmg hobj hints hlen hbits hg => ?_
  obtain ⟨K, KX, cs, hT, nT, C, hF⟩ := F w mg fa _ Y G.T.g hmg
  refine law_callG KX G.T.g G.T.b G.T.builtins G.T.nolimit hg hT nT C G.T.bmain hobj hints (Nat.le_trans hlen hn2) (CX := L2.CX l.prog w) (fun base hK hns TB H e0 hH hS => hF base hK hns TB s₁ H a ns hlen hbits e0 hH hS) fun H e s' h => ?_
  obtain ⟨_, _, _, _, _, _, _, _, _, _, _, _, z⟩ := h
  exact z
/-! ### the law's def -/
def fscript (H : Hp) (sa : Addr) : Hp := fun b => if b = sa then H b else none
theorem script_S {K : PySem.W.Frag} {H : Hp} {sa : Addr} {xs : List V} (h : SqL K H sa xs) : ∃ S : Hp, Mono S H ∧ (∀ a o, S a = some o → notTbl o) ∧ SqL K S sa xs ∧ ∀ a, H a = none → S a = none := by
  have m : ∀ {o : HO}, H sa = some o → Mono (upd (fun _ => none) sa o) H := fun {o} q a u e => by
    by_cases z : a = sa
    · subst z; rw [upd_same] at e; cases e; exact q
    · rw [upd_ne z] at e; cases e
  have t : ∀ {o : HO}, notTbl o → ∀ a u, upd (fun _ => none) sa o a = some u → notTbl u := fun {o} q a u e => by
    by_cases z : a = sa
    · subst z; rw [upd_same] at e; cases e; exact q
    · rw [upd_ne z] at e; cases e
  have n : ∀ {o : HO}, H sa = some o → ∀ a, H a = none → upd (fun _ => none) sa o a = none := fun {o} q a e => by rw [upd_ne (fun z => by rw [z, q] at e; cases e)]
  rcases h with (h | ⟨o, h⟩) | h
  · exact ⟨_, m h, t (fun _ z => by cases z), .inl (.inl upd_same), n h⟩
  · exact ⟨_, m h, t (fun _ z => by cases z), .inl (.inr ⟨o, upd_same⟩), n h⟩
  · exact ⟨fun _ => none, fun _ _ e => (by cases e), fun _ _ e => (by cases e), .inr h, fun _ _ => rfl⟩
/-- the law's body: the row is laid first -/
theorem law_body {L : Lw} {G : Gm} {cs : CSs} {P : Program} {w : World} {mg : Str → Option Value} {base : Heap} {qual : Str} {scope : Scope} {N2 : List Str} {fa a : Addr} {cdv : Value} {A : Around} {s : Shared} {H : Hp} {k : Nat} {rest : List Stmt} {p1 p2 p3 p4 p5 p6 p7 : Pos} {j1 j2 j3 : Nat} {seed : Int} {ns : List Int}
    (hr : Room k (A.deeper (envOfC qual scope s.heap.objs.size fa cdv))) (hgd : A.guards = some []) (nd : (("script" : Str) :: ("row" : Str) :: N2).Nodup) (v0 : Vis scope "script") (v1 : Loc scope "row")
    (hseed : 0 ≤ seed ∧ seed < 2147483647) (hn : ns.length ≤ 63) (hS : SqL L.K H a (ns.map V.int)) (hT : LamX.Tabs L.T H)
    (walk : ∀ (R : Option Addr) (E0 : En) (H : Hp), Fit (L.at_ R) E0 (fun _ => False) (cxOf (L2.CX P w) P w L.K mg base (("script" : Str) :: ("row" : Str) :: N2) qual scope fa cdv A [] s H fun _ _ _ => False) k → (A.deeper (envOfC qual scope s.heap.objs.size fa cdv)).guards = some [] →
      PSs (cxOf (L2.CX P w) P w L.K mg base (("script" : Str) :: ("row" : Str) :: N2) qual scope fa cdv A [] s H fun _ _ _ => False) rest (tSt (L.at_ R) E0 (evSs G (fun _ => False) cs)))
    (pure : evSs G (fun _ => False) cs ⟨fun _ => False, fun vl => vl = .d (.bool true), fun _ => False, fun _ => False⟩ (none :: some .row :: List.replicate N2.length none)) :
    ∃ t, PSs (cxOf (L2.CX P w) P w L.K mg base (("script" : Str) :: ("row" : Str) :: N2) qual scope fa cdv A [] s H fun _ _ _ => False) (.Assign [.Name "row" p1] (.List [.Name "script" p2, .Constant (.int 0) j1 p3, .Constant (.int seed) j2 p4, .Constant (.int 0) j3 p5] p6) p7 :: rest) t ∧
      t { nx := fun _ H' => V.non = .bl true, rt := fun v _ => v = .bl true } (L2.start (("script" : Str) :: ("row" : Str) :: N2) [.ref a]) H := by
  have F : ∀ R E0, Fit (L.at_ R) E0 (fun _ => False) (cxOf (L2.CX P w) P w L.K mg base (("script" : Str) :: ("row" : Str) :: N2) qual scope fa cdv A [] s H fun _ _ _ => False) k := fun R E0 =>
    ⟨rfl, (takes_of rfl rfl rfl rfl).imp fun c d _ H' ⟨_, _, _, _, z⟩ => z, rfl, hr, nd, passes_of rfl⟩
  have tr : PSs (cxOf (L2.CX P w) P w L.K mg base (("script" : Str) :: ("row" : Str) :: N2) qual scope fa cdv A [] s H fun _ _ _ => False) rest (fun D σ H' => ∃ R E0, tSt (L.at_ R) E0 (evSs G (fun _ => False) cs) D σ H') :=
    ⟨fun pins s' σ H' D I ⟨R, E0, h⟩ => (walk R E0 H (F R E0) hgd).run pins s' σ H' D I h⟩
  refine ⟨_, pss_cons (ps_set (i := 1) nd rfl v1 (pe_lst (pa_cons (pe_var (i := 0) rfl v0) (pa_cons pe_int (pa_cons pe_int (pa_cons pe_int pa_nil))))) rfl (.inl rfl)) tr, ?_⟩
  refine ⟨.ref a, rfl, by show 4 ≤ sizeLine; decide, fun R hR => ?_⟩
  obtain ⟨S, m, nt, hS2, hn2⟩ := script_S hS
  refine ⟨some R, ⟨fun _ => none, fun _ => none⟩, none :: some .row :: List.replicate N2.length none, S, _, ?_, pure, ⟨fun _ _ _ _ _ _ z => z.elim, fun _ _ _ _ _ _ z => z.elim, fun _ _ _ _ _ _ z => z.elim, fun v vl S' H' I sv nl e => ?_⟩⟩
  · have gt : ∀ (i : Nat) vl, ((none : Option Vl) :: some .row :: List.replicate N2.length none)[i]? = some (some vl) → i = 1 ∧ vl = .row := fun i vl h => by
      match i, h with
      | 0, h => simp at h
      | 1, h => simp at h; exact ⟨rfl, h.symm⟩
      | i + 2, h =>
        simp only [List.getElem?_cons_succ, List.getElem?_replicate] at h
        split at h <;> cases h
    refine { base := fun _ _ e => (by cases e), sub := m.trans (Mono.upd hR), ns := fun _ _ e => absurd rfl e, keep := fun _ _ e => (by cases e), row := fun b hb => ?_, tabs := hT.ext (Mono.upd hR), enT := fun _ _ e => (by cases e), snt := nt, len := by unfold L2.start; simp, at_ := fun i vl h => ?_, dis := fun i j x y b h1 _ _ _ => by cases (gt i _ h1).2 }
    · cases hb
      exact ⟨⟨a, ns, 0, seed, 0, upd_same, hS2, hn, Int.le_refl _, hseed.1, hseed.2⟩, hn2 R hR⟩
    · obtain ⟨rfl, rfl⟩ := gt i vl h
      exact ⟨.ref R, rfl, R, rfl, rfl⟩
  · cases e
    have sv : Rp L.K S' v (.bool true) := sv
    cases sv
    rfl
end PX
end L2
/-! The law run; the def that draws. -/
namespace L2
namespace PX
open PySem PySem.Spec PyProof.Rows LamX
theorem tabs_of {T : List (Addr × Str)} {cs : List (Addr × Addr)} {H : Hp} (hT : ∀ p ∈ T, ∃ q ∈ cs, q.2 = p.1) (h : ∀ p ∈ cs, H p.2 = some (.tbl #[])) : Tabs T H := fun p hp => by
  obtain ⟨q, hq, e⟩ := hT p hp
  exact .nil (by rw [← e]; exact h q hq)
/-- the law's call, from its body's walk -/
theorem law_run {l : PySem.W.OpenLaw} {L : Lw} {G : Gm} {cs : CSs} {w : World} {mg : Str → Option Value} {n k : Nat} {st : Stmt} {f : Addr} {fd : FuncData} {N2 : List Str} {seed : Int} {h : Heap} {css : List (Addr × Addr)} {rest : List Stmt} {p1 p2 p3 p4 p5 p6 p7 : Pos} {j1 j2 j3 : Nat}
    (KX : L.K.In h) (F : FunD L.K "law" "law" (defArgs st) (defBody st) (defScope st) [] [] f fd) (Sc : FnScope (("script" : Str) :: ("row" : Str) :: N2) ["script"] (defScope st)) (hb : ∀ (s : Shared) (us : List Value), us.length = [("script" : Str)].length → BindsTo s fd ⟨us, []⟩ ([("script" : Str)].zip us))
    (hr : Room (k + 1) callerA) (v0 : Vis (defScope st) "script") (v1 : Loc (defScope st) "row") (hseed : 0 ≤ seed ∧ seed < 2147483647) (hn : n ≤ 63)
    (hT : ∀ p ∈ css, h.get? p.2 = some { cls := .none, data := .fields #[] }) (nT : ∀ p ∈ css, L.K.lookup p.2 = none) (hC : ∀ p ∈ css, PySem.W.CodeHd h p.1 p.2) (hTs : ∀ p ∈ L.T, ∃ q ∈ css, q.2 = p.1)
    (hbody : defBody st = .Assign [.Name "row" p1] (.List [.Name "script" p2, .Constant (.int 0) j1 p3, .Constant (.int seed) j2 p4, .Constant (.int 0) j3 p5] p6) p7 :: rest)
    (walk : ∀ (base : Heap), L.K.In base → base.Ns mainGlobals mg → (∀ p ∈ css, TabB base mg p.1 p.2) → ∀ (R : Option Addr) (E0 : En) (c : Addr) (A : Around) (s : Shared) (H : Hp), He.codeOf L.K ("law", none) = c ∨ f ≠ He.fAd L.K ("law", none) →
      Fit (L.at_ R) E0 (fun _ => False) (cxOf (L2.CX l.prog w) l.prog w L.K mg base (("script" : Str) :: ("row" : Str) :: N2) "law" (defScope st) f (.ref c) A [] s H fun _ _ _ => False) k → (A.deeper (envOfC "law" (defScope st) s.heap.objs.size f (.ref c))).guards = some [] →
      PSs (cxOf (L2.CX l.prog w) l.prog w L.K mg base (("script" : Str) :: ("row" : Str) :: N2) "law" (defScope st) f (.ref c) A [] s H fun _ _ _ => False) rest (tSt (L.at_ R) E0 (evSs G (fun _ => False) cs)))
    (pure : evSs G (fun _ => False) cs ⟨fun _ => False, fun vl => vl = .d (.bool true), fun _ => False, fun _ => False⟩ (none :: some .row :: List.replicate N2.length none)) :
    LawAtG l w L.K n mg f h := by
  refine ⟨css, hT, nT, hC, fun base hKb hns hTB s H a ns hlen hbits e0 hH hS => ?_⟩
  obtain ⟨oc, od, dV, kV, doc, pm, an, cdv, ct, osl, rfl, lk, hcd, _, _⟩ := F.ex
  obtain ⟨c, rfl⟩ := He.codeIn_ref hcd
  refine run_ofS (CX := L2.CX l.prog w) lk hcd Sc hr e0 (hb s [.ref a] rfl) (vs := [.ref a]) (.cons rfl .nil) rfl fun hr' => ?_
  rw [hbody]
  refine law_body (L := L) (ns := ns) hr' (by rfl) Sc.nd v0 v1 hseed (by omega) hS (tabs_of hTs hH) (fun R E0 H F' hg => walk base hKb hns hTB R E0 c callerA s H ?_ F' hg) pure
  by_cases q : f = He.fAd L.K ("law", none)
  · left
    subst q
    exact He.codeOf_eq lk rfl
  · exact .inr q
/-! ### the draw -/
section
variable {K : PySem.W.Frag}
abbrev tCel (K : PySem.W.Frag) (i : Int) : TE := tOp (rIxL K) (tVar 0) (tC (.int i))
abbrev rI1 : List V → Hp → VK → Prop := fun xs H Q => (∃ i, xs = [.int i] ∧ Q (.int i) H) ∨ ∃ k, xs = [.bl k] ∧ Q (.int (if k then 1 else 0)) H
abbrev rLn (K : PySem.W.Frag) : List V → Hp → VK → Prop := fun xs H Q => ∃ x n, xs = [x] ∧ LenV K x H n ∧ Q (.int n) H
abbrev oSub := rI0 fun i j => V.int (i - j)
abbrev oAdd := rI0 fun i j => V.int (i + j)
abbrev oMul := rI CMul fun i j => V.int (i * j)
abbrev oMod := rI (fun _ j => 0 < j) fun i j => V.int (i % j)
abbrev oDiv := rI CDiv fun i j => V.int (i / j)
abbrev oPow := rI CPow fun i j => V.int (i ^ j.toNat)
abbrev oGt := rI0 fun i j => V.bl (decide (j < i))
abbrev oGe := rI0 fun i j => V.bl (decide (j ≤ i))
abbrev tInt (t : TE) : TE := tCB rI1 (tCons t tNil)
abbrev tI' (i : Int) : TE := tC (.int i)
abbrev tPutR (i : Int) (te : TE) : TS := tAsg te (gSub (tVar 0) (tC (.int i)) rSetL)
def tTk1 (K : PySem.W.Frag) : TS := tSeq (tAsg (tOp oMod (tInt (tCel K 3)) (tVar 1)) (gName 3)) (tSeq (tPutR 3 (tOp oDiv (tCel K 3) (tVar 1))) (tRet (tVar 3)))
def tTk2 (K : PySem.W.Frag) : TS := tSeq (tPutR 2 (tOp oMod (tInt (tOp oAdd (tOp oMul (tCel K 2) (tI' 48271)) (tI' 11))) (tI' 2147483647))) (tRet (tOp oMod (tInt (tOp oDiv (tCel K 2) (tI' 7))) (tVar 1)))
def tTk3 (K : PySem.W.Frag) : TS := tSeq (tAsg (tOp (rIxL K) (tCel K 0) (tOp oSub (tCel K 1) (tI' 1))) (gName 2)) (tSeq (tPutR 2 (tOp oMod (tInt (tOp oAdd (tOp oAdd (tOp oMul (tCel K 2) (tI' 48271)) (tVar 2)) (tI' 11))) (tI' 2147483647)))
  (tSeq (tIfS (tTest (tOp oGe (tVar 2) (tOp oPow (tI' 10) (tI' 18)))) (tPutR 3 (tOp oDiv (tVar 2) (tVar 1))) tNext) (tRet (tOp oMod (tInt (tVar 2)) (tVar 1)))))
def tTaken (K : PySem.W.Frag) : TS := tSeq (tIfS (tTest (tOp oGt (tCel K 3) (tI' 0))) (tTk1 K) tNext) (tSeq (tPutR 1 (tOp oAdd (tCel K 1) (tI' 1)))
  (tSeq (tIfS (tTest (tOp oGt (tCel K 1) (tCB (rLn K) (tCons (tCel K 0) tNil)))) (tTk2 K) tNext) (tTk3 K)))
/-- a draw: any int from 0 up to it -/
def spDraw : FSp := fun vls Q _ => ∃ m : Int, vls = [.row, .d (.int m)] ∧ 0 < m ∧ m < 1073741824 ∧ ∀ v : Int, 0 ≤ v → v < m → Q (.d (.int v))
theorem HI.updRow {L : Lw} {E0 : En} {S H : Hp} {a : Addr} {xs : List V} (I : HI L E0 S H) (hR : L.R = some a) (r : RowOk L.K S (upd H a (.lst xs)) a) : HI L E0 S (upd H a (.lst xs)) := by
  obtain ⟨⟨sa, ns, i, j, k, hH, _⟩, hS⟩ := I.row a hR
  have m : ∀ b o, b ≠ a → H b = some o → upd H a (.lst xs) b = some o := fun b o hb e => by rw [upd_ne hb]; exact e
  refine ⟨I.base, fun b o e => ?_, I.ns, fun b o e hb => ?_, fun b hb => ?_, fun p hp => ?_, I.enT, I.snt⟩
  · exact m b o (fun z => by rw [z, hS] at e; cases e) (I.sub b o e)
  · exact m b o (fun z => hb (by rw [z, hR])) (I.keep b o e hb)
  · rw [hR] at hb; cases hb
    exact ⟨r, hS⟩
  · obtain ⟨ps, h1, h2, h3⟩ := I.tabs p hp
    refine ⟨ps, m _ _ (fun z => by rw [z, hH] at h1; cases h1) h1, h2, fun pos cv hc => ?_⟩
    obtain ⟨c, e1, e2⟩ := h3 pos cv hc
    exact ⟨c, e1, m _ _ (fun z => by rw [z, hH] at e2; cases e2) e2⟩
theorem cel {σ : L2.St} {H : Hp} {a : Addr} {xs : List V} {i : Int} {v : V} {Q : VK} (h0 : σ[0]? = some (some (.ref a))) (hH : H a = some (.lst xs)) (hv : atI xs i = some v) (q : Q v H) : tCel K i σ H Q := ⟨_, h0, _, _, _, _, rfl, rfl, SqL.of hH, hv, q⟩
theorem putR {σ : L2.St} {H H1 : Hp} {a : Addr} {xs : List V} {i : Int} {j : Nat} {v : V} {te : TE} {D : Ends} (h : te σ H fun x H' => x = v ∧ H' = H1) (mono : ∀ Q Q' : VK, (∀ x H', Q x H' → Q' x H') → te σ H Q → te σ H Q') (h0 : σ[0]? = some (some (.ref a))) (hH : H1 a = some (.lst xs)) (hj : ixN xs.length i = some j) (q : D.nx σ (upd H1 a (.lst (xs.set j v)))) : tPutR i te D σ H :=
  mono _ _ (fun x H' e => by obtain ⟨rfl, rfl⟩ := e; exact ⟨_, h0, _, _, _, _, rfl, rfl, hH, hj, q⟩) h
theorem updupd {H : Hp} {a : Addr} {o o' : HO} : upd (upd H a o) a o' = upd H a o' := by
  funext b
  by_cases h : b = a
  · rw [h, upd_same, upd_same]
  · rw [upd_ne h, upd_ne h, upd_ne h]
theorem taken_pure {L : Lw} {vs : List V} {H : Hp} {Q : VK} {E : XK} (h : liftSp L spDraw vs H Q E) : tTaken L.K { nx := fun _ H' => Q .non H', rt := Q } (L2.start ["row", "many", "cell", "found"] vs) H := by
  obtain ⟨R, S, vls, Q', E', I, r, ⟨m, rfl, m0, m1, q⟩, k1, _⟩ := h
  cases r with
  | cons h1 r =>
    cases r with
    | cons h2 r =>
      cases r
      obtain ⟨a, ha, rfl⟩ := h1
      have h2 := (show Rp _ _ _ _ from h2)
      cases h2
      obtain ⟨⟨sa, ns, i, j, k, hH, hS, hn, i0, j0, j1⟩, hSa⟩ := I.row a ha
      have row : ∀ {H' : Hp} {i j k : Int}, H' a = some (.lst [.ref sa, .int i, .int j, .int k]) → 0 ≤ i → 0 ≤ j → j < 2147483647 → RowOk (L.at_ R).K S H' a := fun e i0 j0 j1 => ⟨sa, ns, _, _, _, e, hS, hn, i0, j0, j1⟩
      have fin : ∀ {xs : List V} {v : Int}, HI (L.at_ R) (ent H S) S (upd H a (.lst xs)) → 0 ≤ v → v < m → Q (.int v) (upd H a (.lst xs)) := fun J v0 v1 => k1 _ _ S (.d (.int _)) J (.int _) (fun _ e => nomatch e) (q _ v0 v1)
      have md : ∀ z : Int, 0 ≤ z % m ∧ z % m < m := fun z => ⟨Int.emod_nonneg _ (by omega), Int.emod_lt_of_pos _ m0⟩
      refine cel rfl hH rfl ⟨_, _, rfl, rfl, _, rfl, ?_⟩
      dsimp only
      split
      · refine cel rfl hH rfl (.inl ⟨_, rfl, .int m, rfl, _, _, rfl, rfl, m0, ?_⟩)
        refine cel (H := H) rfl hH rfl ⟨.int m, rfl, _, _, rfl, rfl, ⟨m0, m1⟩, ?_⟩
        refine ⟨.ref a, rfl, a, _, 3, 3, rfl, rfl, hH, rfl, ?_⟩
        exact ⟨_, rfl, fin (I.updRow ha (row upd_same i0 j0 j1)) (md _).1 (md _).2⟩
      · refine cel rfl hH rfl ⟨_, _, rfl, rfl, ?_⟩
        refine ⟨.ref a, rfl, a, _, 1, 1, rfl, rfl, hH, rfl, ?_⟩
        have hH1 : upd H a (.lst [.ref sa, .int (i + 1), .int j, .int k]) a = some (.lst [.ref sa, .int (i + 1), .int j, .int k]) := upd_same
        have I1 := I.updRow ha (row hH1 (by omega) j0 j1)
        have hS1 : SqL L.K (upd H a (.lst [.ref sa, .int (i + 1), .int j, .int k])) sa (ns.map V.int) := I1.sub.seqL hS
        refine cel rfl hH1 rfl (cel rfl hH1 rfl ⟨.ref sa, (ns.map V.int).length, rfl, .inl ⟨_, hS1, rfl⟩, ?_⟩)
        refine ⟨_, _, rfl, rfl, _, rfl, ?_⟩
        have jm : ∀ z : Int, 0 ≤ z % 2147483647 ∧ z % 2147483647 < 2147483647 := fun z => ⟨Int.emod_nonneg _ (by omega), Int.emod_lt_of_pos _ (by omega)⟩
        dsimp only
        split
        · refine cel rfl hH1 rfl ⟨_, _, rfl, rfl, .inl ⟨by omega, by omega⟩, _, _, rfl, rfl, .inl ⟨_, rfl, _, _, rfl, rfl, (by decide : (0 : Int) < 2147483647), ?_⟩⟩
          refine ⟨.ref a, rfl, a, _, 2, 2, rfl, rfl, hH1, rfl, ?_⟩
          rw [updupd]
          refine cel rfl upd_same rfl ⟨_, _, rfl, rfl, ⟨by decide, by decide⟩, .inl ⟨_, rfl, .int m, rfl, _, _, rfl, rfl, m0, ?_⟩⟩
          exact fin (I.updRow ha (row upd_same (by omega) (jm _).1 (jm _).2)) (md _).1 (md _).2
        · rename_i hle
          have hle : ¬ (((ns.map V.int).length : Int) < i + 1) := by simpa using hle
          have hlen : (ns.map V.int).length = ns.length := List.length_map ..
          have hi : i.toNat < ns.length := by omega
          have hat : atI (ns.map V.int) (i + 1 - 1) = some (.int ns[i.toNat]) := by
            have e : i + 1 - 1 = i := by omega
            rw [e]
            unfold atI ixN
            rw [if_pos i0, if_pos (by rw [hlen]; omega)]
            show (ns.map V.int)[i.toNat]? = _
            rw [List.getElem?_map, List.getElem?_eq_getElem hi]
            rfl
          refine cel rfl hH1 rfl (cel rfl hH1 rfl ⟨_, _, rfl, rfl, sa, _, _, _, rfl, rfl, hS1, hat, ?_⟩)
          refine cel rfl hH1 rfl ⟨_, _, rfl, rfl, .inl ⟨by omega, by omega⟩, .int ns[i.toNat], rfl, _, _, rfl, rfl, _, _, rfl, rfl, .inl ⟨_, rfl, _, _, rfl, rfl, (by decide : (0 : Int) < 2147483647), ?_⟩⟩
          refine ⟨.ref a, rfl, a, _, 2, 2, rfl, rfl, hH1, rfl, ?_⟩
          rw [updupd]
          refine ⟨.int ns[i.toNat], rfl, _, _, rfl, rfl, ⟨by decide, by decide, by decide⟩, _, _, rfl, rfl, _, rfl, ?_⟩
          dsimp only
          split
          · refine ⟨.int ns[i.toNat], rfl, .int m, rfl, _, _, rfl, rfl, ⟨m0, m1⟩, .ref a, rfl, a, _, 3, 3, rfl, rfl, upd_same, rfl, ?_⟩
            rw [updupd]
            refine ⟨.int ns[i.toNat], rfl, .inl ⟨_, rfl, .int m, rfl, _, _, rfl, rfl, m0, ?_⟩⟩
            exact fin (I.updRow ha (row upd_same (by omega) (jm _).1 (jm _).2)) (md _).1 (md _).2
          · refine ⟨.int ns[i.toNat], rfl, .inl ⟨_, rfl, .int m, rfl, _, _, rfl, rfl, m0, ?_⟩⟩
            exact fin (I.updRow ha (row upd_same (by omega) (jm _).1 (jm _).2)) (md _).1 (md _).2
end
/-! ### by Bools -/
def visB (sc : Scope) (x : Str) : Bool := match sc.names.lookup x with
  | some .local => true
  | some .cell => true
  | some .free => true
  | _ => false
theorem vis_by {sc : Scope} {x : Str} (h : visB sc x = true) : Vis sc x := by
  unfold visB at h
  unfold Vis
  split at h
  · exact .inl (by assumption)
  · exact .inr (.inl (by assumption))
  · exact .inr (.inr (by assumption))
  · cases h
def locB (sc : Scope) (x : Str) : Bool := match sc.names.lookup x with
  | some .local => true
  | some .cell => true
  | _ => false
theorem loc_by {sc : Scope} {x : Str} (h : locB sc x = true) : Loc sc x := by
  unfold locB at h
  unfold Loc
  split at h
  · exact .inl (by assumption)
  · exact .inr (by assumption)
  · cases h
/-- the def that tells, as the lambdas' rule needs it -/
structure LamB (L : Lw) (G : Gm) (mg : Str → Option Value) (base : Heap) (cA : Addr) (q x : Str) : Prop where
  ex : ∃ (g PA : Addr) (fd : FuncData) (stg : Stmt) (hs : List (Nat × Str)) (h₀ : ExceptHandler) (hds : List ExceptHandler) (dvs : List V) (kws : List (Str × V)) (p1 p2 p3 p4 q1 q2 q3 q4 : Pos) (j1 j2 j3 : Nat),
    mg x = some (.ref g) ∧ FunD L.K x x (defArgs stg) (defBody stg) (defScope stg) dvs kws g fd ∧ defBody stg = [.Try [.Expr (.Call (.Name "ask" p1) [] [] p2) p3] (h₀ :: hds) [] [] p4, .Return (some (.Tuple [.Constant (.str ("" : Str)) j1 q1, .Constant .none j2 q2] j3 q3)) q4] ∧
    L2.Binds L.K fd [("ask" : Str)] [] ∧ FnScope [("ask" : Str), ("e" : Str)] [("ask" : Str)] (defScope stg) ∧ Vis (defScope stg) "ask" ∧ (defScope stg).names.lookup ("e" : Str) = some .local ∧ RefH L L.K mg (defScope stg) (h₀ :: hds) hs ∧
    (∀ c h, (∃ w, (c, w) ∈ hs) → (∃ w, (h, w) ∈ hs) → PySem.W.exmOne L.K (.ref (L.ct c)) (.ref (L.ct h)) = some (decide (c = h))) ∧ (∀ c w, G.word c = some w → hs.lookup c = some w) ∧ LamX.TabB base mg cA PA ∧ (PA, q) ∈ L.T ∧ ∀ p ∈ L.T, p.1 = PA → p.2 = q
theorem RefH.at_ {L : Lw} {K : PySem.W.Frag} {mg : Str → Option Value} {sg : Scope} {R : Option Addr} {hds : List ExceptHandler} {hs : List (Nat × Str)} (h : RefH L K mg sg hds hs) : RefH (L.at_ R) K mg sg hds hs := by
  induction h with
  | nil => exact .nil
  | cons hm hg hd xf nv _ ih => exact .cons hm hg hd xf nv ih
theorem LamB.at_ {L : Lw} {G : Gm} {mg : Str → Option Value} {base : Heap} {cA : Addr} {q x : Str} {R : Option Addr} (B : LamB L G mg base cA q x) : LamB (L.at_ R) G mg base cA q x := by
  obtain ⟨g, PA, fd, stg, hs, h₀, hds, dvs, kws, p1, p2, p3, p4, q1, q2, q3, q4, j1, j2, j3, hm, Fg, hbg, hb, Sg, hva, hke, Rf, ex, hw, TB, hmT, hu⟩ := B.ex
  exact ⟨g, PA, fd, stg, hs, h₀, hds, dvs, kws, p1, p2, p3, p4, q1, q2, q3, q4, j1, j2, j3, hm, Fg, hbg, hb, Sg, hva, hke, Rf.at_, ex, hw, TB, hmT, hu⟩
theorem je_lamB {L : Lw} {E0 : En} {G : Gm} {EX : Exn → Prop} {X : Cx} {k kb : Nat} {c : CE} {pos : Pos} {cA : Addr} {q x : Str} (B : LamB L G X.mg X.base cA q x) (F : Fit L E0 EX X k) (hkb : kb + 2 ≤ k) {nf : Nat} {scope : Scope} {params : Arguments} {body : Expr} {p lpos : Pos}
    (hg : Gl X x) (hcode : X.env.code = .ref cA) (hq : X.env.qual ++ "<lambda>" = q) (Ls : LamX.LamS X.env.scope scope) (hdef : defaultsOf params X.env = ([], []))
    (hbind : ∀ (q : Str) (cl : List (Str × Addr)) (pm cv ctv : Value), bindArgs (PySem.W.kla_fn "<lambda>" q params body scope cl pm cv ctv) ⟨[], []⟩ = pure [])
    (hbody : ∀ (E1 : En) (EX1 : Exn → Prop) (A : Around) (outer : List Env) (s : Shared) (H : Hp) (E : XK) (f c' : Addr), Fit L E1 EX1 (LamX.lamCx X A outer s H E scope f c') kb → PE (LamX.lamCx X A outer s H E scope f c') body (tD L E1 (evE G c EX1)))
    (hdb : (x == ("__debug__" : Str)) = false) : JE L E0 G EX X (.Call (.Name x p) [.Lambda params body scope lpos] [] pos) (.lam nf c) := by
  obtain ⟨g, PA, fd, stg, hs, h₀, hds, dvs, kws, p1, p2, p3, p4, q1, q2, q3, q4, j1, j2, j3, hm, Fg, hbg, hb, Sg, hva, hke, Rf, ex, hw, TB, hmT, hu⟩ := B.ex
  subst hq
  rw [← F.K] at Fg hb Rf ex
  exact je_lam F hkb hg hm Fg hbg hb Sg hva hke Rf ex hw TB hcode hmT hu Ls hdef hbind hbody hdb
theorem ClsOk.at_ {L : Lw} {P : Program} {w : World} {K : PySem.W.Frag} {mg : Str → Option Value} {base : Heap} {k : Nat} {y : Str} {c : Nat} {R : Option Addr} (C : ClsOk L P w K mg base k y c) : ClsOk (L.at_ R) P w K mg base k y c := ⟨C.gC, C.oex, C.noV, C.ini⟩
section
variable {L : Lw} {E0 : En} {G : Gm} {EX : Exn → Prop} {X : Cx} {k : Nat} {c c2 : CE} {e e2 tg : Expr} {pos : Pos} {f : Bool}
theorem jk_and1 {op : BoolOp} (ha : JE L E0 G EX X e c) (hn : ∀ i, c ≠ .var i) : JE L E0 G EX X (.BoolOp op [e] pos) c := je_and1 ha hn
theorem jk_e (F : Fit L E0 EX X k) (ha : JE L E0 G EX X e c) : PI X tg e (tI L E0 f (evI G (.e c) f EX)) := ji_e F ha f
theorem jk_enum (F : Fit L E0 EX X k) {elts : List Expr} {kk : Nat} {tpos p : Pos} (ha : JE L E0 G EX X e c) (hs : noStar e = true) (hg : Gl X "enumerate") (hm : X.mg "enumerate" = none) : PI X (.Tuple elts kk tpos) (.Call (.Name "enumerate" p) [e] [] pos) (tI L E0 f (evI G (.enum c 0) f EX)) := ji_enum F ha f hs hg hm
theorem jk_rng1 (F : Fit L E0 EX X k) {p : Pos} (ha : JE L E0 G EX X e c) (hs : noStar e = true) (hg : Gl X "range") (hm : X.mg "range" = none) : PI X tg (.Call (.Name "range" p) [e] [] pos) (tI L E0 f (evI G (.rng1 c) f EX)) := ji_rng1 F ha f hs hg hm
theorem jk_rng2 (F : Fit L E0 EX X k) {p : Pos} (ha : JE L E0 G EX X e c) (hb : JE L E0 G EX X e2 c2) (hs : noStar e = true) (hs2 : noStar e2 = true) (hg : Gl X "range") (hm : X.mg "range" = none) :
    PI X tg (.Call (.Name "range" p) [e, e2] [] pos) (tI L E0 f (evI G (.rng2 c c2) f EX)) := ji_rng2 F ha hb f hs hs2 hg hm
theorem jk_rngN (F : Fit L E0 EX X k) {p p1 p2 : Pos} {j : Nat} (ha : JE L E0 G EX X e c) (hb : JE L E0 G EX X e2 c2) (hs : noStar e = true) (hs2 : noStar e2 = true) (hg : Gl X "range") (hm : X.mg "range" = none) :
    PI X tg (.Call (.Name "range" p) [e, e2, .UnaryOp .USub (.Constant (.int 1) j p1) p2] [] pos) (tI L E0 f (evI G (.rngN c c2) f EX)) := ji_rngN F ha hb f hs hs2 hg hm
end
end PX
end L2
/-! The head: classes, codes, by Bools. -/
namespace L2
namespace PX
open PySem PySem.Spec PyProof.Rows
def clsBody : Stmt → List Stmt
  | .ClassDef _ _ _ b _ _ _ _ _ _ _ => b
  | _ => []
def oexB1 (C : Addr) : Option Obj → Bool
  | some ⟨.type t, _, .cls cd, sl⟩ => decide (t = "type") && (match cd.mro with
    | .ref C' :: bm => decide (C' = C) && PySem.HandSPX.refsVE bm
    | _ => false) && ((match sl.toList with
    | [_, _, _, _, some (.builtin n), _] => decide (n = "ValueError.__new__")
    | _ => false) && (!cd.hasDel && cd.hasDict))
  | _ => false
theorem oexB1_ok {C : Addr} {o : Option Obj} (h : oexB1 C o = true) : ∃ nm q N bs bm sn sub ab col dd k0 k1 k2 k3 k5, o = some (excClassObj nm q C N bs bm true sn sub ab col dd k0 k1 k2 k3 k5 "ValueError.__new__") ∧ PySem.HandSPX.refsVE bm = true := by
  unfold oexB1 at h
  split at h
  · rename_i t dd cd sl
    simp only [Bool.and_eq_true, decide_eq_true_eq, Bool.not_eq_true'] at h
    obtain ⟨⟨h1, h2⟩, h3, h4, h5⟩ := h
    subst h1
    split at h2
    · rename_i C' bm hm
      simp only [Bool.and_eq_true, decide_eq_true_eq] at h2
      obtain ⟨rfl, hr⟩ := h2
      split at h3
      · rename_i k0 k1 k2 k3 n k5 hs
        have h3 := of_decide_eq_true h3
        subst h3
        obtain ⟨nm, bs, mro, ns, qn, hd, sn, sub, ab, col, hdel⟩ := cd
        obtain ⟨sl⟩ := sl
        have hm : mro = .ref C' :: bm := hm
        have hs : sl = _ := hs
        subst hm hs
        have h4 : hdel = false := h4
        have h5 : hd = true := h5
        subst h4 h5
        exact ⟨_, _, _, _, _, _, _, _, _, _, _, _, _, _, _, rfl, hr⟩
      · cases h3
    · cases h2
  · cases h
/-- the class y, made by b's __init__ -/
def clsB (K : PySem.W.Frag) (b y : Str) : Bool := oexB1 (He.ga K y) (K.lookup (He.ga K y)) && (decide (PySem.W.findIn K (.ref (He.ga K y)) "__setattr__" = some (some (.builtin "object.__setattr__"))) && (decide (PySem.W.subIn K (.ref (He.ga K y)) (.type "BaseException") = some true) &&
  (decide (PySem.W.typeIn K (.ref (He.ga K y)) = some (.type "type")) && (PySem.W.keepIn K (.ref (He.ga K y)) && (xfB K (He.ga K y) && (decide (PySem.W.findIn K (.ref (He.ga K y)) "value" = some none) &&
  (decide (PySem.W.findIn K (.ref (He.ga K y)) "__init__" = some (some (.ref (He.fAd K (b, some "__init__"))))) && decide (PySem.W.typeIn K (.ref (He.fAd K (b, some "__init__"))) = some (.type "function")))))))))
structure ClsF (K : PySem.W.Frag) (b y : Str) : Prop where
  oex : OexC K (He.ga K y)
  xf : XfC K (He.ga K y)
  nv : PySem.W.findIn K (.ref (He.ga K y)) "value" = some none
  ic : PySem.W.findIn K (.ref (He.ga K y)) "__init__" = some (some (.ref (He.fAd K (b, some "__init__"))))
  ti : PySem.W.typeIn K (.ref (He.fAd K (b, some "__init__"))) = some (.type "function")
theorem clsB_ok {K : PySem.W.Frag} {b y : Str} (h : clsB K b y = true) : ClsF K b y := by
  unfold clsB at h
  simp only [Bool.and_eq_true, decide_eq_true_eq] at h
  obtain ⟨h1, h2, h3, h4, h5, h6, h7, h8, h9⟩ := h
  exact ⟨⟨oexB1_ok h1, h2, h3, h4, h5⟩, xfB_ok h6, h7, h8, h9⟩
theorem clsOk_of {L : Lw} {P : Program} {w : World} {mg : Str → Option Value} {base : Heap} {b y qual : Str} {c k : Nat} {st : Stmt} {fd : FuncData} {dvs : List V} {kws : List (Str × V)} {p1 p2 p3 p4 : Pos} (h : ClsF L.K b y) (hc : L.ct c = He.ga L.K y) (hm : mg y = some (.ref (He.ga L.K y)))
    (F : FunD L.K "__init__" qual (defArgs st) (defBody st) (defScope st) dvs kws (He.fAd L.K (b, some "__init__")) fd) (hb : defBody st = [.Assign [.Attribute (.Name "self" p1) "value" p2] (.Name "value" p3) p4]) (Sc : FnScope ["self", "value"] ["self", "value"] (defScope st)) (v1 : Vis (defScope st) "self") (v2 : Vis (defScope st) "value")
    (bi : Binds L.K fd ["self", "value"] []) (hk : 2 ≤ k) : ClsOk L P w L.K mg base k y c := by
  refine ⟨by rw [hc]; exact hm, by rw [hc]; exact h.oex, by rw [hc]; exact h.nv, 1, He.fAd L.K (b, some "__init__"), fd, ["self", "value"], hk, by rw [hc]; exact h.ic, h.ti, ?_, bi⟩
  obtain ⟨oc, od, dV, kV, doc, pm, an, cdv, ct, osl, rfl, lk, hcd, _, _⟩ := F.ex
  rw [hb] at lk ⊢
  exact init_ok lk hcd Sc v1 v2
/-- every parameter is given, whatever the defaults -/
theorem bindsAny {K : PySem.W.Frag} {x qual : Str} {params : Arguments} {body : List Stmt} {scope : Scope} {dvs : List V} {kws : List (Str × V)} {f : Addr} {fd : FuncData} {ps : List Str} (F : FunD K x qual params body scope dvs kws f fd)
    (h : ∀ (dV kV doc pm : Value) (an : Option Addr) (cdv ct : Value) (us : List Value), us.length = ps.length → bindArgs (PySem.W.fnOf x qual params body scope dV kV doc pm an cdv ct) ⟨us, []⟩ = pure (ps.zip us)) : Binds K fd ps [] := by
  obtain ⟨oc, od, dV, kV, doc, pm, an, cdv, ct, osl, rfl, lk, hcd, _, _⟩ := F.ex
  exact .all (h dV kV doc pm an cdv ct)
def exmAll (K : PySem.W.Frag) (nm : Nat → Str) (hs : List (Nat × Str)) : Bool := hs.all fun p => hs.all fun q => decide (PySem.W.exmOne K (.ref (He.ga K (nm p.1))) (.ref (He.ga K (nm q.1))) = some (decide (p.1 = q.1)))
theorem exmAll_ok {K : PySem.W.Frag} {nm : Nat → Str} {hs : List (Nat × Str)} (h : exmAll K nm hs = true) : ∀ c g, (∃ w, (c, w) ∈ hs) → (∃ w, (g, w) ∈ hs) → PySem.W.exmOne K (.ref (He.ga K (nm c))) (.ref (He.ga K (nm g))) = some (decide (c = g)) := by
  intro c g ⟨w1, h1⟩ ⟨w2, h2⟩
  exact of_decide_eq_true (List.all_eq_true.mp (List.all_eq_true.mp h _ h1) _ h2)
/-- a module's int or string, from the head's facts -/
theorem gInt {L : Lw} {K : PySem.W.Frag} {h : Heap} {mg : Str → Option Value} {x : Str} {i : Int} (X : K.In h) (G : h.Ns mainGlobals mg) (c : (He.Fa.int x i).ok K = true) : ∃ (v : V) (u : Value), mg x = some u ∧ RelV v u ∧ ∀ S, Rp L.K S v (.int i) := by
  obtain ⟨t, e⟩ := He.int_ok X G c
  exact ⟨.int i, _, e, ⟨t, rfl⟩, fun _ => .int i⟩
theorem gStr {L : Lw} {K : PySem.W.Frag} {h : Heap} {mg : Str → Option Value} {x z : Str} (X : K.In h) (G : h.Ns mainGlobals mg) (c : (He.Fa.str x z).ok K = true) : ∃ (v : V) (u : Value), mg x = some u ∧ RelV v u ∧ ∀ S, Rp L.K S v (.str z) := by
  obtain ⟨t, e⟩ := He.str_ok X G c
  exact ⟨.str z, _, e, ⟨t, rfl⟩, fun _ => .str z⟩
/-- a def that is never called -/
theorem fn_none {P : Program} {w : World} {K : PySem.W.Frag} {mg : Str → Option Value} {base : Heap} {CX : CXT} {k : Nat} {f : Addr} {fd : FuncData} {ps : List Str} {L : Lw} : FnOk P w K mg base CX k f fd ps (liftSp L fun _ _ _ => False) :=
  ⟨fun _ _ _ _ ⟨_, _, _, _, _, _, _, h, _⟩ => h.elim, fun _ _ _ _ _ _ _ _ _ _ _ _ _ ⟨_, _, _, _, _, _, _, h, _⟩ => h.elim⟩
theorem Callee.mono {L : Lw} {P : Program} {w : World} {K : PySem.W.Frag} {mg : Str → Option Value} {base : Heap} {j k n : Nat} {f : FSp} (c : Callee L P w K mg base j n f) (h : j ≤ k) : Callee L P w K mg base k n f := by
  obtain ⟨i, fd, ps, hi, F, kp, b⟩ := c.ex
  exact ⟨i, fd, ps, Nat.le_trans hi h, F, kp, b⟩
theorem upto_step {L : Lw} {P : Program} {w : World} {K : PySem.W.Frag} {mg : Str → Option Value} {base : Heap} {j k i : Nat} {fs : Nat → FSp} (h : ∀ n, n < i → Callee L P w K mg base j n (fs n)) (hj : j ≤ k) (c : Callee L P w K mg base k i (fs i)) : ∀ n, n < i + 1 → Callee L P w K mg base k n (fs n) := fun n hn => by
  rcases Nat.lt_succ_iff_lt_or_eq.mp hn with z | z
  · exact (h n z).mono hj
  · rw [z]; exact c
/-- a def that calls itself, to a depth -/
theorem rec_fn {L : Lw} {P : Program} {w : World} {K : PySem.W.Frag} {mg : Str → Option Value} {base : Heap} {k : Nat} {f : Addr} {fd : FuncData} {ps : List Str} {sp : Nat → FSp} (h0 : sp 0 = fun _ _ _ => False) (hs : ∀ d, FnOk P w K mg base (L2.CX P w) (k + d) f fd ps (liftSp L (sp d)) → FnOk P w K mg base (L2.CX P w) (k + d + 1) f fd ps (liftSp L (sp (d + 1)))) : ∀ d, FnOk P w K mg base (L2.CX P w) (k + d) f fd ps (liftSp L (sp d))
  | 0 => by rw [h0]; exact fn_none
  | d + 1 => hs d (rec_fn h0 hs d)
theorem Callee.at_ {L : Lw} {P : Program} {w : World} {K : PySem.W.Frag} {mg : Str → Option Value} {base : Heap} {j n : Nat} {f : FSp} {R : Option Addr} (c : Callee L P w K mg base j n f) : Callee (L.at_ R) P w K mg base j n f := ⟨c.ex⟩
end PX
end L2
/-! Typed data; loops by an invariant; tests as Props. -/
namespace L2
namespace PX
open PySem PySem.Spec PyProof.Rows PySem.W
section
variable {α β γ : Type} [DecidableEq α] [DecidableEq β] [DecidableEq γ] [Datum α] [Datum β] [Datum γ]
abbrev toD (a : α) : PyData := Datum.toD a
/-- a list, a tuple of typed data -/
abbrev Ls (xs : List α) : PyData := .list (xs.map fun a => Datum.toD a)
abbrev Ts (xs : List α) : PyData := .tuple (xs.map fun a => Datum.toD a)
theorem okT (a : α) (h : Datum.depth α ≤ 20 := by decide) : okD (Datum.toD a) := ⟨Datum.plain a, Nat.le_trans (Datum.depth_le a) h⟩
theorem okI (i : Int) : okD (.int i) := okT i
theorem okB (i : Bool) : okD (.bool i) := okT i
theorem okS (i : Str) : okD (.str i) := okT i
theorem okNone : okD .none := ⟨rfl, by decide⟩
theorem okLs (xs : List α) (h : Datum.depth α ≤ 19 := by decide) : okD (Ls xs) := okT (α := List α) xs (by show Datum.depth α + 1 ≤ 20; omega)
theorem okTs (xs : List α) (h : Datum.depth α ≤ 19 := by decide) : okD (Ts xs) := okT (α := Tup α) ⟨xs⟩ (by show Datum.depth α + 1 ≤ 20; omega)
theorem okLnil : okD (.list []) := ⟨rfl, by decide⟩
theorem okTnil : okD (.tuple []) := ⟨rfl, by decide⟩
theorem eqT (a b : α) : PyData.eqv (Datum.toD a) (Datum.toD b) = decide (a = b) := Datum.eqv a b
theorem eqI (i j : Int) : PyData.eqv (.int i) (.int j) = decide (i = j) := Datum.eqv i j
theorem eqB (i j : Bool) : PyData.eqv (.bool i) (.bool j) = decide (i = j) := Datum.eqv i j
theorem eqS (i j : Str) : PyData.eqv (.str i) (.str j) = decide (i = j) := Datum.eqv i j
theorem eqL (xs ys : List α) : PyData.eqv (Ls xs) (Ls ys) = decide (xs = ys) := Datum.eqv (α := List α) xs ys
theorem eqTs (xs ys : List α) : PyData.eqv (Ts xs) (Ts ys) = decide (xs = ys) := by
  refine (Datum.eqv (α := Tup α) ⟨xs⟩ ⟨ys⟩).trans (decide_eq_decide.mpr ⟨fun h => by cases h; rfl, fun h => by rw [h]⟩)
theorem inT (a : α) : ∀ xs : List α, inD (Datum.toD a) (xs.map fun a => Datum.toD a) = decide (a ∈ xs)
  | [] => rfl
  | x :: xs => by
    have ih := inT a xs
    unfold inD at ih ⊢
    rw [List.map_cons, List.any_cons, ih, Datum.eqv, ← Bool.decide_or]
    exact decide_eq_decide.mpr (by rw [List.mem_cons]; exact ⟨fun h => h.imp (fun e => e.symm) id, fun h => h.imp (fun e => e.symm) id⟩)
end
/-! ### tests -/
theorem ifB_of {k : Bool} {P : Prop} {i : Decidable P} {a b : Prop} (e : k = @decide P i) (h1 : P → a) (h2 : ¬P → b) : ifB k a b := by
  subst e
  exact ifB_intro (fun h => h1 (of_decide_eq_true h)) (fun h => h2 (of_decide_eq_false h))
theorem ifB_not {k : Bool} {a b : Prop} (h : ifB k b a) : ifB (!k) a b := by cases k <;> exact h
theorem ifB_t {a b : Prop} (h : a) : ifB true a b := h
theorem ifB_f {a b : Prop} (h : b) : ifB false a b := h
theorem ifB_eq {k k' : Bool} {a b : Prop} (e : k = k') (h : ifB k' a b) : ifB k a b := by rw [e]; exact h
theorem ifB_and {k l : Bool} {a b : Prop} (h : ifB k (ifB l a b) b) : ifB (k && l) a b := by cases k <;> exact h
theorem ifB_or {k l : Bool} {a b : Prop} (h : ifB k a (ifB l a b)) : ifB (k || l) a b := by cases k <;> exact h
/-! ### loops -/
theorem forL_inv {α : Type} {e : α → PyData} {f : PyData → Ed → Sl → Prop} {D : Ed} (I : List α → Sl → Prop) {full : List α}
    (h : ∀ pre x post K st, full = pre ++ x :: post → (∀ st', I (pre ++ [x]) st' → K st') → I pre st → f (e x) { D with nx := K, ct := K, bk := D.nx } st)
    (hn : ∀ st', I full st' → D.nx st') : ∀ (xs pre : List α) (st : Sl), full = pre ++ xs → I pre st → forL f (xs.map e) D st
  | [], pre, st, hf, hi => hn st (by rw [hf, List.append_nil]; exact hi)
  | x :: xs, pre, st, hf, hi => h pre x xs _ st hf (fun st' hi' => forL_inv I h hn xs (pre ++ [x]) st' (by rw [hf]; simp) hi') hi
/-- for x in xs -/
theorem for_L {α : Type} {e : α → PyData} {f : PyData → Ed → Sl → Prop} {D : Ed} {xs : List α} {st : Sl} (I : List α → Sl → Prop) (h0 : I [] st)
    (h : ∀ pre x post K st, xs = pre ++ x :: post → (∀ st', I (pre ++ [x]) st' → K st') → I pre st → f (e x) { D with nx := K, ct := K, bk := D.nx } st)
    (hn : ∀ st', I xs st' → D.nx st') : forL f (xs.map e) D st := forL_inv I h hn xs [] st rfl h0
theorem rangeD_eq (lo : Int) (n : Nat) : rangeD lo n = (List.range n).map fun (k : Nat) => PyData.int (lo + (k : Int)) := rfl
theorem pre_range {n : Nat} {pre post : List Nat} {x : Nat} (h : List.range n = pre ++ x :: post) : x = pre.length ∧ x < n ∧ pre = List.range x := by
  have hl : pre.length < n := by
    have := congrArg List.length h
    simp at this; omega
  have hx : (List.range n)[pre.length]? = some x := by rw [h]; simp
  rw [List.getElem?_eq_getElem (by simpa using hl)] at hx
  have e : x = pre.length := by simpa using hx.symm
  refine ⟨e, by omega, ?_⟩
  have h2 : pre = (List.range n).take pre.length := by rw [h]; simp
  rw [h2, List.take_range, e, Nat.min_eq_left (by omega)]
/-- for k in range(lo, lo + n) -/
theorem for_rng {f : PyData → Ed → Sl → Prop} {D : Ed} {lo : Int} {n : Nat} {st : Sl} (I : Nat → Sl → Prop) (h0 : I 0 st)
    (h : ∀ (k : Nat) K st, k < n → (∀ st', I (k + 1) st' → K st') → I k st → f (.int (lo + k)) { D with nx := K, ct := K, bk := D.nx } st)
    (hn : ∀ st', I n st' → D.nx st') : forL f (rangeD lo n) D st := by
  refine for_L (xs := List.range n) (fun pre st => I pre.length st) h0 (fun pre x post K st hf hk hi => ?_) (fun st' hi => hn st' (by simpa using hi))
  obtain ⟨e, hx, -⟩ := pre_range hf
  subst e
  exact h _ K st hx (fun st' hi' => hk st' (by simpa using hi')) hi
/-- for k in range(n) -/
theorem for_upto {f : PyData → Ed → Sl → Prop} {D : Ed} {n : Nat} {st : Sl} (I : Nat → Sl → Prop) (h0 : I 0 st)
    (h : ∀ (k : Nat) K st, k < n → (∀ st', I (k + 1) st' → K st') → I k st → f (.int (k : Int)) { D with nx := K, ct := K, bk := D.nx } st)
    (hn : ∀ st', I n st' → D.nx st') : forL f (rangeD 0 n) D st :=
  for_rng I h0 (fun k K st hk h1 h2 => by rw [Int.zero_add]; exact h k K st hk h1 h2) hn
theorem enumD_map {α : Type} (e : α → PyData) : ∀ (xs : List α) (n : Nat), enumD n (xs.map e) = (xs.zipIdx n).map fun p => PyData.tuple [.int (p.2 : Int), e p.1]
  | [], _ => rfl
  | x :: xs, n => by
    rw [List.map_cons, List.zipIdx_cons, List.map_cons, ← enumD_map e xs (n + 1)]
    rfl
theorem for_enum_from {α : Type} {e : α → PyData} {f : PyData → Ed → Sl → Prop} {D : Ed} (I : List α → Sl → Prop) {full : List α}
    (h : ∀ pre x post K st, full = pre ++ x :: post → (∀ st', I (pre ++ [x]) st' → K st') → I pre st → f (.tuple [.int (pre.length : Int), e x]) { D with nx := K, ct := K, bk := D.nx } st)
    (hn : ∀ st', I full st' → D.nx st') : ∀ (xs pre : List α) (st : Sl) (n : Int), n = pre.length → full = pre ++ xs → I pre st → forL f (enumD n (xs.map e)) D st
  | [], pre, st, n, _, hf, hi => hn st (by rw [hf, List.append_nil]; exact hi)
  | x :: xs, pre, st, n, e0, hf, hi => by
    subst e0
    exact h pre x xs _ st hf (fun st' hi' => for_enum_from I h hn xs (pre ++ [x]) st' _ (by simp) (by rw [hf]; simp) hi') hi
/-- for k, x in enumerate(xs) -/
theorem for_enum {α : Type} {e : α → PyData} {f : PyData → Ed → Sl → Prop} {D : Ed} {xs : List α} {st : Sl} (I : List α → Sl → Prop) (h0 : I [] st)
    (h : ∀ pre x post K st, xs = pre ++ x :: post → (∀ st', I (pre ++ [x]) st' → K st') → I pre st → f (.tuple [.int (pre.length : Int), e x]) { D with nx := K, ct := K, bk := D.nx } st)
    (hn : ∀ st', I xs st' → D.nx st') : forL f (enumD 0 (xs.map e)) D st := for_enum_from I h hn xs [] st 0 rfl rfl h0
/-- a comprehension with a test -/
theorem comp_if {α : Type} {e : α → PyData} {f : PyData → List PyData → (List PyData → Prop) → Prop} (c : α → Bool) (g : α → PyData) : ∀ (xs : List α) (acc : List PyData) (k : List PyData → Prop),
    (∀ x ∈ xs, ∀ acc k', (c x = true → k' (acc ++ [g x])) → (c x = false → k' acc) → f (e x) acc k') → k (acc ++ (xs.filter c).map g) → loopC f (xs.map e) acc k
  | [], acc, k, _, h => by simpa [loopC] using h
  | x :: xs, acc, k, hf, h => by
    refine hf x List.mem_cons_self acc _ (fun hc => ?_) (fun hc => ?_)
    · refine comp_if c g xs _ k (fun y hy => hf y (List.mem_cons_of_mem _ hy)) ?_
      rw [List.filter_cons, if_pos hc, List.map_cons] at h
      simpa using h
    · refine comp_if c g xs _ k (fun y hy => hf y (List.mem_cons_of_mem _ hy)) ?_
      rw [List.filter_cons, if_neg (by rw [hc]; exact fun z => by cases z)] at h
      exact h
/-- a comprehension without -/
theorem comp_all {α : Type} {e : α → PyData} {f : PyData → List PyData → (List PyData → Prop) → Prop} (g : α → PyData) : ∀ (xs : List α) (acc : List PyData) (k : List PyData → Prop),
    (∀ x ∈ xs, ∀ acc k', k' (acc ++ [g x]) → f (e x) acc k') → k (acc ++ xs.map g) → loopC f (xs.map e) acc k
  | [], acc, k, _, h => by simpa [loopC] using h
  | x :: xs, acc, k, hf, h => hf x List.mem_cons_self acc _ (comp_all g xs _ k (fun y hy => hf y (List.mem_cons_of_mem _ hy)) (by rw [List.map_cons] at h; simpa using h))
inductive All2 {α β : Type} (P : α → β → Prop) : List α → List β → Prop
  | nil : All2 P [] []
  | cons {x : α} {y : β} {xs : List α} {ys : List β} : P x y → All2 P xs ys → All2 P (x :: xs) (y :: ys)
theorem All2.length {α β : Type} {P : α → β → Prop} : ∀ {xs : List α} {ys : List β}, All2 P xs ys → ys.length = xs.length
  | _, _, .nil => rfl
  | _, _, .cons _ r => congrArg (· + 1) r.length
theorem All2.mem {α β : Type} {P : α → β → Prop} {y : β} : ∀ {xs : List α} {ys : List β}, All2 P xs ys → y ∈ ys → ∃ x ∈ xs, P x y
  | _, _, .nil, h => by cases h
  | _, _, .cons a r, h => by
    rcases List.mem_cons.mp h with rfl | h
    · exact ⟨_, List.mem_cons_self, a⟩
    · obtain ⟨x, h1, h2⟩ := r.mem h
      exact ⟨x, List.mem_cons_of_mem _ h1, h2⟩
/-- a comprehension whose elements are only known to be some -/
theorem comp_some {α β : Type} {e : α → PyData} {f : PyData → List PyData → (List PyData → Prop) → Prop} (r : β → PyData) (P : α → β → Prop) : ∀ (xs : List α) (acc : List β) (k : List PyData → Prop),
    (∀ x ∈ xs, ∀ acc (k' : List PyData → Prop), (∀ y, P x y → k' (acc ++ [r y])) → f (e x) acc k') → (∀ ys, All2 P xs ys → k ((acc ++ ys).map r)) → loopC f (xs.map e) (acc.map r) k
  | [], acc, k, _, h => by have := h [] .nil; simpa [loopC] using this
  | x :: xs, acc, k, hf, h => by
    refine hf x List.mem_cons_self _ _ fun y hy => ?_
    have := comp_some r P xs (acc ++ [y]) k (fun y hy => hf y (List.mem_cons_of_mem _ hy)) (fun ys hys => by have := h (y :: ys) (.cons hy hys); simpa using this)
    simpa using this
end PX
end L2
namespace L2
namespace PX
open PySem PySem.Spec PyProof.Rows PySem.W
/-! normal forms of tests -/
theorem n_eqI (i j : Int) : cmpV .eq (.int i) (.int j) = decide (i = j) := eqI i j
theorem n_neI (i j : Int) : cmpV .ne (.int i) (.int j) = !decide (i = j) := congrArg (!·) (eqI i j)
theorem n_eqB (i j : Bool) : cmpV .eq (.bool i) (.bool j) = decide (i = j) := eqB i j
theorem n_neB (i j : Bool) : cmpV .ne (.bool i) (.bool j) = !decide (i = j) := congrArg (!·) (eqB i j)
theorem n_eqS (i j : Str) : cmpV .eq (.str i) (.str j) = decide (i = j) := eqS i j
theorem n_neS (i j : Str) : cmpV .ne (.str i) (.str j) = !decide (i = j) := congrArg (!·) (eqS i j)
theorem n_ltI (i j : Int) : cmpV .lt (.int i) (.int j) = decide (i < j) := rfl
theorem n_leI (i j : Int) : cmpV .le (.int i) (.int j) = decide (i ≤ j) := rfl
theorem n_gtI (i j : Int) : cmpV .gt (.int i) (.int j) = decide (j < i) := rfl
theorem n_geI (i j : Int) : cmpV .ge (.int i) (.int j) = decide (j ≤ i) := rfl
section
variable {α : Type} [DecidableEq α] [Datum α]
theorem n_eqL (i j : List α) : cmpV .eq (Ls i) (Ls j) = decide (i = j) := eqL i j
theorem n_neL (i j : List α) : cmpV .ne (Ls i) (Ls j) = !decide (i = j) := congrArg (!·) (eqL i j)
theorem n_eqTs (i j : List α) : cmpV .eq (Ts i) (Ts j) = decide (i = j) := eqTs i j
theorem n_neTs (i j : List α) : cmpV .ne (Ts i) (Ts j) = !decide (i = j) := congrArg (!·) (eqTs i j)
theorem n_eqD (i j : α) : cmpV .eq (Datum.toD i) (Datum.toD j) = decide (i = j) := eqT i j
theorem n_neD (i j : α) : cmpV .ne (Datum.toD i) (Datum.toD j) = !decide (i = j) := congrArg (!·) (eqT i j)
theorem n_eqLn (i : List α) : cmpV .eq (Ls i) (.list []) = decide (i = []) := eqL i []
theorem n_neLn (i : List α) : cmpV .ne (Ls i) (.list []) = !decide (i = []) := congrArg (!·) (eqL i [])
theorem e_eqTn (i : List α) : PyData.eqv (Ts i) (.tuple []) = decide (i = []) := eqTs i []
theorem e_eqLn (i : List α) : PyData.eqv (Ls i) (.list []) = decide (i = []) := eqL i []
theorem n_eqTn (i : List α) : cmpV .eq (Ts i) (.tuple []) = decide (i = []) := eqTs i []
theorem n_neTn (i : List α) : cmpV .ne (Ts i) (.tuple []) = !decide (i = []) := congrArg (!·) (eqTs i [])
theorem n_inL (a : α) (xs : List α) : cmpV .isin (Datum.toD a) (Ls xs) = decide (a ∈ xs) := by
  refine Eq.trans ?_ (inT a xs)
  generalize Datum.toD a = d
  cases d <;> rfl
theorem n_inT (a : α) (xs : List α) : cmpV .isin (Datum.toD a) (Ts xs) = decide (a ∈ xs) := by
  refine Eq.trans ?_ (inT a xs)
  generalize Datum.toD a = d
  cases d <;> rfl
theorem n_ninL (a : α) (xs : List α) : cmpV .notin (Datum.toD a) (Ls xs) = !decide (a ∈ xs) := by
  refine Eq.trans ?_ (congrArg (!·) (inT a xs))
  generalize Datum.toD a = d
  cases d <;> rfl
theorem n_ninT (a : α) (xs : List α) : cmpV .notin (Datum.toD a) (Ts xs) = !decide (a ∈ xs) := by
  refine Eq.trans ?_ (congrArg (!·) (inT a xs))
  generalize Datum.toD a = d
  cases d <;> rfl
end
theorem n_truI (i : Int) : truV (.int i) = !decide (i = 0) := by
  show (i != 0) = _
  by_cases h : i = 0
  · subst h; rfl
  · simp [h]
theorem ifB_yes {k : Bool} {P : Prop} {i : Decidable P} {a b : Prop} (e : k = @decide P i) (p : P) (h : a) : ifB k a b := ifB_of e (fun _ => h) (fun z => absurd p z)
theorem ifB_no {k : Bool} {P : Prop} {i : Decidable P} {a b : Prop} (e : k = @decide P i) (p : ¬P) (h : b) : ifB k a b := ifB_of e (fun z => absurd z p) (fun _ => h)
theorem ifB_self {x : PyData} {a b : Prop} (h : okD x) (p : a) : ifB (PyData.eqv x x) a b := by rw [PySem.SeqAt.eqv_refl_plain x h.1]; exact p
theorem ifB_id {k : Bool} {a b : Prop} (h : ifB k a b) : ifB k a b := h
theorem ifB_dc {P : Prop} {i : Decidable P} {a b : Prop} (h1 : P → a) (h2 : ¬P → b) : ifB (@decide P i) a b := ifB_of rfl h1 h2
theorem cutD_map {α β : Type} (e : α → β) (xs : List α) (lo hi : Option Int) : cutD (xs.map e) lo hi = (cutD xs lo hi).map e := by
  unfold cutD
  rw [List.length_map, List.map_take, List.map_drop]
theorem cut_len {α : Type} (xs : List α) (lo hi : Option Int) : (cutD xs lo hi).length ≤ xs.length := by
  unfold cutD
  rw [List.length_take, List.length_drop]
  omega
section
variable {α : Type} {x y z u : α} {r : List α}
theorem x_at0 : atI (x :: r) 0 = some x := by unfold atI ixN; rw [if_pos (Int.le_refl _), if_pos (by rw [List.length_cons]; omega)]; rfl
theorem x_at1 : atI (x :: y :: r) 1 = some y := by unfold atI ixN; rw [if_pos (by decide), if_pos (by rw [List.length_cons, List.length_cons]; omega)]; rfl
theorem x_at2 : atI (x :: y :: z :: r) 2 = some z := by unfold atI ixN; rw [if_pos (by decide), if_pos (by rw [List.length_cons, List.length_cons, List.length_cons]; omega)]; rfl
theorem x_at3 : atI (x :: y :: z :: u :: r) 3 = some u := by unfold atI ixN; rw [if_pos (by decide), if_pos (by rw [List.length_cons, List.length_cons, List.length_cons, List.length_cons]; omega)]; rfl
end
theorem at_get {α β : Type} {e : α → β} {xs : List α} {i : Int} {n : Nat} {x : α} (h : xs[n]? = some x) (hi : i = n) : atI (xs.map e) i = some (e x) := by
  have hn : n < xs.length := by
    rcases Nat.lt_or_ge n xs.length with h2 | h2
    · exact h2
    · rw [List.getElem?_eq_none h2] at h; cases h
  subst hi
  unfold atI ixN
  rw [if_pos (Int.natCast_nonneg _), if_pos (by rw [List.length_map]; omega)]
  show (xs.map e)[((n : Int)).toNat]? = _
  rw [Int.toNat_natCast, List.getElem?_map, h]
  rfl
theorem at_last {α : Type} {xs : List α} {x : α} : atI (xs ++ [x]) (-1) = some x := by
  unfold atI ixN
  rw [if_neg (by decide), if_pos (by rw [List.length_append, List.length_singleton]; omega)]
  show (xs ++ [x])[((-1 : Int) + ((xs ++ [x]).length : Int)).toNat]? = some x
  rw [show ((-1 : Int) + ((xs ++ [x]).length : Int)).toNat = xs.length by rw [List.length_append, List.length_singleton]; omega]
  simp
theorem sb_tup {ds : List PyData} {i : Int} {v : PyData} {Q : PyData → Prop} (h : atI ds i = some v) (q : Q v) : subD (.tuple ds) (.int i) Q := by
  show ex (atI ds i) Q
  rw [h]; exact q
theorem sb_lst {ds : List PyData} {i : Int} {v : PyData} {Q : PyData → Prop} (h : atI ds i = some v) (q : Q v) : subD (.list ds) (.int i) Q := by
  show ex (atI ds i) Q
  rw [h]; exact q
/-- data of few levels -/
def okN (n : Nat) (d : PyData) : Prop := d.plain = true ∧ d.depth ≤ n
def okNs (n : Nat) (ds : List PyData) : Prop := PyData.plainAll ds = true ∧ PyData.depthAll ds ≤ n
theorem okN_of {d : PyData} (h : okN 20 d) : okD d := h
theorem okN_non {n : Nat} : okN n .none := ⟨rfl, Nat.zero_le _⟩
theorem okN_int {n : Nat} {i : Int} : okN n (.int i) := ⟨rfl, Nat.zero_le _⟩
theorem okN_bool {n : Nat} {i : Bool} : okN n (.bool i) := ⟨rfl, Nat.zero_le _⟩
theorem okN_str {n : Nat} {i : Str} : okN n (.str i) := ⟨rfl, Nat.zero_le _⟩
theorem okN_tup {n : Nat} {ds : List PyData} (h : okNs n ds) : okN (n + 1) (.tuple ds) := ⟨by rw [PyData.plain]; exact h.1, by rw [PyData.depth]; exact Nat.succ_le_succ h.2⟩
theorem okN_lst {n : Nat} {ds : List PyData} (h : okNs n ds) : okN (n + 1) (.list ds) := ⟨by rw [PyData.plain]; exact h.1, by rw [PyData.depth]; exact Nat.succ_le_succ h.2⟩
theorem okNs_nil {n : Nat} : okNs n [] := ⟨rfl, Nat.zero_le _⟩
theorem okNs_cons {n : Nat} {d : PyData} {ds : List PyData} (h : okN n d) (h2 : okNs n ds) : okNs n (d :: ds) := ⟨by rw [PyData.plainAll, h.1, h2.1]; rfl, by rw [PyData.depthAll]; exact Nat.max_le.mpr ⟨h.2, h2.2⟩⟩
theorem okNs_app {n : Nat} {ds es : List PyData} (h : okNs n ds) (h2 : okNs n es) : okNs n (ds ++ es) := by
  induction ds with
  | nil => exact h2
  | cons d ds ih =>
    obtain ⟨h1, h3⟩ := h
    rw [PyData.plainAll, Bool.and_eq_true] at h1
    rw [PyData.depthAll] at h3
    exact okNs_cons ⟨h1.1, by omega⟩ (ih ⟨h1.2, by omega⟩)
section
variable {α : Type} [DecidableEq α] [Datum α]
theorem okN_T {n : Nat} (a : α) (h : Datum.depth α ≤ n) : okN n (Datum.toD a) := ⟨Datum.plain a, Nat.le_trans (Datum.depth_le a) h⟩
theorem okNs_map {n : Nat} (xs : List α) (h : Datum.depth α ≤ n) : okNs n (xs.map fun a => Datum.toD a) := ⟨PySem.W.plainAll_map xs, Nat.le_trans (PySem.W.depthAll_map xs) h⟩
end
section
variable {α β : Type} [DecidableEq β] [Datum β] {e : α → PyData} {f : PyData → List PyData → (List PyData → Prop) → Prop}
theorem map_toD {γ : Type} (h : γ → β) (xs : List γ) : xs.map (fun x => Datum.toD (h x)) = (xs.map h).map fun a => Datum.toD a := by rw [List.map_map]; rfl
theorem comp_ifT (c : α → Bool) (h : α → β) {xs : List α} {k : List PyData → Prop} (hf : ∀ x ∈ xs, ∀ acc k', (c x = true → k' (acc ++ [Datum.toD (h x)])) → (c x = false → k' acc) → f (e x) acc k') (hk : k (((xs.filter c).map h).map fun a => Datum.toD a)) : loopC f (xs.map e) [] k :=
  comp_if c (fun x => Datum.toD (h x)) xs [] k hf (by rw [List.nil_append, map_toD]; exact hk)
theorem comp_allT (h : α → β) {xs : List α} {k : List PyData → Prop} (hf : ∀ x ∈ xs, ∀ acc k', k' (acc ++ [Datum.toD (h x)]) → f (e x) acc k') (hk : k ((xs.map h).map fun a => Datum.toD a)) : loopC f (xs.map e) [] k :=
  comp_all (fun x => Datum.toD (h x)) xs [] k hf (by rw [List.nil_append, map_toD]; exact hk)
theorem comp_ifN (c : Nat → Bool) (h : Nat → β) {n : Nat} {k : List PyData → Prop} (hf : ∀ x : Nat, x < n → ∀ acc k', (c x = true → k' (acc ++ [Datum.toD (h x)])) → (c x = false → k' acc) → f (.int (x : Int)) acc k') (hk : k ((((List.range n).filter c).map h).map fun a => Datum.toD a)) : loopC f (rangeD 0 n) [] k :=
  comp_ifT (e := fun k : Nat => PyData.int (0 + (k : Int))) c h (fun x hx acc k' h1 h2 => by rw [Int.zero_add]; exact hf x (List.mem_range.mp hx) acc k' h1 h2) hk
theorem comp_allN (h : Nat → β) {n : Nat} {k : List PyData → Prop} (hf : ∀ x : Nat, x < n → ∀ acc k', k' (acc ++ [Datum.toD (h x)]) → f (.int (x : Int)) acc k') (hk : k (((List.range n).map h).map fun a => Datum.toD a)) : loopC f (rangeD 0 n) [] k :=
  comp_allT (e := fun k : Nat => PyData.int (0 + (k : Int))) h (fun x hx acc k' h1 => by rw [Int.zero_add]; exact hf x (List.mem_range.mp hx) acc k' h1) hk
end
/-! ### statement by statement -/
/-- a stop -/
def Bar (p : Prop) : Prop := p
section
variable {G : Gm} {EX : Exn → Prop} {D : Ed} {st : Sl} {s : CS} {r b : CSs} {t : CQ}
theorem unbar {p : Prop} (h : p) : Bar p := h
theorem bar (h : evS G EX s ⟨fun st' => Bar (evSs G EX r D st'), D.rt, D.bk, D.ct⟩ st) : Bar (evSs G EX (.cons s r) D st) := h
theorem bar0 (h : D.nx st) : Bar (evSs G EX .nil D st) := h
theorem barF {i : Nat} (h : frzP (gs st i) (Bar (evSs G EX r D st)) fun x => Bar (evSs G EX r D (ss st i (some (.d (.list x)))))) : Bar (evSs G EX (.cons (.frz i) r) D st) := h
theorem barS (h : Bar (evSs G EX r D st)) : evSs G EX r D st := h
theorem barT {c : CT} {v : Vl} (h : evTg G c v EX st fun st2 => Bar (evSs G EX r D st2)) : evTg G c v EX st fun st2 => evSs G EX r D st2 := h
/-- a test that only leaves -/
theorem pguard (h : ∀ N : Sl → Prop, N st → evQ G t EX st fun k st1 => ifB k (Bar (evSs G EX b ⟨N, D.rt, D.bk, D.ct⟩ st1)) (N st1)) (h2 : Bar (evSs G EX r D st)) : Bar (evSs G EX (.cons (.ife t b .nil) r) D st) := h _ h2
/-- a statement with several ways -/
theorem pjoin (J : Sl → Prop) (h : ∀ N : Sl → Prop, (∀ st', J st' → N st') → evS G EX s ⟨N, D.rt, D.bk, D.ct⟩ st) (h2 : ∀ st', J st' → Bar (evSs G EX r D st')) : Bar (evSs G EX (.cons s r) D st) := h _ h2
end
theorem callF_intro {G : Gm} {f : Nat} {vs : List Vl} {Q : Vl → Prop} {E : Exn → Prop} (h : G.fs f vs Q E) : callF G f vs Q E := h
end PX
end L2
/-! Order, built-ins on typed data; the defs that all laws share. -/
namespace L2
namespace PX
open PySem PySem.Spec PyProof.Rows PySem.W
local macro_rules | `(tactic| walk_at "w") => `(tactic| with_reducible conv => whnf)
local macro_rules | `(tactic| walk_at "ok") => `(tactic| ((try walk_at "w"); repeat' (first | (with_reducible refine And.intro ?_ ?_) | (with_reducible assumption) | exact L2.PX.okI _ | exact L2.PX.okB _ | exact L2.PX.okNone | exact L2.PX.okS _ | (with_reducible refine L2.PX.okN_of ?_) | exact okN_int | exact okN_non | exact okN_bool | exact okN_str | refine okN_tup ?_ | refine okN_lst ?_ | exact okNs_nil | refine okNs_cons ?_ ?_ | exact okNs_map _ (by decide) | exact okN_T _ (by decide) | (refine okNs_app ?_ ?_) | (with_reducible assumption))))
local macro_rules | `(tactic| walk_at "sd") => `(tactic| first | with_reducible exact trivial | with_reducible rfl | (with_reducible assumption) | ((with_reducible refine ⟨?_, ?_, ?_, ?_, ?_⟩) <;> first | (with_reducible exact trivial) | (with_reducible rfl) | (with_reducible assumption) | ((with_reducible refine (show (_ || _) = true from ?_)); rfl) | (walk_at "ok"; done)) | (walk_at "ok"; done) | omega | decide | exact Nat.le_of_ble_eq_true rfl | ((try walk_at "w"); (try simp only [smallR, smallI, sizeLine, List.length_map, List.length_append, List.length_cons, List.length_nil, List.length_replicate, List.length_range]); omega) | exact .inl rfl | exact .inr rfl | exact .inl ⟨by omega, by omega⟩ | exact .inr ⟨by omega, by omega⟩ | rfl)
local macro_rules | `(tactic| walk_at "a") => `(tactic| ((with_reducible refine And.intro ?_ ?_); focus (walk_at "sd")))
local macro_rules | `(tactic| walk_at "c") => `(tactic| ((with_reducible refine callF_intro ?_); first | refine ⟨rfl, ?_⟩ | refine ⟨_, rfl, ?_⟩ | refine ⟨_, _, rfl, ?_⟩ | refine ⟨_, _, _, rfl, ?_⟩ | refine ⟨_, _, _, _, rfl, ?_⟩ | refine ⟨_, _, _, _, _, rfl, ?_⟩ | refine ⟨_, _, _, _, _, _, rfl, ?_⟩ | refine ⟨_, rfl, .inl rfl, ?_⟩ | refine ⟨_, rfl, .inr rfl, ?_⟩ | refine ⟨_, _, rfl, .inl rfl, ?_⟩ | refine ⟨_, _, rfl, .inr rfl, ?_⟩ | refine ⟨_, _, _, rfl, .inl rfl, ?_⟩ | refine ⟨_, _, _, rfl, .inr rfl, ?_⟩ | refine ⟨_, _, _, _, rfl, .inl rfl, ?_⟩ | refine ⟨_, _, _, _, rfl, .inr rfl, ?_⟩ | refine ⟨_, _, _, _, _, rfl, .inl rfl, ?_⟩ | refine ⟨_, _, _, _, _, rfl, .inr rfl, ?_⟩))
local macro_rules | `(tactic| walk_at "nf") => `(tactic| ((((try simp only [L2.PX.eqI, L2.PX.eqB, L2.PX.eqS, L2.PX.eqT, L2.PX.eqL, L2.PX.eqTs, q_truV_1, q_truV_2, n_truI, n_eqI, n_neI, n_eqB, n_neB, n_eqS, n_neS, n_ltI, n_leI, n_gtI, n_geI, n_eqL, n_neL, n_eqTs, n_neTs, n_eqLn, n_neLn, n_eqTn, n_neTn, e_eqTn, e_eqLn, n_inL, n_inT, n_ninL, n_ninT, Bool.not_not, Bool.not_true, Bool.not_false]); rfl))))
local macro_rules | `(tactic| walk_at "i") => `(tactic| ((with_reducible refine ifB_id ?_); first | (with_reducible refine ifB_t ?_) | (with_reducible refine ifB_f ?_) | (with_reducible refine ifB_not ?_) | (with_reducible refine ifB_self (by walk_at "ok") ?_) | ((fail_if_success (with_reducible refine ifB_dc ?_ ?_)); (first | ((refine ifB_eq (k' := true) (by rfl) ?_); (with_reducible refine ifB_t ?_)) | ((refine ifB_eq (k' := false) (by rfl) ?_); (with_reducible refine ifB_f ?_)) | ((refine ifB_eq (by walk_at "nf" : _ = _) ?_); (first | (with_reducible refine ifB_t ?_) | (with_reducible refine ifB_f ?_) | (with_reducible refine ifB_not ?_) | (fail_if_success (fail_if_success (with_reducible refine ifB_dc ?_ ?_)))))))))
local macro_rules | `(tactic| walk_at "d") => `(tactic| (with_reducible refine ifB_dc ?_ ?_))
local macro_rules | `(tactic| walk_at "io") => `(tactic| first | (with_reducible refine ifB_yes rfl (by first | (with_reducible assumption) | omega) ?_) | (with_reducible refine ifB_no rfl (by first | (with_reducible assumption) | omega) ?_))
local macro_rules | `(tactic| walk_at "x") => `(tactic| first | rw [L2.PX.ints_map] | rw [L2.PX.bools_map] | rw [List.tail_cons] | rw [List.head?_cons] | rw [L2.PX.x_at0] | rw [L2.PX.x_at1] | rw [L2.PX.x_at2] | rw [L2.PX.x_at3] | rw [(by assumption : atI _ _ = some _)] | simp only [L2.PX.lendAll_cons, L2.PX.lendAll_nil] | simp only [L2.PX.slots_tup, L2.PX.slots_cons, L2.PX.slots_slot, L2.PX.slots_nil, List.cons_append, List.nil_append])
local macro_rules | `(tactic| walk_at "sb") => `(tactic| first | with_reducible refine L2.PX.sb_tup L2.PX.x_at0 ?_ | with_reducible refine L2.PX.sb_tup L2.PX.x_at1 ?_ | with_reducible refine L2.PX.sb_tup L2.PX.x_at2 ?_ | with_reducible refine L2.PX.sb_tup L2.PX.x_at3 ?_ | with_reducible refine L2.PX.sb_tup (by with_reducible assumption) ?_ | with_reducible refine L2.PX.sb_lst L2.PX.x_at0 ?_ | with_reducible refine L2.PX.sb_lst L2.PX.x_at1 ?_ | with_reducible refine L2.PX.sb_lst L2.PX.x_at2 ?_ | with_reducible refine L2.PX.sb_lst L2.PX.x_at3 ?_ | with_reducible refine L2.PX.sb_lst (by with_reducible assumption) ?_)
local macro_rules | `(tactic| walk_at "g") => `(tactic| (repeat ((try walk_at "w"); first | (walk_at "a"; (try walk_at "sb")) | walk_at "c" | walk_at "i" | walk_at "x")); (try walk_at "w"))
local macro_rules | `(tactic| walk_at "go") => `(tactic| (repeat ((try walk_at "w"); first | (walk_at "a"; (try walk_at "sb")) | walk_at "c" | walk_at "i" | walk_at "x" | walk_at "io")); (try walk_at "w"))
local macro_rules | `(tactic| walk_at "f") => `(tactic| repeat ((with_reducible refine barF ?_); walk_at "w"))
local macro_rules | `(tactic| walk_at "s") => `(tactic| ((try walk_at "f"); (with_reducible refine bar ?_); walk_at "g"; (try walk_at "f")))
local macro_rules | `(tactic| walk_at "u") => `(tactic| ((with_reducible refine unbar ?_); walk_at "g"))
local macro_rules | `(tactic| walk_at "b") => `(tactic| first | (refine barS ?_; (try walk_at "f")) | (refine barT ?_; walk_at "g"; (try walk_at "f")))
section
variable {α : Type} [DecidableEq α] [DatumOrd α]
theorem lt_irrefl (a : α) : DatumOrd.lt a a = false := by rw [← DatumOrd.lt_eq]; exact dataLt_self _
theorem lt_trans {a b c : α} (h : DatumOrd.lt a b = true) (h2 : DatumOrd.lt b c = true) : DatumOrd.lt a c = true := by
  rw [← DatumOrd.lt_eq] at h h2 ⊢
  exact lex_trans _ _ _ h h2
theorem lt_neg {a b c : α} (h : DatumOrd.lt a c = true) : DatumOrd.lt a b = true ∨ DatumOrd.lt b c = true := by
  rw [← DatumOrd.lt_eq] at h
  have := lex_negTrans _ (keyToks (Datum.toD b)) _ h
  rw [← DatumOrd.lt_eq, ← DatumOrd.lt_eq]
  exact this
theorem lt_tri {a b : α} (h : DatumOrd.lt a b = false) (h2 : DatumOrd.lt b a = false) : a = b := by
  rw [← DatumOrd.lt_eq] at h h2
  have e := lex_total _ _ h h2
  cases q : PyData.eqv (Datum.toD a) (Datum.toD b) with
  | true => rw [Datum.eqv] at q; exact of_decide_eq_true q
  | false =>
    have := (toks_eqv _ _ (DatumOrd.alike a b)).2 q [] [.inl 0]
    rw [e, lex_pre, lex_irrefl] at this
    cases this
theorem lt_asym {a b : α} (h : DatumOrd.lt a b = true) : DatumOrd.lt b a = false := by
  cases q : DatumOrd.lt b a with
  | false => rfl
  | true => have := lt_trans h q; rw [lt_irrefl] at this; cases this
/-- a before or at b -/
def le (a b : α) : Bool := !DatumOrd.lt b a
theorem le_refl (a : α) : le a a = true := by unfold le; rw [lt_irrefl]; rfl
theorem le_trans {a b c : α} (h : le a b = true) (h2 : le b c = true) : le a c = true := by
  unfold le at *
  cases q : DatumOrd.lt c a with
  | false => rfl
  | true =>
    rcases lt_neg (b := b) q with z | z
    · rw [z] at h2; cases h2
    · rw [z] at h; cases h
theorem le_total (a b : α) : (le a b || le b a) = true := by
  unfold le
  cases q : DatumOrd.lt b a with
  | false => rfl
  | true => rw [lt_asym q]; rfl
theorem le_antisymm {a b : α} (h : le a b = true) (h2 : le b a = true) : a = b := by
  unfold le at *
  exact lt_tri (by simpa using h2) (by simpa using h)
/-- the least of xs -/
def IsMin (m : α) (xs : List α) : Prop := m ∈ xs ∧ ∀ y ∈ xs, le m y = true
def IsMax (m : α) (xs : List α) : Prop := m ∈ xs ∧ ∀ y ∈ xs, le y m = true
theorem IsMin.unique {m n : α} {xs : List α} (h : IsMin m xs) (h2 : IsMin n xs) : m = n := le_antisymm (h.2 _ h2.1) (h2.2 _ h.1)
theorem IsMax.unique {m n : α} {xs : List α} (h : IsMax m xs) (h2 : IsMax n xs) : m = n := le_antisymm (h2.2 _ h.1) (h.2 _ h2.1)
theorem minOf_is (a : α) (r : List α) : IsMin (minOf a r) (a :: r) := by
  unfold minOf
  induction r generalizing a with
  | nil => exact ⟨List.mem_cons_self, fun y hy => by rw [List.mem_singleton.mp hy]; exact le_refl _⟩
  | cons b r ih =>
    rw [List.foldl_cons]
    have key : ∀ c, (c = a ∨ c = b) → le c a = true → le c b = true → IsMin (r.foldl (fun a y => if DatumOrd.lt y a = true then y else a) c) (a :: b :: r) := fun c hc h1 h2 => by
      obtain ⟨h3, h4⟩ := ih c
      refine ⟨?_, fun y hy => ?_⟩
      · rcases List.mem_cons.mp h3 with e | h3
        · rw [e]; rcases hc with rfl | rfl
          · exact List.mem_cons_self
          · exact List.mem_cons_of_mem _ List.mem_cons_self
        · exact List.mem_cons_of_mem _ (List.mem_cons_of_mem _ h3)
      · have hcm := h4 c List.mem_cons_self
        rcases List.mem_cons.mp hy with rfl | hy
        · exact le_trans hcm h1
        · rcases List.mem_cons.mp hy with rfl | hy
          · exact le_trans hcm h2
          · exact h4 y (List.mem_cons_of_mem _ hy)
    by_cases h : DatumOrd.lt b a = true
    · rw [if_pos h]
      exact key b (.inr rfl) (by unfold le; rw [lt_asym h]; rfl) (le_refl _)
    · rw [if_neg h]
      exact key a (.inl rfl) (le_refl _) (by unfold le; simpa using h)
theorem maxOf_is (a : α) (r : List α) : IsMax (maxOf a r) (a :: r) := by
  unfold maxOf
  induction r generalizing a with
  | nil => exact ⟨List.mem_cons_self, fun y hy => by rw [List.mem_singleton.mp hy]; exact le_refl _⟩
  | cons b r ih =>
    rw [List.foldl_cons]
    have key : ∀ c, (c = a ∨ c = b) → le a c = true → le b c = true → IsMax (r.foldl (fun a y => if DatumOrd.lt a y = true then y else a) c) (a :: b :: r) := fun c hc h1 h2 => by
      obtain ⟨h3, h4⟩ := ih c
      refine ⟨?_, fun y hy => ?_⟩
      · rcases List.mem_cons.mp h3 with e | h3
        · rw [e]; rcases hc with rfl | rfl
          · exact List.mem_cons_self
          · exact List.mem_cons_of_mem _ List.mem_cons_self
        · exact List.mem_cons_of_mem _ (List.mem_cons_of_mem _ h3)
      · have hcm := h4 c List.mem_cons_self
        rcases List.mem_cons.mp hy with rfl | hy
        · exact le_trans h1 hcm
        · rcases List.mem_cons.mp hy with rfl | hy
          · exact le_trans h2 hcm
          · exact h4 y (List.mem_cons_of_mem _ hy)
    by_cases h : DatumOrd.lt a b = true
    · rw [if_pos h]
      exact key b (.inr rfl) (by unfold le; rw [lt_asym h]; rfl) (le_refl _)
    · rw [if_neg h]
      exact key a (.inl rfl) (le_refl _) (by unfold le; simpa using h)
theorem exists_min : ∀ {xs : List α}, xs ≠ [] → ∃ m, IsMin m xs
  | [], h => absurd rfl h
  | a :: r, _ => ⟨_, minOf_is a r⟩
theorem exists_max : ∀ {xs : List α}, xs ≠ [] → ∃ m, IsMax m xs
  | [], h => absurd rfl h
  | a :: r, _ => ⟨_, maxOf_is a r⟩
theorem b_min1 {xs : List α} {m : α} {Q : Vl → Prop} (h : IsMin m xs) (q : Q (.d (Datum.toD m))) (hd : Datum.depth α ≤ 19 := by decide) : bltD .min1 [Ls xs] Q := by
  cases xs with
  | nil => cases h.1
  | cons a r =>
    refine ⟨okLs (a :: r) hd, alikeAll_datum (a :: r), ?_⟩
    rw [minD_map, (minOf_is a r).unique h]
    exact q
theorem b_min1t {xs : List α} {m : α} {Q : Vl → Prop} (h : IsMin m xs) (q : Q (.d (Datum.toD m))) (hd : Datum.depth α ≤ 19 := by decide) : bltD .min1 [Ts xs] Q := by
  cases xs with
  | nil => cases h.1
  | cons a r =>
    refine ⟨okLs (a :: r) hd, alikeAll_datum (a :: r), ?_⟩
    rw [minD_map, (minOf_is a r).unique h]
    exact q
theorem b_max1 {xs : List α} {m : α} {Q : Vl → Prop} (h : IsMax m xs) (q : Q (.d (Datum.toD m))) (hd : Datum.depth α ≤ 19 := by decide) : bltD .max1 [Ls xs] Q := by
  cases xs with
  | nil => cases h.1
  | cons a r =>
    refine ⟨okLs (a :: r) hd, alikeAll_datum (a :: r), ?_⟩
    rw [maxD_map, (maxOf_is a r).unique h]
    exact q
theorem b_max1t {xs : List α} {m : α} {Q : Vl → Prop} (h : IsMax m xs) (q : Q (.d (Datum.toD m))) (hd : Datum.depth α ≤ 19 := by decide) : bltD .max1 [Ts xs] Q := by
  cases xs with
  | nil => cases h.1
  | cons a r =>
    refine ⟨okLs (a :: r) hd, alikeAll_datum (a :: r), ?_⟩
    rw [maxD_map, (maxOf_is a r).unique h]
    exact q
theorem b_minD {xs : List α} {m : α} {d : PyData} {Q : Vl → Prop} (h : IsMin m xs) (q : Q (.d (Datum.toD m))) (hd : Datum.depth α ≤ 19 := by decide) : bltD .minD [Ls xs, d] Q := by
  cases xs with
  | nil => cases h.1
  | cons a r =>
    refine ⟨okLs (a :: r) hd, alikeAll_datum (a :: r), ?_⟩
    rw [minD_map, (minOf_is a r).unique h]
    exact q
theorem b_maxD {xs : List α} {m : α} {d : PyData} {Q : Vl → Prop} (h : IsMax m xs) (q : Q (.d (Datum.toD m))) (hd : Datum.depth α ≤ 19 := by decide) : bltD .maxD [Ls xs, d] Q := by
  cases xs with
  | nil => cases h.1
  | cons a r =>
    refine ⟨okLs (a :: r) hd, alikeAll_datum (a :: r), ?_⟩
    rw [maxD_map, (maxOf_is a r).unique h]
    exact q
/-- in order -/
def srt (xs : List α) : List α := xs.mergeSort le
theorem srt_perm (xs : List α) : (srt xs).Perm xs := List.mergeSort_perm ..
theorem srt_pair (xs : List α) : (srt xs).Pairwise fun a b => le a b = true := List.pairwise_mergeSort (le := le) (fun _ _ _ h1 h2 => le_trans h1 h2) le_total xs
theorem srt_mem {xs : List α} {a : α} : a ∈ srt xs ↔ a ∈ xs := (srt_perm xs).mem_iff
theorem srt_len (xs : List α) : (srt xs).length = xs.length := (srt_perm xs).length_eq
theorem pair_unique : ∀ {xs ys : List α}, xs.Perm ys → (xs.Pairwise fun a b => le a b = true) → (ys.Pairwise fun a b => le a b = true) → xs = ys
  | [], ys, h, _, _ => (List.Perm.nil_eq h)
  | x :: xs, [], h, _, _ => absurd h.length_eq (by simp)
  | x :: xs, y :: ys, h, h1, h2 => by
    rw [List.pairwise_cons] at h1 h2
    have e : x = y := by
      have hx : x ∈ y :: ys := h.mem_iff.mp List.mem_cons_self
      have hy : y ∈ x :: xs := h.mem_iff.mpr List.mem_cons_self
      rcases List.mem_cons.mp hx with e | hx
      · exact e
      · rcases List.mem_cons.mp hy with e | hy
        · exact e.symm
        · exact le_antisymm (h1.1 _ hy) (h2.1 _ hx)
    subst e
    rw [pair_unique (h.cons_inv) h1.2 h2.2]
theorem srt_of {xs ys : List α} (h : ys.Perm xs) (h2 : ys.Pairwise fun a b => le a b = true) : srt xs = ys := pair_unique ((srt_perm xs).trans h.symm) (srt_pair xs) h2
theorem srt_map (xs : List α) : (xs.map fun a => Datum.toD a).mergeSort (PySem.W.dataLe false id) = (srt xs).map fun a => Datum.toD a := by
  have e : ∀ a b : α, le a b = PySem.W.dataLe false id (Datum.toD a) (Datum.toD b) := fun a b => by
    rw [PySem.W.dataLe_eq]
    show (!DatumOrd.lt b a) = !dataLt (Datum.toD b) (Datum.toD a)
    rw [DatumOrd.lt_eq]
  exact (List.map_mergeSort (fun a _ b _ => e a b)).symm
/-- what sorted takes -/
def SrtD (α : Type) [DecidableEq α] [Datum α] : Prop := (∀ a : α, ∃ x r, Datum.toD a = .tuple (x :: r)) ∨ ∀ a : α, Datum.toD a ≠ .none ∧ ∀ xs, Datum.toD a ≠ .tuple xs
theorem b_sorted {xs : List α} {Q : Vl → Prop} (hs : SrtD α) (q : Q (.own (Ls (srt xs)))) (hd : Datum.depth α ≤ 19 := by decide) : bltD .sorted [Ls xs] Q := by
  refine ⟨okLs xs hd, ?_, ?_, ?_⟩
  · intro d hd d' hd'
    obtain ⟨a, _, rfl⟩ := List.mem_map.mp hd
    obtain ⟨b, _, rfl⟩ := List.mem_map.mp hd'
    exact DatumOrd.alike a b
  · rcases hs with hs | hs
    · left
      intro d hd
      obtain ⟨a, _, rfl⟩ := List.mem_map.mp hd
      exact hs a
    · right
      intro d hd
      obtain ⟨a, _, rfl⟩ := List.mem_map.mp hd
      exact hs a
  · rw [srt_map]; exact q
end
theorem alike_T {α : Type} [DecidableEq α] [DatumOrd α] (xs : List α) : PySem.W.AllAlike (xs.map fun a => Datum.toD a) := by
  intro d hd d' hd'
  obtain ⟨a, _, rfl⟩ := List.mem_map.mp hd
  obtain ⟨b, _, rfl⟩ := List.mem_map.mp hd'
  exact DatumOrd.alike a b
theorem srt_T {α : Type} [DecidableEq α] [Datum α] (hs : SrtD α) (xs : List α) : PySem.W.Sortable (xs.map fun a => Datum.toD a) := by
  rcases hs with hs | hs
  · left
    intro d hd
    obtain ⟨a, _, rfl⟩ := List.mem_map.mp hd
    exact hs a
  · right
    intro d hd
    obtain ⟨a, _, rfl⟩ := List.mem_map.mp hd
    exact hs a
theorem Ls_app {α : Type} [DecidableEq α] [Datum α] (xs ys : List α) : Ls (xs ++ ys) = .list ((xs.map fun a => Datum.toD a) ++ ys.map fun a => Datum.toD a) := congrArg PyData.list List.map_append
theorem Ts_app {α : Type} [DecidableEq α] [Datum α] (xs ys : List α) : Ts (xs ++ ys) = .tuple ((xs.map fun a => Datum.toD a) ++ ys.map fun a => Datum.toD a) := congrArg PyData.tuple List.map_append
theorem srtI : SrtD Int := .inr fun a => ⟨(fun e => by cases e), (fun xs e => by cases e)⟩
theorem srtS : SrtD Str := .inr fun a => ⟨(fun e => by cases e), (fun xs e => by cases e)⟩
theorem srtP {α β : Type} [DecidableEq α] [DecidableEq β] [Datum α] [Datum β] : SrtD (α × β) := .inl fun a => ⟨_, _, rfl⟩
theorem srtT3 {α β γ : Type} [DecidableEq α] [DecidableEq β] [DecidableEq γ] [Datum α] [Datum β] [Datum γ] : SrtD (T3 α β γ) := .inl fun a => ⟨_, _, rfl⟩
theorem srtL {α : Type} [DecidableEq α] [Datum α] : SrtD (List α) := .inr fun a => ⟨(fun e => by cases e), (fun xs e => by cases e)⟩
theorem leI {a b : Int} : le a b = true ↔ a ≤ b := by
  unfold le
  show (!decide (b < a)) = true ↔ _
  simp
theorem ints_map : ∀ xs : List Int, intsD (xs.map fun a => Datum.toD a) = some xs
  | [] => rfl
  | x :: xs => by
    show (intsD (xs.map fun a => Datum.toD a)).map (x :: ·) = _
    rw [ints_map xs]; rfl
theorem bools_map : ∀ xs : List Bool, boolsD (xs.map fun a => Datum.toD a) = some xs
  | [] => rfl
  | x :: xs => by
    show (boolsD (xs.map fun a => Datum.toD a)).map (x :: ·) = _
    rw [bools_map xs]; rfl
theorem b_sum {xs : List Int} {Q : Vl → Prop} (q : Q (.d (.int xs.sum))) : bltD .sum [Ls xs] Q := by
  show ex (intsD _) _
  rw [ints_map]; exact q
theorem b_all {xs : List Bool} {Q : Vl → Prop} (q : Q (.d (.bool (xs.all id)))) : bltD .all [Ls xs] Q := by
  show ex (boolsD _) _
  rw [bools_map]; exact q
theorem b_any {xs : List Bool} {Q : Vl → Prop} (q : Q (.d (.bool (xs.any id)))) : bltD .any [Ls xs] Q := by
  show ex (boolsD _) _
  rw [bools_map]; exact q
theorem b_min1I {xs : List Int} {m : Int} {Q : Vl → Prop} (h : IsMin m xs) (q : Q (.d (.int m))) : bltD .min1 [Ls xs] Q := b_min1 h q
theorem b_min1tI {xs : List Int} {m : Int} {Q : Vl → Prop} (h : IsMin m xs) (q : Q (.d (.int m))) : bltD .min1 [Ts xs] Q := b_min1t h q
theorem b_max1I {xs : List Int} {m : Int} {Q : Vl → Prop} (h : IsMax m xs) (q : Q (.d (.int m))) : bltD .max1 [Ls xs] Q := b_max1 h q
theorem b_max1tI {xs : List Int} {m : Int} {Q : Vl → Prop} (h : IsMax m xs) (q : Q (.d (.int m))) : bltD .max1 [Ts xs] Q := b_max1t h q
theorem b_minDI {xs : List Int} {m : Int} {d : PyData} {Q : Vl → Prop} (h : IsMin m xs) (q : Q (.d (.int m))) : bltD .minD [Ls xs, d] Q := b_minD h q
theorem b_maxDI {xs : List Int} {m : Int} {d : PyData} {Q : Vl → Prop} (h : IsMax m xs) (q : Q (.d (.int m))) : bltD .maxD [Ls xs, d] Q := b_maxD h q
theorem b_sumT {xs : List Int} {Q : Vl → Prop} (q : Q (.d (.int xs.sum))) : bltD .sum [Ts xs] Q := by
  show ex (intsD _) _
  rw [ints_map]; exact q
theorem b_minDt {α : Type} [DecidableEq α] [DatumOrd α] {xs : List α} {m : α} {d : PyData} {Q : Vl → Prop} (h : IsMin m xs) (q : Q (.d (Datum.toD m))) (hd : Datum.depth α ≤ 19 := by decide) : bltD .minD [Ts xs, d] Q := by
  cases xs with
  | nil => cases h.1
  | cons a r =>
    refine ⟨okLs (a :: r) hd, alikeAll_datum (a :: r), ?_⟩
    rw [minD_map, (minOf_is a r).unique h]
    exact q
theorem b_minDtI {xs : List Int} {m : Int} {d : PyData} {Q : Vl → Prop} (h : IsMin m xs) (q : Q (.d (.int m))) : bltD .minD [Ts xs, d] Q := b_minDt h q
theorem b_maxDt {α : Type} [DecidableEq α] [DatumOrd α] {xs : List α} {m : α} {d : PyData} {Q : Vl → Prop} (h : IsMax m xs) (q : Q (.d (Datum.toD m))) (hd : Datum.depth α ≤ 19 := by decide) : bltD .maxD [Ts xs, d] Q := by
  cases xs with
  | nil => cases h.1
  | cons a r =>
    refine ⟨okLs (a :: r) hd, alikeAll_datum (a :: r), ?_⟩
    rw [maxD_map, (maxOf_is a r).unique h]
    exact q
theorem b_maxDtI {xs : List Int} {m : Int} {d : PyData} {Q : Vl → Prop} (h : IsMax m xs) (q : Q (.d (.int m))) : bltD .maxD [Ts xs, d] Q := b_maxDt h q
theorem b_min1r {α : Type} [DecidableEq α] [DatumOrd α] {xs : List α} {m : α} {r : PyData} {Q : Vl → Prop} (h : IsMin m xs) (e : Datum.toD m = r) (q : Q (.d r)) (hd : Datum.depth α ≤ 19 := by decide) : bltD .min1 [Ls xs] Q := b_min1 h (by rw [e]; exact q) hd
theorem b_min1tr {α : Type} [DecidableEq α] [DatumOrd α] {xs : List α} {m : α} {r : PyData} {Q : Vl → Prop} (h : IsMin m xs) (e : Datum.toD m = r) (q : Q (.d r)) (hd : Datum.depth α ≤ 19 := by decide) : bltD .min1 [Ts xs] Q := b_min1t h (by rw [e]; exact q) hd
theorem b_max1r {α : Type} [DecidableEq α] [DatumOrd α] {xs : List α} {m : α} {r : PyData} {Q : Vl → Prop} (h : IsMax m xs) (e : Datum.toD m = r) (q : Q (.d r)) (hd : Datum.depth α ≤ 19 := by decide) : bltD .max1 [Ls xs] Q := b_max1 h (by rw [e]; exact q) hd
theorem b_max1tr {α : Type} [DecidableEq α] [DatumOrd α] {xs : List α} {m : α} {r : PyData} {Q : Vl → Prop} (h : IsMax m xs) (e : Datum.toD m = r) (q : Q (.d r)) (hd : Datum.depth α ≤ 19 := by decide) : bltD .max1 [Ts xs] Q := b_max1t h (by rw [e]; exact q) hd
theorem b_len {α : Type} {e : α → PyData} {xs : List α} {Q : Vl → Prop} (q : Q (.d (.int xs.length))) : bltD .len [.list (xs.map e)] Q := by
  show Q (.d (.int ((xs.map e).length : Nat)))
  rw [List.length_map]; exact q
theorem b_lenS {α : Type} {e : α → PyData} {xs : List α} {x : PyData} {Q : Vl → Prop} (h : x = .list (xs.map e) ∨ x = .tuple (xs.map e)) (q : Q (.d (.int xs.length))) : bltD .len [x] Q := by
  rcases h with rfl | rfl
  · show Q (.d (.int ((xs.map e).length : Nat)))
    rw [List.length_map]; exact q
  · show Q (.d (.int ((xs.map e).length : Nat)))
    rw [List.length_map]; exact q
theorem b_lenT {α : Type} {e : α → PyData} {xs : List α} {Q : Vl → Prop} (q : Q (.d (.int xs.length))) : bltD .len [.tuple (xs.map e)] Q := by
  show Q (.d (.int ((xs.map e).length : Nat)))
  rw [List.length_map]; exact q
theorem cut_last {α : Type} (xs : List α) : cutD xs none (some (-1)) = xs.dropLast := by
  unfold PX.cutD HT.sIx
  rw [List.dropLast_eq_take]
  simp
  congr 1
  omega
/-- an item of a list of ints -/
theorem at_D {xs : List Int} {j : Nat} (h : j < xs.length) : atI (xs.map fun a => Datum.toD a) (j : Int) = some (.int (xs.getD j 0)) :=
  at_get (e := fun a : Int => Datum.toD a) (by rw [List.getD_eq_getElem?_getD, List.getElem?_eq_getElem h]; rfl) rfl
/-! ### the shared defs -/
@[reducible] def isInt : PyData → Bool
  | .int _ => true
  | _ => false
@[reducible] def isW (x : PyData) (a b : Int) : Bool := match x with
  | .int i => decide (a ≤ i) && decide (i ≤ b)
  | _ => false
@[reducible] def isTup (x : PyData) (n : Int) : Bool := match x with
  | .tuple ds => decide ((ds.length : Int) = n)
  | _ => false
def sp_is_integer : FSp := fun vls Q _ => ∃ x, vls = [.d x] ∧ ndP x ∧ Q (.d (.bool (isInt x)))
def sp_is_within : FSp := fun vls Q _ => ∃ x a b, vls = [.d x, .d (.int a), .d (.int b)] ∧ ndP x ∧ Q (.d (.bool (isW x a b)))
def sp_is_row : FSp := fun vls Q _ => ∃ x, vls = [.d x] ∧ ndP x ∧ Q (.d (.bool (x.isList || x.isTuple)))
def sp_is_tuple_of : FSp := fun vls Q _ => ∃ x n, vls = [.d x, .d (.int n)] ∧ ndP x ∧ Q (.d (.bool (isTup x n)))
/-- one of the items -/
def sp_law_pick : FSp := fun vls Q _ => ∃ ds, vls = [.row, .d (.list ds)] ∧ (0 < ds.length ∧ ds.length < 100000) ∧ ∀ d ∈ ds, Q (.d d)
/-- data of few levels, no dict -/
@[reducible] def flat : Nat → PyData → Prop
  | _, .none => True
  | _, .bool _ => True
  | _, .int _ => True
  | _, .str s => s.length ≤ sizeLine
  | d + 1, .list ds => ds.length ≤ sizeLine ∧ ∀ e ∈ ds, flat d e
  | d + 1, .tuple ds => ds.length ≤ sizeLine ∧ ∀ e ∈ ds, flat d e
  | _, _ => False
/-- the two are one -/
def sp_law_alike : Nat → FSp
  | 0 => fun _ _ _ => False
  | d + 1 => fun vls Q _ => ∃ x y, vls = [.d x, .d y] ∧ x = y ∧ flat d y ∧ Q (.d (.bool true))
@[reducible] def C_is_integer : CSs := .cons (.ret (.and (.isi (.var 0) .int) (.not (.isi (.var 0) .bool)))) .nil
@[reducible] def C_is_within (i : Nat) : CSs := .cons (.ret (.and (.call i (.cons false (.var 0) .nil)) (.cmp2 (.var 1) .le (.var 0) .le (.var 2)))) .nil
@[reducible] def C_is_row : CSs := .cons (.ret (.isi (.var 0) .row)) .nil
@[reducible] def C_is_tuple_of : CSs := .cons (.ret (.and (.isi (.var 0) .tuple) (.cmp (.blt .len (.cons false (.var 0) .nil)) .eq (.var 1)))) .nil
@[reducible] def C_pick (t : Nat) : CSs := .cons (.ret (.sub (.var 1) (.call t (.cons false (.var 0) (.cons false (.blt .len (.cons false (.var 1) .nil)) .nil))))) .nil
/-- a def keeps its contract -/
abbrev Ok (G : Gm) (C : CSs) (n : Nat) (sp : FSp) : Prop := ∀ vls Q E, sp vls Q E → evSs G E C ⟨fun _ => Q (.d .none), Q, fun _ => False, fun _ => False⟩ (vls.map some ++ List.replicate (n - vls.length) none)
section
variable {G : Gm}
theorem ok_is_integer : Ok G C_is_integer 1 sp_is_integer := by
  intro vls Q E h
  obtain ⟨x, rfl, hx, q⟩ := h
  show evSs _ _ _ _ [some (.d x)]
  cases x <;> first | exact hx.elim | (exact ⟨trivial, trivial, trivial, q⟩) | (exact ⟨trivial, q⟩) | skip
theorem ok_is_within {i : Nat} (hi : G.fs i = sp_is_integer) : Ok G (C_is_within i) 3 sp_is_within := by
  intro vls Q E h
  obtain ⟨x, a, b, rfl, hx, q⟩ := h
  show evSs _ _ _ _ [some (.d x), some (.d (.int a)), some (.d (.int b))]
  walk_at "w"
  show callF _ _ _ _ _
  unfold callF
  rw [hi]
  refine ⟨x, rfl, hx, ?_⟩
  cases x
  case int i =>
    refine ⟨rfl, trivial, ifB_intro (fun h => ⟨rfl, trivial, ?_⟩) (fun h => ?_)⟩
    · have e : isW (.int i) a b = decide (i ≤ b) := by show (decide (a ≤ i) && _) = _; rw [show decide (a ≤ i) = true from h]; rfl
      rw [e] at q; exact q
    · have e : isW (.int i) a b = false := by show (decide (a ≤ i) && _) = _; rw [show decide (a ≤ i) = false from h]; rfl
      rw [e] at q; exact q
  all_goals first | exact hx.elim | exact q
theorem ok_is_row : Ok G C_is_row 1 sp_is_row := by
  intro vls Q E h
  obtain ⟨x, rfl, hx, q⟩ := h
  exact ⟨hx, q⟩
theorem ok_is_tuple_of : Ok G C_is_tuple_of 2 sp_is_tuple_of := by
  intro vls Q E h
  obtain ⟨x, n, rfl, hx, q⟩ := h
  show evSs _ _ _ _ [some (.d x), some (.d (.int n))]
  refine ⟨hx, ?_⟩
  cases x
  case tuple ds =>
    refine ⟨rfl, trivial, ⟨okI _, okI _⟩, ?_⟩
    rw [show cmpV .eq (.int ds.length) (.int n) = decide ((ds.length : Int) = n) from eqI _ _]
    exact q
  all_goals first | exact hx.elim | exact q
theorem sub_tup {ds : List PyData} {i : Int} {v : PyData} {Q : PyData → Prop} (h : atI ds i = some v) (q : Q v) : subD (.tuple ds) (.int i) Q := by
  show ex (atI ds i) Q
  rw [h]; exact q
theorem sub_lst {ds : List PyData} {i : Int} {v : PyData} {Q : PyData → Prop} (h : atI ds i = some v) (q : Q v) : subD (.list ds) (.int i) Q := by
  show ex (atI ds i) Q
  rw [h]; exact q
theorem sub_seq {x : PyData} {ds : List PyData} {i : Int} {v : PyData} {Q : PyData → Prop} (hx : x = .list ds ∨ x = .tuple ds) (h : atI ds i = some v) (q : Q v) : subD x (.int i) Q := by
  rcases hx with rfl | rfl
  · exact sub_lst h q
  · exact sub_tup h q
theorem at_some {α : Type} {xs : List α} {v : Int} (h0 : 0 ≤ v) (h1 : v < xs.length) : ∃ x ∈ xs, atI xs v = some x := by
  have h2 : v.toNat < xs.length := by omega
  refine ⟨xs[v.toNat], List.getElem_mem h2, ?_⟩
  unfold atI ixN
  rw [if_pos h0, if_pos h1]
  exact List.getElem?_eq_getElem h2
theorem ok_pick {t : Nat} (ht : G.fs t = spDraw) : Ok G (C_pick t) 2 sp_law_pick := by
  intro vls Q E h
  obtain ⟨ds, rfl, ⟨l0, l1⟩, q⟩ := h
  show evSs _ _ _ _ [some .row, some (.d (.list ds))]
  refine ⟨rfl, ?_⟩
  walk_at "w"
  show callF _ _ _ _ _
  unfold callF
  rw [ht]
  refine ⟨ds.length, rfl, by omega, by omega, fun v v0 v1 => ?_⟩
  obtain ⟨x, hx, e⟩ := at_some v0 v1
  exact ⟨rfl, sub_lst e (q x hx)⟩
end
end PX
end L2
namespace L2
namespace PX
open PySem PySem.Spec PyProof.Rows PySem.W
local macro_rules | `(tactic| walk_at "w") => `(tactic| with_reducible conv => whnf)
local macro_rules | `(tactic| walk_at "ok") => `(tactic| ((try walk_at "w"); repeat' (first | (with_reducible refine And.intro ?_ ?_) | (with_reducible assumption) | exact L2.PX.okI _ | exact L2.PX.okB _ | exact L2.PX.okNone | exact L2.PX.okS _ | (with_reducible refine L2.PX.okN_of ?_) | exact okN_int | exact okN_non | exact okN_bool | exact okN_str | refine okN_tup ?_ | refine okN_lst ?_ | exact okNs_nil | refine okNs_cons ?_ ?_ | exact okNs_map _ (by decide) | exact okN_T _ (by decide) | (refine okNs_app ?_ ?_) | (with_reducible assumption))))
local macro_rules | `(tactic| walk_at "sd") => `(tactic| first | with_reducible exact trivial | with_reducible rfl | (with_reducible assumption) | ((with_reducible refine ⟨?_, ?_, ?_, ?_, ?_⟩) <;> first | (with_reducible exact trivial) | (with_reducible rfl) | (with_reducible assumption) | ((with_reducible refine (show (_ || _) = true from ?_)); rfl) | (walk_at "ok"; done)) | (walk_at "ok"; done) | omega | decide | exact Nat.le_of_ble_eq_true rfl | ((try walk_at "w"); (try simp only [smallR, smallI, sizeLine, List.length_map, List.length_append, List.length_cons, List.length_nil, List.length_replicate, List.length_range]); omega) | exact .inl rfl | exact .inr rfl | exact .inl ⟨by omega, by omega⟩ | exact .inr ⟨by omega, by omega⟩ | rfl)
local macro_rules | `(tactic| walk_at "a") => `(tactic| ((with_reducible refine And.intro ?_ ?_); focus (walk_at "sd")))
local macro_rules | `(tactic| walk_at "c") => `(tactic| ((with_reducible refine callF_intro ?_); first | refine ⟨rfl, ?_⟩ | refine ⟨_, rfl, ?_⟩ | refine ⟨_, _, rfl, ?_⟩ | refine ⟨_, _, _, rfl, ?_⟩ | refine ⟨_, _, _, _, rfl, ?_⟩ | refine ⟨_, _, _, _, _, rfl, ?_⟩ | refine ⟨_, _, _, _, _, _, rfl, ?_⟩ | refine ⟨_, rfl, .inl rfl, ?_⟩ | refine ⟨_, rfl, .inr rfl, ?_⟩ | refine ⟨_, _, rfl, .inl rfl, ?_⟩ | refine ⟨_, _, rfl, .inr rfl, ?_⟩ | refine ⟨_, _, _, rfl, .inl rfl, ?_⟩ | refine ⟨_, _, _, rfl, .inr rfl, ?_⟩ | refine ⟨_, _, _, _, rfl, .inl rfl, ?_⟩ | refine ⟨_, _, _, _, rfl, .inr rfl, ?_⟩ | refine ⟨_, _, _, _, _, rfl, .inl rfl, ?_⟩ | refine ⟨_, _, _, _, _, rfl, .inr rfl, ?_⟩))
local macro_rules | `(tactic| walk_at "nf") => `(tactic| ((((try simp only [L2.PX.eqI, L2.PX.eqB, L2.PX.eqS, L2.PX.eqT, L2.PX.eqL, L2.PX.eqTs, q_truV_1, q_truV_2, n_truI, n_eqI, n_neI, n_eqB, n_neB, n_eqS, n_neS, n_ltI, n_leI, n_gtI, n_geI, n_eqL, n_neL, n_eqTs, n_neTs, n_eqLn, n_neLn, n_eqTn, n_neTn, e_eqTn, e_eqLn, n_inL, n_inT, n_ninL, n_ninT, Bool.not_not, Bool.not_true, Bool.not_false]); rfl))))
local macro_rules | `(tactic| walk_at "i") => `(tactic| ((with_reducible refine ifB_id ?_); first | (with_reducible refine ifB_t ?_) | (with_reducible refine ifB_f ?_) | (with_reducible refine ifB_not ?_) | (with_reducible refine ifB_self (by walk_at "ok") ?_) | ((fail_if_success (with_reducible refine ifB_dc ?_ ?_)); (first | ((refine ifB_eq (k' := true) (by rfl) ?_); (with_reducible refine ifB_t ?_)) | ((refine ifB_eq (k' := false) (by rfl) ?_); (with_reducible refine ifB_f ?_)) | ((refine ifB_eq (by walk_at "nf" : _ = _) ?_); (first | (with_reducible refine ifB_t ?_) | (with_reducible refine ifB_f ?_) | (with_reducible refine ifB_not ?_) | (fail_if_success (fail_if_success (with_reducible refine ifB_dc ?_ ?_)))))))))
local macro_rules | `(tactic| walk_at "d") => `(tactic| (with_reducible refine ifB_dc ?_ ?_))
local macro_rules | `(tactic| walk_at "io") => `(tactic| first | (with_reducible refine ifB_yes rfl (by first | (with_reducible assumption) | omega) ?_) | (with_reducible refine ifB_no rfl (by first | (with_reducible assumption) | omega) ?_))
local macro_rules | `(tactic| walk_at "x") => `(tactic| first | rw [L2.PX.ints_map] | rw [L2.PX.bools_map] | rw [List.tail_cons] | rw [List.head?_cons] | rw [L2.PX.x_at0] | rw [L2.PX.x_at1] | rw [L2.PX.x_at2] | rw [L2.PX.x_at3] | rw [(by assumption : atI _ _ = some _)] | simp only [L2.PX.lendAll_cons, L2.PX.lendAll_nil] | simp only [L2.PX.slots_tup, L2.PX.slots_cons, L2.PX.slots_slot, L2.PX.slots_nil, List.cons_append, List.nil_append])
local macro_rules | `(tactic| walk_at "sb") => `(tactic| first | with_reducible refine L2.PX.sb_tup L2.PX.x_at0 ?_ | with_reducible refine L2.PX.sb_tup L2.PX.x_at1 ?_ | with_reducible refine L2.PX.sb_tup L2.PX.x_at2 ?_ | with_reducible refine L2.PX.sb_tup L2.PX.x_at3 ?_ | with_reducible refine L2.PX.sb_tup (by with_reducible assumption) ?_ | with_reducible refine L2.PX.sb_lst L2.PX.x_at0 ?_ | with_reducible refine L2.PX.sb_lst L2.PX.x_at1 ?_ | with_reducible refine L2.PX.sb_lst L2.PX.x_at2 ?_ | with_reducible refine L2.PX.sb_lst L2.PX.x_at3 ?_ | with_reducible refine L2.PX.sb_lst (by with_reducible assumption) ?_)
local macro_rules | `(tactic| walk_at "g") => `(tactic| (repeat ((try walk_at "w"); first | (walk_at "a"; (try walk_at "sb")) | walk_at "c" | walk_at "i" | walk_at "x")); (try walk_at "w"))
local macro_rules | `(tactic| walk_at "go") => `(tactic| (repeat ((try walk_at "w"); first | (walk_at "a"; (try walk_at "sb")) | walk_at "c" | walk_at "i" | walk_at "x" | walk_at "io")); (try walk_at "w"))
local macro_rules | `(tactic| walk_at "f") => `(tactic| repeat ((with_reducible refine barF ?_); walk_at "w"))
local macro_rules | `(tactic| walk_at "s") => `(tactic| ((try walk_at "f"); (with_reducible refine bar ?_); walk_at "g"; (try walk_at "f")))
local macro_rules | `(tactic| walk_at "u") => `(tactic| ((with_reducible refine unbar ?_); walk_at "g"))
local macro_rules | `(tactic| walk_at "b") => `(tactic| first | (refine barS ?_; (try walk_at "f")) | (refine barT ?_; walk_at "g"; (try walk_at "f")))
@[reducible] def C_alike (i : Nat) : CSs := .cons (.ife (.v (.isi (.var 1) .row)) (.cons (.ife (.or (.not (.v (.isi (.var 0) .row))) (.v (.cmp (.isi (.var 0) .list) .ne (.isi (.var 1) .list)))) (.cons (.ret (.lit (.bool false))) .nil) .nil) (.cons (.ife (.v (.cmp (.blt .len (.cons false (.var 0) .nil)) .ne (.blt .len (.cons false (.var 1) .nil)))) (.cons (.ret (.lit (.bool false))) .nil) .nil) (.cons (.ret (.cmp (.comp (.var 2) (.slot 2) (.rng1 (.blt .len (.cons false (.var 1) .nil))) (.yes (.not (.v (.call i (.cons false (.sub (.var 0) (.var 2)) (.cons false (.sub (.var 1) (.var 2)) .nil))))))) .eq (.lst .nil))) .nil))) .nil)
  (.cons (.ife (.v (.isi (.var 1) .dict)) (.cons (.ife (.or (.not (.v (.isi (.var 0) .dict))) (.v (.cmp (.blt .list (.cons false (.var 0) .nil)) .ne (.blt .list (.cons false (.var 1) .nil))))) (.cons (.ret (.lit (.bool false))) .nil) .nil) (.cons (.ret (.cmp (.comp (.var 3) (.slot 3) (.e (.var 1)) (.yes (.not (.v (.call i (.cons false (.sub (.var 0) (.var 3)) (.cons false (.sub (.var 1) (.var 3)) .nil))))))) .eq (.lst .nil))) .nil)) .nil)
  (.cons (.ife (.or (.v (.isN (.var 1))) (.v (.isi (.var 1) .str))) (.cons (.ret (.and (.cmp (.var 0) .eq (.var 1)) (.cmp (.isi (.var 0) .str) .eq (.isi (.var 1) .str)))) .nil) .nil)
  (.cons (.ret (.and (.isi (.var 0) .int) (.and (.cmp (.isi (.var 0) .bool) .eq (.isi (.var 1) .bool)) (.cmp (.var 0) .eq (.var 1))))) .nil)))
theorem ok_alike {G : Gm} {i d : Nat} (hi : G.fs i = sp_law_alike d) : Ok G (C_alike i) 4 (sp_law_alike (d + 1)) := by
  intro vls Q E h
  obtain ⟨x, _, rfl, rfl, hx, q⟩ := h
  show evSs _ _ _ _ [some (.d x), some (.d x), none, none]
  cases x
  case dict => cases d <;> exact hx.elim
  case none =>
    walk_at "b"
    walk_at "s"
    walk_at "s"
    walk_at "s"
    exact q
  case bool b =>
    walk_at "b"
    walk_at "s"
    walk_at "s"
    walk_at "s"
    walk_at "s"
    rw [show cmpV .eq (.bool b) (.bool b) = true from PySem.SeqAt.eqv_refl_plain _ rfl]
    exact q
  case int b =>
    walk_at "b"
    walk_at "s"
    walk_at "s"
    walk_at "s"
    walk_at "s"
    rw [show cmpV .eq (.int b) (.int b) = true from PySem.SeqAt.eqv_refl_plain _ rfl]
    exact q
  case str b =>
    have hb : b.length ≤ sizeLine := by cases d <;> exact hx
    walk_at "b"
    walk_at "s"
    walk_at "s"
    walk_at "s"
    exact q
  case' list ds =>
    cases d
    · exact hx.elim
    rename_i d
    have sq : PyData.list ds = .list ds ∨ PyData.list ds = .tuple ds := .inl rfl
  case' tuple ds =>
    cases d
    · exact hx.elim
    rename_i d
    have sq : PyData.tuple ds = .list ds ∨ PyData.tuple ds = .tuple ds := .inr rfl
  all_goals
    obtain ⟨hl, hx⟩ := hx
    have hz : ds.length ≤ 16777216 := hl
    walk_at "b"
    walk_at "s"
    refine comp_ifN (β := Int) (fun _ => false) (fun k => (k : Int)) (fun k hk acc k' h1 h2 => ?_) ?_
    · have hk : (k : Int) < ds.length := by omega
      obtain ⟨y, hy, e⟩ := at_some (xs := ds) (v := (k : Int)) (by omega) hk
      walk_at "g"
      unfold callF
      rw [hi]
      refine ⟨y, y, rfl, rfl, hx y hy, ?_⟩
      walk_at "g"
      exact h2 rfl
    · rw [show (List.range (ds.length : Int).toNat).filter (fun _ => false) = [] from List.filter_eq_nil_iff.mpr fun _ _ => by simp]
      walk_at "g"
      exact q
end PX
end L2
/-! sorted; a loop over defs. -/
namespace L2
namespace PX
open PySem PySem.Spec PyProof.Rows
section
variable {L : Lw} {E0 : En} {G : Gm} {EX : Exn → Prop} {X : Cx} {k : Nat} {c c2 c3 : CE} {e e2 e3 tg : Expr} {st st' st1 st2 : Sl} {σ : L2.St} {S S' S1 S2 H H' H1 H2 : Hp} {v : V} {x : PyData} {vl : Vl} {pos : Pos} {cs : CSs} {body : List Stmt}
theorem each_zip {K : PySem.W.Frag} : ∀ {vs : List V} {ds : List PyData} {us : List Value}, RpAll K S vs ds → Vals vs us → PySem.W.EachIs (fun (u : Value) (b : V × PyData) => RelV b.1 u) us (vs.zip ds)
  | _, _, _, .nil, r => by cases r; exact .nil
  | _, _, _, .cons a r, h => by
    cases h with
    | cons h1 h2 => exact .cons h1 (each_zip r h2)
theorem zip_snd {K : PySem.W.Frag} {vs : List V} {ds : List PyData} (r : RpAll K S vs ds) : (vs.zip ds).map (·.2) = ds := List.map_snd_zip (Nat.le_of_eq r.length.symm)
theorem zip_mem {K : PySem.W.Frag} : ∀ {vs : List V} {ds : List PyData} {p : V × PyData}, RpAll K S vs ds → p ∈ vs.zip ds → Rp K S p.1 p.2
  | _, _, _, .nil, h => by cases h
  | _, _, _, .cons a r, h => by
    rw [List.zip_cons_cons] at h
    rcases List.mem_cons.mp h with rfl | h
    · exact a
    · exact zip_mem r h
theorem unzip_rp {K : PySem.W.Frag} : ∀ {ps : List (V × PyData)}, (∀ p ∈ ps, Rp K S p.1 p.2) → RpAll K S (ps.map (·.1)) (ps.map (·.2))
  | [], _ => .nil
  | p :: ps, h => .cons (h p List.mem_cons_self) (unzip_rp fun q hq => h q (List.mem_cons_of_mem _ hq))
theorem each_vals : ∀ {us : List Value} {ps : List (V × PyData)}, PySem.W.EachIs (fun (u : Value) (b : V × PyData) => RelV b.1 u) us ps → Vals (ps.map (·.1)) us
  | _, _, .nil => .nil
  | _, _, .cons h r => .cons h (each_vals r)
theorem reads_each {h : Heap} : ∀ {ds : List PyData} {us : List Value} {as : List Addr} {vs : List V}, ReadsAll h us ds as → vs.length = ds.length → PySem.W.EachIs (fun u (b : V × PyData) => ∃ as, Reads h u b.2 as) us (vs.zip ds)
  | [], _, _, [], r, _ => by cases r; exact .nil
  | d :: ds, _, _, v :: vs, r, hl => by
    cases r with
    | cons h1 h2 => exact .cons ⟨_, h1⟩ (reads_each h2 (by simpa using hl))
  | [], _, _, _ :: _, _, hl => by simp at hl
  | _ :: _, _, _, [], _, hl => by simp at hl
theorem depth_mem : ∀ {ds : List PyData} {d : PyData}, d ∈ ds → d.depth ≤ PyData.depthAll ds
  | x :: r, d, h => by
    rw [PyData.depthAll]
    rcases List.mem_cons.mp h with rfl | h
    · exact Nat.le_max_left _ _
    · exact Nat.le_trans (depth_mem h) (Nat.le_max_right _ _)
theorem cb_sorted (r : Room k X.A) : CallR X (.builtin "sorted") (rBlt X.K .sorted) := by
  intro pins s σ H vs us Q I rv h
  obtain ⟨S, v, x, R, rfl, m, n, b, kk⟩ := rBlt_one h (fun _ => rfl) (fun x _ _ _ => match x with | .none => rfl | .bool _ => rfl | .int _ => rfl | .str _ => rfl | .list [] => rfl | .list (_ :: _) => rfl | .tuple [] => rfl | .tuple (_ :: _) => rfl | .dict _ => rfl)
  have hu := r.units
  cases x with
  | list ds =>
    obtain ⟨a, ws, rfl, ha, ra⟩ := n.list m
    obtain ⟨ok, al, so, b⟩ := (show _ ∧ _ ∧ _ ∧ _ from b)
    obtain ⟨p, dp⟩ := okD_all ok
    obtain ⟨its, rw', pl, hz⟩ := I.list (SqL.of ha)
    obtain ⟨as, rr⟩ := RpAll.reads I _ _ _ (ra.mono m) rw' p
    rw [Vals.ref1 rv]
    have hl := ra.length
    have e2 : (ws.zip ds).map (fun b => b.2) = ds := zip_snd ra
    have hlz : (ws.zip ds).length = ds.length := by rw [List.length_zip]; omega
    refine PySem.W.sorted_data (enc := fun b : V × PyData => b.2) (bs := ws.zip ds) (R := fun u b => RelV b.1 u) pl.isList (each_zip ra rw') (reads_each rr hl) (by rw [e2]; exact al) (by rw [e2]; exact so) (by omega) (fun b hb => ?_) fun out ho eo => ?_
    · have : b.2 ∈ ds := by rw [← e2]; exact List.mem_map.mpr ⟨b, hb, rfl⟩
      have := depth_mem this
      omega
    · obtain ⟨ep, he'⟩ := PyProof.Rows.sortedAll_at s.heap its (List.toArray out)
      have vo := each_vals eo
      generalize hps : (ws.zip ds).mergeSort (PySem.W.dataLe false fun b : V × PyData => b.2) = ps at eo vo
      have hpl : ps.length = ds.length := by rw [← hps, List.length_mergeSort]; exact hlz
      have hlen : (ps.map (·.1)).length ≤ sizeLine := by rw [List.length_map]; omega
      have rp : RpAll X.K S (ps.map (·.1)) (ps.map (·.2)) := unzip_rp fun q hq => zip_mem ra (by rw [← hps] at hq; exact (List.mergeSort_perm _ _).mem_iff.mp hq)
      have e3 : ps.map (·.2) = ds.mergeSort (PySem.W.dataLe false id) := by
        rw [← hps]
        exact (List.map_mergeSort (f := fun b : V × PyData => b.2) (s := PySem.W.dataLe false id) (fun _ _ _ _ => rfl)).trans (congrArg (fun z => List.mergeSort z _) e2)
      rw [e3] at rp
      exact ⟨.ref _, upd H (s.heap.objs.size + 1) (.lst (ps.map (·.1))), I.laid (t' := s.toks) (fun _ _ => PyProof.Rows.sortedAll_old) (Nat.le_succ _) ⟨hlen, out, ep, vo, by simpa using he'⟩, rfl,
        kk _ _ (.own (.list (ds.mergeSort (PySem.W.dataLe false id)))) ⟨_, _, I.hok.fresh (Nat.le_succ _), rfl, rfl, _, rfl, rp⟩ b⟩
  | none => exact (show False from b).elim
  | bool _ => exact (show False from b).elim
  | int _ => exact (show False from b).elim
  | str _ => exact (show False from b).elim
  | tuple ds => exact (show False from b).elim
  | dict _ => exact (show False from b).elim
/-! ### a loop over defs -/
/-- names of defs side by side -/
def tFs (L : Lw) (fs : List Nat) : TA := fun _ H Q => Q (fs.map fun n => V.ref (L.ft n)) H
theorem jf_nil : PA X [] (tFs L []) := pa_nil
theorem jf_cons {y : Str} {n : Nat} {fs : List Nat} {es : List Expr} {p : Pos} (hm : X.mg y = some (.ref (L.ft n))) (hg : Gl X y) (hr : PA X es (tFs L fs)) (hd : (y == ("__debug__" : Str)) = false) : PA X (.Name y p :: es) (tFs L (n :: fs)) :=
  pa_cons (pe_glob hg hm (v := .ref (L.ft n)) rfl hd) hr
theorem js_fors (F : Fit L E0 EX X k) {i : Nat} {y : Str} {es : List Expr} {fs : List Nat} {p q : Pos} (hi : X.N[i]? = some y) (hx : Loc X.env.scope y) (hf : X.fn y = true ∨ X.env.scope.names.lookup y = some .local) (ha : PA X es (tFs L fs)) (hz : fs.length ≤ sizeLine)
    (hb : PSs X body (tSt L E0 (evSs G EX cs))) (hs : ∀ x, foldedSetIterable (.List es p) X.env x = pure x) : PS X (.For (.Name y q) (.List es p) body [] pos) (tSt L E0 (evS G EX (.fors i fs cs))) :=
  (ps_for F.po F.calm (pi_any (pe_lst ha)) (jg_slot (G := G) (EX := EX) (pos := q) F hi hx hf) hb hs).weak fun D σ H ⟨st, S, D', I, ev, E⟩ => by
    have ev : forL (fun x D' st' => asI x fun n => evSs G EX cs D' (ss st' i (some (.fn n.toNat)))) (fs.map fun (n : Nat) => PyData.int n) D' st := ev
    have e0 : (fs.map fun n => V.ref (L.ft n)).length = fs.length := List.length_map ..
    refine ⟨by rw [e0]; exact hz, fun a hp => .inl ⟨a, _, rfl, SqL.of upd_same, fun _ => ?_⟩⟩
    have I1 := I.laidS (o := .lst (fs.map fun n => V.ref (L.ft n))) hp
    have m0 : Mono S (upd S a (.lst (fs.map fun n => V.ref (L.ft n)))) := Mono.upd (I.free hp)
    have at_ : ∀ {S2 H2 : Hp}, Mono (upd S a (.lst (fs.map fun n => V.ref (L.ft n)))) S2 → Mono S2 H2 → H2 a = some (.lst (fs.map fun n => V.ref (L.ft n))) := fun m1 m2 => m2 _ _ (m1 _ _ upd_same)
    refine ⟨fun j m σ' H' => m = fs.length - j ∧ j ≤ fs.length ∧ ∃ st' S', SI L E0 st' σ' S' H' ∧ Mono (upd S a (.lst (fs.map fun n => V.ref (L.ft n)))) S' ∧ forL (fun x D' st' => asI x fun n => evSs G EX cs D' (ss st' i (some (.fn n.toNat)))) ((fs.drop j).map fun (n : Nat) => PyData.int n) D' st', ⟨_, rfl, Nat.zero_le _, st, _, I1, .refl _, ev⟩, ?_⟩
    rintro j m σ' H' ⟨rfl, hj, st2, S2, I2, m2, q2⟩
    have hH := at_ m2 I2.sub
    by_cases hlt : j < fs.length
    · have hd : fs[j]? = some fs[j] := List.getElem?_eq_getElem hlt
      have hv : (fs.map fun n => V.ref (L.ft n))[j]? = some (.ref (L.ft fs[j])) := by rw [List.getElem?_map, hd]; rfl
      rw [List.drop_eq_getElem_cons hlt] at q2
      refine .inr ⟨⟨_, _, SqL.of hH, hv⟩, fun σ3 H3 => ∃ st3 S3, SI L E0 st3 σ3 S3 H3 ∧ Mono (upd S a (.lst (fs.map fun n => V.ref (L.ft n)))) S3 ∧ forL (fun x D' st' => asI x fun n => evSs G EX cs D' (ss st' i (some (.fn n.toNat)))) ((fs.drop (j + 1)).map fun (n : Nat) => PyData.int n) D' st3, fun σ3 H3 ⟨st3, S3, I3, m3, q3⟩ => ⟨fs.length - (j + 1), by omega, rfl, hlt, st3, S3, I3, m3, q3⟩, fun x H3 yl => ?_⟩
      obtain ⟨rfl, yl⟩ := yl
      have hx : V.ref (L.ft fs[j]) = x := Option.some.inj (hv.symm.trans (yl _ (SqL.of hH)))
      subst hx
      have r3 : VR L E0 H3 st2 σ' S2 H3 (.fn fs[j]) (.ref (L.ft fs[j])) := ⟨rfl, (fun _ _ e => nomatch e), (fun _ _ e => nomatch e), fun _ e => nomatch e⟩
      refine ⟨st2, S2, _, _, I2, r3.vt, q2, fun σ4 H4 st4 S4 I4 m4 _ q4 => ?_⟩
      refine ⟨st4, S4, _, I4, q4, ⟨fun st5 σ5 S5 H5 I5 m5 q5 => ⟨st5, S5, I5, (m2.trans m4).trans m5, q5⟩, fun st5 σ5 S5 H5 I5 m5 q5 => ?_, fun st5 σ5 S5 H5 I5 m5 q5 => ⟨st5, S5, I5, (m2.trans m4).trans m5, q5⟩, E.rt⟩⟩
      exact E.nx st5 σ5 S5 H5 I5 (((m0.trans m2).trans m4).trans m5) q5
    · have e1 : j = fs.length := by omega
      subst e1
      rw [List.drop_length] at q2
      exact .inl ⟨⟨_, SqL.of hH, by rw [e0]; exact Nat.le_refl _⟩, E.nx st2 σ' S2 H' I2 (m0.trans m2) q2⟩
end
end PX
end L2
/-! Shared: unlike; checks of rows. -/
namespace L2
namespace PX
open PySem PySem.Spec PyProof.Rows PySem.W
local macro_rules | `(tactic| walk_at "w") => `(tactic| with_reducible conv => whnf)
local macro_rules | `(tactic| walk_at "ok") => `(tactic| ((try walk_at "w"); repeat' (first | (with_reducible refine And.intro ?_ ?_) | (with_reducible assumption) | exact L2.PX.okI _ | exact L2.PX.okB _ | exact L2.PX.okNone | exact L2.PX.okS _ | (with_reducible refine L2.PX.okN_of ?_) | exact okN_int | exact okN_non | exact okN_bool | exact okN_str | refine okN_tup ?_ | refine okN_lst ?_ | exact okNs_nil | refine okNs_cons ?_ ?_ | exact okNs_map _ (by decide) | exact okN_T _ (by decide) | (refine okNs_app ?_ ?_) | (with_reducible assumption))))
local macro_rules | `(tactic| walk_at "sd") => `(tactic| first | with_reducible exact trivial | with_reducible rfl | (with_reducible assumption) | ((with_reducible refine ⟨?_, ?_, ?_, ?_, ?_⟩) <;> first | (with_reducible exact trivial) | (with_reducible rfl) | (with_reducible assumption) | ((with_reducible refine (show (_ || _) = true from ?_)); rfl) | (walk_at "ok"; done)) | (walk_at "ok"; done) | omega | decide | exact Nat.le_of_ble_eq_true rfl | ((try walk_at "w"); (try simp only [smallR, smallI, sizeLine, List.length_map, List.length_append, List.length_cons, List.length_nil, List.length_replicate, List.length_range]); omega) | exact .inl rfl | exact .inr rfl | exact .inl ⟨by omega, by omega⟩ | exact .inr ⟨by omega, by omega⟩ | rfl)
local macro_rules | `(tactic| walk_at "a") => `(tactic| ((with_reducible refine And.intro ?_ ?_); focus (walk_at "sd")))
local macro_rules | `(tactic| walk_at "c") => `(tactic| ((with_reducible refine callF_intro ?_); first | refine ⟨rfl, ?_⟩ | refine ⟨_, rfl, ?_⟩ | refine ⟨_, _, rfl, ?_⟩ | refine ⟨_, _, _, rfl, ?_⟩ | refine ⟨_, _, _, _, rfl, ?_⟩ | refine ⟨_, _, _, _, _, rfl, ?_⟩ | refine ⟨_, _, _, _, _, _, rfl, ?_⟩ | refine ⟨_, rfl, .inl rfl, ?_⟩ | refine ⟨_, rfl, .inr rfl, ?_⟩ | refine ⟨_, _, rfl, .inl rfl, ?_⟩ | refine ⟨_, _, rfl, .inr rfl, ?_⟩ | refine ⟨_, _, _, rfl, .inl rfl, ?_⟩ | refine ⟨_, _, _, rfl, .inr rfl, ?_⟩ | refine ⟨_, _, _, _, rfl, .inl rfl, ?_⟩ | refine ⟨_, _, _, _, rfl, .inr rfl, ?_⟩ | refine ⟨_, _, _, _, _, rfl, .inl rfl, ?_⟩ | refine ⟨_, _, _, _, _, rfl, .inr rfl, ?_⟩))
local macro_rules | `(tactic| walk_at "nf") => `(tactic| ((((try simp only [L2.PX.eqI, L2.PX.eqB, L2.PX.eqS, L2.PX.eqT, L2.PX.eqL, L2.PX.eqTs, q_truV_1, q_truV_2, n_truI, n_eqI, n_neI, n_eqB, n_neB, n_eqS, n_neS, n_ltI, n_leI, n_gtI, n_geI, n_eqL, n_neL, n_eqTs, n_neTs, n_eqLn, n_neLn, n_eqTn, n_neTn, e_eqTn, e_eqLn, n_inL, n_inT, n_ninL, n_ninT, Bool.not_not, Bool.not_true, Bool.not_false]); rfl))))
local macro_rules | `(tactic| walk_at "i") => `(tactic| ((with_reducible refine ifB_id ?_); first | (with_reducible refine ifB_t ?_) | (with_reducible refine ifB_f ?_) | (with_reducible refine ifB_not ?_) | (with_reducible refine ifB_self (by walk_at "ok") ?_) | ((fail_if_success (with_reducible refine ifB_dc ?_ ?_)); (first | ((refine ifB_eq (k' := true) (by rfl) ?_); (with_reducible refine ifB_t ?_)) | ((refine ifB_eq (k' := false) (by rfl) ?_); (with_reducible refine ifB_f ?_)) | ((refine ifB_eq (by walk_at "nf" : _ = _) ?_); (first | (with_reducible refine ifB_t ?_) | (with_reducible refine ifB_f ?_) | (with_reducible refine ifB_not ?_) | (fail_if_success (fail_if_success (with_reducible refine ifB_dc ?_ ?_)))))))))
local macro_rules | `(tactic| walk_at "d") => `(tactic| (with_reducible refine ifB_dc ?_ ?_))
local macro_rules | `(tactic| walk_at "io") => `(tactic| first | (with_reducible refine ifB_yes rfl (by first | (with_reducible assumption) | omega) ?_) | (with_reducible refine ifB_no rfl (by first | (with_reducible assumption) | omega) ?_))
local macro_rules | `(tactic| walk_at "x") => `(tactic| first | rw [L2.PX.ints_map] | rw [L2.PX.bools_map] | rw [List.tail_cons] | rw [List.head?_cons] | rw [L2.PX.x_at0] | rw [L2.PX.x_at1] | rw [L2.PX.x_at2] | rw [L2.PX.x_at3] | rw [(by assumption : atI _ _ = some _)] | simp only [L2.PX.lendAll_cons, L2.PX.lendAll_nil] | simp only [L2.PX.slots_tup, L2.PX.slots_cons, L2.PX.slots_slot, L2.PX.slots_nil, List.cons_append, List.nil_append])
local macro_rules | `(tactic| walk_at "sb") => `(tactic| first | with_reducible refine L2.PX.sb_tup L2.PX.x_at0 ?_ | with_reducible refine L2.PX.sb_tup L2.PX.x_at1 ?_ | with_reducible refine L2.PX.sb_tup L2.PX.x_at2 ?_ | with_reducible refine L2.PX.sb_tup L2.PX.x_at3 ?_ | with_reducible refine L2.PX.sb_tup (by with_reducible assumption) ?_ | with_reducible refine L2.PX.sb_lst L2.PX.x_at0 ?_ | with_reducible refine L2.PX.sb_lst L2.PX.x_at1 ?_ | with_reducible refine L2.PX.sb_lst L2.PX.x_at2 ?_ | with_reducible refine L2.PX.sb_lst L2.PX.x_at3 ?_ | with_reducible refine L2.PX.sb_lst (by with_reducible assumption) ?_)
local macro_rules | `(tactic| walk_at "g") => `(tactic| (repeat ((try walk_at "w"); first | (walk_at "a"; (try walk_at "sb")) | walk_at "c" | walk_at "i" | walk_at "x")); (try walk_at "w"))
local macro_rules | `(tactic| walk_at "go") => `(tactic| (repeat ((try walk_at "w"); first | (walk_at "a"; (try walk_at "sb")) | walk_at "c" | walk_at "i" | walk_at "x" | walk_at "io")); (try walk_at "w"))
local macro_rules | `(tactic| walk_at "f") => `(tactic| repeat ((with_reducible refine barF ?_); walk_at "w"))
local macro_rules | `(tactic| walk_at "s") => `(tactic| ((try walk_at "f"); (with_reducible refine bar ?_); walk_at "g"; (try walk_at "f")))
local macro_rules | `(tactic| walk_at "u") => `(tactic| ((with_reducible refine unbar ?_); walk_at "g"))
local macro_rules | `(tactic| walk_at "b") => `(tactic| first | (refine barS ?_; (try walk_at "f")) | (refine barT ?_; walk_at "g"; (try walk_at "f")))
/-! ### in order, each once -/
section
variable {α : Type} [DecidableEq α] [DatumOrd α]
def adj : List α → List α → List α
  | acc, [] => acc
  | acc, x :: r => if acc.getLast? = some x then adj acc r else adj (acc ++ [x]) r
theorem adj_app : ∀ (r acc : List α) (x : α), adj acc (r ++ [x]) = if (adj acc r).getLast? = some x then adj acc r else adj acc r ++ [x]
  | [], acc, x => rfl
  | y :: r, acc, x => by
    rw [List.cons_append]
    unfold adj
    split
    · exact adj_app r acc x
    · exact adj_app r _ x
def unl (xs : List α) : List α := adj [] (srt xs)
abbrev Up (xs : List α) : Prop := xs.Pairwise fun a b => DatumOrd.lt a b = true
theorem lt_le {a b c : α} (h : DatumOrd.lt a b = true) (h2 : le b c = true) : DatumOrd.lt a c = true := by
  rcases lt_neg (b := c) h with z | z
  · exact z
  · unfold le at h2; rw [z] at h2; cases h2
theorem adj_spec : ∀ (r acc : List α), Up acc → r.Pairwise (fun a b => le a b = true) → (∀ a ∈ acc, ∀ b ∈ r, le a b = true) → Up (adj acc r) ∧ ∀ a, a ∈ adj acc r ↔ a ∈ acc ∨ a ∈ r
  | [], acc, h, _, _ => ⟨h, fun a => by simp [adj]⟩
  | x :: r, acc, h, hr, ha => by
    rw [List.pairwise_cons] at hr
    unfold adj
    split
    · rename_i e
      have hx : x ∈ acc := List.mem_of_getLast? e
      obtain ⟨h1, h2⟩ := adj_spec r acc h hr.2 (fun a h1 b h2 => ha a h1 b (List.mem_cons_of_mem _ h2))
      refine ⟨h1, fun a => ?_⟩
      rw [h2, List.mem_cons]
      exact ⟨fun z => z.imp id .inr, fun z => z.elim .inl fun z => z.elim (fun z => .inl (by rw [z]; exact hx)) .inr⟩
    · rename_i e
      have hlt : ∀ a ∈ acc, DatumOrd.lt a x = true := by
        intro a hm
        have h1 := ha a hm x List.mem_cons_self
        have ne : acc ≠ [] := fun z => by rw [z] at hm; cases hm
        have hl : acc.getLast ne ≠ x := fun z => e (by rw [List.getLast?_eq_some_getLast ne, z])
        have hl2 : DatumOrd.lt (acc.getLast ne) x = true := by
          cases q : DatumOrd.lt (acc.getLast ne) x with
          | true => rfl
          | false => exact absurd (le_antisymm (ha _ (List.getLast_mem ne) x List.mem_cons_self) (by unfold le; rw [q]; rfl)) hl
        rcases List.eq_nil_or_concat acc with z | ⟨b, l, z⟩
        · exact absurd z ne
        · subst z
          have e2 : ∀ z, (b.concat l).getLast z = l := by intro z; simp
          rw [e2] at hl2
          rw [List.concat_eq_append] at hm h
          rcases List.mem_append.mp hm with hm | hm
          · have := (List.pairwise_append.mp h).2.2 a hm l (by simp)
            exact lt_trans this hl2
          · rw [List.mem_singleton.mp hm]; exact hl2
      obtain ⟨h1, h2⟩ := adj_spec r (acc ++ [x]) (List.pairwise_append.mpr ⟨h, List.pairwise_singleton .., fun a h1 b h2 => by rw [List.mem_singleton.mp h2]; exact hlt a h1⟩) hr.2
        (fun a h1 b h2 => by
          rcases List.mem_append.mp h1 with h1 | h1
          · exact ha a h1 b (List.mem_cons_of_mem _ h2)
          · rw [List.mem_singleton.mp h1]; exact hr.1 b h2)
      refine ⟨h1, fun a => ?_⟩
      rw [h2, List.mem_append, List.mem_singleton, List.mem_cons, or_assoc]
theorem unl_up (xs : List α) : Up (unl xs) := (adj_spec _ [] .nil (srt_pair xs) (fun _ h => by cases h)).1
theorem unl_mem {xs : List α} {a : α} : a ∈ unl xs ↔ a ∈ xs := by
  unfold unl
  rw [(adj_spec _ [] .nil (srt_pair xs) (fun _ h => by cases h)).2, srt_mem]
  simp
theorem up_unique : ∀ {xs ys : List α}, Up xs → Up ys → (∀ a, a ∈ xs ↔ a ∈ ys) → xs = ys
  | [], [], _, _, _ => rfl
  | [], y :: ys, _, _, h => absurd ((h y).mpr List.mem_cons_self) (by simp)
  | x :: xs, [], _, _, h => absurd ((h x).mp List.mem_cons_self) (by simp)
  | x :: xs, y :: ys, h1, h2, h => by
    rw [Up, List.pairwise_cons] at h1 h2
    have e : x = y := by
      rcases List.mem_cons.mp ((h x).mp List.mem_cons_self) with e | hx
      · exact e
      · rcases List.mem_cons.mp ((h y).mpr List.mem_cons_self) with e | hy
        · exact e.symm
        · have a := lt_trans (h1.1 _ hy) (h2.1 _ hx)
          rw [lt_irrefl] at a; cases a
    subst e
    rw [up_unique h1.2 h2.2 fun a => ?_]
    have := h a
    rw [List.mem_cons, List.mem_cons] at this
    constructor
    · intro ha
      rcases this.mp (.inr ha) with e | hy
      · have z := h1.1 _ ha; rw [e, lt_irrefl] at z; cases z
      · exact hy
    · intro ha
      rcases this.mpr (.inr ha) with e | hy
      · have z := h2.1 _ ha; rw [e, lt_irrefl] at z; cases z
      · exact hy
theorem unl_of {xs : List α} (h : Up xs) : unl xs = xs := up_unique (unl_up xs) h fun _ => unl_mem
theorem adj_len : ∀ (r acc : List α), (adj acc r).length ≤ acc.length + r.length
  | [], acc => by simp [adj]
  | x :: r, acc => by
    unfold adj
    split
    · have := adj_len r acc; simp; omega
    · have := adj_len r (acc ++ [x]); simp at this ⊢; omega
theorem unl_len (xs : List α) : (unl xs).length ≤ xs.length := by
  have := adj_len (srt xs) []
  rw [srt_len] at this
  simpa [unl] using this
theorem up_nodup {xs : List α} (h : Up xs) : xs.Nodup := h.imp fun h e => by rw [e, lt_irrefl] at h; cases h
theorem adj_full : ∀ (r acc : List α), (adj acc r).length = acc.length + r.length → adj acc r = acc ++ r
  | [], acc, _ => by simp [adj]
  | x :: r, acc, h => by
    unfold adj at h ⊢
    split
    · rename_i e
      rw [if_pos e] at h
      have := adj_len r acc
      simp at h; omega
    · rename_i e
      rw [if_neg e] at h
      rw [adj_full r (acc ++ [x]) (by simp at h ⊢; omega)]
      simp
theorem unl_len_iff {xs : List α} : (unl xs).length = xs.length ↔ xs.Nodup := by
  constructor
  · intro h
    have e : unl xs = srt xs := by
      have := adj_full (srt xs) [] (by rw [srt_len]; simpa [unl] using h)
      simpa [unl] using this
    have := up_nodup (unl_up xs)
    rw [e] at this
    exact (srt_perm xs).nodup_iff.mp this
  · intro h
    have hn : (srt xs).Nodup := (srt_perm xs).nodup_iff.mpr h
    have hu : Up (srt xs) := by
      refine List.Pairwise.imp ?_ (List.pairwise_and_iff.mpr ⟨srt_pair xs, hn⟩)
      intro a b ⟨h1, h2⟩
      cases q : DatumOrd.lt a b with
      | true => rfl
      | false => exact absurd (le_antisymm h1 (by unfold le; rw [q]; rfl)) h2
    rw [up_unique (unl_up xs) hu fun a => by rw [unl_mem, srt_mem], srt_len]
end
@[reducible] def C_unlike : CSs := .cons (.asg (.slot 1) (.lst .nil)) (.cons (.for_ (.slot 2) (.e (.blt .sorted (.cons false (.blt .list (.cons false (.var 0) .nil)) .nil))) (.cons (.ife (.or (.v (.cmp (.var 1) .eq (.lst .nil))) (.v (.cmp (.sub (.var 1) (.neg (.lit (.int 1)))) .ne (.var 2)))) (.cons (.mut .append 1 (.cons false (.var 2) .nil)) .nil) .nil) .nil)) (.cons (.ret (.var 1)) .nil))
def sp_law_unlike : FSp := fun vls Q _ => ∃ (α : Type) (_ : DecidableEq α) (_ : DatumOrd α) (xs : List α) (x : PyData), vls = [.d x] ∧ (x = Ls xs ∨ x = Ts xs) ∧ SrtD α ∧ Datum.depth α ≤ 15 ∧ xs.length ≤ 1000000 ∧ Q (.own (Ls (unl xs)))
theorem at_lastT {α : Type} {e : α → PyData} {xs : List α} {x : α} (h : xs.getLast? = some x) : atI (xs.map e) (-1) = some (e x) := by
  rcases List.eq_nil_or_concat xs with z | ⟨b, l, z⟩
  · rw [z] at h; cases h
  · subst z
    rw [List.concat_eq_append] at h ⊢
    have : l = x := by simpa using h
    subst this
    rw [List.map_append]
    exact at_last
theorem ok_unlike {G : Gm} : Ok G C_unlike 3 sp_law_unlike := by
  intro vls Q E h
  obtain ⟨α, _, _, xs, x, rfl, hx, hs, hd, hl, q⟩ := h
  show evSs _ _ _ _ [some (.d x), none, none]
  have loop : ∀ (D : Ed) (s2 : Option Vl), (∀ s2, D.nx [some (.d x), some (.own (Ls (unl xs))), s2]) → forL (fun x D' st' => evTg G (.slot 2) (.d x) E st' fun st2 => evSs G E (.cons (.ife (.or (.v (.cmp (.var 1) .eq (.lst .nil))) (.v (.cmp (.sub (.var 1) (.neg (.lit (.int 1)))) .ne (.var 2)))) (.cons (.mut .append 1 (.cons false (.var 2) .nil)) .nil) .nil) .nil) D' st2) ((srt xs).map fun a => Datum.toD a) D [some (.d x), some (.own (.list [])), s2] := by
    intro D s2 hD
    refine for_L (fun pre st => ∃ s2, st = [some (.d x), some (.own (Ls (adj [] pre))), s2]) ⟨_, rfl⟩ (fun pre y post K st hf hK hi => ?_) (fun st' ⟨s2, e⟩ => by subst e; exact hD s2)
    obtain ⟨s2, rfl⟩ := hi
    have hlen : (adj ([] : List α) pre).length ≤ 1000000 := by
      have h1 := adj_len pre ([] : List α)
      have h2 := congrArg List.length hf
      rw [srt_len] at h2
      simp at h1 h2
      omega
    have e := adj_app pre [] y
    have okA := okLs (adj ([] : List α) pre) (by omega)
    have okY : okD (Datum.toD y) := okT y (by omega)
    walk_at "g"
    refine ifB_dc (fun h => ?_) (fun h => ?_)
    · walk_at "g"
      refine hK _ ⟨some (.d (Datum.toD y)), ?_⟩
      rw [e, if_neg (by rw [h]; simp), Ls_app]
      rfl
    · walk_at "g"
      obtain ⟨l, hlast⟩ : ∃ l, (adj ([] : List α) pre).getLast? = some l := ⟨_, List.getLast?_eq_some_getLast h⟩
      rw [at_lastT hlast]
      have okl : okD (Datum.toD l) := okT l (by omega)
      walk_at "g"
      refine ifB_dc (fun h2 => ?_) (fun h2 => ?_)
      · walk_at "g"
        refine hK _ ⟨some (.d (Datum.toD y)), ?_⟩
        rw [e, if_pos (by rw [hlast, h2])]
      · walk_at "g"
        refine hK _ ⟨some (.d (Datum.toD y)), ?_⟩
        rw [e, if_neg (by rw [hlast]; intro z; exact h2 (Option.some.inj z)), Ls_app]
        rfl
  rcases hx with rfl | rfl
  all_goals
    walk_at "b"
    walk_at "s"
    walk_at "s"
    refine ⟨okLs xs (by omega), alike_T xs, srt_T hs xs, ?_⟩
    rw [srt_map]
    walk_at "g"
    exact loop _ _ fun s2 => q
/-! ### checks of rows -/
def fstBad (good : PyData → Bool) : List PyData → Option Nat
  | [] => none
  | d :: r => if good d then (fstBad good r).map (· + 1) else some 0
theorem fstBad_good {good : PyData → Bool} : ∀ {ds : List PyData}, (∀ d ∈ ds, good d = true) → fstBad good ds = none
  | [], _ => rfl
  | d :: r, h => by
    unfold fstBad
    rw [if_pos (h d List.mem_cons_self), fstBad_good fun e he => h e (List.mem_cons_of_mem _ he)]
    rfl
theorem fstBad_at {good : PyData → Bool} {d : PyData} {r : List PyData} (hd : good d = false) : ∀ {ds : List PyData}, (∀ d ∈ ds, good d = true) → fstBad good (ds ++ d :: r) = some ds.length
  | [], _ => by
    show (if good d then _ else some 0) = _
    rw [if_neg (by rw [hd]; exact fun z => by cases z)]; rfl
  | e :: ds, h => by
    rw [List.cons_append]
    unfold fstBad
    rw [if_pos (h e List.mem_cons_self), fstBad_at hd fun e he => h e (List.mem_cons_of_mem _ he)]
    rfl
@[reducible] def itemsOf : PyData → Option (List PyData)
  | .list ds => some ds
  | .tuple ds => some ds
  | _ => none
/-- where a row is refused: -1 where it is none or of a wrong length -/
def chk (good : PyData → Bool) (lo hi : Int) (x : PyData) : Option Int := match itemsOf x with
  | some ds => if lo ≤ (ds.length : Int) ∧ (ds.length : Int) ≤ hi then (fstBad good ds).map fun n => (n : Int) else some (-1)
  | none => some (-1)
/-- no dict, none among the items -/
def nd1 (x : PyData) : Prop := ndP x ∧ ∀ ds, itemsOf x = some ds → ∀ d ∈ ds, ndP d
theorem nd1_T {α : Type} [DecidableEq α] [Datum α] (xs : List α) : (∀ a : α, ndP (Datum.toD a)) → nd1 (Ls xs) ∧ nd1 (Ts xs) := fun h => by
  constructor
  all_goals
    refine ⟨trivial, fun ds e d hd => ?_⟩
    cases e
    obtain ⟨a, _, rfl⟩ := List.mem_map.mp hd
    exact h a
def spChk (c : Nat) (good : PyData → Bool) (lo hi : Int) : FSp := fun vls Q E => ∃ x, vls = [.d x] ∧ nd1 x ∧ (chk good lo hi x = none → Q (.d .none)) ∧ (∀ k, chk good lo hi x = some k → E ⟨c, .int k⟩)
/-- an int that stands there, or in a name -/
@[reducible] def kc : Option Str → Int → CE
  | none, n => .lit (.int n)
  | some s, n => .gc s (.int n)
@[reducible] def C_chkInts (iw ir cls : Nat) (lo hi least most : CE) : CSs :=
  .cons (.ife (.or (.not (.v (.call ir (.cons false (.var 0) .nil)))) (.not (.v (.cmp2 lo .le (.blt .len (.cons false (.var 0) .nil)) .le hi)))) (.cons (.raise_ cls (.neg (.lit (.int 1)))) .nil) .nil)
  (.cons (.for_ (.tup (.cons (.slot 1) (.cons (.slot 2) .nil))) (.enum (.var 0) 0) (.cons (.ife (.not (.v (.call iw (.cons false (.var 2) (.cons false least (.cons false most .nil)))))) (.cons (.raise_ cls (.var 1)) .nil) .nil) .nil)) .nil)
theorem chk_loop {G : Gm} {E : Exn → Prop} {cls : Nat} {good : PyData → Bool} {x : PyData} {body : PyData → Ed → Sl → Prop} {D : Ed} : ∀ (ds : List PyData) (k : Int) (s1 s2 : Option Vl),
    (∀ (d : PyData) (k : Int) (N B : Sl → Prop) (s1 s2 : Option Vl), d ∈ ds → (good d = true → N [some (.d x), some (.d (.int k)), some (.d d)]) → (good d = false → E ⟨cls, .int k⟩) → body (.tuple [.int k, d]) ⟨N, D.rt, D.nx, N⟩ [some (.d x), s1, s2]) →
    (fstBad good ds = none → ∀ s1 s2, D.nx [some (.d x), s1, s2]) → (∀ n, fstBad good ds = some n → E ⟨cls, .int (k + n)⟩) → forL body (enumD k ds) D [some (.d x), s1, s2]
  | [], k, s1, s2, _, h1, _ => h1 rfl s1 s2
  | d :: r, k, s1, s2, hb, h1, h2 => by
    unfold fstBad at h1 h2
    refine hb d k (fun st' => forL body (enumD (k + 1) r) D st') D.nx s1 s2 List.mem_cons_self (fun g => ?_) (fun g => ?_)
    · rw [if_pos g] at h1 h2
      refine chk_loop (E := E) (cls := cls) (G := G) (good := good) r (k + 1) _ _ (fun d k N B s1 s2 hd => hb d k N B s1 s2 (List.mem_cons_of_mem _ hd)) (fun e => h1 (by rw [e]; rfl)) (fun n e => ?_)
      have := h2 (n + 1) (by rw [e]; rfl)
      rw [show k + 1 + (n : Int) = k + ((n + 1 : Nat) : Int) by omega]
      exact this
    · rw [if_neg (by rw [g]; exact fun z => by cases z)] at h2
      have := h2 0 rfl
      rwa [show k + ((0 : Nat) : Int) = k by omega] at this
theorem evE_kc {G : Gm} {o : Option Str} {n : Int} {EX : Exn → Prop} {st : Sl} {Q : Vl → Sl → Prop} : evE G (kc o n) EX st Q = Q (.d (.int n)) st := by cases o <;> rfl
theorem bw_kc {G : Gm} {o : Option Str} {n : Int} {EX : Exn → Prop} {st : Sl} {Q : PyData → Sl → Prop} : bw (kc o n) (evE G (kc o n) EX) st Q = Q (.int n) st := by cases o <;> rfl
theorem stab_kc {o : Option Str} {n : Int} {st st' : Sl} : stab (kc o n) st st' = True := by cases o <;> rfl
theorem ok_chkInts {G : Gm} {iw ir cls : Nat} {o1 o2 o3 o4 : Option Str} {lo hi least most : Int} (hw : G.fs iw = sp_is_within) (hr : G.fs ir = sp_is_row) : Ok G (C_chkInts iw ir cls (kc o1 lo) (kc o2 hi) (kc o3 least) (kc o4 most)) 3 (spChk cls (fun d => isW d least most) lo hi) := by
  intro vls Q E h
  obtain ⟨x, rfl, ⟨hx, hd⟩, h1, h2⟩ := h
  show evSs _ _ _ _ [some (.d x), none, none]
  walk_at "b"
  refine bar ?_
  walk_at "w"
  unfold callF
  rw [hr]
  refine ⟨x, rfl, hx, ?_⟩
  have body : ∀ (ds : List PyData) (D : Ed), itemsOf x = some ds → (fstBad (fun d => isW d least most) ds = none → ∀ s1 s2, D.nx [some (.d x), s1, s2]) → (∀ n, fstBad (fun d => isW d least most) ds = some n → E ⟨cls, .int ((0 : Int) + n)⟩) →
      forL (fun x D' st' => evTg G (.tup (.cons (.slot 1) (.cons (.slot 2) .nil))) (.d x) E st' fun st2 => evSs G E (.cons (.ife (.not (.v (.call iw (.cons false (.var 2) (.cons false (kc o3 least) (.cons false (kc o4 most) .nil)))))) (.cons (.raise_ cls (.var 1)) .nil) .nil) .nil) D' st2) (enumD 0 ds) D [some (.d x), none, none] := fun ds D hi h1 h2 => by
    refine chk_loop (E := E) (cls := cls) (G := G) (good := fun d => isW d least most) ds 0 none none (fun d k N B s1 s2 hm g1 g2 => ?_) h1 h2
    walk_at "g"
    cases o3 <;> cases o4
    all_goals
      walk_at "g"
      unfold callF
      rw [hw]
      refine ⟨d, least, most, rfl, hd ds hi d hm, ?_⟩
      cases q : isW d least most with
      | true =>
        walk_at "g"
        exact g1 q
      | false =>
        walk_at "g"
        exact g2 q
  have two : ∀ ds, itemsOf x = some ds → (lo ≤ (ds.length : Int) ∧ (ds.length : Int) ≤ hi) → (fstBad (fun d => isW d least most) ds = none → Q (.d .none)) ∧ (∀ n, fstBad (fun d => isW d least most) ds = some n → E ⟨cls, .int ((0 : Int) + n)⟩) := fun ds e hl => by
    unfold chk at h1 h2
    rw [e] at h1 h2
    dsimp only at h1 h2
    rw [if_pos hl] at h1 h2
    refine ⟨fun z => h1 (by rw [z]; rfl), fun n z => ?_⟩
    have := h2 n (by rw [z]; rfl)
    rwa [Int.zero_add]
  have bad : ∀ ds, itemsOf x = some ds → ¬ (lo ≤ (ds.length : Int) ∧ (ds.length : Int) ≤ hi) → E ⟨cls, .int (-1)⟩ := fun ds e hl => by
    refine h2 _ ?_
    unfold chk
    rw [e]
    exact if_neg hl
  have none_ : itemsOf x = none → E ⟨cls, .int (-1)⟩ := fun e => h2 _ (by unfold chk; rw [e])
  cases x with
  | list ds =>
    cases o1 <;> cases o2
    all_goals
      walk_at "g"
      refine ifB_dc (fun a => ?_) (fun a => ?_)
      · walk_at "g"
        refine ifB_dc (fun b => ?_) (fun b => ?_)
        · walk_at "g"
          exact body ds _ rfl (fun z s1 s2 => (two ds rfl ⟨a, b⟩).1 z) (two ds rfl ⟨a, b⟩).2
        · walk_at "g"
          exact bad ds rfl fun z => b z.2
      · walk_at "g"
        exact bad ds rfl fun z => a z.1
  | tuple ds =>
    cases o1 <;> cases o2
    all_goals
      walk_at "g"
      refine ifB_dc (fun a => ?_) (fun a => ?_)
      · walk_at "g"
        refine ifB_dc (fun b => ?_) (fun b => ?_)
        · walk_at "g"
          exact body ds _ rfl (fun z s1 s2 => (two ds rfl ⟨a, b⟩).1 z) (two ds rfl ⟨a, b⟩).2
        · walk_at "g"
          exact bad ds rfl fun z => b z.2
      · walk_at "g"
        exact bad ds rfl fun z => a z.1
  | none => walk_at "g"; exact none_ rfl
  | bool _ => walk_at "g"; exact none_ rfl
  | int _ => walk_at "g"; exact none_ rfl
  | str _ => walk_at "g"; exact none_ rfl
  | dict _ => exact hx.elim
end PX
end L2
/-! Shared: subsets. -/
namespace L2
namespace PX
open PySem PySem.Spec PyProof.Rows PySem.W
local macro_rules | `(tactic| walk_at "w") => `(tactic| with_reducible conv => whnf)
local macro_rules | `(tactic| walk_at "ok") => `(tactic| ((try walk_at "w"); repeat' (first | (with_reducible refine And.intro ?_ ?_) | (with_reducible assumption) | exact L2.PX.okI _ | exact L2.PX.okB _ | exact L2.PX.okNone | exact L2.PX.okS _ | (with_reducible refine L2.PX.okN_of ?_) | exact okN_int | exact okN_non | exact okN_bool | exact okN_str | refine okN_tup ?_ | refine okN_lst ?_ | exact okNs_nil | refine okNs_cons ?_ ?_ | exact okNs_map _ (by decide) | exact okN_T _ (by decide) | (refine okNs_app ?_ ?_) | (with_reducible assumption))))
local macro_rules | `(tactic| walk_at "sd") => `(tactic| first | with_reducible exact trivial | with_reducible rfl | (with_reducible assumption) | ((with_reducible refine ⟨?_, ?_, ?_, ?_, ?_⟩) <;> first | (with_reducible exact trivial) | (with_reducible rfl) | (with_reducible assumption) | ((with_reducible refine (show (_ || _) = true from ?_)); rfl) | (walk_at "ok"; done)) | (walk_at "ok"; done) | omega | decide | exact Nat.le_of_ble_eq_true rfl | ((try walk_at "w"); (try simp only [smallR, smallI, sizeLine, List.length_map, List.length_append, List.length_cons, List.length_nil, List.length_replicate, List.length_range]); omega) | exact .inl rfl | exact .inr rfl | exact .inl ⟨by omega, by omega⟩ | exact .inr ⟨by omega, by omega⟩ | rfl)
local macro_rules | `(tactic| walk_at "a") => `(tactic| ((with_reducible refine And.intro ?_ ?_); focus (walk_at "sd")))
local macro_rules | `(tactic| walk_at "c") => `(tactic| ((with_reducible refine callF_intro ?_); first | refine ⟨rfl, ?_⟩ | refine ⟨_, rfl, ?_⟩ | refine ⟨_, _, rfl, ?_⟩ | refine ⟨_, _, _, rfl, ?_⟩ | refine ⟨_, _, _, _, rfl, ?_⟩ | refine ⟨_, _, _, _, _, rfl, ?_⟩ | refine ⟨_, _, _, _, _, _, rfl, ?_⟩ | refine ⟨_, rfl, .inl rfl, ?_⟩ | refine ⟨_, rfl, .inr rfl, ?_⟩ | refine ⟨_, _, rfl, .inl rfl, ?_⟩ | refine ⟨_, _, rfl, .inr rfl, ?_⟩ | refine ⟨_, _, _, rfl, .inl rfl, ?_⟩ | refine ⟨_, _, _, rfl, .inr rfl, ?_⟩ | refine ⟨_, _, _, _, rfl, .inl rfl, ?_⟩ | refine ⟨_, _, _, _, rfl, .inr rfl, ?_⟩ | refine ⟨_, _, _, _, _, rfl, .inl rfl, ?_⟩ | refine ⟨_, _, _, _, _, rfl, .inr rfl, ?_⟩))
local macro_rules | `(tactic| walk_at "nf") => `(tactic| ((((try simp only [L2.PX.eqI, L2.PX.eqB, L2.PX.eqS, L2.PX.eqT, L2.PX.eqL, L2.PX.eqTs, q_truV_1, q_truV_2, n_truI, n_eqI, n_neI, n_eqB, n_neB, n_eqS, n_neS, n_ltI, n_leI, n_gtI, n_geI, n_eqL, n_neL, n_eqTs, n_neTs, n_eqLn, n_neLn, n_eqTn, n_neTn, e_eqTn, e_eqLn, n_inL, n_inT, n_ninL, n_ninT, Bool.not_not, Bool.not_true, Bool.not_false]); rfl))))
local macro_rules | `(tactic| walk_at "i") => `(tactic| ((with_reducible refine ifB_id ?_); first | (with_reducible refine ifB_t ?_) | (with_reducible refine ifB_f ?_) | (with_reducible refine ifB_not ?_) | (with_reducible refine ifB_self (by walk_at "ok") ?_) | ((fail_if_success (with_reducible refine ifB_dc ?_ ?_)); (first | ((refine ifB_eq (k' := true) (by rfl) ?_); (with_reducible refine ifB_t ?_)) | ((refine ifB_eq (k' := false) (by rfl) ?_); (with_reducible refine ifB_f ?_)) | ((refine ifB_eq (by walk_at "nf" : _ = _) ?_); (first | (with_reducible refine ifB_t ?_) | (with_reducible refine ifB_f ?_) | (with_reducible refine ifB_not ?_) | (fail_if_success (fail_if_success (with_reducible refine ifB_dc ?_ ?_)))))))))
local macro_rules | `(tactic| walk_at "d") => `(tactic| (with_reducible refine ifB_dc ?_ ?_))
local macro_rules | `(tactic| walk_at "io") => `(tactic| first | (with_reducible refine ifB_yes rfl (by first | (with_reducible assumption) | omega) ?_) | (with_reducible refine ifB_no rfl (by first | (with_reducible assumption) | omega) ?_))
local macro_rules | `(tactic| walk_at "x") => `(tactic| first | rw [L2.PX.ints_map] | rw [L2.PX.bools_map] | rw [List.tail_cons] | rw [List.head?_cons] | rw [L2.PX.x_at0] | rw [L2.PX.x_at1] | rw [L2.PX.x_at2] | rw [L2.PX.x_at3] | rw [(by assumption : atI _ _ = some _)] | simp only [L2.PX.lendAll_cons, L2.PX.lendAll_nil] | simp only [L2.PX.slots_tup, L2.PX.slots_cons, L2.PX.slots_slot, L2.PX.slots_nil, List.cons_append, List.nil_append])
local macro_rules | `(tactic| walk_at "sb") => `(tactic| first | with_reducible refine L2.PX.sb_tup L2.PX.x_at0 ?_ | with_reducible refine L2.PX.sb_tup L2.PX.x_at1 ?_ | with_reducible refine L2.PX.sb_tup L2.PX.x_at2 ?_ | with_reducible refine L2.PX.sb_tup L2.PX.x_at3 ?_ | with_reducible refine L2.PX.sb_tup (by with_reducible assumption) ?_ | with_reducible refine L2.PX.sb_lst L2.PX.x_at0 ?_ | with_reducible refine L2.PX.sb_lst L2.PX.x_at1 ?_ | with_reducible refine L2.PX.sb_lst L2.PX.x_at2 ?_ | with_reducible refine L2.PX.sb_lst L2.PX.x_at3 ?_ | with_reducible refine L2.PX.sb_lst (by with_reducible assumption) ?_)
local macro_rules | `(tactic| walk_at "g") => `(tactic| (repeat ((try walk_at "w"); first | (walk_at "a"; (try walk_at "sb")) | walk_at "c" | walk_at "i" | walk_at "x")); (try walk_at "w"))
local macro_rules | `(tactic| walk_at "go") => `(tactic| (repeat ((try walk_at "w"); first | (walk_at "a"; (try walk_at "sb")) | walk_at "c" | walk_at "i" | walk_at "x" | walk_at "io")); (try walk_at "w"))
local macro_rules | `(tactic| walk_at "f") => `(tactic| repeat ((with_reducible refine barF ?_); walk_at "w"))
local macro_rules | `(tactic| walk_at "s") => `(tactic| ((try walk_at "f"); (with_reducible refine bar ?_); walk_at "g"; (try walk_at "f")))
local macro_rules | `(tactic| walk_at "u") => `(tactic| ((with_reducible refine unbar ?_); walk_at "g"))
local macro_rules | `(tactic| walk_at "b") => `(tactic| first | (refine barS ?_; (try walk_at "f")) | (refine barT ?_; walk_at "g"; (try walk_at "f")))
section
variable {G : Gm}
/-- all sets of numbers below n, in the order of their making -/
def subs : Nat → List (Tup Int)
  | 0 => [⟨[]⟩]
  | k + 1 => subs k ++ (subs k).map fun o => ⟨o.items ++ [(k : Int)]⟩
theorem subs_lenEq : ∀ n, (subs n).length = 2 ^ n
  | 0 => rfl
  | k + 1 => by
    have ih := subs_lenEq k
    unfold subs
    rw [List.length_append, List.length_map, ih, Nat.pow_succ]
    omega
theorem subs_items : ∀ n, ∀ o ∈ subs n, o.items.length ≤ n
  | 0, o, h => by rw [show o = ⟨[]⟩ from List.mem_singleton.mp h]; exact Nat.le_refl _
  | k + 1, o, h => by
    unfold subs at h
    rcases List.mem_append.mp h with h | h
    · exact Nat.le_succ_of_le (subs_items k o h)
    · obtain ⟨p, hp, rfl⟩ := List.mem_map.mp h
      have := subs_items k p hp
      rw [List.length_append, List.length_singleton]
      omega
/-- by size and order -/
def subsS (n : Nat) : List (Tup Int) := (srt ((subs n).map fun o => ((o.items.length : Int), o))).map (·.2)
theorem subsS_perm (n : Nat) : (subsS n).Perm (subs n) := by
  have h := (srt_perm ((subs n).map fun o => ((o.items.length : Int), o))).map (·.2)
  rw [List.map_map, show ((·.2) ∘ fun o : Tup Int => ((o.items.length : Int), o)) = id from rfl, List.map_id] at h
  exact h
@[reducible] def C_subsets_b1_s1 : CSs := .cons (.asg (.slot 1) (.bin .add (.var 1) (.comp (.bin .add (.var 4) (.tup (.cons false (.var 2) .nil))) (.slot 4) (.e (.var 1)) .no))) .nil
@[reducible] def C_subsets_b1 : CSs := .cons (.frz 2) C_subsets_b1_s1
@[reducible] def C_subsets_s2 : CSs := .cons (.ret (.comp (.var 4) (.tup (.cons (.slot 3) (.cons (.slot 4) .nil))) (.e (.blt .sorted (.cons false (.comp (.tup (.cons false (.blt .len (.cons false (.var 4) .nil)) (.cons false (.var 4) .nil))) (.slot 4) (.e (.var 1)) .no) .nil))) .no)) .nil
@[reducible] def C_subsets_s1 : CSs := .cons (.for_ (.slot 2) (.rng1 (.var 0)) C_subsets_b1) C_subsets_s2
@[reducible] def C_subsets : CSs := .cons (.asg (.slot 1) (.lst (.cons false (.tup .nil) .nil))) C_subsets_s1
def sp_law_subsets : FSp := fun vls Q _ => ∃ n : Nat, vls = [.d (.int n)] ∧ n ≤ 16 ∧ Q (.own (Ls (subsS n)))
theorem ok_subsets : Ok G C_subsets 5 sp_law_subsets := by
  intro vls Q E h
  obtain ⟨n, rfl, hn, q⟩ := h
  show evSs _ _ _ _ [some (.d (.int n)), none, none, none, none]
  walk_at "b"
  walk_at "s"
  walk_at "s"
  refine for_upto (fun k st => ∃ x2, st = [some (.d (.int n)), some (.own (Ls (subs k))), x2, none, none]) ?_ ?_ ?_
  · exact ⟨_, rfl⟩
  · rintro k K st hk hK ⟨x2, rfl⟩
    have hl := subs_lenEq k
    have hp : 2 ^ k ≤ 2 ^ 16 := Nat.pow_le_pow_right (by decide) (by omega)
    walk_at "b"
    walk_at "s"
    refine comp_allT (e := fun o : Tup Int => Datum.toD o) (fun o : Tup Int => (⟨o.items ++ [(k : Int)]⟩ : Tup Int)) (fun o ho acc k' hk' => ?_) ?_
    · have hi := subs_items k o ho
      have hi2 : ((o.items.map fun a => Datum.toD a) ++ [PyData.int (k : Int)]).length ≤ sizeLine := by
        rw [List.length_append, List.length_map, List.length_singleton]; unfold sizeLine; omega
      show evTg _ _ (.d (.tuple (o.items.map fun a => Datum.toD a))) _ _ _
      walk_at "g"
      rw [show Datum.toD (⟨o.items ++ [(k : Int)]⟩ : Tup Int) = .tuple ((o.items.map fun a => Datum.toD a) ++ [.int (k : Int)]) from Ts_app _ _] at hk'
      exact hk'
    · walk_at "g"
      exact hK _ ⟨_, by rw [show subs (k + 1) = subs k ++ (subs k).map fun o => (⟨o.items ++ [(k : Int)]⟩ : Tup Int) from rfl, Ls_app]⟩
  · rintro st ⟨x2, rfl⟩
    have hl := subs_lenEq n
    have hp : 2 ^ n ≤ 2 ^ 16 := Nat.pow_le_pow_right (by decide) hn
    walk_at "s"
    refine comp_allT (e := fun o : Tup Int => Datum.toD o) (fun o : Tup Int => ((o.items.length : Int), o)) (fun o ho acc k' hk' => ?_) ?_
    · have hi := subs_items n o ho
      show evTg _ _ (.d (.tuple (o.items.map fun a => Datum.toD a))) _ _ _
      walk_at "g"
      rw [List.length_map]
      exact hk'
    · walk_at "g"
      refine ⟨alike_T _, srt_T (α := Int × Tup Int) srtP _, ?_⟩
      rw [srt_map (α := Int × Tup Int)]
      walk_at "g"
      refine comp_allT (e := fun o : Int × Tup Int => Datum.toD o) (fun o : Int × Tup Int => o.2) (fun o ho acc k' hk' => ?_) ?_
      · show evTg _ _ (.d (.tuple [.int o.1, Datum.toD o.2])) _ _ _
        walk_at "g"
        exact hk'
      · walk_at "g"
        exact q
end
end PX
end L2
/-! More syntax: pop, a = b = e, chains of three, list(range), zip, index. -/
namespace L2
namespace PX
open PySem PySem.Spec PyProof.Rows
section
variable {L : Lw} {E0 : En} {G : Gm} {EX : Exn → Prop} {X : Cx} {k : Nat} {c c2 c3 c4 : CE} {e e2 e3 e4 tg : Expr} {st st' st1 st2 : Sl} {σ : L2.St} {S S' S1 S2 H H' H1 H2 : Hp} {v : V} {x y : PyData} {vl : Vl} {pos : Pos}
/-- a slot's own list changes: from there to here -/
theorem Go.mut {i : Nat} {a : Addr} {o o' : HO} {ds es : List PyData} (I : SI L E0 st σ S H) (h : gs st i = some (.own (.list ds))) (hv : σ[i]? = some (some (.ref a))) (ho : H a = some o) (no : notTbl o) (no' : notTbl o') :
    Go L st σ S H (ss st i (some (.own (.list es)))) S (upd H a o') := by
  have h' := gs_get.mp h
  refine ⟨.refl S, fun b u hb n r t => ?_, fun j z hj => ?_, fun b nb hb => ?_, fun b _ hs _ => hs⟩
  · have ne : b ≠ a := fun z => n ⟨i, _, h', by rw [hv, z]⟩
    rw [upd_ne ne]; exact hb
  · rcases ss_get hj with ⟨rfl, e⟩ | ⟨_, e⟩
    · cases e; exact ⟨_, h', rfl⟩
    · exact ⟨z, e, rfl⟩
  · obtain ⟨u, h1, h2⟩ := hb
    by_cases z : b = a
    · subst z; exact nb ⟨o', upd_same, no'⟩
    · exact nb ⟨u, by rw [upd_ne z]; exact h1, h2⟩
theorem RpAll.dropLast {K : PySem.W.Frag} {vs : List V} {ds : List PyData} (r : RpAll K S vs ds) : RpAll K S vs.dropLast ds.dropLast := by
  rw [List.dropLast_eq_take, List.dropLast_eq_take, r.length]
  exact r.take _
theorem je_pop {i : Nat} {n : Str} {p apos cpos : Pos} (hN : X.N[i]? = some n) (hv : Vis X.env.scope n) (hd : (n == ("__debug__" : Str)) = false) (hcd : (n == ("__classdict__" : Str)) = false)
    (hbase : attributeBase (.Name n p) "pop" X.env (eval (.Name n p) X.env) = eval (.Name n p) X.env) (hline : (apos.endLine == cpos.line) = true) : JE L E0 G EX X (.Call (.Attribute (.Name n p) "pop" apos) [] [] cpos) (.pop i .nil) :=
  JE.of ((pe_bm0 PySem.F.plainAttrs_list PySem.F.slot_list_pop PySem.F.type_list_pop mt_pop (pe_var hN hv hd hcd) hbase hline).weak fun σ H Q ⟨st, S, Q', I, ev, kk⟩ => by
    have ev : asL (gs st i) fun ds => ex ds.getLast? fun x => Q' (.d x) (ss st i (some (.own (.list ds.dropLast)))) := ev
    obtain ⟨ds, h0, ev1⟩ := asL_at ev
    obtain ⟨x, hx, q⟩ := ex_at ev1
    obtain ⟨w, hw, a, o, e0, ha0, hs, he, hr, vs, eo, rv⟩ := I.at_ i _ (gs_get.mp h0)
    subst e0 eo
    rw [List.getLast?_eq_getElem?] at hx
    obtain ⟨u, hu, ru⟩ := rv.get hx
    rw [← rv.length] at hu
    refine ⟨_, hw, .inl ⟨rfl, vs, SqL.of ha0⟩, a, vs, u, rfl, rfl, ha0, hu, ?_⟩
    exact kk u _ _ S _ (I.mut (y := .list ds.dropLast) h0 hw ha0 ⟨vs, rfl, rv⟩ ⟨_, rfl, rv.dropLast⟩) (Go.mut I h0 hw ha0 (fun _ z => by cases z) (fun _ z => by cases z)) (.d ru) q) (fun _ z => by cases z)
theorem je_popAt {i : Nat} {n : Str} {p apos cpos : Pos} (hN : X.N[i]? = some n) (hv : Vis X.env.scope n) (hd : (n == ("__debug__" : Str)) = false) (hcd : (n == ("__classdict__" : Str)) = false) (ha : JE L E0 G EX X e c) (hs : noStar e = true) (hline : (apos.endLine == cpos.line) = true)
    (hbase : attributeBase (.Name n p) "pop" X.env (eval (.Name n p) X.env) = eval (.Name n p) X.env)
    (hfew : ((backTo cpos (starEach [e] X.env)).all (fun x => !x.1) && (backToKw cpos (keywordEach [] X.env)).all (fun x => x.1.isSome) && decide (([e] : List Expr).length + ([] : List Keyword).length + (if ([] : List Keyword).isEmpty then 0 else 1) < 30)) = true) :
    JE L E0 G EX X (.Call (.Attribute (.Name n p) "pop" apos) [e] [] cpos) (.pop i (.cons false c .nil)) :=
  JE.of ((pe_bm PySem.F.plainAttrs_list PySem.F.slot_list_pop PySem.F.type_list_pop mt_popAt (pe_var hN hv hd hcd) (pa_cons ha.b pa_nil (starEach_no hs)) hbase hfew hline (starEach_no hs) (star_no rfl)).weak fun σ H Q ⟨st, S, Q', I, ev, kk⟩ => by
    have ev : asL (gs st i) fun _ => bw c (evE G c EX) st fun k st1 => asI k fun n => smallR n ∧ asL (gs st1 i) fun ds => ex (ixN ds.length n) fun j => ex ds[j]? fun x => Q' (.d x) (ss st1 i (some (.own (.list (ds.eraseIdx j))))) := ev
    obtain ⟨ds0, h0, ev1⟩ := asL_at ev
    obtain ⟨w, hw, a, o, e0, ha0, hs, he, hr, vs0, eo, rv0⟩ := I.at_ i _ (gs_get.mp h0)
    subst e0 eo
    refine ⟨_, hw, .inl ⟨rfl, vs0, SqL.of ha0⟩, st, S, _, I, ev1, fun v1 H1 st1 S1 x1 I1 g1 r1 q1 => ?_⟩
    obtain ⟨m, ei, hsm, q2⟩ := asI_at q1
    subst ei
    obtain ⟨ds, h1, q3⟩ := asL_at q2
    obtain ⟨j, hj, q4⟩ := ex_at q3
    obtain ⟨x, hx, q⟩ := ex_at q4
    obtain ⟨w2, hw2, a2, o2, e2, ha2, hs2, he2, hr2, vs, eo, rv⟩ := I1.at_ i _ (gs_get.mp h1)
    rw [hw] at hw2; cases hw2; cases e2
    subst eo
    obtain ⟨u, hu, ru⟩ := rv.get hx
    obtain ⟨z1, z2, z3, z4⟩ := ixN_seq hj
    refine ⟨a, vs, m, j, u, rfl, by rw [(r1.now I1).int], ha2, by unfold smallR at hsm; omega, by unfold smallR at hsm; omega, by rw [rv.length]; exact z1, hu, ?_⟩
    exact kk u _ _ S1 _ (I1.mut (y := .list (ds.eraseIdx j)) h1 hw ha2 ⟨vs, rfl, rv⟩ ⟨_, rfl, rv.eraseIdx j⟩) (g1.trans (Go.mut I1 h1 hw ha2 (fun _ z => by cases z) (fun _ z => by cases z))) (.d ru) q) (fun _ z => by cases z)
/-! ### a = b = e -/
theorem VT.asV {Q : PyData → Prop} (r : VT L E0 st σ S H vl v) (h : asV vl Q) : ∃ x, Rp L.K S v x ∧ Q x := by
  cases vl with
  | d x => exact ⟨x, r.val, h⟩
  | own x => exact h.elim
  | lent x => exact h.elim
  | row => exact h.elim
  | fn n => exact h.elim
theorem js_asg2 {t u : CT} {tg2 : Expr} (ha : PE X e (tD L E0 (evE G c EX))) (h1 : PG X tg (tG L E0 (CT.slots t) fun vl st Q => evTg G t vl EX st Q)) (h2 : PG X tg2 (tG L E0 (CT.slots u) fun vl st Q => evTg G u vl EX st Q))
    (hm : (assignEach [tg, tg2] X.env).map (·.2) = [assign tg X.env, assign tg2 X.env]) (hw : swappedStores [tg, tg2] e X.env = pure none) : PS X (.Assign [tg, tg2] e pos) (tSt L E0 (evS G EX (.asg2 t u c))) :=
  (ps_asg2 ha h1 h2 hm hw).weak fun D σ H ⟨st, S, D', I, ev, E⟩ => by
    have ev : evE G c EX st fun vl st1 => asV vl fun x => evTg G t (.d x) EX st1 fun st2 => evTg G u (.d x) EX st2 D'.nx := ev
    refine ⟨st, S, _, I, ev, fun v H1 st1 S1 vl I1 g1 r1 q1 => ?_⟩
    obtain ⟨x, rx, q2⟩ := r1.vt.asV q1
    refine ⟨st1, S1, .d x, _, I1, .d rx, q2, fun σ2 H2 st2 S2 I2 m2 _ q3 => ?_⟩
    exact ⟨st2, S2, .d x, _, I2, .d (rx.mono m2), q3, fun σ3 H3 st3 S3 I3 m3 _ q4 => E.nx _ _ _ _ I3 ((g1.mono.trans m2).trans m3) q4⟩
theorem js_asg3 {t u w : CT} {tg2 tg3 : Expr} (ha : PE X e (tD L E0 (evE G c EX))) (h1 : PG X tg (tG L E0 (CT.slots t) fun vl st Q => evTg G t vl EX st Q)) (h2 : PG X tg2 (tG L E0 (CT.slots u) fun vl st Q => evTg G u vl EX st Q)) (h3 : PG X tg3 (tG L E0 (CT.slots w) fun vl st Q => evTg G w vl EX st Q))
    (hm : (assignEach [tg, tg2, tg3] X.env).map (·.2) = [assign tg X.env, assign tg2 X.env, assign tg3 X.env]) (hw : swappedStores [tg, tg2, tg3] e X.env = pure none) : PS X (.Assign [tg, tg2, tg3] e pos) (tSt L E0 (evS G EX (.asg3 t u w c))) :=
  (ps_asg3 ha h1 h2 h3 hm hw).weak fun D σ H ⟨st, S, D', I, ev, E⟩ => by
    have ev : evE G c EX st fun vl st1 => asV vl fun x => evTg G t (.d x) EX st1 fun st2 => evTg G u (.d x) EX st2 fun st3 => evTg G w (.d x) EX st3 D'.nx := ev
    refine ⟨st, S, _, I, ev, fun v H1 st1 S1 vl I1 g1 r1 q1 => ?_⟩
    obtain ⟨x, rx, q2⟩ := r1.vt.asV q1
    refine ⟨st1, S1, .d x, _, I1, .d rx, q2, fun σ2 H2 st2 S2 I2 m2 _ q3 => ?_⟩
    refine ⟨st2, S2, .d x, _, I2, .d (rx.mono m2), q3, fun σ3 H3 st3 S3 I3 m3 _ q4 => ?_⟩
    exact ⟨st3, S3, .d x, _, I3, .d ((rx.mono m2).mono m3), q4, fun σ4 H4 st4 S4 I4 m4 _ q5 => E.nx _ _ _ _ I4 (((g1.mono.trans m2).trans m3).trans m4) q5⟩
/-! ### list(range(..)) -/
theorem rgV_data {K : PySem.W.Frag} (a b : Int) : RpAll K S (rgV a b) (rangeD a (b - a).toNat) := by
  unfold rgV rangeD
  have : ∀ l : List Nat, RpAll K S (l.map fun i => V.int (a + (i : Nat))) (l.map fun (k : Nat) => PyData.int (a + (k : Int))) := fun l => by
    induction l with
    | nil => exact .nil
    | cons x r ih => exact .cons (.int _) ih
  exact this _
theorem je_listR1 (F : Fit L E0 EX X k) {p p2 pos2 : Pos} (ha : JE L E0 G EX X e c) (hs : noStar e = true) (hg : Gl X "list") (hm : X.mg "list" = none) (hg2 : Gl X "range") (hm2 : X.mg "range" = none) :
    JE L E0 G EX X (.Call (.Name "list" p) [.Call (.Name "range" p2) [e] [] pos2] [] pos) (.blt .listR (.cons false c .nil)) :=
  JE.of ((pe_listRg F.calm hg hm (prg_1 hg2 hm2 ha.b (starEach_no hs)) (starEach_no rfl)).weak fun σ H Q ⟨st, S, Q', I, ev, kk⟩ => by
    have ev : bw c (evE G c EX) st fun x st1 => True ∧ bltD .listR [x] fun r => Q' r st1 := by
      have ev : bw c (evE G c EX) st fun x st1 => stab c st1 st1 ∧ bltD .listR [x] fun r => Q' r st1 := ev
      cases c <;> simpa [stab] using ev
    refine ⟨st, S, _, I, ev, fun v1 H1 st1 S1 x I1 g1 r1 ⟨_, q1⟩ => ?_⟩
    cases x with
    | int i =>
      obtain ⟨⟨hi, hz⟩, q⟩ := (show (smallR i ∧ i ≤ sizeLine) ∧ Q' (.own (.list (rangeD 0 i.toNat))) st1 from q1)
      refine ⟨i, (r1.now I1).int, ⟨by omega, by omega, hi.1, hi.2, ?_⟩, fun p hp => ?_⟩
      · have := sizeLine_eq; omega
      · obtain ⟨S4, I4, g4, r4⟩ := I1.closeV (NewV.lst hp (rgV_data 0 i))
        rw [show (i - 0).toNat = i.toNat by omega] at r4
        exact kk _ _ st1 S4 _ I4 (g1.trans g4) (r4.from g1) q
    | _ => exact (show False from q1).elim) (fun _ z => by cases z)
theorem je_listR2 (F : Fit L E0 EX X k) {p p2 pos2 : Pos} (ha : JE L E0 G EX X e c) (hb : JE L E0 G EX X e2 c2) (hs : noStar e = true) (hs2 : noStar e2 = true) (hg : Gl X "list") (hm : X.mg "list" = none) (hg2 : Gl X "range") (hm2 : X.mg "range" = none) :
    JE L E0 G EX X (.Call (.Name "list" p) [.Call (.Name "range" p2) [e, e2] [] pos2] [] pos) (.blt .listR (.cons false c (.cons false c2 .nil))) :=
  JE.of ((pe_listRg F.calm hg hm (prg_2 hg2 hm2 ha.b hb.b (starEach_no hs) (starEach_no hs2) (star_no (by rw [List.all_cons, hs2]; rfl))) (starEach_no rfl)).weak fun σ H Q ⟨st, S, Q', I, ev, kk⟩ => by
    have ev : bw c (evE G c EX) st fun x st1 => bw c2 (evE G c2 EX) st1 fun y st2 => True ∧ stab c st1 st2 ∧ bltD .listR [x, y] fun r => Q' r st2 := by
      have ev : bw c (evE G c EX) st fun x st1 => bw c2 (evE G c2 EX) st1 fun y st2 => stab c2 st2 st2 ∧ stab c st1 st2 ∧ bltD .listR [x, y] fun r => Q' r st2 := ev
      cases c2 <;> simpa [stab] using ev
    refine ⟨st, S, _, I, ev, fun v1 H1 st1 S1 x I1 g1 r1 q1 => ⟨st1, S1, _, I1, q1, fun v2 H2 st2 S2 y I2 g2 r2 ⟨_, _, q2⟩ => ?_⟩⟩
    cases x with
    | int i =>
      cases y with
      | int j =>
        obtain ⟨⟨hi, hj, hz⟩, q⟩ := (show (smallR i ∧ smallR j ∧ j - i ≤ sizeLine) ∧ Q' (.own (.list (rangeD i (j - i).toNat))) st2 from q2)
        refine ⟨i, j, (r1.now I1).int, (r2.now I2).int, ⟨hi.1, hi.2, hj.1, hj.2, ?_⟩, fun p hp => ?_⟩
        · have := sizeLine_eq; omega
        · obtain ⟨S4, I4, g4, r4⟩ := I2.closeV (NewV.lst hp (rgV_data i j))
          exact kk _ _ st2 S4 _ I4 ((g1.trans g2).trans g4) (r4.from (g1.trans g2)) q
      | _ => exact (show False from q2).elim
    | _ => exact (show False by cases y <;> exact q2).elim) (fun _ z => by cases z)
/-! ### chains of three -/
section
variable {a b d f : Expr} {ta tb tc td : TE} {r r' r2 : R2} {op op' op2 : CmpOp}
/-- a op1 b op2 c op3 d -/
def tChain3 (r r' r2 : R2) (ta tb tc td : TE) : TE := fun σ H Q => ta σ H fun x H1 => tb σ H1 fun y H2 => r x y H2 fun z H3 => ∃ k, z = .bl k ∧
  (if k = true then tc σ H3 fun w' H4 => r' y w' H4 fun z2 H5 => ∃ k2, z2 = .bl k2 ∧ (if k2 = true then td σ H5 fun u' H6 => r2 w' u' H6 Q else Q (.bl false) H5) else Q (.bl false) H3)
theorem pe_chain3 (ho : OpR X (compareOp op) r) (ho' : OpR X (compareOp op') r') (ho2 : OpR X (compareOp op2) r2) (ha : PE X a ta) (hb : PE X b tb) (hc : PE X d tc) (hd : PE X f td)
    (hm : lastMarks [op, op', op2] [b, d, f] = false) : PE X (.Compare a [op, op', op2] [b, d, f] pos) (tChain3 r r' r2 ta tb tc td) := by
  refine ⟨fun pins s σ H Q I h => ?_⟩
  refine Compare_chain (thn (ha.run pins s σ H _ I h) fun v s1 ⟨x, H1, I1, r1, q1⟩ => chain_link (thn (hb.run pins s1 σ H1 _ I1 q1) fun u s2 ⟨y, H2, I2, ry, q2⟩ =>
    thn (ho pins s2 σ H2 x y v u _ I2 r1 ry q2) fun d' s3 ⟨z, H3, I3, r3, k, e, q3⟩ => ?_)) hm
  subst e
  cases r3
  refine wpAny_truthy_bool ?_
  cases k with
  | false => exact ite_ff ⟨.bl false, H3, I3, rfl, q3⟩
  | true =>
    refine ite_tt (chain_link (thn (hc.run pins s3 σ H3 _ I3 q3) fun w1 s4 ⟨z1, H4, I4, r4, q4⟩ => thn (ho' pins s4 σ H4 y z1 u w1 _ I4 ry r4 q4) fun d2 s5 ⟨z2, H5, I5, r5, k2, e2, q5⟩ => ?_))
    subst e2
    cases r5
    refine wpAny_truthy_bool ?_
    cases k2 with
    | false => exact ite_ff ⟨.bl false, H5, I5, rfl, q5⟩
    | true => exact ite_tt (chain_last (thn (hd.run pins s5 σ H5 _ I5 q5) fun w6 s6 ⟨z6, H6, I6, r6, q6⟩ => ho2 pins s6 σ H6 z1 z6 w1 w6 Q I6 r4 r6 q6))
end
theorem je_cmp3 (F : Fit L E0 EX X k) (o o' o2 : COp) (ha : JE L E0 G EX X e c) (hb : JE L E0 G EX X e2 c2) (hc : JE L E0 G EX X e3 c3) (hd : JE L E0 G EX X e4 c4)
    (hm' : lastMarks [cmpOf o, cmpOf o', cmpOf o2] [e2, e3, e4] = false) : JE L E0 G EX X (.Compare e [cmpOf o, cmpOf o', cmpOf o2] [e2, e3, e4] pos) (.cmp3 c o c2 o' c3 o2 c4) :=
  JE.of ((pe_chain3 (by have := opD_cmp F.room o; rw [F.K] at this; exact this) (by have := opD_cmp F.room o'; rw [F.K] at this; exact this) (by have := opD_cmp F.room o2; rw [F.K] at this; exact this) ha.b hb.b hc.b hd.b hm').weak fun σ H Q ⟨st, S, Q', I, ev, kk⟩ => by
    have ev : bw c (evE G c EX) st fun x st1 => bw c2 (evE G c2 EX) st1 fun y st2 => stab c st1 st2 ∧ cmpP o x y ∧
      ifB (cmpV o x y) (bw c3 (evE G c3 EX) st2 fun z st3 => stab c2 st2 st3 ∧ cmpP o' y z ∧ ifB (cmpV o' y z) (bw c4 (evE G c4 EX) st3 fun u st4 => stab c3 st3 st4 ∧ cmpP o2 z u ∧ Q' (.d (.bool (cmpV o2 z u))) st4) (Q' (.d (.bool false)) st3)) (Q' (.d (.bool false)) st2) := ev
    refine ⟨st, S, _, I, ev, fun v1 H1 st1 S1 x I1 g1 r1 q1 => ⟨st1, S1, _, I1, q1, fun v2 H2 st2 S2 y I2 g2 r2 ⟨s, p, q2⟩ => ?_⟩⟩
    refine ⟨S2, x, y, I2.sub, (r1.stay g2 s).now I2, r2.now I2, p, fun v3 H3 n => ?_⟩
    obtain ⟨rfl, rfl⟩ := n.bool_eq
    refine ⟨_, rfl, ?_⟩
    cases hv : cmpV o x y with
    | false =>
      rw [hv] at q2
      exact kk _ _ st2 S2 _ I2 (g1.trans g2) (.d (.bl _)) q2
    | true =>
      rw [hv] at q2
      have q2 : bw c3 (evE G c3 EX) st2 fun z st3 => stab c2 st2 st3 ∧ cmpP o' y z ∧ ifB (cmpV o' y z) (bw c4 (evE G c4 EX) st3 fun u st4 => stab c3 st3 st4 ∧ cmpP o2 z u ∧ Q' (.d (.bool (cmpV o2 z u))) st4) (Q' (.d (.bool false)) st3) := q2
      refine ⟨st2, S2, _, I2, q2, fun v4 H4 st4 S4 z I4 g4 r4 ⟨s4, p4, q4⟩ => ?_⟩
      refine ⟨S4, y, z, I4.sub, (r2.stay g4 s4).now I4, r4.now I4, p4, fun v5 H5 n => ?_⟩
      obtain ⟨rfl, rfl⟩ := n.bool_eq
      refine ⟨_, rfl, ?_⟩
      cases hv2 : cmpV o' y z with
      | false =>
        rw [hv2] at q4
        exact kk _ _ st4 S4 _ I4 ((g1.trans g2).trans g4) (.d (.bl _)) q4
      | true =>
        rw [hv2] at q4
        have q4 : bw c4 (evE G c4 EX) st4 fun u st5 => stab c3 st4 st5 ∧ cmpP o2 z u ∧ Q' (.d (.bool (cmpV o2 z u))) st5 := q4
        refine ⟨st4, S4, _, I4, q4, fun v6 H6 st6 S6 u I6 g6 r6 ⟨s6, p6, q6⟩ => ?_⟩
        refine ⟨S6, z, u, I6.sub, (r4.stay g6 s6).now I6, r6.now I6, p6, fun v7 H7 n => ?_⟩
        obtain ⟨rfl, rfl⟩ := n.bool_eq
        exact kk _ _ st6 S6 _ I6 (((g1.trans g2).trans g4).trans g6) (.d (.bl _)) q6) (fun _ z => by cases z)
/-! ### zip -/
theorem zipD_len : ∀ (ds es : List PyData), (zipD ds es).length = min ds.length es.length
  | [], _ => by simp [zipD]
  | _ :: _, [] => by simp [zipD]
  | x :: ds, y :: es => by
    have := zipD_len ds es
    simp only [zipD, List.length_cons, this]
    omega
theorem zipD_get : ∀ (ds es : List PyData) (i : Nat) (d : PyData), (zipD ds es)[i]? = some d → ∃ x y, d = .tuple [x, y] ∧ ds[i]? = some x ∧ es[i]? = some y
  | [], _, _, _, h => by simp [zipD] at h
  | _ :: _, [], _, _, h => by simp [zipD] at h
  | x :: ds, y :: es, 0, d, h => by simp [zipD] at h; exact ⟨x, y, h.symm, rfl, rfl⟩
  | x :: ds, y :: es, i + 1, d, h => by
    simp only [zipD, List.getElem?_cons_succ] at h
    obtain ⟨u, v, e, h1, h2⟩ := zipD_get ds es i d h
    exact ⟨u, v, e, by simpa using h1, by simpa using h2⟩
theorem wd_zip {K : PySem.W.Frag} {Ok : Hp → Hp → Prop} {a b : Addr} {vs ws : List V} {ds es : List PyData} (h : ∀ S' H', Ok S' H' → (Mono S S' ∧ H' a = some (.lst vs)) ∧ H' b = some (.lst ws)) (r : RpAll K S vs ds) (r2 : RpAll K S ws es) (hz : vs.length ≤ sizeLine) : WD K Ok (Itz K a b) (zipD ds es) where
  len := by have := r.length; rw [zipD_len]; omega
  stop := fun S' H' o => ⟨vs, ws, SqL.of (h S' H' o).1.2, SqL.of (h S' H' o).2, by have := r.length; have := r2.length; rw [zipD_len]; omega⟩
  go := fun i d S' H' hd o => by
    obtain ⟨⟨m, q⟩, q2⟩ := h S' H' o
    obtain ⟨x, y, rfl, hx, hy⟩ := zipD_get ds es i d hd
    obtain ⟨v, hv, rv⟩ := r.get hx
    obtain ⟨w, hw, rw'⟩ := r2.get hy
    refine ⟨⟨vs, ws, v, w, SqL.of q, SqL.of q2, hv, hw⟩, fun z H'' ⟨T, v', w', e1, e2, e3, y4, y5⟩ => ?_⟩
    have e5 := (y4 vs (SqL.of q)).symm.trans hv
    have e6 := (y5 ws (SqL.of q2)).symm.trans hw
    cases e5; cases e6
    subst e1 e3
    exact .tup e2 (.cons (rv.mono m) (.cons (rw'.mono m) .nil))
theorem wd_zipT {K : PySem.W.Frag} {Ok : Hp → Hp → Prop} {a b : Addr} {vs ws : List V} {ds es : List PyData} (h : ∀ S' H', Ok S' H' → (Mono S S' ∧ SqT K H' a vs) ∧ SqT K H' b ws) (r : RpAll K S vs ds) (r2 : RpAll K S ws es) (hz : vs.length ≤ sizeLine) : WD K Ok (RZ.ItzT K a b) (zipD ds es) where
  len := by have := r.length; rw [zipD_len]; omega
  stop := fun S' H' o => ⟨vs, ws, (h S' H' o).1.2, (h S' H' o).2, by have := r.length; have := r2.length; rw [zipD_len]; omega⟩
  go := fun i d S' H' hd o => by
    obtain ⟨⟨m, q⟩, q2⟩ := h S' H' o
    obtain ⟨x, y, rfl, hx, hy⟩ := zipD_get ds es i d hd
    obtain ⟨v, hv, rv⟩ := r.get hx
    obtain ⟨w, hw, rw'⟩ := r2.get hy
    refine ⟨⟨vs, ws, v, w, q, q2, hv, hw⟩, fun z H'' ⟨T, v', w', e1, e2, e3, y4, y5⟩ => ?_⟩
    have e5 := (y4 vs q).symm.trans hv
    have e6 := (y5 ws q2).symm.trans hw
    cases e5; cases e6
    subst e1 e3
    exact .tup e2 (.cons (rv.mono m) (.cons (rw'.mono m) .nil))
theorem zip_key (F : Fit L E0 EX X k) {f : Bool} {v w : V} {Q' : List PyData → Sl → Prop} {R : It → Hp → Prop} (n1 : Stays L S H f v x) (n2 : Stays L S H f w y) (q : asZ x y fun ds es => ds.length ≤ sizeLine ∧ Q' (zipD ds es) st) (kk : ∀ J ds, WD L.K (OkOf L S H f) J ds → Q' ds st → R J H) :
    ∃ a b xs ys, [v, w] = [.ref a, .ref b] ∧ ((SqL X.K H a xs ∧ SqL X.K H b ys ∧ R (Itz X.K a b) H) ∨ (SqT X.K H a xs ∧ SqT X.K H b ys ∧ R (RZ.ItzT X.K a b) H)) := by
  have stt : OkOf L S H f S H ∨ (S = S ∧ H = H) := .inr ⟨rfl, rfl⟩
  rw [F.K]
  cases x with
  | list ds =>
    cases y with
    | list es =>
      obtain ⟨a, vs, e1, r1, s1⟩ := n1
      obtain ⟨b, ws, e2, r2, s2⟩ := n2
      obtain ⟨hz, q⟩ := (show ds.length ≤ sizeLine ∧ Q' (zipD ds es) st from q)
      have q1 := SqL.of (K := L.K) (s1 S H stt).2
      exact ⟨a, b, vs, ws, by rw [e1, e2], .inl ⟨q1, SqL.of (s2 S H stt).2, kk _ _ (wd_zip (fun S' H' o => ⟨s1 S' H' (.inl o), (s2 S' H' (.inl o)).2⟩) r1 r2 (by rw [r1.length]; exact hz)) q⟩⟩
    | _ => exact (show False from q).elim
  | tuple ds =>
    cases y with
    | tuple es =>
      obtain ⟨a, vs, e1, r1, s1⟩ := n1
      obtain ⟨b, ws, e2, r2, s2⟩ := n2
      obtain ⟨hz, q⟩ := (show ds.length ≤ sizeLine ∧ Q' (zipD ds es) st from q)
      have q1 := (s1 S H stt).2
      exact ⟨a, b, vs, ws, by rw [e1, e2], .inr ⟨q1, (s2 S H stt).2, kk _ _ (wd_zipT (fun S' H' o => ⟨s1 S' H' (.inl o), (s2 S' H' (.inl o)).2⟩) r1 r2 (by rw [r1.length]; exact hz)) q⟩⟩
    | _ => exact (show False from q).elim
  | _ => exact (show False by cases y <;> exact q).elim
theorem ji_zip (F : Fit L E0 EX X k) (ha : JE L E0 G EX X e c) (hb : JE L E0 G EX X e2 c2) {f : Bool} {elts : List Expr} {kk : Nat} {tpos p : Pos} (hs : noStar e = true) (hs2 : noStar e2 = true) (hg : Gl X "zip") (hm : X.mg "zip" = none) :
    PI X (.Tuple elts kk tpos) (.Call (.Name "zip" p) [e, e2] [] pos) (tI L E0 f (evI G (.zip c c2) f EX)) := by
  cases f with
  | false =>
    exact (RZ.pi_zipA hg hm (pa_cons ha.b (pa_cons hb.b pa_nil (starEach_no hs2)) (starEach_no hs)) (by rw [starEach_no hs]) (star_no (by rw [List.all_cons, hs2]; rfl))).weak fun σ H R ⟨st, S, Q', I, ev, kk⟩ => by
      have ev : bw c (evE G c EX) st fun x st1 => bw c2 (evE G c2 EX) st1 fun y st2 => stab c st1 st2 ∧ asZ x y fun ds es => ds.length ≤ sizeLine ∧ Q' (zipD ds es) st2 := ev
      refine ⟨st, S, _, I, ev, fun v1 H1 st1 S1 x I1 g1 r1 q1 => ⟨st1, S1, _, I1, q1, fun v2 H2 st2 S2 y I2 g2 r2 ⟨s, q⟩ => ?_⟩⟩
      exact zip_key F (now_stay (c := c) I2 false (.inr ⟨rfl, r1.stay g2 s⟩)) (now_stay I2 false (.inr ⟨rfl, r2⟩)) q fun J ds w q => kk J H2 st2 S2 ds I2 (g1.trans g2) w q
  | true =>
    exact (RZ.pi_zipA hg hm (pa_cons (JE.s ha.d) (pa_cons (JE.s hb.d) pa_nil (starEach_no hs2)) (starEach_no hs)) (by rw [starEach_no hs]) (star_no (by rw [List.all_cons, hs2]; rfl))).weak fun σ H R ⟨st, S, Q', I, ev, kk⟩ => by
      have ev : evE G c EX st fun vx st1 => shr vx fun x => evE G c2 EX st1 fun vy st2 => shr vy fun y => asZ x y fun ds es => ds.length ≤ sizeLine ∧ Q' (zipD ds es) st2 := ev
      refine ⟨st, S, _, I, ev, fun v1 H1 st1 S1 vl I1 g1 r1 q1 => ?_⟩
      obtain ⟨x, hx, q2⟩ := shr_get q1
      refine ⟨st1, S1, _, I1, q2, fun v2 H2 st2 S2 vl2 I2 g2 r2 q3 => ?_⟩
      obtain ⟨y, hy, q⟩ := shr_get q3
      exact zip_key F (now_stay (c := c) I2 true (.inl ⟨rfl, vl, r1.mono g2.mono, hx⟩)) (now_stay (c := c2) I2 true (.inl ⟨rfl, vl2, r2, hy⟩)) q fun J ds w q => kk J H2 st2 S2 ds I2 (g1.trans g2) w q
end
end PX
end L2
namespace K44
open PySem PySem.Spec PyProof.Rows L2 L2.PX
abbrev top (i : Nat) : Stmt := PySem.Challenge.pw_pitchturns_k44_whole_views.main.body.getD i (.Pass ⟨0, 0, 0, 0⟩)
abbrev N_is_integer : List Str := [("thing" : Str)]
abbrev A_is_integer : List Str := [("thing" : Str)]
theorem sc_is_integer : FnScope N_is_integer A_is_integer (defScope (top 1)) := ⟨rfl, rfl, rfl, by decide +kernel, rfl, by decide +kernel, by decide +kernel⟩
@[reducible] def P_is_integer : CSs := .cons (.ret (.and (.isi (.var 0) .int) (.not (.isi (.var 0) .bool)))) .nil
abbrev N_is_within : List Str := [("thing" : Str), ("least" : Str), ("most" : Str)]
abbrev A_is_within : List Str := [("thing" : Str), ("least" : Str), ("most" : Str)]
theorem sc_is_within : FnScope N_is_within A_is_within (defScope (top 2)) := ⟨rfl, rfl, rfl, by decide +kernel, rfl, by decide +kernel, by decide +kernel⟩
@[reducible] def P_is_within : CSs := .cons (.ret (.and (.call 0 (.cons false (.var 0) .nil)) (.cmp2 (.var 1) .le (.var 0) .le (.var 2)))) .nil
abbrev N_is_row : List Str := [("thing" : Str)]
abbrev A_is_row : List Str := [("thing" : Str)]
theorem sc_is_row : FnScope N_is_row A_is_row (defScope (top 3)) := ⟨rfl, rfl, rfl, by decide +kernel, rfl, by decide +kernel, by decide +kernel⟩
@[reducible] def P_is_row : CSs := .cons (.ret (.isi (.var 0) .row)) .nil
abbrev N_check_heights : List Str := [("heights" : Str), ("index" : Str), ("height" : Str)]
abbrev A_check_heights : List Str := [("heights" : Str)]
theorem sc_check_heights : FnScope N_check_heights A_check_heights (defScope (top 10)) := ⟨rfl, rfl, rfl, by decide +kernel, rfl, by decide +kernel, by decide +kernel⟩
@[reducible] def P_check_heights_b1 : CSs := .cons (.raise_ 1 (.neg (.lit (.int 1)))) .nil
@[reducible] def P_check_heights_b2 : CSs := .cons (.raise_ 1 (.var 1)) .nil
@[reducible] def P_check_heights_b3 : CSs := .cons (.ife (.not (.v (.call 1 (.cons false (.var 2) (.cons false (.lit (.int 0)) (.cons false (.gc (Str.ofString "MOST_HEIGHT") (.int 1000)) .nil)))))) P_check_heights_b2 .nil) .nil
@[reducible] def P_check_heights_s1 : CSs := .cons (.for_ (.tup (.cons (.slot 1) (.cons (.slot 2) .nil))) (.enum (.var 0) 0) P_check_heights_b3) .nil
@[reducible] def P_check_heights : CSs := .cons (.ife (.or (.not (.v (.call 2 (.cons false (.var 0) .nil)))) (.not (.v (.cmp2 (.lit (.int 1)) .le (.blt .len (.cons false (.var 0) .nil)) .le (.gc (Str.ofString "MOST_TREES") (.int 40)))))) P_check_heights_b1 .nil) P_check_heights_s1
abbrev N_next_higher : List Str := [("heights" : Str), ("found" : Str), ("waiting" : Str), ("index" : Str), ("height" : Str), ("_" : Str)]
abbrev A_next_higher : List Str := [("heights" : Str)]
theorem sc_next_higher : FnScope N_next_higher A_next_higher (defScope (top 11)) := ⟨rfl, rfl, rfl, by decide +kernel, rfl, by decide +kernel, by decide +kernel⟩
@[reducible] def P_next_higher_b1 : CSs := .cons (.asg (.sub 1 (.pop 2 .nil)) (.var 3)) .nil
@[reducible] def P_next_higher_b2_s1 : CSs := .cons (.mut .append 2 (.cons false (.var 3) .nil)) .nil
@[reducible] def P_next_higher_b2 : CSs := .cons (.while_ (.and (.v (.var 2)) (.v (.cmp (.sub (.var 0) (.sub (.var 2) (.neg (.lit (.int 1))))) .lt (.var 4)))) P_next_higher_b1) P_next_higher_b2_s1
@[reducible] def P_next_higher_s4 : CSs := .cons (.ret (.blt .tuple (.cons false (.var 1) .nil))) .nil
@[reducible] def P_next_higher_s3 : CSs := .cons (.for_ (.tup (.cons (.slot 3) (.cons (.slot 4) .nil))) (.enum (.var 0) 0) P_next_higher_b2) P_next_higher_s4
@[reducible] def P_next_higher_s2 : CSs := .cons (.asg (.slot 2) (.lst .nil)) P_next_higher_s3
@[reducible] def P_next_higher_s1 : CSs := .cons (.asg (.slot 1) (.comp (.lit .none) (.slot 5) (.e (.var 0)) .no)) P_next_higher_s2
@[reducible] def P_next_higher : CSs := .cons (.ex (.call 3 (.cons false (.var 0) .nil))) P_next_higher_s1
abbrev N_seen_from_left : List Str := [("heights" : Str), ("found" : Str), ("most" : Str), ("index" : Str), ("height" : Str)]
abbrev A_seen_from_left : List Str := [("heights" : Str)]
theorem sc_seen_from_left : FnScope N_seen_from_left A_seen_from_left (defScope (top 12)) := ⟨rfl, rfl, rfl, by decide +kernel, rfl, by decide +kernel, by decide +kernel⟩
@[reducible] def P_seen_from_left_b1_s1 : CSs := .cons (.asg (.slot 2) (.var 4)) .nil
@[reducible] def P_seen_from_left_b1 : CSs := .cons (.mut .append 1 (.cons false (.var 3) .nil)) P_seen_from_left_b1_s1
@[reducible] def P_seen_from_left_b2 : CSs := .cons (.ife (.v (.cmp (.var 4) .gt (.var 2))) P_seen_from_left_b1 .nil) .nil
@[reducible] def P_seen_from_left_s4 : CSs := .cons (.ret (.blt .tuple (.cons false (.var 1) .nil))) .nil
@[reducible] def P_seen_from_left_s3 : CSs := .cons (.for_ (.tup (.cons (.slot 3) (.cons (.slot 4) .nil))) (.enum (.var 0) 0) P_seen_from_left_b2) P_seen_from_left_s4
@[reducible] def P_seen_from_left_s2 : CSs := .cons (.asg (.slot 2) (.neg (.lit (.int 1)))) P_seen_from_left_s3
@[reducible] def P_seen_from_left_s1 : CSs := .cons (.asg (.slot 1) (.lst .nil)) P_seen_from_left_s2
@[reducible] def P_seen_from_left : CSs := .cons (.ex (.call 3 (.cons false (.var 0) .nil))) P_seen_from_left_s1
abbrev N_all_blocks : List Str := [("heights" : Str), ("found" : Str), ("index" : Str), ("height" : Str), ("begin" : Str), ("end" : Str)]
abbrev A_all_blocks : List Str := [("heights" : Str)]
theorem sc_all_blocks : FnScope N_all_blocks A_all_blocks (defScope (top 13)) := ⟨rfl, rfl, rfl, by decide +kernel, rfl, by decide +kernel, by decide +kernel⟩
@[reducible] def P_all_blocks_b1 : CSs := .cons (.aug .sub 4 (.lit (.int 1))) .nil
@[reducible] def P_all_blocks_b2 : CSs := .cons (.aug .add 5 (.lit (.int 1))) .nil
@[reducible] def P_all_blocks_b3_s3 : CSs := .cons (.mut .append 1 (.cons false (.tup (.cons false (.bin .mul (.neg (.var 3)) (.bin .sub (.var 5) (.var 4))) (.cons false (.var 4) (.cons false (.var 5) .nil)))) .nil)) .nil
@[reducible] def P_all_blocks_b3_s2 : CSs := .cons (.while_ (.and (.v (.cmp (.var 5) .lt (.blt .len (.cons false (.var 0) .nil)))) (.v (.cmp (.sub (.var 0) (.var 5)) .ge (.var 3)))) P_all_blocks_b2) P_all_blocks_b3_s3
@[reducible] def P_all_blocks_b3_s1 : CSs := .cons (.while_ (.and (.v (.cmp (.var 4) .gt (.lit (.int 0)))) (.v (.cmp (.sub (.var 0) (.bin .sub (.var 4) (.lit (.int 1)))) .ge (.var 3)))) P_all_blocks_b1) P_all_blocks_b3_s2
@[reducible] def P_all_blocks_b3 : CSs := .cons (.par [4, 5] (.cons false (.var 2) (.cons false (.bin .add (.var 2) (.lit (.int 1))) .nil))) P_all_blocks_b3_s1
@[reducible] def P_all_blocks_s2 : CSs := .cons (.ret (.var 1)) .nil
@[reducible] def P_all_blocks_s1 : CSs := .cons (.for_ (.tup (.cons (.slot 2) (.cons (.slot 3) .nil))) (.enum (.var 0) 0) P_all_blocks_b3) P_all_blocks_s2
@[reducible] def P_all_blocks : CSs := .cons (.asg (.slot 1) (.lst .nil)) P_all_blocks_s1
abbrev N_greatest_block : List Str := [("heights" : Str), ("area" : Str), ("begin" : Str), ("low" : Str), ("end" : Str)]
abbrev A_greatest_block : List Str := [("heights" : Str)]
theorem sc_greatest_block : FnScope N_greatest_block A_greatest_block (defScope (top 14)) := ⟨rfl, rfl, rfl, by decide +kernel, rfl, by decide +kernel, by decide +kernel⟩
@[reducible] def P_greatest_block_b1 : CSs := .cons (.ret (.tup (.cons false (.var 1) (.cons false (.var 2) (.cons false (.var 4) .nil))))) .nil
@[reducible] def P_greatest_block_b2_s1 : CSs := .cons (.ife (.v (.cmp (.bin .mul (.var 3) (.bin .sub (.var 4) (.var 2))) .eq (.var 1))) P_greatest_block_b1 .nil) .nil
@[reducible] def P_greatest_block_b2 : CSs := .cons (.asg (.slot 3) (.blt .min2 (.cons false (.var 3) (.cons false (.sub (.var 0) (.bin .sub (.var 4) (.lit (.int 1)))) .nil)))) P_greatest_block_b2_s1
@[reducible] def P_greatest_block_b3_s1 : CSs := .cons (.for_ (.slot 4) (.rng2 (.bin .add (.var 2) (.lit (.int 1))) (.bin .add (.blt .len (.cons false (.var 0) .nil)) (.lit (.int 1)))) P_greatest_block_b2) .nil
@[reducible] def P_greatest_block_b3 : CSs := .cons (.asg (.slot 3) (.sub (.var 0) (.var 2))) P_greatest_block_b3_s1
@[reducible] def P_greatest_block_s3 : CSs := .cons (.ret (.tup (.cons false (.lit (.int 0)) (.cons false (.lit (.int 0)) (.cons false (.lit (.int 1)) .nil))))) .nil
@[reducible] def P_greatest_block_s2 : CSs := .cons (.for_ (.slot 2) (.rng1 (.blt .len (.cons false (.var 0) .nil))) P_greatest_block_b3) P_greatest_block_s3
@[reducible] def P_greatest_block_s1 : CSs := .cons (.asg (.slot 1) (.neg (.sub (.blt .min1 (.cons false (.call 6 (.cons false (.var 0) .nil)) .nil)) (.lit (.int 0))))) P_greatest_block_s2
@[reducible] def P_greatest_block : CSs := .cons (.ex (.call 3 (.cons false (.var 0) .nil))) P_greatest_block_s1
abbrev N_rain_held : List Str := [("heights" : Str), ("low" : Str), ("found" : Str), ("left" : Str), ("right" : Str)]
abbrev A_rain_held : List Str := [("heights" : Str)]
theorem sc_rain_held : FnScope N_rain_held A_rain_held (defScope (top 15)) := ⟨rfl, rfl, rfl, by decide +kernel, rfl, by decide +kernel, by decide +kernel⟩
@[reducible] def P_rain_held_b1_s2 : CSs := .cons (.aug .add 3 (.lit (.int 1))) .nil
@[reducible] def P_rain_held_b1_s1 : CSs := .cons (.aug .add 2 (.bin .sub (.var 1) (.sub (.var 0) (.var 3)))) P_rain_held_b1_s2
@[reducible] def P_rain_held_b1 : CSs := .cons (.asg (.slot 1) (.blt .max2 (.cons false (.var 1) (.cons false (.sub (.var 0) (.var 3)) .nil)))) P_rain_held_b1_s1
@[reducible] def P_rain_held_b2_s2 : CSs := .cons (.aug .sub 4 (.lit (.int 1))) .nil
@[reducible] def P_rain_held_b2_s1 : CSs := .cons (.aug .add 2 (.bin .sub (.var 1) (.sub (.var 0) (.var 4)))) P_rain_held_b2_s2
@[reducible] def P_rain_held_b2 : CSs := .cons (.asg (.slot 1) (.blt .max2 (.cons false (.var 1) (.cons false (.sub (.var 0) (.var 4)) .nil)))) P_rain_held_b2_s1
@[reducible] def P_rain_held_b3 : CSs := .cons (.ife (.v (.cmp (.sub (.var 0) (.var 3)) .le (.sub (.var 0) (.var 4)))) P_rain_held_b1 P_rain_held_b2) .nil
@[reducible] def P_rain_held_s4 : CSs := .cons (.ret (.var 2)) .nil
@[reducible] def P_rain_held_s3 : CSs := .cons (.while_ (.v (.cmp (.var 3) .lt (.var 4))) P_rain_held_b3) P_rain_held_s4
@[reducible] def P_rain_held_s2 : CSs := .cons (.asg2 (.slot 1) (.slot 2) (.lit (.int 0))) P_rain_held_s3
@[reducible] def P_rain_held_s1 : CSs := .cons (.par [3, 4] (.cons false (.lit (.int 0)) (.cons false (.bin .sub (.blt .len (.cons false (.var 0) .nil)) (.lit (.int 1))) .nil))) P_rain_held_s2
@[reducible] def P_rain_held : CSs := .cons (.ex (.call 3 (.cons false (.var 0) .nil))) P_rain_held_s1
abbrev N_pairs_seen : List Str := [("heights" : Str), ("waiting" : Str), ("found" : Str), ("height" : Str)]
abbrev A_pairs_seen : List Str := [("heights" : Str)]
theorem sc_pairs_seen : FnScope N_pairs_seen A_pairs_seen (defScope (top 16)) := ⟨rfl, rfl, rfl, by decide +kernel, rfl, by decide +kernel, by decide +kernel⟩
@[reducible] def P_pairs_seen_b1_s1 : CSs := .cons (.aug .add 2 (.lit (.int 1))) .nil
@[reducible] def P_pairs_seen_b1 : CSs := .cons (.ex (.pop 1 .nil)) P_pairs_seen_b1_s1
@[reducible] def P_pairs_seen_b2 : CSs := .cons (.aug .add 2 (.lit (.int 1))) .nil
@[reducible] def P_pairs_seen_b3 : CSs := .cons (.ex (.pop 1 .nil)) .nil
@[reducible] def P_pairs_seen_b4_s3 : CSs := .cons (.mut .append 1 (.cons false (.var 3) .nil)) .nil
@[reducible] def P_pairs_seen_b4_s2 : CSs := .cons (.ife (.and (.v (.var 1)) (.v (.cmp (.sub (.var 1) (.neg (.lit (.int 1)))) .eq (.var 3)))) P_pairs_seen_b3 .nil) P_pairs_seen_b4_s3
@[reducible] def P_pairs_seen_b4_s1 : CSs := .cons (.ife (.v (.var 1)) P_pairs_seen_b2 .nil) P_pairs_seen_b4_s2
@[reducible] def P_pairs_seen_b4 : CSs := .cons (.while_ (.and (.v (.var 1)) (.v (.cmp (.sub (.var 1) (.neg (.lit (.int 1)))) .lt (.var 3)))) P_pairs_seen_b1) P_pairs_seen_b4_s1
@[reducible] def P_pairs_seen_s4 : CSs := .cons (.ret (.var 2)) .nil
@[reducible] def P_pairs_seen_s3 : CSs := .cons (.for_ (.slot 3) (.e (.var 0)) P_pairs_seen_b4) P_pairs_seen_s4
@[reducible] def P_pairs_seen_s2 : CSs := .cons (.asg (.slot 2) (.lit (.int 0))) P_pairs_seen_s3
@[reducible] def P_pairs_seen_s1 : CSs := .cons (.asg (.slot 1) (.lst .nil)) P_pairs_seen_s2
@[reducible] def P_pairs_seen : CSs := .cons (.ex (.call 3 (.cons false (.var 0) .nil))) P_pairs_seen_s1
abbrev N_law_taken : List Str := [("row" : Str), ("many" : Str), ("cell" : Str), ("found" : Str)]
abbrev A_law_taken : List Str := [("row" : Str), ("many" : Str)]
theorem sc_law_taken : FnScope N_law_taken A_law_taken (defScope (top 18)) := ⟨rfl, rfl, rfl, by decide +kernel, rfl, by decide +kernel, by decide +kernel⟩
abbrev N_law_pick : List Str := [("row" : Str), ("some" : Str)]
abbrev A_law_pick : List Str := [("row" : Str), ("some" : Str)]
theorem sc_law_pick : FnScope N_law_pick A_law_pick (defScope (top 19)) := ⟨rfl, rfl, rfl, by decide +kernel, rfl, by decide +kernel, by decide +kernel⟩
@[reducible] def P_law_pick : CSs := .cons (.ret (.sub (.var 1) (.call 10 (.cons false (.var 0) (.cons false (.blt .len (.cons false (.var 1) .nil)) .nil))))) .nil
abbrev N_law_alike : List Str := [("found" : Str), ("due" : Str), ("k" : Str), ("key" : Str)]
abbrev A_law_alike : List Str := [("found" : Str), ("due" : Str)]
theorem sc_law_alike : FnScope N_law_alike A_law_alike (defScope (top 20)) := ⟨rfl, rfl, rfl, by decide +kernel, rfl, by decide +kernel, by decide +kernel⟩
@[reducible] def P_law_alike_b1 : CSs := .cons (.ret (.lit (.bool false))) .nil
@[reducible] def P_law_alike_b2 : CSs := .cons (.ret (.lit (.bool false))) .nil
@[reducible] def P_law_alike_b3_s2 : CSs := .cons (.ret (.cmp (.comp (.var 2) (.slot 2) (.rng1 (.blt .len (.cons false (.var 1) .nil))) (.yes (.not (.v (.call 12 (.cons false (.sub (.var 0) (.var 2)) (.cons false (.sub (.var 1) (.var 2)) .nil))))))) .eq (.lst .nil))) .nil
@[reducible] def P_law_alike_b3_s1 : CSs := .cons (.ife (.v (.cmp (.blt .len (.cons false (.var 0) .nil)) .ne (.blt .len (.cons false (.var 1) .nil)))) P_law_alike_b2 .nil) P_law_alike_b3_s2
@[reducible] def P_law_alike_b3 : CSs := .cons (.ife (.or (.not (.v (.isi (.var 0) .row))) (.v (.cmp (.isi (.var 0) .list) .ne (.isi (.var 1) .list)))) P_law_alike_b1 .nil) P_law_alike_b3_s1
@[reducible] def P_law_alike_b4 : CSs := .cons (.ret (.lit (.bool false))) .nil
@[reducible] def P_law_alike_b5_s1 : CSs := .cons (.ret (.cmp (.comp (.var 3) (.slot 3) (.e (.var 1)) (.yes (.not (.v (.call 12 (.cons false (.sub (.var 0) (.var 3)) (.cons false (.sub (.var 1) (.var 3)) .nil))))))) .eq (.lst .nil))) .nil
@[reducible] def P_law_alike_b5 : CSs := .cons (.ife (.or (.not (.v (.isi (.var 0) .dict))) (.v (.cmp (.blt .list (.cons false (.var 0) .nil)) .ne (.blt .list (.cons false (.var 1) .nil))))) P_law_alike_b4 .nil) P_law_alike_b5_s1
@[reducible] def P_law_alike_b6 : CSs := .cons (.ret (.and (.cmp (.var 0) .eq (.var 1)) (.cmp (.isi (.var 0) .str) .eq (.isi (.var 1) .str)))) .nil
@[reducible] def P_law_alike_s3 : CSs := .cons (.ret (.and (.isi (.var 0) .int) (.and (.cmp (.isi (.var 0) .bool) .eq (.isi (.var 1) .bool)) (.cmp (.var 0) .eq (.var 1))))) .nil
@[reducible] def P_law_alike_s2 : CSs := .cons (.ife (.or (.v (.isN (.var 1))) (.v (.isi (.var 1) .str))) P_law_alike_b6 .nil) P_law_alike_s3
@[reducible] def P_law_alike_s1 : CSs := .cons (.ife (.v (.isi (.var 1) .dict)) P_law_alike_b5 .nil) P_law_alike_s2
@[reducible] def P_law_alike : CSs := .cons (.ife (.v (.isi (.var 1) .row)) P_law_alike_b3 .nil) P_law_alike_s1
abbrev N_law_refused : List Str := [("ask" : Str), ("e" : Str)]
abbrev A_law_refused : List Str := [("ask" : Str)]
theorem sc_law_refused : FnScope N_law_refused A_law_refused (defScope (top 21)) := ⟨rfl, rfl, rfl, by decide +kernel, rfl, by decide +kernel, by decide +kernel⟩
abbrev N_law : List Str := [("script" : Str), ("row" : Str), ("most" : Str), ("heights" : Str), ("at" : Str), ("best" : Str), ("begin" : Str), ("bad" : Str), ("ask" : Str), ("many" : Str), ("higher" : Str), ("seen" : Str), ("whole" : Str), ("pairs" : Str), ("later" : Str), ("other" : Str), ("low" : Str), ("end" : Str), ("k" : Str), ("between" : Str), ("area" : Str)]
abbrev A_law : List Str := [("script" : Str)]
theorem sc_law : FnScope N_law A_law (defScope (top 22)) := ⟨rfl, rfl, rfl, by decide +kernel, rfl, by decide +kernel, by decide +kernel⟩
@[reducible] def P_law_b1_s1 : CSs := .cons (.asg (.slot 13) (.bin .add (.var 13) (.ife (.v (.cmp (.blt .max1 (.cons false (.bin .add (.var 19) (.lst (.cons false (.neg (.lit (.int 1))) .nil))) .nil)) .lt (.blt .min2 (.cons false (.sub (.var 3) (.var 4)) (.cons false (.sub (.var 3) (.var 15)) .nil))))) (.lit (.int 1)) (.lit (.int 0))))) .nil
@[reducible] def P_law_b1 : CSs := .cons (.asg (.slot 19) (.slice (.var 3) (.yes (.bin .add (.var 4) (.lit (.int 1)))) (.yes (.var 15)))) P_law_b1_s1
@[reducible] def P_law_b2_s4 : CSs := .cons (.for_ (.slot 15) (.rng2 (.bin .add (.var 4) (.lit (.int 1))) (.var 9)) P_law_b1) .nil
@[reducible] def P_law_b2_s3 : CSs := .cons (.asg (.slot 12) (.bin .sub (.bin .add (.var 12) (.blt .min2 (.cons false (.blt .max1 (.cons false (.slice (.var 3) .no (.yes (.bin .add (.var 4) (.lit (.int 1))))) .nil)) (.cons false (.blt .max1 (.cons false (.slice (.var 3) (.yes (.var 4)) .no) .nil)) .nil)))) (.sub (.var 3) (.var 4)))) P_law_b2_s4
@[reducible] def P_law_b2_s2 : CSs := .cons (.asg (.slot 11) (.bin .add (.var 11) (.ife (.v (.cmp (.comp (.var 15) (.slot 15) (.rng1 (.var 4)) (.yes (.v (.cmp (.sub (.var 3) (.var 15)) .ge (.sub (.var 3) (.var 4)))))) .eq (.lst .nil))) (.lst (.cons false (.var 4) .nil)) (.lst .nil)))) P_law_b2_s3
@[reducible] def P_law_b2_s1 : CSs := .cons (.mut .append 10 (.cons false (.ife (.v (.cmp (.var 14) .ne (.lst .nil))) (.sub (.var 14) (.lit (.int 0))) (.lit .none)) .nil)) P_law_b2_s2
@[reducible] def P_law_b2 : CSs := .cons (.asg (.slot 14) (.comp (.var 15) (.slot 15) (.rng2 (.bin .add (.var 4) (.lit (.int 1))) (.var 9)) (.yes (.v (.cmp (.sub (.var 3) (.var 15)) .gt (.sub (.var 3) (.var 4))))))) P_law_b2_s1
@[reducible] def P_law_b3 : CSs := .cons (.ret (.lit (.bool false))) .nil
@[reducible] def P_law_b4 : CSs := .cons (.ret (.lit (.bool false))) .nil
@[reducible] def P_law_b5_s2 : CSs := .cons (.asg (.slot 5) (.ife (.or (.v (.isN (.var 5))) (.v (.cmp (.var 20) .gt (.sub (.var 5) (.lit (.int 0)))))) (.tup (.cons false (.var 20) (.cons false (.var 6) (.cons false (.var 17) .nil)))) (.var 5))) .nil
@[reducible] def P_law_b5_s1 : CSs := .cons (.asg (.slot 20) (.bin .mul (.var 16) (.bin .sub (.var 17) (.var 6)))) P_law_b5_s2
@[reducible] def P_law_b5 : CSs := .cons (.asg (.slot 16) (.blt .min2 (.cons false (.var 16) (.cons false (.sub (.var 3) (.bin .sub (.var 17) (.lit (.int 1)))) .nil)))) P_law_b5_s1
@[reducible] def P_law_b6_s1 : CSs := .cons (.for_ (.slot 17) (.rng2 (.bin .add (.var 6) (.lit (.int 1))) (.bin .add (.var 9) (.lit (.int 1)))) P_law_b5) .nil
@[reducible] def P_law_b6 : CSs := .cons (.asg (.slot 16) (.sub (.var 3) (.var 6))) P_law_b6_s1
@[reducible] def P_law_b7 : CSs := .cons (.ret (.lit (.bool false))) .nil
@[reducible] def P_law_b8 : CSs := .cons (.ret (.lit (.bool false))) .nil
@[reducible] def P_law_b9 : CSs := .cons (.ret (.lit (.bool false))) .nil
@[reducible] def P_law_b10_s2 : CSs := .cons (.ife (.v (.cmp (.lam 13 (.callv 8 (.cons false (.call 11 (.cons false (.var 1) (.cons false (.lst (.cons false (.lit .none) (.cons false (.lst .nil) (.cons false (.bin .mul (.lst (.cons false (.lit (.int 1)) .nil)) (.lit (.int 41))) (.cons false (.lit (.int 5)) .nil))))) .nil))) .nil))) .ne (.tup (.cons false (.lit (.str (Str.ofString "heights"))) (.cons false (.neg (.lit (.int 1))) .nil))))) P_law_b9 .nil) .nil
@[reducible] def P_law_b10_s1 : CSs := .cons (.ife (.v (.cmp (.lam 13 (.callv 8 (.cons false (.var 7) .nil))) .ne (.tup (.cons false (.lit (.str (Str.ofString "heights"))) (.cons false (.bin .sub (.blt .len (.cons false (.var 7) .nil)) (.lit (.int 1))) .nil))))) P_law_b8 .nil) P_law_b10_s2
@[reducible] def P_law_b10 : CSs := .cons (.frz 7) P_law_b10_s1
@[reducible] def P_law_s12 : CSs := .cons (.ret (.and (.cmp (.call 9 (.cons false (.lst (.cons false (.lit (.int 3)) (.cons false (.lit (.int 1)) (.cons false (.lit (.int 2)) .nil)))) .nil)) .eq (.lit (.int 3))) (.cmp (.call 8 (.cons false (.lst (.cons false (.lit (.int 2)) (.cons false (.lit (.int 0)) (.cons false (.lit (.int 2)) .nil)))) .nil)) .eq (.lit (.int 2))))) .nil
@[reducible] def P_law_s11 : CSs := .cons (.fors 8 [4, 5, 7, 8, 9] P_law_b10) P_law_s12
@[reducible] def P_law_s10 : CSs := .cons (.asg (.slot 7) (.bin .add (.slice (.var 3) .no (.yes (.lit (.int 39)))) (.lst (.cons false (.call 11 (.cons false (.var 1) (.cons false (.lst (.cons false (.neg (.lit (.int 1))) (.cons false (.lit (.int 1001)) (.cons false (.lit .none) (.cons false (.lit (.bool true)) .nil))))) .nil))) .nil)))) P_law_s11
@[reducible] def P_law_s9 : CSs := .cons (.ife (.not (.v (.call 12 (.cons false (.call 7 (.cons false (.var 3) .nil)) (.cons false (.var 5) .nil))))) P_law_b7 .nil) P_law_s10
@[reducible] def P_law_s8 : CSs := .cons (.for_ (.slot 6) (.rng1 (.var 9)) P_law_b6) P_law_s9
@[reducible] def P_law_s7 : CSs := .cons (.asg (.slot 5) (.lit .none)) P_law_s8
@[reducible] def P_law_s6 : CSs := .cons (.ife (.or (.not (.v (.call 12 (.cons false (.call 8 (.cons false (.var 3) .nil)) (.cons false (.var 12) .nil))))) (.not (.v (.call 12 (.cons false (.call 9 (.cons false (.blt .tuple (.cons false (.var 3) .nil)) .nil)) (.cons false (.var 13) .nil)))))) P_law_b4 .nil) P_law_s7
@[reducible] def P_law_s5 : CSs := .cons (.ife (.or (.not (.v (.call 12 (.cons false (.call 4 (.cons false (.blt .tuple (.cons false (.var 3) .nil)) .nil)) (.cons false (.blt .tuple (.cons false (.var 10) .nil)) .nil))))) (.not (.v (.call 12 (.cons false (.call 5 (.cons false (.var 3) .nil)) (.cons false (.blt .tuple (.cons false (.var 11) .nil)) .nil)))))) P_law_b3 .nil) P_law_s6
@[reducible] def P_law_s4 : CSs := .cons (.for_ (.slot 4) (.rng1 (.var 9)) P_law_b2) P_law_s5
@[reducible] def P_law_s3 : CSs := .cons (.par [9, 10, 11, 12, 13] (.cons false (.blt .len (.cons false (.var 3) .nil)) (.cons false (.lst .nil) (.cons false (.lst .nil) (.cons false (.lit (.int 0)) (.cons false (.lit (.int 0)) .nil)))))) P_law_s4
@[reducible] def P_law_s2 : CSs := .cons (.asg (.slot 3) (.comp (.call 10 (.cons false (.var 1) (.cons false (.var 2) .nil))) (.slot 18) (.rng1 (.bin .add (.lit (.int 1)) (.call 10 (.cons false (.var 1) (.cons false (.ife (.v (.cmp (.call 10 (.cons false (.var 1) (.cons false (.lit (.int 5)) .nil))) .eq (.lit (.int 0)))) (.lit (.int 40)) (.lit (.int 10))) .nil))))) .no)) P_law_s3
@[reducible] def P_law_s1 : CSs := .cons (.frz 2) P_law_s2
@[reducible] def P_law : CSs := .cons (.asg (.slot 2) (.call 11 (.cons false (.var 1) (.cons false (.lst (.cons false (.lit (.int 2)) (.cons false (.lit (.int 4)) (.cons false (.lit (.int 9)) (.cons false (.lit (.int 1001)) .nil))))) .nil)))) P_law_s1
structure Nm (L : Lw) (mg : Str → Option Value) : Prop where
  b_bool : mg "bool" = none
  b_dict : mg "dict" = none
  b_enumerate : mg "enumerate" = none
  b_int : mg "int" = none
  b_isinstance : mg "isinstance" = none
  b_len : mg "len" = none
  b_list : mg "list" = none
  b_max : mg "max" = none
  b_min : mg "min" = none
  b_range : mg "range" = none
  b_str : mg "str" = none
  b_tuple : mg "tuple" = none
  f__law_alike : mg "_law_alike" = some (.ref (L.ft 12))
  f__law_pick : mg "_law_pick" = some (.ref (L.ft 11))
  f__law_taken : mg "_law_taken" = some (.ref (L.ft 10))
  f_all_blocks : mg "all_blocks" = some (.ref (L.ft 6))
  f_check_heights : mg "check_heights" = some (.ref (L.ft 3))
  f_greatest_block : mg "greatest_block" = some (.ref (L.ft 7))
  f_is_integer : mg "is_integer" = some (.ref (L.ft 0))
  f_is_row : mg "is_row" = some (.ref (L.ft 2))
  f_is_within : mg "is_within" = some (.ref (L.ft 1))
  f_next_higher : mg "next_higher" = some (.ref (L.ft 4))
  f_pairs_seen : mg "pairs_seen" = some (.ref (L.ft 9))
  f_rain_held : mg "rain_held" = some (.ref (L.ft 8))
  f_seen_from_left : mg "seen_from_left" = some (.ref (L.ft 5))
  g_MOST_HEIGHT : ∃ (v : V) (u : Value), mg "MOST_HEIGHT" = some u ∧ RelV v u ∧ ∀ S, Rp L.K S v (.int 1000)
  g_MOST_TREES : ∃ (v : V) (u : Value), mg "MOST_TREES" = some u ∧ RelV v u ∧ ∀ S, Rp L.K S v (.int 40)
theorem wk_is_integer {L : Lw} {R : Option Addr} {E0 : En} {EX : Exn → Prop} {G : Gm} {P : Program} {w : World} {mg : Str → Option Value} {base : Heap} {f : Addr} {A : Around} {s : Shared} {H : Hp} {k : Nat} {cdv : Value} {outer : List Env} {E : XK} (Y : Nm L mg)  (hd : ∀ n, n < 0 → n < G.dom) (F : Fit (L.at_ R) E0 EX (cxOf (L2.CX P w) P w L.K mg base N_is_integer "is_integer" (defScope (top 1)) f cdv A outer s H E) k) (Gk : GOk (L.at_ R) G (cxOf (L2.CX P w) P w L.K mg base N_is_integer "is_integer" (defScope (top 1)) f cdv A outer s H E) k) :
    PSs (cxOf (L2.CX P w) P w L.K mg base N_is_integer "is_integer" (defScope (top 1)) f cdv A outer s H E) (defBody (top 1)) (tSt (L.at_ R) E0 (evSs G EX P_is_integer)) := by
  exact (jss_cons (js_ret (JE.d (je_and (je_isi F (ki := .int) (je_var (i := 0) rfl (vis_by rfl) rfl rfl) (by decide) rfl rfl Y.b_isinstance rfl Y.b_int) (JE.d (jk_and1 (je_not F (je_isi F (ki := .bool) (je_var (i := 0) rfl (vis_by rfl) rfl rfl) (by decide) rfl rfl Y.b_isinstance rfl Y.b_bool)) (fun _ z => by cases z))))) (fun _ z => by cases z))
  jss_nil)
theorem wk_is_within {L : Lw} {R : Option Addr} {E0 : En} {EX : Exn → Prop} {G : Gm} {P : Program} {w : World} {mg : Str → Option Value} {base : Heap} {f : Addr} {A : Around} {s : Shared} {H : Hp} {k : Nat} {cdv : Value} {outer : List Env} {E : XK} (Y : Nm L mg)  (hd : ∀ n, n < 1 → n < G.dom) (F : Fit (L.at_ R) E0 EX (cxOf (L2.CX P w) P w L.K mg base N_is_within "is_within" (defScope (top 2)) f cdv A outer s H E) k) (Gk : GOk (L.at_ R) G (cxOf (L2.CX P w) P w L.K mg base N_is_within "is_within" (defScope (top 2)) f cdv A outer s H E) k) :
    PSs (cxOf (L2.CX P w) P w L.K mg base N_is_within "is_within" (defScope (top 2)) f cdv A outer s H E) (defBody (top 2)) (tSt (L.at_ R) E0 (evSs G EX P_is_within)) := by
  exact (jss_cons (js_ret (JE.d (je_and (je_call F Gk (f := 0) (hd 0 (by decide)) (ja_cons (je_var (i := 0) rfl (vis_by rfl) rfl rfl) ja_nil rfl) rfl Y.f_is_integer rfl rfl) (JE.d (jk_and1 (je_cmp2 F .le .le (je_var (i := 1) rfl (vis_by rfl) rfl rfl) (je_var (i := 0) rfl (vis_by rfl) rfl rfl) (je_var (i := 2) rfl (vis_by rfl) rfl rfl) rfl) (fun _ z => by cases z))))) (fun _ z => by cases z))
  jss_nil)
theorem wk_is_row {L : Lw} {R : Option Addr} {E0 : En} {EX : Exn → Prop} {G : Gm} {P : Program} {w : World} {mg : Str → Option Value} {base : Heap} {f : Addr} {A : Around} {s : Shared} {H : Hp} {k : Nat} {cdv : Value} {outer : List Env} {E : XK} (Y : Nm L mg)  (hd : ∀ n, n < 2 → n < G.dom) (F : Fit (L.at_ R) E0 EX (cxOf (L2.CX P w) P w L.K mg base N_is_row "is_row" (defScope (top 3)) f cdv A outer s H E) k) (Gk : GOk (L.at_ R) G (cxOf (L2.CX P w) P w L.K mg base N_is_row "is_row" (defScope (top 3)) f cdv A outer s H E) k) :
    PSs (cxOf (L2.CX P w) P w L.K mg base N_is_row "is_row" (defScope (top 3)) f cdv A outer s H E) (defBody (top 3)) (tSt (L.at_ R) E0 (evSs G EX P_is_row)) := by
  exact (jss_cons (js_ret (JE.d (je_isiT F (a := .list) (b := .tuple) (je_var (i := 0) rfl (vis_by rfl) rfl rfl) (by decide) rfl rfl Y.b_isinstance rfl Y.b_list rfl Y.b_tuple)) (fun _ z => by cases z))
  jss_nil)
theorem wk_check_heights {L : Lw} {R : Option Addr} {E0 : En} {EX : Exn → Prop} {G : Gm} {P : Program} {w : World} {mg : Str → Option Value} {base : Heap} {f : Addr} {A : Around} {s : Shared} {H : Hp} {k : Nat} {cdv : Value} {outer : List Env} {E : XK} (Y : Nm L mg) (C_BadHeights : ClsOk L P w L.K mg base k "BadHeights" 1) (hd : ∀ n, n < 3 → n < G.dom) (F : Fit (L.at_ R) E0 EX (cxOf (L2.CX P w) P w L.K mg base N_check_heights "check_heights" (defScope (top 10)) f cdv A outer s H E) k) (Gk : GOk (L.at_ R) G (cxOf (L2.CX P w) P w L.K mg base N_check_heights "check_heights" (defScope (top 10)) f cdv A outer s H E) k) :
    PSs (cxOf (L2.CX P w) P w L.K mg base N_check_heights "check_heights" (defScope (top 10)) f cdv A outer s H E) (defBody (top 10)) (tSt (L.at_ R) E0 (evSs G EX P_check_heights)) := by
  obtain ⟨_, _, g_MOST_HEIGHT⟩ := Y.g_MOST_HEIGHT
  obtain ⟨_, _, g_MOST_TREES⟩ := Y.g_MOST_TREES
  exact (jss_cons (js_if (PW.pt (jq_or (jq_not (jq_v F (je_call F Gk (f := 2) (hd 2 (by decide)) (ja_cons (je_var (i := 0) rfl (vis_by rfl) rfl rfl) ja_nil rfl) rfl Y.f_is_row rfl rfl) (fun _ => rfl))) (pw_or1 (jq_not (jq_cmp2 F .le .le je_lit_int (je_blt1 F (f := .len) cb_len (jb_cons (je_var (i := 0) rfl (vis_by rfl) rfl rfl) jb_nil rfl) rfl Y.b_len rfl rfl (by decide) rfl) (je_gc rfl g_MOST_TREES.1 g_MOST_TREES.2.1 g_MOST_TREES.2.2 rfl) rfl))))) (jss_cons (js_raise F C_BadHeights.at_ rfl (je_neg je_lit_int) rfl rfl)
  jss_nil) jss_nil)
  (jss_cons (js_for F (jk_enum F (je_var (i := 0) rfl (vis_by rfl) rfl rfl) rfl rfl Y.b_enumerate) (jg_tup F (jgs_cons (jg_slot F (i := 1) rfl (loc_by rfl) (by first | exact .inl rfl | exact .inr rfl)) (jgs_cons (jg_slot F (i := 2) rfl (loc_by rfl) (by first | exact .inl rfl | exact .inr rfl)) jgs_nil rfl) rfl) rfl rfl) (jss_cons (js_if (jq_not (jq_v F (je_call F Gk (f := 1) (hd 1 (by decide)) (ja_cons (je_var (i := 2) rfl (vis_by rfl) rfl rfl) (ja_cons je_lit_int (ja_cons (je_gc rfl g_MOST_HEIGHT.1 g_MOST_HEIGHT.2.1 g_MOST_HEIGHT.2.2 rfl) ja_nil rfl) rfl) rfl) rfl Y.f_is_within rfl rfl) (fun _ => rfl))) (jss_cons (js_raise F C_BadHeights.at_ rfl (je_var (i := 1) rfl (vis_by rfl) rfl rfl) rfl rfl)
  jss_nil) jss_nil)
  jss_nil) (fun _ => rfl))
  jss_nil))
theorem wk_next_higher {L : Lw} {R : Option Addr} {E0 : En} {EX : Exn → Prop} {G : Gm} {P : Program} {w : World} {mg : Str → Option Value} {base : Heap} {f : Addr} {A : Around} {s : Shared} {H : Hp} {k : Nat} {cdv : Value} {outer : List Env} {E : XK} (Y : Nm L mg)  (hd : ∀ n, n < 4 → n < G.dom) (F : Fit (L.at_ R) E0 EX (cxOf (L2.CX P w) P w L.K mg base N_next_higher "next_higher" (defScope (top 11)) f cdv A outer s H E) k) (Gk : GOk (L.at_ R) G (cxOf (L2.CX P w) P w L.K mg base N_next_higher "next_higher" (defScope (top 11)) f cdv A outer s H E) k) :
    PSs (cxOf (L2.CX P w) P w L.K mg base N_next_higher "next_higher" (defScope (top 11)) f cdv A outer s H E) (defBody (top 11)) (tSt (L.at_ R) E0 (evSs G EX P_next_higher)) := by
  exact (jss_cons (js_ex (JE.d (je_call F Gk (f := 3) (hd 3 (by decide)) (ja_cons (je_var (i := 0) rfl (vis_by rfl) rfl rfl) ja_nil rfl) rfl Y.f_check_heights rfl rfl)) rfl)
  (jss_cons (js_setLc F (i := 1) rfl rfl (sw_true rfl rfl rfl rfl) (jk_e F (je_var (i := 0) rfl (vis_by rfl) rfl rfl)) (blkOk_by (N := N_next_higher) (sc := defScope (top 11)) (own := [(("_" : Str), 5)]) (by decide +kernel)) rfl (fun E1 s H C cl fp F1 => (jg_slot F1 (i := 5) rfl (loc_by rfl) (by first | exact .inl rfl | exact .inr rfl))) (fun E1 s H C cl fp F1 => jw_no) (fun E1 s H C cl fp F1 => (JE.d je_lit_none)) (fun _ => rfl))
  (jss_cons (js_asg (JE.d (je_lst jd_nil)) (jg_slot F (i := 2) rfl (loc_by rfl) (by first | exact .inl rfl | exact .inr rfl)) rfl rfl rfl)
  (jss_cons (js_for F (jk_enum F (je_var (i := 0) rfl (vis_by rfl) rfl rfl) rfl rfl Y.b_enumerate) (jg_tup F (jgs_cons (jg_slot F (i := 3) rfl (loc_by rfl) (by first | exact .inl rfl | exact .inr rfl)) (jgs_cons (jg_slot F (i := 4) rfl (loc_by rfl) (by first | exact .inl rfl | exact .inr rfl)) jgs_nil rfl) rfl) rfl rfl) (jss_cons (js_while F (PW.pt (jq_and (jq_v F (je_var (i := 2) rfl (vis_by rfl) rfl rfl) (fun _ => rfl)) (pw_and1 (jq_cmp F .lt (je_sub F (je_var (i := 0) rfl (vis_by rfl) rfl rfl) (je_sub F (je_var (i := 2) rfl (vis_by rfl) rfl rfl) (je_neg je_lit_int) rfl) rfl) (je_var (i := 4) rfl (vis_by rfl) rfl rfl) rfl)))) (jss_cons (js_asg (JE.d (je_var (i := 3) rfl (vis_by rfl) rfl rfl)) (jg_sub F (i := 1) rfl (vis_by rfl) rfl rfl (je_pop (i := 2) rfl (vis_by rfl) rfl rfl rfl rfl) (fun _ => rfl)) rfl rfl rfl)
  jss_nil))
  (jss_cons (js_append (i := 2) rfl (vis_by rfl) rfl rfl (je_var (i := 3) rfl (vis_by rfl) rfl rfl) rfl rfl rfl rfl rfl)
  jss_nil)) (fun _ => rfl))
  (jss_cons (js_ret (JE.d (je_bltT F (f := .tuple) cb_tuple (jb_cons (je_var (i := 1) rfl (vis_by rfl) rfl rfl) jb_nil rfl) rfl Y.b_tuple rfl rfl (by decide) rfl)) (fun _ z => by cases z))
  jss_nil)))))
theorem wk_seen_from_left {L : Lw} {R : Option Addr} {E0 : En} {EX : Exn → Prop} {G : Gm} {P : Program} {w : World} {mg : Str → Option Value} {base : Heap} {f : Addr} {A : Around} {s : Shared} {H : Hp} {k : Nat} {cdv : Value} {outer : List Env} {E : XK} (Y : Nm L mg)  (hd : ∀ n, n < 5 → n < G.dom) (F : Fit (L.at_ R) E0 EX (cxOf (L2.CX P w) P w L.K mg base N_seen_from_left "seen_from_left" (defScope (top 12)) f cdv A outer s H E) k) (Gk : GOk (L.at_ R) G (cxOf (L2.CX P w) P w L.K mg base N_seen_from_left "seen_from_left" (defScope (top 12)) f cdv A outer s H E) k) :
    PSs (cxOf (L2.CX P w) P w L.K mg base N_seen_from_left "seen_from_left" (defScope (top 12)) f cdv A outer s H E) (defBody (top 12)) (tSt (L.at_ R) E0 (evSs G EX P_seen_from_left)) := by
  exact (jss_cons (js_ex (JE.d (je_call F Gk (f := 3) (hd 3 (by decide)) (ja_cons (je_var (i := 0) rfl (vis_by rfl) rfl rfl) ja_nil rfl) rfl Y.f_check_heights rfl rfl)) rfl)
  (jss_cons (js_asg (JE.d (je_lst jd_nil)) (jg_slot F (i := 1) rfl (loc_by rfl) (by first | exact .inl rfl | exact .inr rfl)) rfl rfl rfl)
  (jss_cons (js_asg (JE.d (je_neg je_lit_int)) (jg_slot F (i := 2) rfl (loc_by rfl) (by first | exact .inl rfl | exact .inr rfl)) rfl rfl rfl)
  (jss_cons (js_for F (jk_enum F (je_var (i := 0) rfl (vis_by rfl) rfl rfl) rfl rfl Y.b_enumerate) (jg_tup F (jgs_cons (jg_slot F (i := 3) rfl (loc_by rfl) (by first | exact .inl rfl | exact .inr rfl)) (jgs_cons (jg_slot F (i := 4) rfl (loc_by rfl) (by first | exact .inl rfl | exact .inr rfl)) jgs_nil rfl) rfl) rfl rfl) (jss_cons (js_if (jq_cmp F .gt (je_var (i := 4) rfl (vis_by rfl) rfl rfl) (je_var (i := 2) rfl (vis_by rfl) rfl rfl) rfl) (jss_cons (js_append (i := 1) rfl (vis_by rfl) rfl rfl (je_var (i := 3) rfl (vis_by rfl) rfl rfl) rfl rfl rfl rfl rfl)
  (jss_cons (js_asg (JE.d (je_var (i := 4) rfl (vis_by rfl) rfl rfl)) (jg_slot F (i := 2) rfl (loc_by rfl) (by first | exact .inl rfl | exact .inr rfl)) rfl rfl rfl)
  jss_nil)) jss_nil)
  jss_nil) (fun _ => rfl))
  (jss_cons (js_ret (JE.d (je_bltT F (f := .tuple) cb_tuple (jb_cons (je_var (i := 1) rfl (vis_by rfl) rfl rfl) jb_nil rfl) rfl Y.b_tuple rfl rfl (by decide) rfl)) (fun _ z => by cases z))
  jss_nil)))))
theorem wk_all_blocks {L : Lw} {R : Option Addr} {E0 : En} {EX : Exn → Prop} {G : Gm} {P : Program} {w : World} {mg : Str → Option Value} {base : Heap} {f : Addr} {A : Around} {s : Shared} {H : Hp} {k : Nat} {cdv : Value} {outer : List Env} {E : XK} (Y : Nm L mg)  (hd : ∀ n, n < 6 → n < G.dom) (F : Fit (L.at_ R) E0 EX (cxOf (L2.CX P w) P w L.K mg base N_all_blocks "all_blocks" (defScope (top 13)) f cdv A outer s H E) k) (Gk : GOk (L.at_ R) G (cxOf (L2.CX P w) P w L.K mg base N_all_blocks "all_blocks" (defScope (top 13)) f cdv A outer s H E) k) :
    PSs (cxOf (L2.CX P w) P w L.K mg base N_all_blocks "all_blocks" (defScope (top 13)) f cdv A outer s H E) (defBody (top 13)) (tSt (L.at_ R) E0 (evSs G EX P_all_blocks)) := by
  exact (jss_cons (js_asg (JE.d (je_lst jd_nil)) (jg_slot F (i := 1) rfl (loc_by rfl) (by first | exact .inl rfl | exact .inr rfl)) rfl rfl rfl)
  (jss_cons (js_for F (jk_enum F (je_var (i := 0) rfl (vis_by rfl) rfl rfl) rfl rfl Y.b_enumerate) (jg_tup F (jgs_cons (jg_slot F (i := 2) rfl (loc_by rfl) (by first | exact .inl rfl | exact .inr rfl)) (jgs_cons (jg_slot F (i := 3) rfl (loc_by rfl) (by first | exact .inl rfl | exact .inr rfl)) jgs_nil rfl) rfl) rfl rfl) (jss_cons (js_par2 F (i := 4) (j := 5) rfl rfl (by decide) rfl rfl (jv_cons (je_var (i := 2) rfl (vis_by rfl) rfl rfl) (jv_cons (je_bin F .add (je_var (i := 2) rfl (vis_by rfl) rfl rfl) je_lit_int) jv_nil rfl) rfl) rfl rfl)
  (jss_cons (js_while F (PW.pt (jq_and (jq_cmp F .gt (je_var (i := 4) rfl (vis_by rfl) rfl rfl) je_lit_int rfl) (pw_and1 (jq_cmp F .ge (je_sub F (je_var (i := 0) rfl (vis_by rfl) rfl rfl) (je_bin F .sub (je_var (i := 4) rfl (vis_by rfl) rfl rfl) je_lit_int) rfl) (je_var (i := 3) rfl (vis_by rfl) rfl rfl) rfl)))) (jss_cons (js_aug F .sub (by decide) (i := 4) rfl (loc_by rfl) (by first | exact .inl rfl | exact .inr rfl) je_lit_int)
  jss_nil))
  (jss_cons (js_while F (PW.pt (jq_and (jq_cmp F .lt (je_var (i := 5) rfl (vis_by rfl) rfl rfl) (je_blt1 F (f := .len) cb_len (jb_cons (je_var (i := 0) rfl (vis_by rfl) rfl rfl) jb_nil rfl) rfl Y.b_len rfl rfl (by decide) rfl) rfl) (pw_and1 (jq_cmp F .ge (je_sub F (je_var (i := 0) rfl (vis_by rfl) rfl rfl) (je_var (i := 5) rfl (vis_by rfl) rfl rfl) rfl) (je_var (i := 3) rfl (vis_by rfl) rfl rfl) rfl)))) (jss_cons (js_aug F .add (by decide) (i := 5) rfl (loc_by rfl) (by first | exact .inl rfl | exact .inr rfl) je_lit_int)
  jss_nil))
  (jss_cons (js_append (i := 1) rfl (vis_by rfl) rfl rfl (je_tup (jd_cons (je_bin F .mul (je_neg (je_var (i := 3) rfl (vis_by rfl) rfl rfl)) (je_bin F .sub (je_var (i := 5) rfl (vis_by rfl) rfl rfl) (je_var (i := 4) rfl (vis_by rfl) rfl rfl))) (jd_cons (je_var (i := 4) rfl (vis_by rfl) rfl rfl) (jd_cons (je_var (i := 5) rfl (vis_by rfl) rfl rfl) jd_nil rfl) rfl) rfl)) rfl rfl rfl rfl rfl)
  jss_nil)))) (fun _ => rfl))
  (jss_cons (js_retV (i := 1) rfl (vis_by rfl) rfl rfl)
  jss_nil)))
theorem wk_greatest_block {L : Lw} {R : Option Addr} {E0 : En} {EX : Exn → Prop} {G : Gm} {P : Program} {w : World} {mg : Str → Option Value} {base : Heap} {f : Addr} {A : Around} {s : Shared} {H : Hp} {k : Nat} {cdv : Value} {outer : List Env} {E : XK} (Y : Nm L mg)  (hd : ∀ n, n < 7 → n < G.dom) (F : Fit (L.at_ R) E0 EX (cxOf (L2.CX P w) P w L.K mg base N_greatest_block "greatest_block" (defScope (top 14)) f cdv A outer s H E) k) (Gk : GOk (L.at_ R) G (cxOf (L2.CX P w) P w L.K mg base N_greatest_block "greatest_block" (defScope (top 14)) f cdv A outer s H E) k) :
    PSs (cxOf (L2.CX P w) P w L.K mg base N_greatest_block "greatest_block" (defScope (top 14)) f cdv A outer s H E) (defBody (top 14)) (tSt (L.at_ R) E0 (evSs G EX P_greatest_block)) := by
  exact (jss_cons (js_ex (JE.d (je_call F Gk (f := 3) (hd 3 (by decide)) (ja_cons (je_var (i := 0) rfl (vis_by rfl) rfl rfl) ja_nil rfl) rfl Y.f_check_heights rfl rfl)) rfl)
  (jss_cons (js_asg (JE.d (je_neg (je_sub F (je_blt1 F (f := .min1) (cb_min1 F.calm F.room) (jb_cons (je_call F Gk (f := 6) (hd 6 (by decide)) (ja_cons (je_var (i := 0) rfl (vis_by rfl) rfl rfl) ja_nil rfl) rfl Y.f_all_blocks rfl rfl) jb_nil rfl) rfl Y.b_min rfl rfl (by decide) rfl) je_lit_int rfl))) (jg_slot F (i := 1) rfl (loc_by rfl) (by first | exact .inl rfl | exact .inr rfl)) rfl rfl rfl)
  (jss_cons (js_for F (jk_rng1 F (je_blt1 F (f := .len) cb_len (jb_cons (je_var (i := 0) rfl (vis_by rfl) rfl rfl) jb_nil rfl) rfl Y.b_len rfl rfl (by decide) rfl) rfl rfl Y.b_range) (jg_slot F (i := 2) rfl (loc_by rfl) (by first | exact .inl rfl | exact .inr rfl)) (jss_cons (js_asg (JE.d (je_sub F (je_var (i := 0) rfl (vis_by rfl) rfl rfl) (je_var (i := 2) rfl (vis_by rfl) rfl rfl) rfl)) (jg_slot F (i := 3) rfl (loc_by rfl) (by first | exact .inl rfl | exact .inr rfl)) rfl rfl rfl)
  (jss_cons (js_for F (jk_rng2 F (je_bin F .add (je_var (i := 2) rfl (vis_by rfl) rfl rfl) je_lit_int) (je_bin F .add (je_blt1 F (f := .len) cb_len (jb_cons (je_var (i := 0) rfl (vis_by rfl) rfl rfl) jb_nil rfl) rfl Y.b_len rfl rfl (by decide) rfl) je_lit_int) rfl rfl rfl Y.b_range) (jg_slot F (i := 4) rfl (loc_by rfl) (by first | exact .inl rfl | exact .inr rfl)) (jss_cons (js_asg (JE.d (je_blt1 F (f := .min2) (cb_min2 F.calm) (jb_cons (je_var (i := 3) rfl (vis_by rfl) rfl rfl) (jb_cons (je_sub F (je_var (i := 0) rfl (vis_by rfl) rfl rfl) (je_bin F .sub (je_var (i := 4) rfl (vis_by rfl) rfl rfl) je_lit_int) rfl) jb_nil rfl) rfl) rfl Y.b_min rfl rfl (by decide) rfl)) (jg_slot F (i := 3) rfl (loc_by rfl) (by first | exact .inl rfl | exact .inr rfl)) rfl rfl rfl)
  (jss_cons (js_if (jq_cmp F .eq (je_bin F .mul (je_var (i := 3) rfl (vis_by rfl) rfl rfl) (je_bin F .sub (je_var (i := 4) rfl (vis_by rfl) rfl rfl) (je_var (i := 2) rfl (vis_by rfl) rfl rfl))) (je_var (i := 1) rfl (vis_by rfl) rfl rfl) rfl) (jss_cons (js_ret (JE.d (je_tup (jd_cons (je_var (i := 1) rfl (vis_by rfl) rfl rfl) (jd_cons (je_var (i := 2) rfl (vis_by rfl) rfl rfl) (jd_cons (je_var (i := 4) rfl (vis_by rfl) rfl rfl) jd_nil rfl) rfl) rfl))) (fun _ z => by cases z))
  jss_nil) jss_nil)
  jss_nil)) (fun _ => rfl))
  jss_nil)) (fun _ => rfl))
  (jss_cons (js_ret (JE.d (je_tup (jd_cons je_lit_int (jd_cons je_lit_int (jd_cons je_lit_int jd_nil rfl) rfl) rfl))) (fun _ z => by cases z))
  jss_nil))))
theorem wk_rain_held {L : Lw} {R : Option Addr} {E0 : En} {EX : Exn → Prop} {G : Gm} {P : Program} {w : World} {mg : Str → Option Value} {base : Heap} {f : Addr} {A : Around} {s : Shared} {H : Hp} {k : Nat} {cdv : Value} {outer : List Env} {E : XK} (Y : Nm L mg)  (hd : ∀ n, n < 8 → n < G.dom) (F : Fit (L.at_ R) E0 EX (cxOf (L2.CX P w) P w L.K mg base N_rain_held "rain_held" (defScope (top 15)) f cdv A outer s H E) k) (Gk : GOk (L.at_ R) G (cxOf (L2.CX P w) P w L.K mg base N_rain_held "rain_held" (defScope (top 15)) f cdv A outer s H E) k) :
    PSs (cxOf (L2.CX P w) P w L.K mg base N_rain_held "rain_held" (defScope (top 15)) f cdv A outer s H E) (defBody (top 15)) (tSt (L.at_ R) E0 (evSs G EX P_rain_held)) := by
  exact (jss_cons (js_ex (JE.d (je_call F Gk (f := 3) (hd 3 (by decide)) (ja_cons (je_var (i := 0) rfl (vis_by rfl) rfl rfl) ja_nil rfl) rfl Y.f_check_heights rfl rfl)) rfl)
  (jss_cons (js_par2 F (i := 3) (j := 4) rfl rfl (by decide) rfl rfl (jv_cons je_lit_int (jv_cons (je_bin F .sub (je_blt1 F (f := .len) cb_len (jb_cons (je_var (i := 0) rfl (vis_by rfl) rfl rfl) jb_nil rfl) rfl Y.b_len rfl rfl (by decide) rfl) je_lit_int) jv_nil rfl) rfl) rfl rfl)
  (jss_cons (js_asg2 (JE.d je_lit_int) (jg_slot F (i := 1) rfl (loc_by rfl) (by first | exact .inl rfl | exact .inr rfl)) (jg_slot F (i := 2) rfl (loc_by rfl) (by first | exact .inl rfl | exact .inr rfl)) rfl rfl)
  (jss_cons (js_while F (jq_cmp F .lt (je_var (i := 3) rfl (vis_by rfl) rfl rfl) (je_var (i := 4) rfl (vis_by rfl) rfl rfl) rfl) (jss_cons (js_if (jq_cmp F .le (je_sub F (je_var (i := 0) rfl (vis_by rfl) rfl rfl) (je_var (i := 3) rfl (vis_by rfl) rfl rfl) rfl) (je_sub F (je_var (i := 0) rfl (vis_by rfl) rfl rfl) (je_var (i := 4) rfl (vis_by rfl) rfl rfl) rfl) rfl) (jss_cons (js_asg (JE.d (je_blt1 F (f := .max2) (cb_max2 F.calm) (jb_cons (je_var (i := 1) rfl (vis_by rfl) rfl rfl) (jb_cons (je_sub F (je_var (i := 0) rfl (vis_by rfl) rfl rfl) (je_var (i := 3) rfl (vis_by rfl) rfl rfl) rfl) jb_nil rfl) rfl) rfl Y.b_max rfl rfl (by decide) rfl)) (jg_slot F (i := 1) rfl (loc_by rfl) (by first | exact .inl rfl | exact .inr rfl)) rfl rfl rfl)
  (jss_cons (js_aug F .add (by decide) (i := 2) rfl (loc_by rfl) (by first | exact .inl rfl | exact .inr rfl) (je_bin F .sub (je_var (i := 1) rfl (vis_by rfl) rfl rfl) (je_sub F (je_var (i := 0) rfl (vis_by rfl) rfl rfl) (je_var (i := 3) rfl (vis_by rfl) rfl rfl) rfl)))
  (jss_cons (js_aug F .add (by decide) (i := 3) rfl (loc_by rfl) (by first | exact .inl rfl | exact .inr rfl) je_lit_int)
  jss_nil))) (jss_cons (js_asg (JE.d (je_blt1 F (f := .max2) (cb_max2 F.calm) (jb_cons (je_var (i := 1) rfl (vis_by rfl) rfl rfl) (jb_cons (je_sub F (je_var (i := 0) rfl (vis_by rfl) rfl rfl) (je_var (i := 4) rfl (vis_by rfl) rfl rfl) rfl) jb_nil rfl) rfl) rfl Y.b_max rfl rfl (by decide) rfl)) (jg_slot F (i := 1) rfl (loc_by rfl) (by first | exact .inl rfl | exact .inr rfl)) rfl rfl rfl)
  (jss_cons (js_aug F .add (by decide) (i := 2) rfl (loc_by rfl) (by first | exact .inl rfl | exact .inr rfl) (je_bin F .sub (je_var (i := 1) rfl (vis_by rfl) rfl rfl) (je_sub F (je_var (i := 0) rfl (vis_by rfl) rfl rfl) (je_var (i := 4) rfl (vis_by rfl) rfl rfl) rfl)))
  (jss_cons (js_aug F .sub (by decide) (i := 4) rfl (loc_by rfl) (by first | exact .inl rfl | exact .inr rfl) je_lit_int)
  jss_nil))))
  jss_nil))
  (jss_cons (js_retV (i := 2) rfl (vis_by rfl) rfl rfl)
  jss_nil)))))
theorem wk_pairs_seen {L : Lw} {R : Option Addr} {E0 : En} {EX : Exn → Prop} {G : Gm} {P : Program} {w : World} {mg : Str → Option Value} {base : Heap} {f : Addr} {A : Around} {s : Shared} {H : Hp} {k : Nat} {cdv : Value} {outer : List Env} {E : XK} (Y : Nm L mg)  (hd : ∀ n, n < 9 → n < G.dom) (F : Fit (L.at_ R) E0 EX (cxOf (L2.CX P w) P w L.K mg base N_pairs_seen "pairs_seen" (defScope (top 16)) f cdv A outer s H E) k) (Gk : GOk (L.at_ R) G (cxOf (L2.CX P w) P w L.K mg base N_pairs_seen "pairs_seen" (defScope (top 16)) f cdv A outer s H E) k) :
    PSs (cxOf (L2.CX P w) P w L.K mg base N_pairs_seen "pairs_seen" (defScope (top 16)) f cdv A outer s H E) (defBody (top 16)) (tSt (L.at_ R) E0 (evSs G EX P_pairs_seen)) := by
  exact (jss_cons (js_ex (JE.d (je_call F Gk (f := 3) (hd 3 (by decide)) (ja_cons (je_var (i := 0) rfl (vis_by rfl) rfl rfl) ja_nil rfl) rfl Y.f_check_heights rfl rfl)) rfl)
  (jss_cons (js_asg (JE.d (je_lst jd_nil)) (jg_slot F (i := 1) rfl (loc_by rfl) (by first | exact .inl rfl | exact .inr rfl)) rfl rfl rfl)
  (jss_cons (js_asg (JE.d je_lit_int) (jg_slot F (i := 2) rfl (loc_by rfl) (by first | exact .inl rfl | exact .inr rfl)) rfl rfl rfl)
  (jss_cons (js_for F (jk_e F (je_var (i := 0) rfl (vis_by rfl) rfl rfl)) (jg_slot F (i := 3) rfl (loc_by rfl) (by first | exact .inl rfl | exact .inr rfl)) (jss_cons (js_while F (PW.pt (jq_and (jq_v F (je_var (i := 1) rfl (vis_by rfl) rfl rfl) (fun _ => rfl)) (pw_and1 (jq_cmp F .lt (je_sub F (je_var (i := 1) rfl (vis_by rfl) rfl rfl) (je_neg je_lit_int) rfl) (je_var (i := 3) rfl (vis_by rfl) rfl rfl) rfl)))) (jss_cons (js_ex (JE.d (je_pop (i := 1) rfl (vis_by rfl) rfl rfl rfl rfl)) rfl)
  (jss_cons (js_aug F .add (by decide) (i := 2) rfl (loc_by rfl) (by first | exact .inl rfl | exact .inr rfl) je_lit_int)
  jss_nil)))
  (jss_cons (js_if (jq_v F (je_var (i := 1) rfl (vis_by rfl) rfl rfl) (fun _ => rfl)) (jss_cons (js_aug F .add (by decide) (i := 2) rfl (loc_by rfl) (by first | exact .inl rfl | exact .inr rfl) je_lit_int)
  jss_nil) jss_nil)
  (jss_cons (js_if (PW.pt (jq_and (jq_v F (je_var (i := 1) rfl (vis_by rfl) rfl rfl) (fun _ => rfl)) (pw_and1 (jq_cmp F .eq (je_sub F (je_var (i := 1) rfl (vis_by rfl) rfl rfl) (je_neg je_lit_int) rfl) (je_var (i := 3) rfl (vis_by rfl) rfl rfl) rfl)))) (jss_cons (js_ex (JE.d (je_pop (i := 1) rfl (vis_by rfl) rfl rfl rfl rfl)) rfl)
  jss_nil) jss_nil)
  (jss_cons (js_append (i := 1) rfl (vis_by rfl) rfl rfl (je_var (i := 3) rfl (vis_by rfl) rfl rfl) rfl rfl rfl rfl rfl)
  jss_nil)))) (fun _ => rfl))
  (jss_cons (js_retV (i := 2) rfl (vis_by rfl) rfl rfl)
  jss_nil)))))
theorem wk_law_taken {L : Lw} {P : Program} {w : World} {mg : Str → Option Value} {base : Heap} {f : Addr} {cdv : Value} {A : Around} {outer : List Env} {s : Shared} {H : Hp} {E : XK} (Y : Nm L mg) :
    PSs (cxOf (L2.CX P w) P w L.K mg base N_law_taken "_law_taken" (defScope (top 18)) f cdv A outer s H E) (defBody (top 18)) (tTaken L.K) := by
  have nd : N_law_taken.Nodup := sc_law_taken.nd
  have v0 : ∀ {p : Pos}, PE (cxOf (L2.CX P w) P w L.K mg base N_law_taken "_law_taken" (defScope (top 18)) f cdv A outer s H E) (.Name "row" p) (tVar 0) := pe_var rfl (.inl rfl)
  have v1 : ∀ {p : Pos}, PE (cxOf (L2.CX P w) P w L.K mg base N_law_taken "_law_taken" (defScope (top 18)) f cdv A outer s H E) (.Name "many" p) (tVar 1) := pe_var rfl (.inl rfl)
  have v2 : ∀ {p : Pos}, PE (cxOf (L2.CX P w) P w L.K mg base N_law_taken "_law_taken" (defScope (top 18)) f cdv A outer s H E) (.Name "cell" p) (tVar 2) := pe_var rfl (.inl rfl)
  have v3 : ∀ {p : Pos}, PE (cxOf (L2.CX P w) P w L.K mg base N_law_taken "_law_taken" (defScope (top 18)) f cdv A outer s H E) (.Name "found" p) (tVar 3) := pe_var rfl (.inl rfl)
  exact (pss_cons (ps_if (pt_cmpR op_gt (pe_ix ix_list v0 pe_int fun _ _ => rfl) pe_int rfl)
    (pss_cons (ps_set nd rfl (.inl rfl) (pe_op op_mod (pe_callTy call_int1 rfl Y.b_int rfl (pa_cons (pe_ix ix_list v0 pe_int fun _ _ => rfl) pa_nil)) v1)) (pss_cons (ps_asg (pe_op op_fdiv (pe_ix ix_list v0 pe_int fun _ _ => rfl) v1) (pg_sub v0 pe_int set_list)) (pss_one (ps_ret v3)))) pss_nil)
    (pss_cons (ps_asg (pe_op op_add (pe_ix ix_list v0 pe_int fun _ _ => rfl) pe_int) (pg_sub v0 pe_int set_list))
    (pss_cons (ps_if (pt_cmpR op_gt (pe_ix ix_list v0 pe_int fun _ _ => rfl) (pe_callB call_len rfl Y.b_len boot_len (pa_cons (pe_ix ix_list v0 pe_int fun _ _ => rfl) pa_nil)) rfl)
      (pss_cons (ps_asg (pe_op op_mod (pe_callTy call_int1 rfl Y.b_int rfl (pa_cons (pe_op op_add (pe_op op_mul (pe_ix ix_list v0 pe_int fun _ _ => rfl) pe_int) pe_int) pa_nil)) pe_int) (pg_sub v0 pe_int set_list))
        (pss_one (ps_ret (pe_op op_mod (pe_callTy call_int1 rfl Y.b_int rfl (pa_cons (pe_op op_fdiv (pe_ix ix_list v0 pe_int fun _ _ => rfl) pe_int) pa_nil)) v1)))) pss_nil)
    (pss_cons (ps_set nd rfl (.inl rfl) (pe_ix ix_list (pe_ix ix_list v0 pe_int fun _ _ => rfl) (pe_op op_sub (pe_ix ix_list v0 pe_int fun _ _ => rfl) pe_int) fun _ _ => rfl))
    (pss_cons (ps_asg (pe_op op_mod (pe_callTy call_int1 rfl Y.b_int rfl (pa_cons (pe_op op_add (pe_op op_add (pe_op op_mul (pe_ix ix_list v0 pe_int fun _ _ => rfl) pe_int) v2) pe_int) pa_nil)) pe_int) (pg_sub v0 pe_int set_list))
    (pss_cons (ps_if (pt_cmpR op_ge v2 (pe_op op_pow pe_int pe_int) rfl) (pss_one (ps_asg (pe_op op_fdiv v2 v1) (pg_sub v0 pe_int set_list))) pss_nil)
    (pss_one (ps_ret (pe_op op_mod (pe_callTy call_int1 rfl Y.b_int rfl (pa_cons v2 pa_nil)) v1)))))))))
theorem wk_law_pick {L : Lw} {R : Option Addr} {E0 : En} {EX : Exn → Prop} {G : Gm} {P : Program} {w : World} {mg : Str → Option Value} {base : Heap} {f : Addr} {A : Around} {s : Shared} {H : Hp} {k : Nat} {cdv : Value} {outer : List Env} {E : XK} (Y : Nm L mg)  (hd : ∀ n, n < 11 → n < G.dom) (F : Fit (L.at_ R) E0 EX (cxOf (L2.CX P w) P w L.K mg base N_law_pick "_law_pick" (defScope (top 19)) f cdv A outer s H E) k) (Gk : GOk (L.at_ R) G (cxOf (L2.CX P w) P w L.K mg base N_law_pick "_law_pick" (defScope (top 19)) f cdv A outer s H E) k) :
    PSs (cxOf (L2.CX P w) P w L.K mg base N_law_pick "_law_pick" (defScope (top 19)) f cdv A outer s H E) (defBody (top 19)) (tSt (L.at_ R) E0 (evSs G EX P_law_pick)) := by
  exact (jss_cons (js_ret (JE.d (je_sub F (je_var (i := 1) rfl (vis_by rfl) rfl rfl) (je_call F Gk (f := 10) (hd 10 (by decide)) (ja_cons (je_var (i := 0) rfl (vis_by rfl) rfl rfl) (ja_cons (je_blt1 F (f := .len) cb_len (jb_cons (je_var (i := 1) rfl (vis_by rfl) rfl rfl) jb_nil rfl) rfl Y.b_len rfl rfl (by decide) rfl) ja_nil rfl) rfl) rfl Y.f__law_taken rfl rfl) rfl)) (fun _ z => by cases z))
  jss_nil)
theorem wk_law_alike {L : Lw} {R : Option Addr} {E0 : En} {EX : Exn → Prop} {G : Gm} {P : Program} {w : World} {mg : Str → Option Value} {base : Heap} {f : Addr} {A : Around} {s : Shared} {H : Hp} {k : Nat} {cdv : Value} {outer : List Env} {E : XK} (Y : Nm L mg)  (hd : ∀ n, n < 13 → n < G.dom) (F : Fit (L.at_ R) E0 EX (cxOf (L2.CX P w) P w L.K mg base N_law_alike "_law_alike" (defScope (top 20)) f cdv A outer s H E) k) (Gk : GOk (L.at_ R) G (cxOf (L2.CX P w) P w L.K mg base N_law_alike "_law_alike" (defScope (top 20)) f cdv A outer s H E) k) :
    PSs (cxOf (L2.CX P w) P w L.K mg base N_law_alike "_law_alike" (defScope (top 20)) f cdv A outer s H E) (defBody (top 20)) (tSt (L.at_ R) E0 (evSs G EX P_law_alike)) := by
  exact (jss_cons (js_if (jq_v F (je_isiT F (a := .tuple) (b := .list) (je_var (i := 1) rfl (vis_by rfl) rfl rfl) (by decide) rfl rfl Y.b_isinstance rfl Y.b_tuple rfl Y.b_list) (fun _ => rfl)) (jss_cons (js_if (PW.pt (jq_or (jq_not (jq_v F (je_isiT F (a := .tuple) (b := .list) (je_var (i := 0) rfl (vis_by rfl) rfl rfl) (by decide) rfl rfl Y.b_isinstance rfl Y.b_tuple rfl Y.b_list) (fun _ => rfl))) (pw_or1 (jq_cmp F .ne (je_isi F (ki := .list) (je_var (i := 0) rfl (vis_by rfl) rfl rfl) (by decide) rfl rfl Y.b_isinstance rfl Y.b_list) (je_isi F (ki := .list) (je_var (i := 1) rfl (vis_by rfl) rfl rfl) (by decide) rfl rfl Y.b_isinstance rfl Y.b_list) rfl)))) (jss_cons (js_ret (JE.d je_lit_bool) (fun _ z => by cases z))
  jss_nil) jss_nil)
  (jss_cons (js_if (jq_cmp F .ne (je_blt1 F (f := .len) cb_len (jb_cons (je_var (i := 0) rfl (vis_by rfl) rfl rfl) jb_nil rfl) rfl Y.b_len rfl rfl (by decide) rfl) (je_blt1 F (f := .len) cb_len (jb_cons (je_var (i := 1) rfl (vis_by rfl) rfl rfl) jb_nil rfl) rfl Y.b_len rfl rfl (by decide) rfl) rfl) (jss_cons (js_ret (JE.d je_lit_bool) (fun _ z => by cases z))
  jss_nil) jss_nil)
  (jss_cons (js_ret (JE.d (je_cmp F .eq (je_comp F (jk_rng1 F (je_blt1 F (f := .len) cb_len (jb_cons (je_var (i := 1) rfl (vis_by rfl) rfl rfl) jb_nil rfl) rfl Y.b_len rfl rfl (by decide) rfl) rfl rfl Y.b_range) (blkOk_by (N := N_law_alike) (sc := defScope (top 20)) (own := [(("k" : Str), 2)]) (by decide +kernel)) rfl (fun E1 s H C cl fp F2 => (jg_slot F2 (i := 2) rfl (loc_by rfl) (by first | exact .inl rfl | exact .inr rfl))) (fun E1 s H C cl fp F2 => (jw_yes (jq_not (jq_v F2 (je_call F2 Gk (f := 12) (hd 12 (by decide)) (ja_cons (je_sub F2 (je_var (i := 0) rfl (vis_by rfl) rfl rfl) (je_var (i := 2) rfl (vis_by rfl) rfl rfl) rfl) (ja_cons (je_sub F2 (je_var (i := 1) rfl (vis_by rfl) rfl rfl) (je_var (i := 2) rfl (vis_by rfl) rfl rfl) rfl) ja_nil rfl) rfl) rfl Y.f__law_alike rfl rfl) (fun _ => rfl))))) (fun E1 s H C cl fp F2 => (JE.d (je_var (i := 2) rfl (vis_by rfl) rfl rfl))) (fun _ => rfl)) (je_lst jd_nil) rfl)) (fun _ z => by cases z))
  jss_nil))) jss_nil)
  (jss_cons (js_if (jq_v F (je_isi F (ki := .dict) (je_var (i := 1) rfl (vis_by rfl) rfl rfl) (by decide) rfl rfl Y.b_isinstance rfl Y.b_dict) (fun _ => rfl)) (jss_cons (js_if (PW.pt (jq_or (jq_not (jq_v F (je_isi F (ki := .dict) (je_var (i := 0) rfl (vis_by rfl) rfl rfl) (by decide) rfl rfl Y.b_isinstance rfl Y.b_dict) (fun _ => rfl))) (pw_or1 (jq_cmp F .ne (je_bltT F (f := .list) cb_list (jb_cons (je_var (i := 0) rfl (vis_by rfl) rfl rfl) jb_nil rfl) rfl Y.b_list rfl rfl (by decide) rfl) (je_bltT F (f := .list) cb_list (jb_cons (je_var (i := 1) rfl (vis_by rfl) rfl rfl) jb_nil rfl) rfl Y.b_list rfl rfl (by decide) rfl) rfl)))) (jss_cons (js_ret (JE.d je_lit_bool) (fun _ z => by cases z))
  jss_nil) jss_nil)
  (jss_cons (js_ret (JE.d (je_cmp F .eq (je_comp F (jk_e F (je_var (i := 1) rfl (vis_by rfl) rfl rfl)) (blkOk_by (N := N_law_alike) (sc := defScope (top 20)) (own := [(("key" : Str), 3)]) (by decide +kernel)) rfl (fun E1 s H C cl fp F1 => (jg_slot F1 (i := 3) rfl (loc_by rfl) (by first | exact .inl rfl | exact .inr rfl))) (fun E1 s H C cl fp F1 => (jw_yes (jq_not (jq_v F1 (je_call F1 Gk (f := 12) (hd 12 (by decide)) (ja_cons (je_sub F1 (je_var (i := 0) rfl (vis_by rfl) rfl rfl) (je_var (i := 3) rfl (vis_by rfl) rfl rfl) rfl) (ja_cons (je_sub F1 (je_var (i := 1) rfl (vis_by rfl) rfl rfl) (je_var (i := 3) rfl (vis_by rfl) rfl rfl) rfl) ja_nil rfl) rfl) rfl Y.f__law_alike rfl rfl) (fun _ => rfl))))) (fun E1 s H C cl fp F1 => (JE.d (je_var (i := 3) rfl (vis_by rfl) rfl rfl))) (fun _ => rfl)) (je_lst jd_nil) rfl)) (fun _ z => by cases z))
  jss_nil)) jss_nil)
  (jss_cons (js_if (PW.pt (jq_or (jq_isN (je_var (i := 1) rfl (vis_by rfl) rfl rfl)) (pw_or1 (jq_v F (je_isi F (ki := .str) (je_var (i := 1) rfl (vis_by rfl) rfl rfl) (by decide) rfl rfl Y.b_isinstance rfl Y.b_str) (fun _ => rfl))))) (jss_cons (js_ret (JE.d (je_and (je_cmp F .eq (je_var (i := 0) rfl (vis_by rfl) rfl rfl) (je_var (i := 1) rfl (vis_by rfl) rfl rfl) rfl) (JE.d (jk_and1 (je_cmp F .eq (je_isi F (ki := .str) (je_var (i := 0) rfl (vis_by rfl) rfl rfl) (by decide) rfl rfl Y.b_isinstance rfl Y.b_str) (je_isi F (ki := .str) (je_var (i := 1) rfl (vis_by rfl) rfl rfl) (by decide) rfl rfl Y.b_isinstance rfl Y.b_str) rfl) (fun _ z => by cases z))))) (fun _ z => by cases z))
  jss_nil) jss_nil)
  (jss_cons (js_ret (JE.d (je_and (je_isi F (ki := .int) (je_var (i := 0) rfl (vis_by rfl) rfl rfl) (by decide) rfl rfl Y.b_isinstance rfl Y.b_int) (JE.d (je_and (je_cmp F .eq (je_isi F (ki := .bool) (je_var (i := 0) rfl (vis_by rfl) rfl rfl) (by decide) rfl rfl Y.b_isinstance rfl Y.b_bool) (je_isi F (ki := .bool) (je_var (i := 1) rfl (vis_by rfl) rfl rfl) (by decide) rfl rfl Y.b_isinstance rfl Y.b_bool) rfl) (JE.d (jk_and1 (je_cmp F .eq (je_var (i := 0) rfl (vis_by rfl) rfl rfl) (je_var (i := 1) rfl (vis_by rfl) rfl rfl) rfl) (fun _ z => by cases z))))))) (fun _ z => by cases z))
  jss_nil))))
theorem wk_law {L : Lw} {R : Option Addr} {E0 : En} {EX : Exn → Prop} {G : Gm} {P : Program} {w : World} {mg : Str → Option Value} {base : Heap} {f : Addr} {A : Around} {s : Shared} {H : Hp} {k : Nat} {c : Addr} {kb : Nat} (hkb : kb + 2 ≤ k) (hgd : (cxOf (L2.CX P w) P w L.K mg base N_law "law" (defScope (top 22)) f (.ref c) A [] s H fun _ _ _ => False).A.guards = some []) (Y : Nm L mg)  (hd : ∀ n, n < 14 → n < G.dom) (F : Fit (L.at_ R) E0 EX (cxOf (L2.CX P w) P w L.K mg base N_law "law" (defScope (top 22)) f (.ref c) A [] s H fun _ _ _ => False) k) (Gk : GOk (L.at_ R) G (cxOf (L2.CX P w) P w L.K mg base N_law "law" (defScope (top 22)) f (.ref c) A [] s H fun _ _ _ => False) k) (B : LamB L G mg base c "law.<locals>.<lambda>" "_law_refused") (Gk9 : GOk (L.at_ R) G (cxOf (L2.CX P w) P w L.K mg base N_law "law" (defScope (top 22)) f (.ref c) A [] s H fun _ _ _ => False) kb) :
    PSs (cxOf (L2.CX P w) P w L.K mg base N_law "law" (defScope (top 22)) f (.ref c) A [] s H fun _ _ _ => False) (defBody (top 22)).tail (tSt (L.at_ R) E0 (evSs G EX P_law)) := by
  exact (jss_cons (js_asg (JE.d (je_call F Gk (f := 11) (hd 11 (by decide)) (ja_cons (je_var (i := 1) rfl (vis_by rfl) rfl rfl) (ja_cons (je_lst (jd_cons je_lit_int (jd_cons je_lit_int (jd_cons je_lit_int (jd_cons je_lit_int jd_nil rfl) rfl) rfl) rfl)) ja_nil rfl) rfl) rfl Y.f__law_pick rfl rfl)) (jg_slot F (i := 2) rfl (loc_by rfl) (by first | exact .inl rfl | exact .inr rfl)) rfl rfl rfl)
  (jss_frz (i := 2) (jss_cons (js_asg (JE.d (je_comp F (jk_rng1 F (je_bin F .add je_lit_int (je_call F Gk (f := 10) (hd 10 (by decide)) (ja_cons (je_var (i := 1) rfl (vis_by rfl) rfl rfl) (ja_cons (je_ife (jq_cmp F .eq (je_call F Gk (f := 10) (hd 10 (by decide)) (ja_cons (je_var (i := 1) rfl (vis_by rfl) rfl rfl) (ja_cons je_lit_int ja_nil rfl) rfl) rfl Y.f__law_taken rfl rfl) je_lit_int rfl) (JE.d je_lit_int) (JE.d je_lit_int)) ja_nil rfl) rfl) rfl Y.f__law_taken rfl rfl)) rfl rfl Y.b_range) (blkOk_by (N := N_law) (sc := defScope (top 22)) (own := [(("k" : Str), 18)]) (by decide +kernel)) rfl (fun E1 s H C cl fp F3 => (jg_slot F3 (i := 18) rfl (loc_by rfl) (by first | exact .inl rfl | exact .inr rfl))) (fun E1 s H C cl fp F3 => jw_no) (fun E1 s H C cl fp F3 => (JE.d (je_call F3 Gk (f := 10) (hd 10 (by decide)) (ja_cons (je_var (i := 1) rfl (vis_by rfl) rfl rfl) (ja_cons (je_var (i := 2) rfl (vis_by rfl) rfl rfl) ja_nil rfl) rfl) rfl Y.f__law_taken rfl rfl))) (fun _ => rfl))) (jg_slot F (i := 3) rfl (loc_by rfl) (by first | exact .inl rfl | exact .inr rfl)) rfl rfl rfl)
  (jss_cons (js_parT F (jv_cons (je_blt1 F (f := .len) cb_len (jb_cons (je_var (i := 3) rfl (vis_by rfl) rfl rfl) jb_nil rfl) rfl Y.b_len rfl rfl (by decide) rfl) (jv_cons (je_lst jd_nil) (jv_cons (je_lst jd_nil) (jv_cons je_lit_int (jv_cons je_lit_int jv_nil rfl) rfl) rfl) rfl) rfl) (jn_cons F (i := 9) rfl (loc_by rfl) (by first | exact .inl rfl | exact .inr rfl) (jn_cons F (i := 10) rfl (loc_by rfl) (by first | exact .inl rfl | exact .inr rfl) (jn_cons F (i := 11) rfl (loc_by rfl) (by first | exact .inl rfl | exact .inr rfl) (jn_cons F (i := 12) rfl (loc_by rfl) (by first | exact .inl rfl | exact .inr rfl) (jn_cons F (i := 13) rfl (loc_by rfl) (by first | exact .inl rfl | exact .inr rfl) jn_nil))))) rfl rfl (by decide) rfl rfl)
  (jss_cons (js_for F (jk_rng1 F (je_var (i := 9) rfl (vis_by rfl) rfl rfl) rfl rfl Y.b_range) (jg_slot F (i := 4) rfl (loc_by rfl) (by first | exact .inl rfl | exact .inr rfl)) (jss_cons (js_setLc F (i := 14) rfl rfl (sw_true rfl rfl rfl rfl) (jk_rng2 F (je_bin F .add (je_var (i := 4) rfl (vis_by rfl) rfl rfl) je_lit_int) (je_var (i := 9) rfl (vis_by rfl) rfl rfl) rfl rfl rfl Y.b_range) (blkOk_by (N := N_law) (sc := defScope (top 22)) (own := [(("other" : Str), 15)]) (by decide +kernel)) rfl (fun E1 s H C cl fp F2 => (jg_slot F2 (i := 15) rfl (loc_by rfl) (by first | exact .inl rfl | exact .inr rfl))) (fun E1 s H C cl fp F2 => (jw_yes (jq_cmp F2 .gt (je_sub F2 (je_var (i := 3) rfl (vis_by rfl) rfl rfl) (je_var (i := 15) rfl (vis_by rfl) rfl rfl) rfl) (je_sub F2 (je_var (i := 3) rfl (vis_by rfl) rfl rfl) (je_var (i := 4) rfl (vis_by rfl) rfl rfl) rfl) rfl))) (fun E1 s H C cl fp F2 => (JE.d (je_var (i := 15) rfl (vis_by rfl) rfl rfl))) (fun _ => rfl))
  (jss_cons (js_append (i := 10) rfl (vis_by rfl) rfl rfl (je_ife (jq_cmp F .ne (je_var (i := 14) rfl (vis_by rfl) rfl rfl) (je_lst jd_nil) rfl) (JE.d (je_sub F (je_var (i := 14) rfl (vis_by rfl) rfl rfl) je_lit_int rfl)) (JE.d je_lit_none)) rfl rfl rfl rfl rfl)
  (jss_cons (js_asg (JE.d (je_bin F .add (je_var (i := 11) rfl (vis_by rfl) rfl rfl) (je_ife (jq_cmp F .eq (je_comp F (jk_rng1 F (je_var (i := 4) rfl (vis_by rfl) rfl rfl) rfl rfl Y.b_range) (blkOk_by (N := N_law) (sc := defScope (top 22)) (own := [(("other" : Str), 15)]) (by decide +kernel)) rfl (fun E1 s H C cl fp F1 => (jg_slot F1 (i := 15) rfl (loc_by rfl) (by first | exact .inl rfl | exact .inr rfl))) (fun E1 s H C cl fp F1 => (jw_yes (jq_cmp F1 .ge (je_sub F1 (je_var (i := 3) rfl (vis_by rfl) rfl rfl) (je_var (i := 15) rfl (vis_by rfl) rfl rfl) rfl) (je_sub F1 (je_var (i := 3) rfl (vis_by rfl) rfl rfl) (je_var (i := 4) rfl (vis_by rfl) rfl rfl) rfl) rfl))) (fun E1 s H C cl fp F1 => (JE.d (je_var (i := 15) rfl (vis_by rfl) rfl rfl))) (fun _ => rfl)) (je_lst jd_nil) rfl) (JE.d (je_lst (jd_cons (je_var (i := 4) rfl (vis_by rfl) rfl rfl) jd_nil rfl))) (JE.d (je_lst jd_nil))))) (jg_slot F (i := 11) rfl (loc_by rfl) (by first | exact .inl rfl | exact .inr rfl)) rfl rfl rfl)
  (jss_cons (js_asg (JE.d (je_bin F .sub (je_bin F .add (je_var (i := 12) rfl (vis_by rfl) rfl rfl) (je_blt1 F (f := .min2) (cb_min2 F.calm) (jb_cons (je_blt1 F (f := .max1) (cb_max1 F.calm F.room) (jb_cons (je_slice F (je_var (i := 3) rfl (vis_by rfl) rfl rfl) jo_no (jo_yes (je_bin F .add (je_var (i := 4) rfl (vis_by rfl) rfl rfl) je_lit_int))) jb_nil rfl) rfl Y.b_max rfl rfl (by decide) rfl) (jb_cons (je_blt1 F (f := .max1) (cb_max1 F.calm F.room) (jb_cons (je_slice F (je_var (i := 3) rfl (vis_by rfl) rfl rfl) (jo_yes (je_var (i := 4) rfl (vis_by rfl) rfl rfl)) jo_no) jb_nil rfl) rfl Y.b_max rfl rfl (by decide) rfl) jb_nil rfl) rfl) rfl Y.b_min rfl rfl (by decide) rfl)) (je_sub F (je_var (i := 3) rfl (vis_by rfl) rfl rfl) (je_var (i := 4) rfl (vis_by rfl) rfl rfl) rfl))) (jg_slot F (i := 12) rfl (loc_by rfl) (by first | exact .inl rfl | exact .inr rfl)) rfl rfl rfl)
  (jss_cons (js_for F (jk_rng2 F (je_bin F .add (je_var (i := 4) rfl (vis_by rfl) rfl rfl) je_lit_int) (je_var (i := 9) rfl (vis_by rfl) rfl rfl) rfl rfl rfl Y.b_range) (jg_slot F (i := 15) rfl (loc_by rfl) (by first | exact .inl rfl | exact .inr rfl)) (jss_cons (js_asg (JE.d (je_slice F (je_var (i := 3) rfl (vis_by rfl) rfl rfl) (jo_yes (je_bin F .add (je_var (i := 4) rfl (vis_by rfl) rfl rfl) je_lit_int)) (jo_yes (je_var (i := 15) rfl (vis_by rfl) rfl rfl)))) (jg_slot F (i := 19) rfl (loc_by rfl) (by first | exact .inl rfl | exact .inr rfl)) rfl rfl rfl)
  (jss_cons (js_asg (JE.d (je_bin F .add (je_var (i := 13) rfl (vis_by rfl) rfl rfl) (je_ife (jq_cmp F .lt (je_blt1 F (f := .max1) (cb_max1 F.calm F.room) (jb_cons (je_bin F .add (je_var (i := 19) rfl (vis_by rfl) rfl rfl) (je_lst (jd_cons (je_neg je_lit_int) jd_nil rfl))) jb_nil rfl) rfl Y.b_max rfl rfl (by decide) rfl) (je_blt1 F (f := .min2) (cb_min2 F.calm) (jb_cons (je_sub F (je_var (i := 3) rfl (vis_by rfl) rfl rfl) (je_var (i := 4) rfl (vis_by rfl) rfl rfl) rfl) (jb_cons (je_sub F (je_var (i := 3) rfl (vis_by rfl) rfl rfl) (je_var (i := 15) rfl (vis_by rfl) rfl rfl) rfl) jb_nil rfl) rfl) rfl Y.b_min rfl rfl (by decide) rfl) rfl) (JE.d je_lit_int) (JE.d je_lit_int)))) (jg_slot F (i := 13) rfl (loc_by rfl) (by first | exact .inl rfl | exact .inr rfl)) rfl rfl rfl)
  jss_nil)) (fun _ => rfl))
  jss_nil))))) (fun _ => rfl))
  (jss_cons (js_if (PW.pt (jq_or (jq_not (jq_v F (je_call F Gk (f := 12) (hd 12 (by decide)) (ja_cons (je_call F Gk (f := 4) (hd 4 (by decide)) (ja_cons (je_bltT F (f := .tuple) cb_tuple (jb_cons (je_var (i := 3) rfl (vis_by rfl) rfl rfl) jb_nil rfl) rfl Y.b_tuple rfl rfl (by decide) rfl) ja_nil rfl) rfl Y.f_next_higher rfl rfl) (ja_cons (je_bltT F (f := .tuple) cb_tuple (jb_cons (je_var (i := 10) rfl (vis_by rfl) rfl rfl) jb_nil rfl) rfl Y.b_tuple rfl rfl (by decide) rfl) ja_nil rfl) rfl) rfl Y.f__law_alike rfl rfl) (fun _ => rfl))) (pw_or1 (jq_not (jq_v F (je_call F Gk (f := 12) (hd 12 (by decide)) (ja_cons (je_call F Gk (f := 5) (hd 5 (by decide)) (ja_cons (je_var (i := 3) rfl (vis_by rfl) rfl rfl) ja_nil rfl) rfl Y.f_seen_from_left rfl rfl) (ja_cons (je_bltT F (f := .tuple) cb_tuple (jb_cons (je_var (i := 11) rfl (vis_by rfl) rfl rfl) jb_nil rfl) rfl Y.b_tuple rfl rfl (by decide) rfl) ja_nil rfl) rfl) rfl Y.f__law_alike rfl rfl) (fun _ => rfl)))))) (jss_cons (js_ret (JE.d je_lit_bool) (fun _ z => by cases z))
  jss_nil) jss_nil)
  (jss_cons (js_if (PW.pt (jq_or (jq_not (jq_v F (je_call F Gk (f := 12) (hd 12 (by decide)) (ja_cons (je_call F Gk (f := 8) (hd 8 (by decide)) (ja_cons (je_var (i := 3) rfl (vis_by rfl) rfl rfl) ja_nil rfl) rfl Y.f_rain_held rfl rfl) (ja_cons (je_var (i := 12) rfl (vis_by rfl) rfl rfl) ja_nil rfl) rfl) rfl Y.f__law_alike rfl rfl) (fun _ => rfl))) (pw_or1 (jq_not (jq_v F (je_call F Gk (f := 12) (hd 12 (by decide)) (ja_cons (je_call F Gk (f := 9) (hd 9 (by decide)) (ja_cons (je_bltT F (f := .tuple) cb_tuple (jb_cons (je_var (i := 3) rfl (vis_by rfl) rfl rfl) jb_nil rfl) rfl Y.b_tuple rfl rfl (by decide) rfl) ja_nil rfl) rfl Y.f_pairs_seen rfl rfl) (ja_cons (je_var (i := 13) rfl (vis_by rfl) rfl rfl) ja_nil rfl) rfl) rfl Y.f__law_alike rfl rfl) (fun _ => rfl)))))) (jss_cons (js_ret (JE.d je_lit_bool) (fun _ z => by cases z))
  jss_nil) jss_nil)
  (jss_cons (js_asg (JE.d je_lit_none) (jg_slot F (i := 5) rfl (loc_by rfl) (by first | exact .inl rfl | exact .inr rfl)) rfl rfl rfl)
  (jss_cons (js_for F (jk_rng1 F (je_var (i := 9) rfl (vis_by rfl) rfl rfl) rfl rfl Y.b_range) (jg_slot F (i := 6) rfl (loc_by rfl) (by first | exact .inl rfl | exact .inr rfl)) (jss_cons (js_asg (JE.d (je_sub F (je_var (i := 3) rfl (vis_by rfl) rfl rfl) (je_var (i := 6) rfl (vis_by rfl) rfl rfl) rfl)) (jg_slot F (i := 16) rfl (loc_by rfl) (by first | exact .inl rfl | exact .inr rfl)) rfl rfl rfl)
  (jss_cons (js_for F (jk_rng2 F (je_bin F .add (je_var (i := 6) rfl (vis_by rfl) rfl rfl) je_lit_int) (je_bin F .add (je_var (i := 9) rfl (vis_by rfl) rfl rfl) je_lit_int) rfl rfl rfl Y.b_range) (jg_slot F (i := 17) rfl (loc_by rfl) (by first | exact .inl rfl | exact .inr rfl)) (jss_cons (js_asg (JE.d (je_blt1 F (f := .min2) (cb_min2 F.calm) (jb_cons (je_var (i := 16) rfl (vis_by rfl) rfl rfl) (jb_cons (je_sub F (je_var (i := 3) rfl (vis_by rfl) rfl rfl) (je_bin F .sub (je_var (i := 17) rfl (vis_by rfl) rfl rfl) je_lit_int) rfl) jb_nil rfl) rfl) rfl Y.b_min rfl rfl (by decide) rfl)) (jg_slot F (i := 16) rfl (loc_by rfl) (by first | exact .inl rfl | exact .inr rfl)) rfl rfl rfl)
  (jss_cons (js_asg (JE.d (je_bin F .mul (je_var (i := 16) rfl (vis_by rfl) rfl rfl) (je_bin F .sub (je_var (i := 17) rfl (vis_by rfl) rfl rfl) (je_var (i := 6) rfl (vis_by rfl) rfl rfl)))) (jg_slot F (i := 20) rfl (loc_by rfl) (by first | exact .inl rfl | exact .inr rfl)) rfl rfl rfl)
  (jss_cons (js_asg (JE.d (je_ife (PW.pt (jq_or (jq_isN (je_var (i := 5) rfl (vis_by rfl) rfl rfl)) (pw_or1 (jq_cmp F .gt (je_var (i := 20) rfl (vis_by rfl) rfl rfl) (je_sub F (je_var (i := 5) rfl (vis_by rfl) rfl rfl) je_lit_int rfl) rfl)))) (JE.d (je_tup (jd_cons (je_var (i := 20) rfl (vis_by rfl) rfl rfl) (jd_cons (je_var (i := 6) rfl (vis_by rfl) rfl rfl) (jd_cons (je_var (i := 17) rfl (vis_by rfl) rfl rfl) jd_nil rfl) rfl) rfl))) (JE.d (je_var (i := 5) rfl (vis_by rfl) rfl rfl)))) (jg_slot F (i := 5) rfl (loc_by rfl) (by first | exact .inl rfl | exact .inr rfl)) rfl rfl rfl)
  jss_nil))) (fun _ => rfl))
  jss_nil)) (fun _ => rfl))
  (jss_cons (js_if (jq_not (jq_v F (je_call F Gk (f := 12) (hd 12 (by decide)) (ja_cons (je_call F Gk (f := 7) (hd 7 (by decide)) (ja_cons (je_var (i := 3) rfl (vis_by rfl) rfl rfl) ja_nil rfl) rfl Y.f_greatest_block rfl rfl) (ja_cons (je_var (i := 5) rfl (vis_by rfl) rfl rfl) ja_nil rfl) rfl) rfl Y.f__law_alike rfl rfl) (fun _ => rfl))) (jss_cons (js_ret (JE.d je_lit_bool) (fun _ z => by cases z))
  jss_nil) jss_nil)
  (jss_cons (js_asg (JE.d (je_bin F .add (je_slice F (je_var (i := 3) rfl (vis_by rfl) rfl rfl) jo_no (jo_yes je_lit_int)) (je_lst (jd_cons (je_call F Gk (f := 11) (hd 11 (by decide)) (ja_cons (je_var (i := 1) rfl (vis_by rfl) rfl rfl) (ja_cons (je_lst (jd_cons (je_neg je_lit_int) (jd_cons je_lit_int (jd_cons je_lit_none (jd_cons je_lit_bool jd_nil rfl) rfl) rfl) rfl)) ja_nil rfl) rfl) rfl Y.f__law_pick rfl rfl) jd_nil rfl)))) (jg_slot F (i := 7) rfl (loc_by rfl) (by first | exact .inl rfl | exact .inr rfl)) rfl rfl rfl)
  (jss_cons (js_fors F (i := 8) rfl (loc_by rfl) (by first | exact .inl rfl | exact .inr rfl) (jf_cons (y := "next_higher") Y.f_next_higher rfl (jf_cons (y := "seen_from_left") Y.f_seen_from_left rfl (jf_cons (y := "greatest_block") Y.f_greatest_block rfl (jf_cons (y := "rain_held") Y.f_rain_held rfl (jf_cons (y := "pairs_seen") Y.f_pairs_seen rfl jf_nil rfl) rfl) rfl) rfl) rfl) (by decide) (jss_frz (i := 7) (jss_cons (js_if (jq_cmp F .ne (je_lamB B.at_ F hkb rfl rfl rfl (LamX.lamS_by rfl) rfl (fun _ _ _ _ _ => rfl) (fun E1 EX1 A outer s H E f c' F9 => JE.d (je_callv F9 Gk9 (i := 8) rfl (vis_by rfl) (ja_cons (je_var (i := 7) rfl (vis_by rfl) rfl rfl) ja_nil rfl) rfl rfl rfl)) rfl) (je_tup (jd_cons je_lit_str (jd_cons (je_bin F .sub (je_blt1 F (f := .len) cb_len (jb_cons (je_var (i := 7) rfl (vis_by rfl) rfl rfl) jb_nil rfl) rfl Y.b_len rfl rfl (by decide) rfl) je_lit_int) jd_nil rfl) rfl)) rfl) (jss_cons (js_ret (JE.d je_lit_bool) (fun _ z => by cases z))
  jss_nil) jss_nil)
  (jss_cons (js_if (jq_cmp F .ne (je_lamB B.at_ F hkb rfl rfl rfl (LamX.lamS_by rfl) rfl (fun _ _ _ _ _ => rfl) (fun E1 EX1 A outer s H E f c' F9 => JE.d (je_callv F9 Gk9 (i := 8) rfl (vis_by rfl) (ja_cons (je_call F9 Gk9 (f := 11) (hd 11 (by decide)) (ja_cons (je_var (i := 1) rfl (vis_by rfl) rfl rfl) (ja_cons (je_lst (jd_cons je_lit_none (jd_cons (je_lst jd_nil) (jd_cons (je_bin F9 .mul (je_lst (jd_cons je_lit_int jd_nil rfl)) je_lit_int) (jd_cons je_lit_int jd_nil rfl) rfl) rfl) rfl)) ja_nil rfl) rfl) rfl Y.f__law_pick rfl rfl) ja_nil rfl) rfl rfl rfl)) rfl) (je_tup (jd_cons je_lit_str (jd_cons (je_neg je_lit_int) jd_nil rfl) rfl)) rfl) (jss_cons (js_ret (JE.d je_lit_bool) (fun _ z => by cases z))
  jss_nil) jss_nil)
  jss_nil))) (fun _ => rfl))
  (jss_cons (js_ret (JE.d (je_and (je_cmp F .eq (je_call F Gk (f := 9) (hd 9 (by decide)) (ja_cons (je_lst (jd_cons je_lit_int (jd_cons je_lit_int (jd_cons je_lit_int jd_nil rfl) rfl) rfl)) ja_nil rfl) rfl Y.f_pairs_seen rfl rfl) je_lit_int rfl) (JE.d (jk_and1 (je_cmp F .eq (je_call F Gk (f := 8) (hd 8 (by decide)) (ja_cons (je_lst (jd_cons je_lit_int (jd_cons je_lit_int (jd_cons je_lit_int jd_nil rfl) rfl) rfl)) ja_nil rfl) rfl Y.f_rain_held rfl rfl) je_lit_int rfl) (fun _ z => by cases z))))) (fun _ z => by cases z))
  jss_nil)))))))))))))
end K44
namespace K44
open PySem PySem.Spec PyProof.Rows L2 L2.PX
def ftN : Nat → Str := fun n => [("is_integer" : Str), ("is_within" : Str), ("is_row" : Str), ("check_heights" : Str), ("next_higher" : Str), ("seen_from_left" : Str), ("all_blocks" : Str), ("greatest_block" : Str), ("rain_held" : Str), ("pairs_seen" : Str), ("_law_taken" : Str), ("_law_pick" : Str), ("_law_alike" : Str), ("_law_refused" : Str), ("law" : Str)].getD n ""
def ctN : Nat → Str := fun n => [("CampError" : Str), ("BadHeights" : Str)].getD n ""
def hsR : List (Nat × Str) := [(1, (Str.ofString "heights"))]
def fa : List He.Fa := [.glo "law", .free "bool", .free "dict", .free "enumerate", .free "int", .free "isinstance", .free "len", .free "list", .free "max", .free "min", .free "range", .free "str", .free "tuple", .glo "_law_alike", .glo "_law_pick", .glo "_law_taken", .glo "all_blocks", .glo "check_heights", .glo "greatest_block", .glo "is_integer", .glo "is_row", .glo "is_within", .glo "next_higher", .glo "pairs_seen", .glo "rain_held", .glo "seen_from_left", .int "MOST_HEIGHT" 1000, .int "MOST_TREES" 40, .glo "_law_refused", .glo "BadHeights"]
abbrev sInit : Stmt := (clsBody (top 5)).getD 0 (.Pass ⟨0, 0, 0, 0⟩)
def dInit : He.DefD := ⟨("CampError", some "__init__"), "__init__", "CampError.__init__", defArgs sInit, defBody sInit, defScope sInit, [.non], []⟩
def d_is_integer : He.DefD := ⟨("is_integer", none), "is_integer", "is_integer", defArgs (top 1), defBody (top 1), defScope (top 1), [], []⟩
def d_is_within : He.DefD := ⟨("is_within", none), "is_within", "is_within", defArgs (top 2), defBody (top 2), defScope (top 2), [], []⟩
def d_is_row : He.DefD := ⟨("is_row", none), "is_row", "is_row", defArgs (top 3), defBody (top 3), defScope (top 3), [], []⟩
def d_check_heights : He.DefD := ⟨("check_heights", none), "check_heights", "check_heights", defArgs (top 10), defBody (top 10), defScope (top 10), [], []⟩
def d_next_higher : He.DefD := ⟨("next_higher", none), "next_higher", "next_higher", defArgs (top 11), defBody (top 11), defScope (top 11), [], []⟩
def d_seen_from_left : He.DefD := ⟨("seen_from_left", none), "seen_from_left", "seen_from_left", defArgs (top 12), defBody (top 12), defScope (top 12), [], []⟩
def d_all_blocks : He.DefD := ⟨("all_blocks", none), "all_blocks", "all_blocks", defArgs (top 13), defBody (top 13), defScope (top 13), [], []⟩
def d_greatest_block : He.DefD := ⟨("greatest_block", none), "greatest_block", "greatest_block", defArgs (top 14), defBody (top 14), defScope (top 14), [], []⟩
def d_rain_held : He.DefD := ⟨("rain_held", none), "rain_held", "rain_held", defArgs (top 15), defBody (top 15), defScope (top 15), [], []⟩
def d_pairs_seen : He.DefD := ⟨("pairs_seen", none), "pairs_seen", "pairs_seen", defArgs (top 16), defBody (top 16), defScope (top 16), [], []⟩
def d_law_taken : He.DefD := ⟨("_law_taken", none), "_law_taken", "_law_taken", defArgs (top 18), defBody (top 18), defScope (top 18), [], []⟩
def d_law_pick : He.DefD := ⟨("_law_pick", none), "_law_pick", "_law_pick", defArgs (top 19), defBody (top 19), defScope (top 19), [], []⟩
def d_law_alike : He.DefD := ⟨("_law_alike", none), "_law_alike", "_law_alike", defArgs (top 20), defBody (top 20), defScope (top 20), [], []⟩
def d_law_refused : He.DefD := ⟨("_law_refused", none), "_law_refused", "_law_refused", defArgs (top 21), defBody (top 21), defScope (top 21), [], []⟩
def d_law : He.DefD := ⟨("law", none), "law", "law", defArgs (top 22), defBody (top 22), defScope (top 22), [], []⟩
def fn : List He.DefD := [dInit, d_is_integer, d_is_within, d_is_row, d_check_heights, d_next_higher, d_seen_from_left, d_all_blocks, d_greatest_block, d_rain_held, d_pairs_seen, d_law_taken, d_law_pick, d_law_alike, d_law_refused, d_law]
def tf : List He.Defn := [("law", none)]
def exB (K : PySem.W.Frag) : Bool := clsB K "CampError" "BadHeights" && exmAll K ctN hsR
abbrev R : PySem.W.OpenRow := PySem.W.OpenLaw.row PySem.Challenge.rw_pitchturns_k44_whole_views
abbrev hk : PySem.W.Hook := He.hookX 6 fa fn [] tf exB
def ob (s : PySem.W.SharedT) : He.AlX := He.obsX 6 fa fn [] tf exB (HandSHeadRun.getT s)
theorem ob_eq (s : PySem.W.SharedT) : ob s = hk.obs s.abs := He.obsX_eq (HandSHeadRun.getT_eq s)
def loo0 : List Str := ["is_integer", "is_within", "is_row", "CampError", "BadHeights", "MOST_TREES", "MOST_HEIGHT", "check_heights", "next_higher", "seen_from_left", "all_blocks", "greatest_block", "rain_held", "pairs_seen", "_law_taken", "_law_pick", "_law_alike", "_law_refused"]
abbrev loo : List Str := loo0
theorem run (w : World) : HandSHeadRun.RunEq R (PySem.W.view R.prog [22]) hk ob 4000 loo w := by
  intro os
  kernel_rfl
end K44
namespace K44
open PySem PySem.Spec PyProof.Rows L2 L2.PX PySem.W
--CONTRACTS
structure Good (s : List Int) : Prop where
  all : ∀ i ∈ s, 0 ≤ i ∧ i ≤ 1000
  lo : 1 ≤ s.length
  hi : s.length ≤ 40
abbrev IsSeq (x : PyData) (s : List Int) : Prop := x = Ls s ∨ x = Ts s
abbrev gs1 : PyData → Bool := fun d => isW d 0 1000
def hh (s : List Int) (i : Nat) : Int := s.getD i 0
def nx (s : List Int) (m i : Nat) : Option Int := (((List.range (m - (i + 1))).filter fun k => decide (hh s (i + 1 + k) > hh s i)).head?).map fun k => ((i + 1 + k : Nat) : Int)
def higher (s : List Int) : List (Option Int) := (List.range s.length).map fun i => nx s s.length i
def isSeen (s : List Int) (i : Nat) : Bool := (List.range i).all fun j => decide (hh s j < hh s i)
def seen (s : List Int) (m : Nat) : List Int := ((List.range m).filter (isSeen s)).map fun (i : Nat) => (i : Int)
def lw (s : List Int) (b : Nat) : Nat → Int
  | 0 => hh s b
  | k + 1 => if hh s (b + 1 + k) < lw s b k then hh s (b + 1 + k) else lw s b k
def ar (s : List Int) (p : Nat × Nat) : Int := lw s p.1 p.2 * ((p.2 : Int) + 1)
/-- the blocks looked at so far: those that begin before b, or at b with fewer than k trees more -/
def Done (s : List Int) (b k : Nat) (q : Nat × Nat) : Prop := q.1 + q.2 < s.length ∧ (q.1 < b ∨ (q.1 = b ∧ q.2 < k))
structure Fst (s : List Int) (b k : Nat) (p : Nat × Nat) : Prop where
  mem : Done s b k p
  most : ∀ q, Done s b k q → ar s q ≤ ar s p
  fst : ∀ q, Done s b k q → ar s q = ar s p → p.1 < q.1 ∨ (p.1 = q.1 ∧ p.2 ≤ q.2)
abbrev IsFirst (s : List Int) (p : Nat × Nat) : Prop := Fst s s.length 0 p
@[reducible] def blkD (s : List Int) (p : Nat × Nat) : PyData := .tuple [.int (ar s p), .int (p.1 : Int), .int ((p.1 + 1 + p.2 : Nat) : Int)]
structure Row (s : List Int) (i : Nat) (r : T3 Int Int Int) : Prop where
  ex : ∃ b e : Nat, r = ⟨-(hh s i) * ((e : Int) - b), b, e⟩ ∧ b ≤ i ∧ i < e ∧ e ≤ s.length ∧ (∀ k, b ≤ k → k < e → hh s i ≤ hh s k) ∧ (b = 0 ∨ hh s (b - 1) < hh s i) ∧ (e = s.length ∨ hh s e < hh s i)
def PL (s : List Int) : Nat → Int
  | 0 => 0
  | a + 1 => max (PL s a) (hh s a)
def QR (s : List Int) : Nat → Int
  | 0 => 0
  | c + 1 => max (QR s c) (hh s (s.length - 1 - c))
def W (s : List Int) (i : Nat) : Int := min (PL s (i + 1)) (QR s (s.length - i)) - hh s i
def SW (s : List Int) : Nat → Int
  | 0 => 0
  | a + 1 => SW s a + W s a
def TW (s : List Int) : Nat → Int
  | 0 => 0
  | c + 1 => TW s c + W s (s.length - 1 - c)
def vis (s : List Int) (i j : Nat) : Bool := (List.range (j - (i + 1))).all fun k => decide (hh s (i + 1 + k) < hh s i) && decide (hh s (i + 1 + k) < hh s j)
def cnt (s : List Int) (j : Nat) : Int := ((List.range j).filter fun i => vis s i j).length
def PR (s : List Int) : Nat → Int
  | 0 => 0
  | j + 1 => PR s j + cnt s j
def sp_check_heights : FSp := spChk 1 gs1 1 40
def spS (res : List Int → (Vl → Prop) → Prop) : FSp := fun vls Q E => ∃ x, vls = [.d x] ∧ nd1 x ∧ ((∃ k, chk gs1 1 40 x = some k ∧ E ⟨1, .int k⟩) ∨ ∃ s : List Int, IsSeq x s ∧ Good s ∧ res s Q)
def sp_next_higher : FSp := spS fun s Q => Q (.d (Ts (higher s)))
def sp_seen_from_left : FSp := spS fun s Q => Q (.d (Ts (seen s s.length)))
def sp_all_blocks : FSp := fun vls Q _ => ∃ x s, vls = [.d x] ∧ IsSeq x s ∧ Good s ∧ ∀ R, All2 (Row s) (List.range s.length) R → Q (.own (Ls R))
def sp_greatest_block : FSp := spS fun s Q => ∀ p, IsFirst s p → Q (.d (blkD s p))
def sp_rain_held : FSp := spS fun s Q => Q (.d (.int (SW s s.length)))
def sp_pairs_seen : FSp := spS fun s Q => Q (.d (.int (PR s s.length)))
end K44
-- FS
namespace K44
open PySem PySem.Spec PyProof.Rows L2 L2.PX
def FS : Nat → FSp
  | 0 => sp_is_integer
  | 1 => sp_is_within
  | 2 => sp_is_row
  | 3 => sp_check_heights
  | 4 => sp_next_higher
  | 5 => sp_seen_from_left
  | 6 => sp_all_blocks
  | 7 => sp_greatest_block
  | 8 => sp_rain_held
  | 9 => sp_pairs_seen
  | 10 => spDraw
  | 11 => sp_law_pick
  | 12 => sp_law_alike 4
  | 13 => fun _ _ _ => False
  | _ => fun _ _ _ => False
abbrev Gd (i : Nat) : Gm := { fs := FS, word := fun _ => none, dom := i }
abbrev Gr (i : Nat) (sp : FSp) : Gm := { fs := fun n => if n = i then sp else FS n, word := fun _ => none, dom := i + 1 }
abbrev GL : Gm := { fs := FS, word := fun c => hsR.lookup c, rep := true, dom := 14 }
end K44
namespace K44
open PySem PySem.Spec PyProof.Rows L2 L2.PX PySem.W
local macro_rules | `(tactic| walk_at "w") => `(tactic| with_reducible conv => whnf)
local macro_rules | `(tactic| walk_at "ok") => `(tactic| ((try walk_at "w"); repeat' (first | (with_reducible refine And.intro ?_ ?_) | (with_reducible assumption) | exact L2.PX.okI _ | exact L2.PX.okB _ | exact L2.PX.okNone | exact L2.PX.okS _ | (with_reducible refine L2.PX.okN_of ?_) | exact okN_int | exact okN_non | exact okN_bool | exact okN_str | refine okN_tup ?_ | refine okN_lst ?_ | exact okNs_nil | refine okNs_cons ?_ ?_ | exact okNs_map _ (by decide) | exact okN_T _ (by decide) | (refine okNs_app ?_ ?_) | (with_reducible assumption))))
local macro_rules | `(tactic| walk_at "sd") => `(tactic| first | with_reducible exact trivial | with_reducible rfl | (with_reducible assumption) | ((with_reducible refine ⟨?_, ?_, ?_, ?_, ?_⟩) <;> first | (with_reducible exact trivial) | (with_reducible rfl) | (with_reducible assumption) | ((with_reducible refine (show (_ || _) = true from ?_)); rfl) | (walk_at "ok"; done)) | (walk_at "ok"; done) | omega | decide | exact Nat.le_of_ble_eq_true rfl | ((try walk_at "w"); (try simp only [smallR, smallI, sizeLine, List.length_map, List.length_append, List.length_cons, List.length_nil, List.length_replicate, List.length_range]); omega) | exact .inl rfl | exact .inr rfl | exact .inl ⟨by omega, by omega⟩ | exact .inr ⟨by omega, by omega⟩ | rfl)
local macro_rules | `(tactic| walk_at "a") => `(tactic| ((with_reducible refine And.intro ?_ ?_); focus (walk_at "sd")))
local macro_rules | `(tactic| walk_at "c") => `(tactic| ((with_reducible refine callF_intro ?_); first | refine ⟨rfl, ?_⟩ | refine ⟨_, rfl, ?_⟩ | refine ⟨_, _, rfl, ?_⟩ | refine ⟨_, _, _, rfl, ?_⟩ | refine ⟨_, _, _, _, rfl, ?_⟩ | refine ⟨_, _, _, _, _, rfl, ?_⟩ | refine ⟨_, _, _, _, _, _, rfl, ?_⟩ | refine ⟨_, rfl, .inl rfl, ?_⟩ | refine ⟨_, rfl, .inr rfl, ?_⟩ | refine ⟨_, _, rfl, .inl rfl, ?_⟩ | refine ⟨_, _, rfl, .inr rfl, ?_⟩ | refine ⟨_, _, _, rfl, .inl rfl, ?_⟩ | refine ⟨_, _, _, rfl, .inr rfl, ?_⟩ | refine ⟨_, _, _, _, rfl, .inl rfl, ?_⟩ | refine ⟨_, _, _, _, rfl, .inr rfl, ?_⟩ | refine ⟨_, _, _, _, _, rfl, .inl rfl, ?_⟩ | refine ⟨_, _, _, _, _, rfl, .inr rfl, ?_⟩))
local macro_rules | `(tactic| walk_at "nf") => `(tactic| ((((try simp only [L2.PX.eqI, L2.PX.eqB, L2.PX.eqS, L2.PX.eqT, L2.PX.eqL, L2.PX.eqTs, q_truV_1, q_truV_2, n_truI, n_eqI, n_neI, n_eqB, n_neB, n_eqS, n_neS, n_ltI, n_leI, n_gtI, n_geI, n_eqL, n_neL, n_eqTs, n_neTs, n_eqLn, n_neLn, n_eqTn, n_neTn, e_eqTn, e_eqLn, n_inL, n_inT, n_ninL, n_ninT, Bool.not_not, Bool.not_true, Bool.not_false]); rfl))))
local macro_rules | `(tactic| walk_at "i") => `(tactic| ((with_reducible refine ifB_id ?_); first | (with_reducible refine ifB_t ?_) | (with_reducible refine ifB_f ?_) | (with_reducible refine ifB_not ?_) | (with_reducible refine ifB_self (by walk_at "ok") ?_) | ((fail_if_success (with_reducible refine ifB_dc ?_ ?_)); (first | ((refine ifB_eq (k' := true) (by rfl) ?_); (with_reducible refine ifB_t ?_)) | ((refine ifB_eq (k' := false) (by rfl) ?_); (with_reducible refine ifB_f ?_)) | ((refine ifB_eq (by walk_at "nf" : _ = _) ?_); (first | (with_reducible refine ifB_t ?_) | (with_reducible refine ifB_f ?_) | (with_reducible refine ifB_not ?_) | (fail_if_success (fail_if_success (with_reducible refine ifB_dc ?_ ?_)))))))))
local macro_rules | `(tactic| walk_at "d") => `(tactic| (with_reducible refine ifB_dc ?_ ?_))
local macro_rules | `(tactic| walk_at "io") => `(tactic| first | (with_reducible refine ifB_yes rfl (by first | (with_reducible assumption) | omega) ?_) | (with_reducible refine ifB_no rfl (by first | (with_reducible assumption) | omega) ?_))
local macro_rules | `(tactic| walk_at "x") => `(tactic| first | rw [L2.PX.ints_map] | rw [L2.PX.bools_map] | rw [List.tail_cons] | rw [List.head?_cons] | rw [L2.PX.x_at0] | rw [L2.PX.x_at1] | rw [L2.PX.x_at2] | rw [L2.PX.x_at3] | rw [(by assumption : atI _ _ = some _)] | simp only [L2.PX.lendAll_cons, L2.PX.lendAll_nil] | simp only [L2.PX.slots_tup, L2.PX.slots_cons, L2.PX.slots_slot, L2.PX.slots_nil, List.cons_append, List.nil_append])
local macro_rules | `(tactic| walk_at "sb") => `(tactic| first | with_reducible refine L2.PX.sb_tup L2.PX.x_at0 ?_ | with_reducible refine L2.PX.sb_tup L2.PX.x_at1 ?_ | with_reducible refine L2.PX.sb_tup L2.PX.x_at2 ?_ | with_reducible refine L2.PX.sb_tup L2.PX.x_at3 ?_ | with_reducible refine L2.PX.sb_tup (by with_reducible assumption) ?_ | with_reducible refine L2.PX.sb_lst L2.PX.x_at0 ?_ | with_reducible refine L2.PX.sb_lst L2.PX.x_at1 ?_ | with_reducible refine L2.PX.sb_lst L2.PX.x_at2 ?_ | with_reducible refine L2.PX.sb_lst L2.PX.x_at3 ?_ | with_reducible refine L2.PX.sb_lst (by with_reducible assumption) ?_)
local macro_rules | `(tactic| walk_at "g") => `(tactic| (repeat ((try walk_at "w"); first | (walk_at "a"; (try walk_at "sb")) | walk_at "c" | walk_at "i" | walk_at "x")); (try walk_at "w"))
local macro_rules | `(tactic| walk_at "go") => `(tactic| (repeat ((try walk_at "w"); first | (walk_at "a"; (try walk_at "sb")) | walk_at "c" | walk_at "i" | walk_at "x" | walk_at "io")); (try walk_at "w"))
local macro_rules | `(tactic| walk_at "f") => `(tactic| repeat ((with_reducible refine barF ?_); walk_at "w"))
local macro_rules | `(tactic| walk_at "s") => `(tactic| ((try walk_at "f"); (with_reducible refine bar ?_); walk_at "g"; (try walk_at "f")))
local macro_rules | `(tactic| walk_at "u") => `(tactic| ((with_reducible refine unbar ?_); walk_at "g"))
local macro_rules | `(tactic| walk_at "b") => `(tactic| first | (refine barS ?_; (try walk_at "f")) | (refine barT ?_; walk_at "g"; (try walk_at "f")))
--PURE
theorem pure_is_integer : Ok (Gd 0) P_is_integer 1 sp_is_integer := ok_is_integer
theorem pure_is_within : Ok (Gd 1) P_is_within 3 sp_is_within := ok_is_within (i := 0) rfl
theorem pure_is_row : Ok (Gd 2) P_is_row 1 sp_is_row := ok_is_row
theorem pure_check_heights : Ok (Gd 3) P_check_heights 3 sp_check_heights := ok_chkInts (G := Gd 3) (iw := 1) (ir := 2) (o1 := none) (o2 := some (Str.ofString "MOST_TREES")) (o3 := none) (o4 := some (Str.ofString "MOST_HEIGHT")) rfl rfl
theorem pure_law_pick : Ok (Gd 11) P_law_pick 2 sp_law_pick := ok_pick (t := 10) rfl
theorem pure_law_alike (d : Nat) : Ok (Gr 12 (sp_law_alike d)) P_law_alike 4 (sp_law_alike (d + 1)) := ok_alike (i := 12) rfl
theorem seq_items {x : PyData} {s : List Int} (h : IsSeq x s) : itemsOf x = some (s.map fun a => Datum.toD a) := by rcases h with rfl | rfl <;> rfl
theorem Good.chk {x : PyData} {s : List Int} (h : IsSeq x s) (g : Good s) : chk gs1 1 40 x = none := by
  unfold PX.chk
  rw [seq_items h]
  dsimp only
  have := g.lo
  have := g.hi
  rw [if_pos (by rw [List.length_map]; omega), fstBad_good]
  · rfl
  · intro d hd
    obtain ⟨i, hi, rfl⟩ := List.mem_map.mp hd
    have := g.all i hi
    show (decide (0 ≤ i) && decide (i ≤ 1000)) = true
    simp [this.1, this.2]
theorem seq_nd1 {x : PyData} {s : List Int} (h : IsSeq x s) : nd1 x := by
  have := nd1_T s (fun a => trivial)
  rcases h with rfl | rfl
  · exact this.1
  · exact this.2
theorem at_h {s : List Int} {i : Nat} (h : i < s.length) : atI (s.map fun a => Datum.toD a) (i : Int) = some (.int (hh s i)) := at_D h
theorem hh_mem {s : List Int} {i : Nat} (h : i < s.length) : hh s i ∈ s := by
  unfold hh
  rw [List.getD_eq_getElem?_getD, List.getElem?_eq_getElem h]
  exact List.getElem_mem h
theorem Good.at_ {s : List Int} (g : Good s) {i : Nat} (h : i < s.length) : 0 ≤ hh s i ∧ hh s i ≤ 1000 := g.all _ (hh_mem h)
theorem pre_h {s pre post : List Int} {x : Int} (h : s = pre ++ x :: post) : x = hh s pre.length ∧ pre.length < s.length := by
  subst h
  constructor
  · unfold hh
    simp [List.getD_eq_getElem?_getD]
  · simp
/-! seen from the left -/
theorem seen_succ (s : List Int) (m : Nat) : seen s (m + 1) = seen s m ++ (if isSeen s m then [(m : Int)] else []) := by
  unfold seen
  rw [List.range_succ, List.filter_append, List.map_append]
  congr 1
  cases h : isSeen s m <;> simp [h]
theorem seen_len (s : List Int) (m : Nat) : (seen s m).length ≤ m := by
  unfold seen
  rw [List.length_map]
  have := List.length_filter_le (isSeen s) (List.range m)
  rw [List.length_range] at this
  exact this
/-- the highest so far, -1 ahead -/
def top1 (s : List Int) : Nat → Int
  | 0 => -1
  | m + 1 => if hh s m > top1 s m then hh s m else top1 s m
theorem top_seen {s : List Int} (g : Good s) : ∀ m, m ≤ s.length → (∀ v : Int, 0 ≤ v → (top1 s m < v ↔ ∀ j, j < m → hh s j < v))
  | 0, _, v, hv => by simp [top1]; omega
  | m + 1, hm, v, hv => by
    have ih := top_seen g m (by omega) v hv
    unfold top1
    constructor
    · intro h j hj
      by_cases e : j = m
      · subst e
        split at h <;> omega
      · have : top1 s m < v := by split at h <;> omega
        exact ih.mp this j (by omega)
    · intro h
      have h1 := h m (by omega)
      have h2 := ih.mpr fun j hj => h j (by omega)
      split <;> omega
theorem isSeen_top {s : List Int} (g : Good s) {m : Nat} (hm : m < s.length) : isSeen s m = decide (hh s m > top1 s m) := by
  rw [Bool.eq_iff_iff, decide_eq_true_eq]
  unfold isSeen
  rw [List.all_eq_true]
  have := top_seen g m (by omega) (hh s m) (g.at_ hm).1
  constructor
  · intro h; exact this.mpr fun j hj => of_decide_eq_true (h j (List.mem_range.mpr hj))
  · intro h j hj; exact decide_eq_true (this.mp h j (List.mem_range.mp hj))
theorem pure_seen_from_left : Ok (Gd 5) P_seen_from_left 5 sp_seen_from_left := by
  intro vls Q E h
  obtain ⟨x, rfl, nx, h⟩ := h
  show evSs _ _ _ _ [some (.d x), none, none, none, none]
  walk_at "b"
  refine bar ?_
  walk_at "w"
  rcases h with ⟨k, hk, e⟩ | ⟨s, hs, g, q⟩
  · refine ⟨x, rfl, nx, fun z => (by rw [hk] at z; cases z), fun k' z => ?_⟩
    rw [hk] at z; cases z
    exact e
  · refine ⟨x, rfl, nx, fun z => ?_, fun k' z => (by rw [g.chk hs] at z; cases z)⟩
    have ghi := g.hi
    walk_at "s"
    walk_at "s"
    refine bar ?_
    have loop : ∀ D : Ed, (∀ s2 s3 s4, D.nx [some (.d x), some (.own (Ls (seen s s.length))), s2, s3, s4]) → forL (fun x D' st' => evTg (Gd 5) (.tup (.cons (.slot 3) (.cons (.slot 4) .nil))) (.d x) E st' fun st2 => evSs (Gd 5) E P_seen_from_left_b2 D' st2) (enumD 0 (s.map fun a => Datum.toD a)) D [some (.d x), some (.own (.list [])), some (.d (.int (-1))), none, none] := fun D hD => by
      refine for_enum (e := PyData.int) (fun pre st => ∃ s3 s4, st = [some (.d x), some (.own (Ls (seen s pre.length))), some (.d (.int (top1 s pre.length))), s3, s4]) ⟨_, _, rfl⟩ (fun pre v post K st hf hK hi => ?_) (fun st ⟨s3, s4, e⟩ => by subst e; exact hD _ _ _)
      obtain ⟨s3, s4, rfl⟩ := hi
      obtain ⟨rfl, hlt⟩ := pre_h hf
      have hsl := seen_len s pre.length
      have hiS := isSeen_top g hlt
      have hsu := seen_succ s pre.length
      walk_at "b"
      walk_at "s"
      refine ifB_dc (fun h => ?_) (fun h => ?_)
      · have h : hh s pre.length > top1 s pre.length := h
        walk_at "b"
        walk_at "s"
        walk_at "s"
        refine hK _ ⟨some (.d (.int pre.length)), some (.d (.int (hh s pre.length))), ?_⟩
        rw [List.length_append, List.length_singleton, hsu, hiS, if_pos (by simpa using h), Ls_app]
        rw [show top1 s (pre.length + 1) = hh s pre.length from if_pos h]
        rfl
      · have h : ¬ hh s pre.length > top1 s pre.length := h
        walk_at "g"
        refine hK _ ⟨some (.d (.int pre.length)), some (.d (.int (hh s pre.length))), ?_⟩
        rw [List.length_append, List.length_singleton, hsu, hiS, if_neg (by simpa using h), List.append_nil]
        rw [show top1 s (pre.length + 1) = top1 s pre.length from if_neg h]
    rcases hs with rfl | rfl
    all_goals
      walk_at "g"
      refine loop _ fun s2 s3 s4 => ?_
      walk_at "s"
      exact q
/-! the next higher -/
theorem nx_none {s : List Int} {m i : Nat} : nx s m i = none ↔ ∀ k, i < k → k < m → hh s k ≤ hh s i := by
  unfold nx
  rw [Option.map_eq_none_iff, List.head?_eq_none_iff, List.filter_eq_nil_iff]
  constructor
  · intro h k h1 h2
    have := h (k - (i + 1)) (List.mem_range.mpr (by omega))
    rw [show i + 1 + (k - (i + 1)) = k by omega] at this
    simpa using this
  · intro h k hk
    have := h (i + 1 + k) (by omega) (by have := List.mem_range.mp hk; omega)
    simpa using this
theorem nx_succ {s : List Int} {m i : Nat} (hi : i < m) : nx s (m + 1) i = (nx s m i).or (if hh s m > hh s i then some (m : Int) else none) := by
  unfold nx
  rw [show m + 1 - (i + 1) = (m - (i + 1)) + 1 by omega, List.range_succ, List.filter_append]
  have e : i + 1 + (m - (i + 1)) = m := by omega
  by_cases h : hh s m > hh s i
  · rw [if_pos h]
    have : (List.filter (fun k => decide (hh s (i + 1 + k) > hh s i)) [m - (i + 1)]) = [m - (i + 1)] := by simp [e, h]
    rw [this, List.head?_append]
    cases (List.filter (fun k => decide (hh s (i + 1 + k) > hh s i)) (List.range (m - (i + 1)))).head? with
    | none => show some (((i + 1 + (m - (i + 1)) : Nat) : Int)) = some (m : Int); rw [e]
    | some k => rfl
  · rw [if_neg h]
    have : (List.filter (fun k => decide (hh s (i + 1 + k) > hh s i)) [m - (i + 1)]) = [] := by simp [e, h]
    rw [this, List.append_nil, Option.or_none]
theorem nx_low {s : List Int} {m i : Nat} (h : m ≤ i + 1) : nx s m i = none := nx_none.mpr fun k h1 h2 => by omega
/-- those that wait -/
def Wt (s : List Int) (m : Nat) : List Nat := (List.range m).filter fun i => (nx s m i).isNone
theorem Wt_mem {s : List Int} {m i : Nat} : i ∈ Wt s m ↔ i < m ∧ nx s m i = none := by
  unfold Wt
  rw [List.mem_filter, List.mem_range, Option.isNone_iff_eq_none]
theorem Wt_mono {s : List Int} {m : Nat} : (Wt s m).Pairwise fun i j => i < j ∧ hh s j ≤ hh s i := by
  have h : (Wt s m).Pairwise (· < ·) := List.Pairwise.filter _ List.pairwise_lt_range
  refine List.Pairwise.imp_of_mem (fun {i j} hi hj hlt => ⟨hlt, ?_⟩) h
  exact nx_none.mp (Wt_mem.mp hi).2 j hlt (Wt_mem.mp hj).1
theorem Wt_succ {s : List Int} {m : Nat} : Wt s (m + 1) = (Wt s m).filter (fun i => decide (hh s m ≤ hh s i)) ++ [m] := by
  unfold Wt
  rw [List.range_succ, List.filter_append, List.filter_filter]
  have e2 : List.filter (fun i => (nx s (m + 1) i).isNone) [m] = [m] := by simp [nx_low (s := s) (m := m + 1) (i := m) (Nat.le_refl _)]
  rw [e2]
  congr 1
  refine List.filter_congr fun i hi => ?_
  rw [nx_succ (List.mem_range.mp hi)]
  cases nx s m i with
  | some k => simp
  | none =>
    by_cases h : hh s m > hh s i
    · rw [if_pos h]; simp; omega
    · rw [if_neg h]; simp; omega
theorem filt_split {s : List Int} {v : Int} {l' t : List Nat} (h : (l' ++ t).Pairwise fun i j => i < j ∧ hh s j ≤ hh s i) (ht : ∀ i ∈ t, hh s i < v) (hl : ∀ i, l'.getLast? = some i → v ≤ hh s i) : (l' ++ t).filter (fun i => decide (v ≤ hh s i)) = l' := by
  rw [List.filter_append]
  have e2 : t.filter (fun i => decide (v ≤ hh s i)) = [] := List.filter_eq_nil_iff.mpr fun i hi => by have := ht i hi; simp; omega
  have e1 : l'.filter (fun i => decide (v ≤ hh s i)) = l' := List.filter_eq_self.mpr fun i hi => by
    refine decide_eq_true ?_
    rcases List.eq_nil_or_concat l' with z | ⟨b, l, z⟩
    · rw [z] at hi; cases hi
    · subst z
      rw [List.concat_eq_append] at *
      have hv := hl l (by simp)
      rcases List.mem_append.mp hi with hi | hi
      · have := (List.pairwise_append.mp (List.pairwise_append.mp h).1).2.2 i hi l (by simp)
        omega
      · rw [List.mem_singleton.mp hi]; exact hv
  rw [e1, e2, List.append_nil]
/-- what is found while m is looked at: those of t are told m -/
structure Fnd (s : List Int) (m : Nat) (t : List Nat) (F : List (Option Int)) : Prop where
  len : F.length = s.length
  at_ : ∀ i, i < s.length → F[i]? = some (if i < m then (if i ∈ t then some (m : Int) else nx s m i) else none)
theorem Fnd.next {s : List Int} {m : Nat} {l' t : List Nat} {F : List (Option Int)} (hm : m < s.length) (h : Fnd s m t F) (hw : Wt s m = l' ++ t) (ht : ∀ i ∈ t, hh s i < hh s m) (hl : ∀ i, l'.getLast? = some i → hh s m ≤ hh s i) : Fnd s (m + 1) [] F ∧ Wt s (m + 1) = l' ++ [m] := by
  have hmono := Wt_mono (s := s) (m := m)
  have hsp := filt_split (by rw [← hw]; exact hmono) ht hl
  rw [← hw] at hsp
  refine ⟨⟨h.len, fun i hi => ?_⟩, by rw [Wt_succ, hsp]⟩
  rw [h.at_ i hi]
  congr 1
  simp only [List.not_mem_nil, if_false]
  by_cases h1 : i < m
  · have h1' : i < m + 1 := by omega
    by_cases h2 : i ∈ t
    · have hi' : i ∈ Wt s m := by rw [hw]; exact List.mem_append_right _ h2
      rw [if_pos h1, if_pos h2, if_pos h1', nx_succ h1, (Wt_mem.mp hi').2, if_pos (ht i h2)]
      rfl
    · rw [if_pos h1, if_neg h2, if_pos h1', nx_succ h1]
      cases hn : nx s m i with
      | some k => rfl
      | none =>
        have hi' : i ∈ Wt s m := Wt_mem.mpr ⟨h1, hn⟩
        have hi2 : i ∈ l' := by
          rw [hw] at hi'
          exact (List.mem_append.mp hi').resolve_right h2
        rw [← hsp] at hi2
        have := of_decide_eq_true (List.mem_filter.mp hi2).2
        rw [if_neg (by omega)]
        rfl
  · rw [if_neg h1]
    by_cases h2 : i < m + 1
    · rw [if_pos h2, nx_low (by omega)]
    · rw [if_neg h2]
theorem Fnd.pop {s : List Int} {m i : Nat} {t : List Nat} {F : List (Option Int)} (h : Fnd s m t F) (hi : i < m) : Fnd s m (i :: t) (F.set i (some (m : Int))) := by
  refine ⟨by rw [List.length_set]; exact h.len, fun j hj => ?_⟩
  rw [List.getElem?_set]
  by_cases e : i = j
  · subst e
    rw [if_pos rfl, if_pos (by rw [h.len]; exact hj), if_pos hi, if_pos List.mem_cons_self]
  · rw [if_neg e, h.at_ j hj]
    congr 1
    by_cases h1 : j < m
    · rw [if_pos h1, if_pos h1]
      by_cases h2 : j ∈ t
      · rw [if_pos h2, if_pos (List.mem_cons_of_mem _ h2)]
      · rw [if_neg h2, if_neg (by rw [List.mem_cons]; intro z; rcases z with z | z; exact e z.symm; exact h2 z)]
    · rw [if_neg h1, if_neg h1]
theorem Fnd.done {s : List Int} {F : List (Option Int)} (h : Fnd s s.length [] F) : F = higher s := by
  refine List.ext_getElem? fun i => ?_
  by_cases hi : i < s.length
  · rw [h.at_ i hi, if_pos hi]
    unfold higher
    rw [List.getElem?_map, List.getElem?_range hi]
    simp
  · rw [List.getElem?_eq_none (by rw [h.len]; omega), List.getElem?_eq_none (by unfold higher; rw [List.length_map, List.length_range]; omega)]
abbrev nI (l : List Nat) : List Int := l.map fun (i : Nat) => (i : Int)
theorem nI_snoc (l : List Nat) (i : Nat) : Ls (nI (l ++ [i])) = .list (((nI l).map fun a => Datum.toD a) ++ [.int (i : Int)]) := by rw [nI, List.map_append, Ls_app]; rfl
theorem ixN_of {n j : Nat} (h : j < n) : ixN n (j : Int) = some j := by
  unfold ixN
  rw [if_pos (by omega), if_pos (by omega)]
  simp
theorem app_ne {α : Type} (xs : List α) (x : α) : (xs ++ [x]).isEmpty = false := by simp
theorem getLast_snoc {α : Type} (xs : List α) (x : α) : (xs ++ [x]).getLast? = some x := by simp
theorem Wt_len (s : List Int) (m : Nat) : (Wt s m).length ≤ m := by
  unfold Wt
  have := List.length_filter_le (fun i => (nx s m i).isNone) (List.range m)
  rw [List.length_range] at this
  exact this
theorem pure_next_higher : Ok (Gd 4) P_next_higher 6 sp_next_higher := by
  intro vls Q E h
  obtain ⟨x, rfl, nx', h⟩ := h
  show evSs _ _ _ _ [some (.d x), none, none, none, none, none]
  walk_at "b"
  refine bar ?_
  walk_at "w"
  rcases h with ⟨k, hk, e⟩ | ⟨s, hs, g, q⟩
  · refine ⟨x, rfl, nx', fun z => (by rw [hk] at z; cases z), fun k' z => ?_⟩
    rw [hk] at z; cases z
    exact e
  · refine ⟨x, rfl, nx', fun z => ?_, fun k' z => (by rw [g.chk hs] at z; cases z)⟩
    have ghi := g.hi
    have loop : ∀ D : Ed, (∀ s2 s3 s4, D.nx [some (.d x), some (.own (Ls (higher s))), s2, s3, s4, none]) → forL (fun x D' st' => evTg (Gd 4) (.tup (.cons (.slot 3) (.cons (.slot 4) .nil))) (.d x) E st' fun st2 => evSs (Gd 4) E P_next_higher_b2 D' st2) (enumD 0 (s.map fun a => Datum.toD a)) D [some (.d x), some (.own (Ls (s.map fun _ => (none : Option Int)))), some (.own (.list [])), none, none, none] := fun D hD => by
      refine for_enum (e := PyData.int) (fun pre st => ∃ F s3 s4, Fnd s pre.length [] F ∧ st = [some (.d x), some (.own (Ls F)), some (.own (Ls (nI (Wt s pre.length)))), s3, s4, none]) ⟨_, _, _, ⟨by rw [List.length_map], fun i hi => ?_⟩, rfl⟩ (fun pre v post K st hf hK hi => ?_) (fun st ⟨F, s3, s4, hF, e⟩ => by subst e; rw [hF.done]; exact hD _ _ _)
      · rw [List.getElem?_map, List.getElem?_eq_getElem hi]
        simp
      obtain ⟨F, s3, s4, hF, rfl⟩ := hi
      obtain ⟨rfl, hlt⟩ := pre_h hf
      generalize hm : pre.length = m at *
      walk_at "b"
      refine bar ?_
      refine ⟨fun n st => ∃ l' t F, Wt s m = l' ++ t ∧ (∀ i ∈ t, hh s i < hh s m) ∧ Fnd s m t F ∧ n = l'.length ∧ st = [some (.d x), some (.own (Ls F)), some (.own (Ls (nI l'))), some (.d (.int m)), some (.d (.int (hh s m))), none], ⟨_, Wt s m, [], F, by simp, by simp, hF, rfl, rfl⟩, ?_⟩
      rintro n st ⟨l', t, F, hw, ht, hF, rfl, rfl⟩
      have fin : (∀ i, l'.getLast? = some i → hh s m ≤ hh s i) → Bar (evSs (Gd 4) E P_next_higher_b2_s1 ⟨K, D.rt, D.nx, K⟩ [some (.d x), some (.own (Ls F)), some (.own (Ls (nI l'))), some (.d (.int m)), some (.d (.int (hh s m))), none]) := fun hl => by
        obtain ⟨h1, h2⟩ := hF.next hlt hw ht hl
        have hwl := Wt_len s m
        have hll : l'.length ≤ m := by rw [hw, List.length_append] at hwl; omega
        walk_at "s"
        refine bar0 (hK _ ⟨F, some (.d (.int m)), some (.d (.int (hh s m))), by rw [List.length_append, List.length_singleton, hm]; exact h1, ?_⟩)
        rw [List.length_append, List.length_singleton, hm, h2, nI_snoc]
      rcases List.eq_nil_or_concat l' with z | ⟨a, i, z⟩
      · subst z
        walk_at "g"
        exact fin fun i h => by cases h
      · subst z
        rw [List.concat_eq_append] at *
        have hi : i < m := (Wt_mem.mp (by rw [hw]; simp)).1
        have hil : i < s.length := by omega
        have hat : atI (((nI a).map fun a => Datum.toD a) ++ [PyData.int (i : Int)]) (-1) = some (.int (i : Int)) := at_last
        have hath := at_h hil
        have hgl := getLast_snoc ((nI a).map fun a => Datum.toD a) (PyData.int (i : Int))
        have hix : ixN (F.map fun a => Datum.toD a).length (i : Int) = some i := ixN_of (by rw [List.length_map, hF.len]; exact hil)
        have hFp := hF.pop hi
        have eF : (F.map fun a => Datum.toD a).set i (PyData.int (m : Int)) = (F.set i (some (m : Int))).map fun a => Datum.toD a := by rw [List.map_set]; rfl
        rw [nI_snoc] at fin ⊢
        walk_at "g"
        refine ifB_eq (k' := false) (app_ne _ _) (ifB_f ?_)
        walk_at "g"
        refine sub_seq hs hath ?_
        walk_at "g"
        refine ifB_dc (fun hc => ?_) (fun hc => ?_)
        · have hc : hh s i < hh s m := hc
          walk_at "g"
          rw [hgl]
          walk_at "g"
          rw [hix]
          walk_at "g"
          refine ⟨a.length, by simp, a, i :: t, F.set i (some (m : Int)), by rw [hw]; simp, fun j hj => ?_, hFp, rfl, ?_⟩
          · rcases List.mem_cons.mp hj with rfl | hj
            · exact hc
            · exact ht j hj
          · show [some (Vl.d x), some (Vl.own (.list ((F.map fun a => Datum.toD a).set i (.int (m : Int))))), some (Vl.own (.list (((nI a).map fun a => Datum.toD a) ++ [PyData.int (i : Int)]).dropLast)), some (Vl.d (.int m)), some (Vl.d (.int (hh s m))), none] = _
            rw [eF, List.dropLast_concat]
        · have hc : ¬ hh s i < hh s m := hc
          walk_at "g"
          exact fin fun j hj => by
            have : j = i := by rw [getLast_snoc] at hj; exact (Option.some.inj hj).symm
            subst this
            omega
    walk_at "s"
    have hnone : (s.map fun _ => (none : Option Int)).map (fun a => Datum.toD a) = s.map fun _ => PyData.none := by rw [List.map_map]; rfl
    rcases hs with rfl | rfl
    all_goals
      refine comp_all (e := fun a : Int => Datum.toD a) (fun _ => PyData.none) s [] _ (fun x hx acc k' hk' => ?_) ?_
      · walk_at "g"
        exact hk'
      · rw [List.nil_append, ← hnone]
        walk_at "g"
        walk_at "s"
        walk_at "s"
        refine loop _ fun s2 s3 s4 => ?_
        walk_at "s"
        exact q
/-! pairs that see one another -/
theorem vis_iff {s : List Int} {i j : Nat} : vis s i j = true ↔ ∀ k, i < k → k < j → hh s k < hh s i ∧ hh s k < hh s j := by
  unfold vis
  rw [List.all_eq_true]
  constructor
  · intro h k h1 h2
    have := h (k - (i + 1)) (List.mem_range.mpr (by omega))
    rw [show i + 1 + (k - (i + 1)) = k by omega] at this
    simpa using this
  · intro h k hk
    have := h (i + 1 + k) (by omega) (by have := List.mem_range.mp hk; omega)
    simpa using this
def sv (s : List Int) (m i : Nat) : Bool := (List.range (m - (i + 1))).all fun k => decide (hh s (i + 1 + k) < hh s i)
theorem sv_iff {s : List Int} {i m : Nat} : sv s m i = true ↔ ∀ k, i < k → k < m → hh s k < hh s i := by
  unfold sv
  rw [List.all_eq_true]
  constructor
  · intro h k h1 h2
    have := h (k - (i + 1)) (List.mem_range.mpr (by omega))
    rw [show i + 1 + (k - (i + 1)) = k by omega] at this
    simpa using this
  · intro h k hk
    have := h (i + 1 + k) (by omega) (by have := List.mem_range.mp hk; omega)
    simpa using this
def Vx (s : List Int) (m : Nat) : List Nat := (List.range m).filter (sv s m)
theorem Vx_mem {s : List Int} {m i : Nat} : i ∈ Vx s m ↔ i < m ∧ sv s m i = true := by
  unfold Vx
  rw [List.mem_filter, List.mem_range]
theorem Vx_mono {s : List Int} {m : Nat} : (Vx s m).Pairwise fun i j => i < j ∧ hh s j < hh s i := by
  have h : (Vx s m).Pairwise (· < ·) := List.Pairwise.filter _ List.pairwise_lt_range
  refine List.Pairwise.imp_of_mem (fun {i j} hi hj hlt => ⟨hlt, ?_⟩) h
  exact sv_iff.mp (Vx_mem.mp hi).2 j hlt (Vx_mem.mp hj).1
theorem Vx_succ {s : List Int} {m : Nat} : Vx s (m + 1) = (Vx s m).filter (fun i => decide (hh s m < hh s i)) ++ [m] := by
  unfold Vx
  rw [List.range_succ, List.filter_append, List.filter_filter]
  have e2 : List.filter (sv s (m + 1)) [m] = [m] := by
    have : sv s (m + 1) m = true := sv_iff.mpr fun k h1 h2 => by omega
    simp [this]
  rw [e2]
  congr 1
  refine List.filter_congr fun i hi => ?_
  have hi := List.mem_range.mp hi
  rw [Bool.eq_iff_iff, Bool.and_eq_true, decide_eq_true_eq, sv_iff, sv_iff]
  constructor
  · intro h; exact ⟨h m hi (by omega), fun k h1 h2 => h k h1 (by omega)⟩
  · intro ⟨h1, h2⟩ k h3 h4
    by_cases e : k = m
    · subst e; exact h1
    · exact h2 k h3 (by omega)
theorem Vx_top {s : List Int} : ∀ m k, k < m → ∃ j ∈ Vx s m, k ≤ j ∧ hh s k ≤ hh s j
  | 0, k, h => by omega
  | m + 1, k, h => by
    rw [Vx_succ]
    by_cases e : k = m
    · subst e; exact ⟨k, by simp, Nat.le_refl _, Int.le_refl _⟩
    · obtain ⟨j, h1, h2, h3⟩ := Vx_top m k (by omega)
      by_cases h4 : hh s m < hh s j
      · exact ⟨j, List.mem_append_left _ (List.mem_filter.mpr ⟨h1, decide_eq_true h4⟩), h2, h3⟩
      · exact ⟨m, by simp, by omega, by omega⟩
theorem vis_filter {s : List Int} {m : Nat} : (List.range m).filter (fun i => vis s i m) = (Vx s m).filter fun i => vis s i m := by
  unfold Vx
  rw [List.filter_filter]
  refine List.filter_congr fun i hi => ?_
  rw [Bool.eq_iff_iff, Bool.and_eq_true, vis_iff, sv_iff]
  exact ⟨fun h => ⟨h, fun k h1 h2 => (h k h1 h2).1⟩, fun h => h.1⟩
/-- the count at m, and who waits behind -/
theorem cnt_split {s : List Int} {m : Nat} {l' t : List Nat} (hw : Vx s m = l' ++ t) (ht : ∀ i ∈ t, hh s i < hh s m) (hl : ∀ i, l'.getLast? = some i → hh s m ≤ hh s i) :
    cnt s m = (t.length : Int) + (if l' = [] then 0 else 1) := by
  have hmono := Vx_mono (s := s) (m := m)
  rw [hw] at hmono
  unfold cnt
  rw [vis_filter, hw, List.filter_append]
  have e2 : t.filter (fun i => vis s i m) = t := List.filter_eq_self.mpr fun i hi => by
    have hi' : i ∈ Vx s m := by rw [hw]; exact List.mem_append_right _ hi
    refine vis_iff.mpr fun k h1 h2 => ?_
    have h3 := sv_iff.mp (Vx_mem.mp hi').2 k h1 h2
    have := ht i hi
    exact ⟨h3, by omega⟩
  rw [e2, List.length_append]
  rcases List.eq_nil_or_concat l' with z | ⟨a, i, z⟩
  · subst z
    simp
  · subst z
    rw [List.concat_eq_append] at *
    have hv := hl i (by simp)
    have ha : a.filter (fun i => vis s i m) = [] := List.filter_eq_nil_iff.mpr fun j hj => by
      intro hvis
      have h1 := (List.pairwise_append.mp (List.pairwise_append.mp hmono).1).2.2 j hj i (by simp)
      have him : i < m := (Vx_mem.mp (by rw [hw]; simp)).1
      have := (vis_iff.mp hvis i h1.1 him).2
      omega
    have hi : vis s i m = true := vis_iff.mpr fun k h1 h2 => by
      have hi' : i ∈ Vx s m := by rw [hw]; simp
      refine ⟨sv_iff.mp (Vx_mem.mp hi').2 k h1 h2, ?_⟩
      obtain ⟨j, h3, h4, h5⟩ := Vx_top m k h2
      rw [hw] at h3
      have hjt : j ∈ t := by
        rcases List.mem_append.mp h3 with h3 | h3
        · rcases List.mem_append.mp h3 with h3 | h3
          · have := (List.pairwise_append.mp (List.pairwise_append.mp hmono).1).2.2 j h3 i (by simp)
            omega
          · have := List.mem_singleton.mp h3
            omega
        · exact h3
      have := ht j hjt
      omega
    rw [List.filter_append, ha]
    simp [hi]
    omega
theorem Vx_next {s : List Int} {m : Nat} {l' t : List Nat} (hw : Vx s m = l' ++ t) (ht : ∀ i ∈ t, hh s i < hh s m) (hl : ∀ i, l'.getLast? = some i → hh s m < hh s i) : Vx s (m + 1) = l' ++ [m] := by
  have hmono := Vx_mono (s := s) (m := m)
  rw [hw] at hmono
  rw [Vx_succ, hw, List.filter_append]
  have e2 : t.filter (fun i => decide (hh s m < hh s i)) = [] := List.filter_eq_nil_iff.mpr fun i hi => by have := ht i hi; simp; omega
  have e1 : l'.filter (fun i => decide (hh s m < hh s i)) = l' := List.filter_eq_self.mpr fun i hi => by
    refine decide_eq_true ?_
    rcases List.eq_nil_or_concat l' with z | ⟨b, l, z⟩
    · rw [z] at hi; cases hi
    · subst z
      rw [List.concat_eq_append] at *
      have hv := hl l (by simp)
      rcases List.mem_append.mp hi with hi | hi
      · have := (List.pairwise_append.mp (List.pairwise_append.mp hmono).1).2.2 i hi l (by simp)
        omega
      · rw [List.mem_singleton.mp hi]; exact hv
  rw [e1, e2, List.append_nil]
theorem Vx_next2 {s : List Int} {m : Nat} {a t : List Nat} {i : Nat} (hw : Vx s m = a ++ [i] ++ t) (ht : ∀ i ∈ t, hh s i < hh s m) (hi : hh s i = hh s m) : Vx s (m + 1) = a ++ [m] := by
  have hmono := Vx_mono (s := s) (m := m)
  rw [hw] at hmono
  rw [Vx_succ, hw, List.filter_append, List.filter_append]
  have e2 : t.filter (fun i => decide (hh s m < hh s i)) = [] := List.filter_eq_nil_iff.mpr fun i hi => by have := ht i hi; simp; omega
  have e3 : [i].filter (fun i => decide (hh s m < hh s i)) = [] := by simp [hi]
  have e1 : a.filter (fun i => decide (hh s m < hh s i)) = a := List.filter_eq_self.mpr fun j hj => by
    have := (List.pairwise_append.mp (List.pairwise_append.mp hmono).1).2.2 j hj i (by simp)
    exact decide_eq_true (by omega)
  rw [e1, e2, e3, List.append_nil, List.append_nil]
abbrev hI (s : List Int) (l : List Nat) : List Int := l.map (hh s)
theorem hI_snoc (s : List Int) (l : List Nat) (i : Nat) : Ls (hI s (l ++ [i])) = .list (((hI s l).map fun a => Datum.toD a) ++ [.int (hh s i)]) := by rw [hI, List.map_append, Ls_app]; rfl
theorem Vx_len (s : List Int) (m : Nat) : (Vx s m).length ≤ m := by
  unfold Vx
  have := List.length_filter_le (sv s m) (List.range m)
  rw [List.length_range] at this
  exact this
theorem pure_pairs_seen : Ok (Gd 9) P_pairs_seen 4 sp_pairs_seen := by
  intro vls Q E h
  obtain ⟨x, rfl, nx', h⟩ := h
  show evSs _ _ _ _ [some (.d x), none, none, none]
  walk_at "b"
  refine bar ?_
  walk_at "w"
  rcases h with ⟨k, hk, e⟩ | ⟨s, hs, g, q⟩
  · refine ⟨x, rfl, nx', fun z => (by rw [hk] at z; cases z), fun k' z => ?_⟩
    rw [hk] at z; cases z
    exact e
  · refine ⟨x, rfl, nx', fun z => ?_, fun k' z => (by rw [g.chk hs] at z; cases z)⟩
    have ghi := g.hi
    have loop : ∀ D : Ed, (∀ s1 s3, D.nx [some (.d x), s1, some (.d (.int (PR s s.length))), s3]) → forL (fun x D' st' => evTg (Gd 9) (.slot 3) (.d x) E st' fun st2 => evSs (Gd 9) E P_pairs_seen_b4 D' st2) (s.map fun a => Datum.toD a) D [some (.d x), some (.own (.list [])), some (.d (.int 0)), none] := fun D hD => by
      refine for_L (e := PyData.int) (fun pre st => ∃ s3, st = [some (.d x), some (.own (Ls (hI s (Vx s pre.length)))), some (.d (.int (PR s pre.length))), s3]) ⟨_, rfl⟩ (fun pre v post K st hf hK hi => ?_) (fun st ⟨s3, e⟩ => by subst e; exact hD _ _)
      obtain ⟨s3, rfl⟩ := hi
      obtain ⟨rfl, hlt⟩ := pre_h hf
      generalize hm : pre.length = m at *
      walk_at "b"
      refine bar ?_
      refine ⟨fun n st => ∃ l' t, Vx s m = l' ++ t ∧ (∀ i ∈ t, hh s i < hh s m) ∧ n = l'.length ∧ st = [some (.d x), some (.own (Ls (hI s l'))), some (.d (.int (PR s m + t.length))), some (.d (.int (hh s m)))], ⟨_, Vx s m, [], by simp, by simp, rfl, by simp⟩, ?_⟩
      rintro n st ⟨l', t, hw, ht, rfl, rfl⟩
      have hwl := Vx_len s m
      have hll : l'.length ≤ m := by rw [hw, List.length_append] at hwl; omega
      have last : ∀ (l2 : List Nat) (v : Int), l2.length ≤ m → Vx s (m + 1) = l2 ++ [m] → v = PR s (m + 1) → Bar (evSs (Gd 9) E P_pairs_seen_b4_s3 ⟨K, D.rt, D.nx, K⟩ [some (.d x), some (.own (Ls (hI s l2))), some (.d (.int v)), some (.d (.int (hh s m)))]) := fun l2 v hl2 hv2 e => by
        subst e
        walk_at "s"
        refine bar0 (hK _ ⟨some (.d (.int (hh s m))), ?_⟩)
        rw [List.length_append, List.length_singleton, hm, hv2, hI_snoc]
      have hPR : PR s (m + 1) = PR s m + cnt s m := rfl
      rcases List.eq_nil_or_concat l' with z | ⟨a, i, z⟩
      · subst z
        have hc := cnt_split hw ht (fun i h => by cases h)
        rw [if_pos rfl] at hc
        walk_at "g"
        walk_at "s"
        walk_at "s"
        exact last [] _ (Nat.zero_le _) (Vx_next hw ht fun i h => by cases h) (by rw [hPR, hc]; omega)
      · subst z
        rw [List.concat_eq_append] at *
        have hat : atI (((hI s a).map fun a => Datum.toD a) ++ [PyData.int (hh s i)]) (-1) = some (.int (hh s i)) := at_last
        have hgl := getLast_snoc ((hI s a).map fun a => Datum.toD a) (PyData.int (hh s i))
        rw [hI_snoc]
        walk_at "g"
        refine ifB_eq (k' := false) (app_ne _ _) (ifB_f ?_)
        walk_at "g"
        refine ifB_dc (fun hc => ?_) (fun hc => ?_)
        · have hc : hh s i < hh s m := hc
          walk_at "g"
          rw [hgl]
          walk_at "g"
          refine ⟨a.length, by simp, a, i :: t, by rw [hw]; simp, fun j hj => ?_, rfl, ?_⟩
          · rcases List.mem_cons.mp hj with rfl | hj
            · exact hc
            · exact ht j hj
          · show [some (Vl.d x), some (Vl.own (.list (((hI s a).map fun a => Datum.toD a) ++ [PyData.int (hh s i)]).dropLast)), some (Vl.d (.int (PR s m + t.length + 1))), some (Vl.d (.int (hh s m)))] = _
            rw [List.dropLast_concat, List.length_cons, show PR s m + (t.length : Int) + 1 = PR s m + ((t.length + 1 : Nat) : Int) by omega]
        · have hc : ¬ hh s i < hh s m := hc
          have hcn := cnt_split hw ht (fun j hj => by
            have : j = i := by rw [getLast_snoc] at hj; exact (Option.some.inj hj).symm
            subst this
            omega)
          rw [if_neg (by simp)] at hcn
          walk_at "g"
          refine pjoin (fun st' => st' = [some (.d x), some (.own (.list (((hI s a).map fun a => Datum.toD a) ++ [PyData.int (hh s i)]))), some (.d (.int (PR s m + t.length + 1))), some (.d (.int (hh s m)))]) (fun N hN => ?_) ?_
          · walk_at "g"
            refine ifB_eq (k' := false) (app_ne _ _) (ifB_f ?_)
            walk_at "g"
            exact hN _ rfl
          rintro _ rfl
          refine pjoin (fun st' => ∃ l2, l2.length ≤ m ∧ Vx s (m + 1) = l2 ++ [m] ∧ st' = [some (.d x), some (.own (Ls (hI s l2))), some (.d (.int (PR s m + t.length + 1))), some (.d (.int (hh s m)))]) (fun N hN => ?_) (fun st ⟨l2, h1, h2, e⟩ => by subst e; exact last l2 _ h1 h2 (by rw [hPR, hcn]; omega))
          walk_at "g"
          refine ifB_eq (k' := false) (app_ne _ _) (ifB_f ?_)
          walk_at "g"
          refine ifB_dc (fun he => ?_) (fun he => ?_)
          · walk_at "g"
            rw [hgl]
            walk_at "g"
            refine hN _ ⟨a, by simp at hll; omega, Vx_next2 hw ht he, ?_⟩
            show [some (Vl.d x), some (Vl.own (.list (((hI s a).map fun a => Datum.toD a) ++ [PyData.int (hh s i)]).dropLast)), _, _] = _
            rw [List.dropLast_concat]
          · walk_at "g"
            refine hN _ ⟨a ++ [i], hll, Vx_next hw ht (fun j hj => ?_), by rw [hI_snoc]⟩
            have : j = i := by rw [getLast_snoc] at hj; exact (Option.some.inj hj).symm
            subst this
            omega
    walk_at "s"
    walk_at "s"
    rcases hs with rfl | rfl
    all_goals
      walk_at "s"
      refine loop _ fun s1 s3 => ?_
      walk_at "s"
      exact q
/-! rain -/
theorem QR_mono {s : List Int} {c : Nat} : ∀ d, c ≤ d → QR s c ≤ QR s d
  | 0, h => by rw [show c = 0 by omega]; exact Int.le_refl _
  | d + 1, h => by
    by_cases e : c = d + 1
    · subst e; exact Int.le_refl _
    · have := QR_mono (s := s) (c := c) d (by omega)
      show QR s c ≤ max (QR s d) _
      omega
theorem QR_at {s : List Int} {i d : Nat} (h : i < s.length) (hd : s.length - i ≤ d) : hh s i ≤ QR s d := by
  have h1 := QR_mono (s := s) (c := s.length - i) d hd
  have h2 : hh s i ≤ QR s (s.length - i) := by
    rw [show s.length - i = (s.length - 1 - i) + 1 by omega]
    show hh s i ≤ max (QR s (s.length - 1 - i)) (hh s (s.length - 1 - (s.length - 1 - i)))
    rw [show s.length - 1 - (s.length - 1 - i) = i by omega]
    omega
  omega
theorem PL_mono {s : List Int} {c : Nat} : ∀ d, c ≤ d → PL s c ≤ PL s d
  | 0, h => by rw [show c = 0 by omega]; exact Int.le_refl _
  | d + 1, h => by
    by_cases e : c = d + 1
    · subst e; exact Int.le_refl _
    · have := PL_mono (s := s) (c := c) d (by omega)
      show PL s c ≤ max (PL s d) _
      omega
theorem PL_at {s : List Int} {i d : Nat} (hd : i < d) : hh s i ≤ PL s d := by
  have h1 := PL_mono (s := s) (c := i + 1) d (by omega)
  have h2 : hh s i ≤ max (PL s i) (hh s i) := by omega
  have h3 : PL s (i + 1) = max (PL s i) (hh s i) := rfl
  omega
theorem SW_split {s : List Int} : ∀ c a, a + c = s.length → SW s a + TW s c = SW s s.length
  | 0, a, h => by rw [show a = s.length by omega]; show _ + 0 = _; omega
  | c + 1, a, h => by
    have ih := SW_split (s := s) c (a + 1) (by omega)
    have h1 : SW s (a + 1) = SW s a + W s a := rfl
    have h2 : TW s (c + 1) = TW s c + W s (s.length - 1 - c) := rfl
    rw [show s.length - 1 - c = a by omega] at h2
    omega
/-- the state of the two pointers -/
structure RI (s : List Int) (a c : Nat) (low found : Int) : Prop where
  le : a + c + 1 ≤ s.length
  low_ : low = max (PL s a) (QR s c)
  fnd : found = SW s a + TW s c
  A : QR s c ≤ max (PL s a) (hh s a)
  B : PL s a ≤ max (QR s c) (hh s (s.length - 1 - c))
  C : max (PL s a) (QR s c) ≤ max (hh s a) (hh s (s.length - 1 - c))
theorem RI.left {s : List Int} {a c : Nat} {low found : Int} (r : RI s a c low found) (h : a + c + 1 < s.length) (hle : hh s a ≤ hh s (s.length - 1 - c)) : RI s (a + 1) c (max low (hh s a)) (found + (max low (hh s a) - hh s a)) := by
  obtain ⟨h1, h2, h3, h4, h5, h6⟩ := r
  have e1 : PL s (a + 1) = max (PL s a) (hh s a) := rfl
  have e2 : SW s (a + 1) = SW s a + W s a := rfl
  have q1 := QR_mono (s := s) (c := c) (s.length - a) (by omega)
  have q2 := QR_at (s := s) (i := s.length - 1 - c) (d := s.length - a) (by omega) (by omega)
  have q3 := QR_at (s := s) (i := a) (d := s.length - a) (by omega) (by omega)
  have e3 : W s a = min (PL s (a + 1)) (QR s (s.length - a)) - hh s a := rfl
  have e4 : W s a = max (PL s a) (hh s a) - hh s a := by rw [e3, e1]; omega
  exact ⟨by omega, by omega, by omega, by omega, by omega, by omega⟩
theorem RI.right {s : List Int} {a c : Nat} {low found : Int} (r : RI s a c low found) (h : a + c + 1 < s.length) (hle : ¬ hh s a ≤ hh s (s.length - 1 - c)) : RI s a (c + 1) (max low (hh s (s.length - 1 - c))) (found + (max low (hh s (s.length - 1 - c)) - hh s (s.length - 1 - c))) := by
  obtain ⟨h1, h2, h3, h4, h5, h6⟩ := r
  have e1 : QR s (c + 1) = max (QR s c) (hh s (s.length - 1 - c)) := rfl
  have e2 : TW s (c + 1) = TW s c + W s (s.length - 1 - c) := rfl
  have q1 := PL_mono (s := s) (c := a) (s.length - 1 - c + 1) (by omega)
  have q2 := PL_at (s := s) (i := a) (d := s.length - 1 - c + 1) (by omega)
  have q3 := PL_at (s := s) (i := s.length - 1 - c) (d := s.length - 1 - c + 1) (by omega)
  have e3 : W s (s.length - 1 - c) = min (PL s (s.length - 1 - c + 1)) (QR s (s.length - (s.length - 1 - c))) - hh s (s.length - 1 - c) := rfl
  rw [show s.length - (s.length - 1 - c) = c + 1 by omega] at e3
  have e4 : W s (s.length - 1 - c) = max (QR s c) (hh s (s.length - 1 - c)) - hh s (s.length - 1 - c) := by rw [e3, e1]; omega
  exact ⟨by omega, by omega, by omega, by omega, by omega, by omega⟩
theorem RI.done {s : List Int} {a c : Nat} {low found : Int} (r : RI s a c low found) (h : a + c + 1 = s.length) : found = SW s s.length := by
  obtain ⟨h1, h2, h3, h4, h5, h6⟩ := r
  have h7 := SW_split (s := s) (c + 1) a (by omega)
  have e2 : TW s (c + 1) = TW s c + W s (s.length - 1 - c) := rfl
  have ea : s.length - 1 - c = a := by omega
  rw [ea] at h5 h6 e2
  have e3 : W s a = min (PL s (a + 1)) (QR s (s.length - a)) - hh s a := rfl
  have e1 : PL s (a + 1) = max (PL s a) (hh s a) := rfl
  have e5 : QR s (s.length - a) = max (QR s c) (hh s a) := by
    rw [show s.length - a = c + 1 by omega]
    show max (QR s c) (hh s (s.length - 1 - c)) = _
    rw [ea]
  rw [e1, e5] at e3
  omega
theorem max2_eq (i j : Int) : (if j > i then j else i) = max i j := by split <;> omega
theorem pure_rain_held : Ok (Gd 8) P_rain_held 5 sp_rain_held := by
  intro vls Q E h
  obtain ⟨x, rfl, nx', h⟩ := h
  show evSs _ _ _ _ [some (.d x), none, none, none, none]
  walk_at "b"
  refine bar ?_
  walk_at "w"
  rcases h with ⟨k, hk, e⟩ | ⟨s, hs, g, q⟩
  · refine ⟨x, rfl, nx', fun z => (by rw [hk] at z; cases z), fun k' z => ?_⟩
    rw [hk] at z; cases z
    exact e
  · refine ⟨x, rfl, nx', fun z => ?_, fun k' z => (by rw [g.chk hs] at z; cases z)⟩
    have ghi := g.hi
    have glo := g.lo
    walk_at "s"
    refine b_lenS hs ?_
    walk_at "g"
    walk_at "s"
    refine bar ?_
    refine ⟨fun n st => ∃ a c low found, RI s a c low found ∧ n = s.length - a - c ∧ st = [some (.d x), some (.d (.int low)), some (.d (.int found)), some (.d (.int (a : Int))), some (.d (.int ((s.length : Int) - 1 - c)))], ⟨_, 0, 0, 0, 0, ⟨by omega, by show (0 : Int) = max 0 0; omega, rfl, by show (0 : Int) ≤ max 0 _; omega, by show (0 : Int) ≤ max 0 _; omega, ?_⟩, rfl, ?_⟩, ?_⟩
    · show max (0 : Int) 0 ≤ _
      have := g.at_ (i := 0) (by omega)
      omega
    · rw [show (s.length : Int) - 1 - ((0 : Nat) : Int) = s.length - 1 by omega]
      rfl
    rintro n st ⟨a, c, low, found, r, rfl, rfl⟩
    walk_at "g"
    refine ifB_dc (fun hlt => ?_) (fun hlt => ?_)
    · have hlt : (a : Int) < (s.length : Int) - 1 - c := hlt
      have hacs : a + c + 1 < s.length := by omega
      have ha := at_h (s := s) (i := a) (by omega)
      have hb : atI (s.map fun a => Datum.toD a) ((s.length : Int) - 1 - c) = some (.int (hh s (s.length - 1 - c))) := by
        have := at_h (s := s) (i := s.length - 1 - c) (by omega)
        rwa [show ((s.length - 1 - c : Nat) : Int) = (s.length : Int) - 1 - c by omega] at this
      walk_at "b"
      refine bar ?_
      walk_at "g"
      refine sub_seq hs ha ?_
      walk_at "g"
      refine sub_seq hs hb ?_
      walk_at "g"
      refine ifB_dc (fun hle => ?_) (fun hle => ?_)
      · have r' := r.left hacs hle
        walk_at "b"
        walk_at "s"
        refine sub_seq hs ha ?_
        walk_at "g"
        rw [max2_eq]
        walk_at "s"
        refine sub_seq hs ha ?_
        walk_at "g"
        walk_at "s"
        exact bar0 ⟨s.length - (a + 1) - c, by omega, a + 1, c, _, _, r', rfl, by rw [show ((a + 1 : Nat) : Int) = (a : Int) + 1 by omega]⟩
      · have r' := r.right hacs hle
        walk_at "b"
        walk_at "s"
        refine sub_seq hs hb ?_
        walk_at "g"
        rw [max2_eq]
        walk_at "s"
        refine sub_seq hs hb ?_
        walk_at "g"
        walk_at "s"
        exact bar0 ⟨s.length - a - (c + 1), by omega, a, c + 1, _, _, r', rfl, by rw [show (s.length : Int) - 1 - ((c + 1 : Nat) : Int) = (s.length : Int) - 1 - c - 1 by omega]⟩
    · have hlt : ¬ (a : Int) < (s.length : Int) - 1 - c := hlt
      have h1 := r.le
      have := r.done (by omega)
      subst this
      walk_at "s"
      exact q
/-! blocks -/
theorem all2_snoc {α β : Type} {P : α → β → Prop} {x : α} {y : β} : ∀ {xs : List α} {ys : List β}, All2 P xs ys → P x y → All2 P (xs ++ [x]) (ys ++ [y])
  | _, _, .nil, h => .cons h .nil
  | _, _, .cons a r, h => .cons a (all2_snoc r h)
theorem pure_all_blocks : Ok (Gd 6) P_all_blocks 6 sp_all_blocks := by
  intro vls Q E h
  obtain ⟨x, s, rfl, hs, g, q⟩ := h
  show evSs _ _ _ _ [some (.d x), none, none, none, none, none]
  have ghi := g.hi
  have loop : ∀ D : Ed, (∀ R s2 s3 s4 s5, All2 (Row s) (List.range s.length) R → D.nx [some (.d x), some (.own (Ls R)), s2, s3, s4, s5]) → forL (fun x D' st' => evTg (Gd 6) (.tup (.cons (.slot 2) (.cons (.slot 3) .nil))) (.d x) E st' fun st2 => evSs (Gd 6) E P_all_blocks_b3 D' st2) (enumD 0 (s.map fun a => Datum.toD a)) D [some (.d x), some (.own (.list [])), none, none, none, none] := fun D hD => by
    refine for_enum (e := PyData.int) (fun pre st => ∃ R s2 s3 s4 s5, All2 (Row s) (List.range pre.length) R ∧ st = [some (.d x), some (.own (Ls (R : List (T3 Int Int Int)))), s2, s3, s4, s5]) ⟨[], _, _, _, _, .nil, rfl⟩ (fun pre v post K st hf hK hi => ?_) (fun st ⟨R, s2, s3, s4, s5, hR, e⟩ => by subst e; exact hD _ _ _ _ _ hR)
    obtain ⟨R, s2, s3, s4, s5, hR, rfl⟩ := hi
    obtain ⟨rfl, hlt⟩ := pre_h hf
    have hRl := hR.length
    rw [List.length_range] at hRl
    generalize hm : pre.length = m at *
    have hm0 := g.at_ hlt
    walk_at "b"
    walk_at "s"
    refine bar ?_
    refine ⟨fun n st => ∃ b : Nat, b ≤ m ∧ (∀ k, b ≤ k → k ≤ m → hh s m ≤ hh s k) ∧ n = b ∧ st = [some (.d x), some (.own (Ls R)), some (.d (.int m)), some (.d (.int (hh s m))), some (.d (.int (b : Int))), some (.d (.int ((m : Int) + 1)))], ⟨_, m, Nat.le_refl _, fun k h1 h2 => by rw [show k = m by omega]; exact Int.le_refl _, rfl, rfl⟩, ?_⟩
    rintro n st ⟨b, hbm, hb, hn, rfl⟩
    have fin : (b = 0 ∨ hh s (b - 1) < hh s m) → Bar (evSs (Gd 6) E P_all_blocks_b3_s2 ⟨K, D.rt, D.nx, K⟩ [some (.d x), some (.own (Ls R)), some (.d (.int m)), some (.d (.int (hh s m))), some (.d (.int (b : Int))), some (.d (.int ((m : Int) + 1)))]) := fun hbs => by
      refine bar ?_
      refine ⟨fun n st => ∃ e : Nat, m < e ∧ e ≤ s.length ∧ (∀ k, m ≤ k → k < e → hh s m ≤ hh s k) ∧ n = s.length - e ∧ st = [some (.d x), some (.own (Ls R)), some (.d (.int m)), some (.d (.int (hh s m))), some (.d (.int (b : Int))), some (.d (.int (e : Int)))], ⟨_, m + 1, by omega, by omega, fun k h1 h2 => by rw [show k = m by omega]; exact Int.le_refl _, rfl, by rw [show ((m + 1 : Nat) : Int) = (m : Int) + 1 by omega]⟩, ?_⟩
      rintro n st ⟨e, hme, hes, he, rfl, rfl⟩
      have fin2 : (e = s.length ∨ hh s e < hh s m) → Bar (evSs (Gd 6) E P_all_blocks_b3_s3 ⟨K, D.rt, D.nx, K⟩ [some (.d x), some (.own (Ls R)), some (.d (.int m)), some (.d (.int (hh s m))), some (.d (.int (b : Int))), some (.d (.int (e : Int)))]) := fun hee => by
        walk_at "s"
        refine bar0 (hK _ ⟨R ++ [⟨-(hh s m) * ((e : Int) - b), b, e⟩], some (.d (.int m)), some (.d (.int (hh s m))), some (.d (.int (b : Int))), some (.d (.int (e : Int))), ?_, ?_⟩)
        · rw [List.length_append, List.length_singleton, hm, List.range_succ]
          refine all2_snoc hR ⟨b, e, rfl, hbm, hme, hes, fun k h1 h2 => ?_, hbs, hee⟩
          by_cases z : k ≤ m
          · exact hb k h1 z
          · exact he k (by omega) h2
        · rw [Ls_app]
          rfl
      walk_at "g"
      refine b_lenS hs ?_
      walk_at "g"
      refine ifB_dc (fun hc => ?_) (fun hc => ?_)
      · have hc : (e : Int) < s.length := hc
        have ha := at_h (s := s) (i := e) (by omega)
        walk_at "g"
        refine sub_seq hs ha ?_
        walk_at "g"
        refine ifB_dc (fun hd => ?_) (fun hd => ?_)
        · have hd : hh s m ≤ hh s e := hd
          walk_at "b"
          walk_at "s"
          refine bar0 ⟨s.length - (e + 1), by omega, e + 1, by omega, by omega, fun k h1 h2 => ?_, rfl, by rw [show ((e + 1 : Nat) : Int) = (e : Int) + 1 by omega]⟩
          by_cases z : k = e
          · subst z; exact hd
          · exact he k h1 (by omega)
        · have hd : ¬ hh s m ≤ hh s e := hd
          walk_at "g"
          exact fin2 (.inr (by omega))
      · have hc : ¬ (e : Int) < s.length := hc
        walk_at "g"
        exact fin2 (.inl (by omega))
    walk_at "g"
    refine ifB_dc (fun hc => ?_) (fun hc => ?_)
    · have hc : (0 : Int) < b := hc
      have ha : atI (s.map fun a => Datum.toD a) ((b : Int) - 1) = some (.int (hh s (b - 1))) := by
        have := at_h (s := s) (i := b - 1) (by omega)
        rwa [show ((b - 1 : Nat) : Int) = (b : Int) - 1 by omega] at this
      walk_at "g"
      refine sub_seq hs ha ?_
      walk_at "g"
      refine ifB_dc (fun hd => ?_) (fun hd => ?_)
      · have hd : hh s m ≤ hh s (b - 1) := hd
        walk_at "b"
        walk_at "s"
        refine bar0 ⟨b - 1, by omega, b - 1, by omega, fun k h1 h2 => ?_, rfl, by rw [show ((b - 1 : Nat) : Int) = (b : Int) - 1 by omega]⟩
        by_cases z : k = b - 1
        · subst z; exact hd
        · exact hb k (by omega) h2
      · have hd : ¬ hh s m ≤ hh s (b - 1) := hd
        walk_at "g"
        exact fin (.inr (by omega))
    · have hc : ¬ (0 : Int) < b := hc
      walk_at "g"
      exact fin (.inl (by omega))
  walk_at "b"
  walk_at "s"
  refine bar ?_
  rcases hs with rfl | rfl
  all_goals
    walk_at "g"
    refine loop _ fun R s2 s3 s4 s5 hR => ?_
    walk_at "s"
    exact q R hR
theorem lw_le {s : List Int} {b : Nat} : ∀ k j, b ≤ j → j ≤ b + k → lw s b k ≤ hh s j
  | 0, j, h1, h2 => by rw [show j = b by omega]; exact Int.le_refl _
  | k + 1, j, h1, h2 => by
    unfold lw
    by_cases e : j = b + 1 + k
    · subst e; split <;> omega
    · have := lw_le (s := s) (b := b) k j h1 (by omega)
      split <;> omega
theorem lw_mem {s : List Int} {b : Nat} : ∀ k, ∃ j, b ≤ j ∧ j ≤ b + k ∧ lw s b k = hh s j
  | 0 => ⟨b, Nat.le_refl _, by omega, rfl⟩
  | k + 1 => by
    obtain ⟨j, h1, h2, h3⟩ := lw_mem (s := s) (b := b) k
    unfold lw
    split
    · exact ⟨b + 1 + k, by omega, by omega, rfl⟩
    · exact ⟨j, h1, by omega, h3⟩
theorem all2_get {α β : Type} {P : α → β → Prop} : ∀ {xs : List α} {ys : List β}, All2 P xs ys → ∀ x ∈ xs, ∃ y ∈ ys, P x y
  | _, _, .nil, x, h => by cases h
  | _, _, .cons a r, x, h => by
    rcases List.mem_cons.mp h with rfl | h
    · exact ⟨_, List.mem_cons_self, a⟩
    · obtain ⟨y, h1, h2⟩ := all2_get r x h
      exact ⟨y, List.mem_cons_of_mem _ h1, h2⟩
theorem le_fst {m y : T3 Int Int Int} (h : le m y = true) : m.a ≤ y.a := by
  unfold le at h
  have h : (!(if y.a = m.a then (if y.b = m.b then (decide (y.c < m.c)) else decide (y.b < m.b)) else decide (y.a < m.a))) = true := h
  by_cases e : y.a = m.a
  · omega
  · rw [if_neg e] at h
    simp at h
    omega
theorem areas {s : List Int} (g : Good s) {R : List (T3 Int Int Int)} (hR : All2 (Row s) (List.range s.length) R) {m : T3 Int Int Int} (hm : IsMin m R) :
    (∀ b k, b + k < s.length → ar s (b, k) ≤ -m.a) ∧ ∃ b k, b + k < s.length ∧ ar s (b, k) = -m.a := by
  constructor
  · intro b k hbk
    obtain ⟨j, h1, h2, h3⟩ := lw_mem (s := s) (b := b) k
    obtain ⟨r, hr, ⟨b', e', he, hb1, hb2, hb3, hb4, hb5, hb6⟩⟩ := all2_get hR j (List.mem_range.mpr (by omega))
    have hle := le_fst (hm.2 r hr)
    have hra : r.a = -(hh s j) * ((e' : Int) - b') := by rw [he]
    have hbb : b' ≤ b := by
      rcases Nat.lt_or_ge b b' with z | z
      · have := lw_le (s := s) (b := b) k (b' - 1) (by omega) (by omega)
        rcases hb5 with q | q
        · omega
        · omega
      · exact z
    have hee : b + k + 1 ≤ e' := by
      rcases Nat.lt_or_ge e' (b + k + 1) with z | z
      · have := lw_le (s := s) (b := b) k e' (by omega) (by omega)
        rcases hb6 with q | q
        · omega
        · omega
      · exact z
    have h0 := (g.at_ (i := j) (by omega)).1
    have hmul : hh s j * ((k : Int) + 1) ≤ hh s j * ((e' : Int) - b') := Int.mul_le_mul_of_nonneg_left (by omega) h0
    show lw s b k * ((k : Int) + 1) ≤ _
    rw [h3]
    rw [Int.neg_mul] at hra
    omega
  · obtain ⟨i, hi, b, e, he, hb1, hb2, hb3, hb4, hb5, hb6⟩ : ∃ i ∈ List.range s.length, ∃ b e : Nat, m = ⟨-(hh s i) * ((e : Int) - b), b, e⟩ ∧ b ≤ i ∧ i < e ∧ e ≤ s.length ∧ (∀ k, b ≤ k → k < e → hh s i ≤ hh s k) ∧ (b = 0 ∨ hh s (b - 1) < hh s i) ∧ (e = s.length ∨ hh s e < hh s i) := by
      obtain ⟨i, hi, ⟨h⟩⟩ := hR.mem hm.1
      exact ⟨i, hi, h⟩
    refine ⟨b, e - b - 1, by omega, ?_⟩
    have hlw : lw s b (e - b - 1) = hh s i := by
      have h1 := lw_le (s := s) (b := b) (e - b - 1) i hb1 (by omega)
      obtain ⟨j, h2, h3, h4⟩ := lw_mem (s := s) (b := b) (e - b - 1)
      have := hb4 j h2 (by omega)
      omega
    show lw s b (e - b - 1) * (((e - b - 1 : Nat) : Int) + 1) = _
    rw [hlw, he]
    show _ = -(-(hh s i) * ((e : Int) - b))
    rw [Int.neg_mul, Int.neg_neg, show ((e - b - 1 : Nat) : Int) + 1 = (e : Int) - b by omega]
theorem least {P : Nat → Prop} {n : Nat} (h : P n) : ∃ n, P n ∧ ∀ m, m < n → ¬ P m := by
  induction n using Nat.strongRecOn with
  | _ n ih =>
    by_cases z : ∃ m, m < n ∧ P m
    · obtain ⟨m, h1, h2⟩ := z
      exact ih m h1 h2
    · exact ⟨n, h, fun m h1 h2 => z ⟨m, h1, h2⟩⟩
theorem first_ex {s : List Int} {A : Int} (h1 : ∀ b k, b + k < s.length → ar s (b, k) ≤ A) (h2 : ∃ b k, b + k < s.length ∧ ar s (b, k) = A) : ∃ p, IsFirst s p ∧ ar s p = A := by
  obtain ⟨b0, k0, h3, h4⟩ := h2
  obtain ⟨b, ⟨k1, h5, h6⟩, hb⟩ := least (P := fun b => ∃ k, b + k < s.length ∧ ar s (b, k) = A) ⟨k0, h3, h4⟩
  obtain ⟨k, ⟨h7, h8⟩, hk⟩ := least (P := fun k => b + k < s.length ∧ ar s (b, k) = A) ⟨h5, h6⟩
  refine ⟨(b, k), ⟨⟨h7, .inl (by show b < s.length; omega)⟩, fun q hq => by rw [h8]; exact h1 q.1 q.2 hq.1, fun q hq e => ?_⟩, h8⟩
  rw [h8] at e
  show b < q.1 ∨ b = q.1 ∧ k ≤ q.2
  rcases Nat.lt_trichotomy q.1 b with z | z | z
  · exact absurd ⟨q.2, hq.1, e⟩ (hb q.1 z)
  · refine .inr ⟨z.symm, ?_⟩
    rcases Nat.lt_or_ge q.2 k with y | y
    · refine absurd ⟨?_, ?_⟩ (hk q.2 y)
      · have := hq.1; omega
      · rw [← z]; exact e
    · exact y
  · exact .inl z
/-- the lowest of those seen so far -/
def lw0 (s : List Int) (b k : Nat) : Int := if k = 0 then hh s b else lw s b (k - 1)
theorem lw0_next {s : List Int} {b k : Nat} : lw0 s b (k + 1) = lw s b k := by
  unfold lw0
  rw [if_neg (by omega : ¬ (k + 1 = 0))]
  rfl
theorem lw0_succ {s : List Int} {b k : Nat} : (if hh s (b + k) < lw0 s b k then hh s (b + k) else lw0 s b k) = lw s b k := by
  cases k with
  | zero => unfold lw0; rw [if_pos rfl, if_neg (by show ¬ hh s b < hh s b; omega)]; rfl
  | succ k =>
    rw [lw0_next, show b + (k + 1) = b + 1 + k by omega]
    rfl
theorem lw_bound {s : List Int} (g : Good s) {b k : Nat} (h : b + k < s.length) : 0 ≤ lw s b k ∧ lw s b k ≤ 1000 := by
  obtain ⟨j, h1, h2, h3⟩ := lw_mem (s := s) (b := b) k
  rw [h3]
  exact g.at_ (by omega)
theorem pure_greatest_block : Ok (Gd 7) P_greatest_block 5 sp_greatest_block := by
  intro vls Q E h
  obtain ⟨x, rfl, nx', h⟩ := h
  show evSs _ _ _ _ [some (.d x), none, none, none, none]
  walk_at "b"
  refine bar ?_
  walk_at "w"
  rcases h with ⟨k, hk, e⟩ | ⟨s, hs, g, q⟩
  · refine ⟨x, rfl, nx', fun z => (by rw [hk] at z; cases z), fun k' z => ?_⟩
    rw [hk] at z; cases z
    exact e
  · refine ⟨x, rfl, nx', fun z => ?_, fun k' z => (by rw [g.chk hs] at z; cases z)⟩
    have ghi := g.hi
    have glo := g.lo
    walk_at "s"
    refine ⟨x, s, rfl, hs, g, fun R hR => ?_⟩
    obtain ⟨m, hm⟩ := exists_min (xs := R) (fun z => by have := hR.length; rw [z, List.length_range] at this; simp at this; omega)
    obtain ⟨h1, h2⟩ := areas g hR hm
    obtain ⟨p, hp, hpA⟩ := first_ex h1 h2
    have hq := q p hp
    walk_at "g"
    refine b_min1r hm (show Datum.toD m = .tuple [.int m.a, .int m.b, .int m.c] from rfl) ?_
    walk_at "g"
    rw [← hpA]
    walk_at "s"
    refine b_lenS hs ?_
    walk_at "g"
    refine for_upto (fun b st => b ≤ p.1 ∧ ∃ s2 s3 s4, st = [some (.d x), some (.d (.int (ar s p))), s2, s3, s4]) ⟨Nat.zero_le _, _, _, _, rfl⟩ (fun b K st hb hK hi => ?_) (fun st ⟨z, s2, s3, s4, e⟩ => ?_)
    · obtain ⟨hbp, s2, s3, s4, rfl⟩ := hi
      have hb : b < s.length := by omega
      have ha := at_h hb
      walk_at "b"
      walk_at "s"
      refine sub_seq hs ha ?_
      walk_at "g"
      walk_at "s"
      refine b_lenS hs ?_
      walk_at "g"
      refine for_rng (fun k st => (b = p.1 → k ≤ p.2) ∧ ∃ s4, st = [some (.d x), some (.d (.int (ar s p))), some (.d (.int b)), some (.d (.int (lw0 s b k))), s4]) ⟨fun _ => Nat.zero_le _, _, rfl⟩ (fun k K2 st hk hK2 hi => ?_) (fun st ⟨z, s4, e⟩ => ?_)
      · obtain ⟨hkp, s4, rfl⟩ := hi
        have hbk : b + k < s.length := by omega
        have ha2 : atI (s.map fun a => Datum.toD a) ((b : Int) + 1 + (k : Int) - 1) = some (.int (hh s (b + k))) := by
          have := at_h hbk
          rwa [show ((b + k : Nat) : Int) = (b : Int) + 1 + (k : Int) - 1 by omega] at this
        have hl := lw_bound g hbk
        walk_at "b"
        walk_at "s"
        refine sub_seq hs ha2 ?_
        walk_at "g"
        rw [lw0_succ]
        walk_at "s"
        have har : lw s b k * ((b : Int) + 1 + (k : Int) - b) = ar s (b, k) := by
          show _ = lw s b k * ((k : Int) + 1)
          rw [show (b : Int) + 1 + (k : Int) - b = (k : Int) + 1 by omega]
        rw [har]
        refine ifB_dc (fun he => ?_) (fun he => ?_)
        · have hf := hp.fst (b, k) ⟨hbk, .inl hb⟩ he
          have hbe : b = p.1 := by rcases hf with z | z <;> simp at z <;> omega
          have hke : k = p.2 := by
            have := hkp hbe
            rcases hf with z | z <;> simp at z <;> omega
          walk_at "b"
          walk_at "s"
          rw [show blkD s p = .tuple [.int (ar s p), .int (b : Int), .int ((b : Int) + 1 + (k : Int))] by rw [hbe, hke]; show PyData.tuple [_, _, PyData.int ((p.1 + 1 + p.2 : Nat) : Int)] = _; rw [show ((p.1 + 1 + p.2 : Nat) : Int) = (p.1 : Int) + 1 + (p.2 : Int) by omega]] at hq
          exact hq
        · have he : ¬ ar s (b, k) = ar s p := he
          walk_at "g"
          refine hK2 _ ⟨fun z => ?_, some (.d (.int ((b : Int) + 1 + (k : Int)))), ?_⟩
          · have := hkp z
            rcases Nat.lt_or_ge k p.2 with y | y
            · omega
            · exact absurd (by rw [z, show k = p.2 by omega]) he
          · rw [lw0_next]
      · subst e
        refine hK _ ⟨?_, _, _, _, rfl⟩
        rcases Nat.lt_or_ge b p.1 with y | y
        · omega
        · have := z (by omega)
          have := hp.mem.1
          omega
    · have := hp.mem.1
      omega
/-! the law's own looks -/
theorem sIx_nat {n d a : Nat} (h : a ≤ n) : HT.sIx n d (some (a : Int)) = a := by
  rw [HT.sIx_nat]
  omega
theorem cut_nn {α : Type} (xs : List α) {a b : Nat} (ha : a ≤ xs.length) (hb : b ≤ xs.length) : cutD xs (some (a : Int)) (some (b : Int)) = (xs.drop a).take (b - a) := by
  unfold PX.cutD
  rw [sIx_nat ha, sIx_nat hb]
theorem cut_n0 {α : Type} (xs : List α) {b : Nat} (hb : b ≤ xs.length) : cutD xs none (some (b : Int)) = xs.take b := by
  unfold PX.cutD
  rw [sIx_nat hb]
  show (xs.drop 0).take (b - 0) = _
  simp
theorem cut_nE {α : Type} (xs : List α) {a : Nat} (ha : a ≤ xs.length) : cutD xs (some (a : Int)) none = xs.drop a := by
  unfold PX.cutD
  rw [sIx_nat ha]
  show (xs.drop a).take (xs.length - a) = _
  rw [List.take_of_length_le (by rw [List.length_drop]; omega)]
theorem mem_take {s : List Int} {b : Nat} {v : Int} : v ∈ s.take b ↔ ∃ j, j < b ∧ j < s.length ∧ v = hh s j := by
  rw [List.mem_iff_getElem]
  constructor
  · rintro ⟨j, hj, rfl⟩
    have h1 : j < min b s.length := by simpa using hj
    refine ⟨j, by omega, by omega, ?_⟩
    unfold hh
    rw [List.getElem_take, List.getD_eq_getElem?_getD, List.getElem?_eq_getElem (by omega)]
    rfl
  · rintro ⟨j, h1, h2, rfl⟩
    refine ⟨j, by rw [List.length_take]; omega, ?_⟩
    unfold hh
    rw [List.getElem_take, List.getD_eq_getElem?_getD, List.getElem?_eq_getElem (by omega)]
    rfl
theorem mem_drop {s : List Int} {a : Nat} {v : Int} : v ∈ s.drop a ↔ ∃ j, a ≤ j ∧ j < s.length ∧ v = hh s j := by
  rw [List.mem_iff_getElem]
  constructor
  · rintro ⟨j, hj, rfl⟩
    rw [List.length_drop] at hj
    refine ⟨a + j, by omega, by omega, ?_⟩
    unfold hh
    rw [List.getElem_drop, List.getD_eq_getElem?_getD, List.getElem?_eq_getElem (by omega)]
    rfl
  · rintro ⟨j, h1, h2, rfl⟩
    refine ⟨j - a, by rw [List.length_drop]; omega, ?_⟩
    unfold hh
    rw [List.getElem_drop, List.getD_eq_getElem?_getD, List.getElem?_eq_getElem (by omega)]
    simp only [show a + (j - a) = j by omega]
    rfl
theorem PL_mem {s : List Int} (g : Good s) : ∀ i, i < s.length → ∃ j, j ≤ i ∧ PL s (i + 1) = hh s j
  | 0, h => ⟨0, Nat.le_refl _, by have := (g.at_ h).1; show max (0 : Int) (hh s 0) = _; omega⟩
  | i + 1, h => by
    obtain ⟨j, h1, h2⟩ := PL_mem g i (by omega)
    have e : PL s (i + 1 + 1) = max (PL s (i + 1)) (hh s (i + 1)) := rfl
    by_cases z : PL s (i + 1) ≤ hh s (i + 1)
    · exact ⟨i + 1, Nat.le_refl _, by omega⟩
    · exact ⟨j, by omega, by omega⟩
theorem QR_mem {s : List Int} (g : Good s) : ∀ c, c < s.length → ∃ j, s.length - 1 - c ≤ j ∧ j < s.length ∧ QR s (c + 1) = hh s j
  | 0, h => ⟨s.length - 1, by omega, by omega, by have := (g.at_ (i := s.length - 1) (by omega)).1; show max (0 : Int) (hh s (s.length - 1 - 0)) = _; rw [show s.length - 1 - 0 = s.length - 1 by omega]; omega⟩
  | c + 1, h => by
    obtain ⟨j, h1, h2, h3⟩ := QR_mem g c (by omega)
    have e : QR s (c + 1 + 1) = max (QR s (c + 1)) (hh s (s.length - 1 - (c + 1))) := rfl
    by_cases z : QR s (c + 1) ≤ hh s (s.length - 1 - (c + 1))
    · exact ⟨s.length - 1 - (c + 1), Nat.le_refl _, by omega, by omega⟩
    · exact ⟨j, by omega, by omega, by omega⟩
theorem PL_max {s : List Int} (g : Good s) {i : Nat} (h : i < s.length) : IsMax (PL s (i + 1)) (s.take (i + 1)) := by
  refine ⟨?_, fun y hy => ?_⟩
  · obtain ⟨j, h1, h2⟩ := PL_mem g i h
    exact mem_take.mpr ⟨j, by omega, by omega, h2⟩
  · obtain ⟨j, h1, h2, rfl⟩ := mem_take.mp hy
    exact leI.mpr (PL_at h1)
theorem QR_max {s : List Int} (g : Good s) {i : Nat} (h : i < s.length) : IsMax (QR s (s.length - i)) (s.drop i) := by
  refine ⟨?_, fun y hy => ?_⟩
  · obtain ⟨j, h1, h2, h3⟩ := QR_mem g (s.length - i - 1) (by omega)
    rw [show s.length - i - 1 + 1 = s.length - i by omega] at h3
    exact mem_drop.mpr ⟨j, by omega, h2, h3⟩
  · obtain ⟨j, h1, h2, rfl⟩ := mem_drop.mp hy
    exact leI.mpr (QR_at h2 (by omega))
theorem min2_eq (i j : Int) : (if j < i then j else i) = min i j := by split <;> omega
/-- what lies between -/
theorem vis_max {s : List Int} (g : Good s) {i k : Nat} (h : i + 1 + k < s.length) {M : Int} (hM : IsMax M ((s.drop (i + 1)).take k ++ [-1])) : vis s i (i + 1 + k) = decide (M < min (hh s i) (hh s (i + 1 + k))) := by
  have h1 := (g.at_ (i := i) (by omega)).1
  have h2 := (g.at_ (i := i + 1 + k) (by omega)).1
  have mem : ∀ v, v ∈ (s.drop (i + 1)).take k ↔ ∃ j, i < j ∧ j < i + 1 + k ∧ v = hh s j := fun v => by
    rw [List.mem_iff_getElem]
    constructor
    · rintro ⟨j, hj, rfl⟩
      rw [List.length_take, List.length_drop] at hj
      refine ⟨i + 1 + j, by omega, by omega, ?_⟩
      unfold hh
      rw [List.getElem_take, List.getElem_drop, List.getD_eq_getElem?_getD, List.getElem?_eq_getElem (by omega)]
      rfl
    · rintro ⟨j, h3, h4, rfl⟩
      refine ⟨j - (i + 1), by rw [List.length_take, List.length_drop]; omega, ?_⟩
      unfold hh
      rw [List.getElem_take, List.getElem_drop, List.getD_eq_getElem?_getD, List.getElem?_eq_getElem (by omega)]
      simp only [show i + 1 + (j - (i + 1)) = j by omega]
      rfl
  rw [Bool.eq_iff_iff, decide_eq_true_eq, vis_iff]
  constructor
  · intro hv
    rcases List.mem_append.mp hM.1 with z | z
    · obtain ⟨j, h3, h4, rfl⟩ := (mem M).mp z
      have := hv j h3 h4
      omega
    · rw [List.mem_singleton.mp z]; omega
  · intro hv j h3 h4
    have := leI.mp (hM.2 (hh s j) (List.mem_append_left _ ((mem _).mpr ⟨j, h3, h4, rfl⟩)))
    omega
def cR (s : List Int) (n i : Nat) : Int := ((List.range (n - (i + 1))).filter fun k => vis s i (i + 1 + k)).length
def Lc (s : List Int) (n : Nat) : Nat → Int
  | 0 => 0
  | i + 1 => Lc s n i + cR s n i
theorem Lc_next (s : List Int) (n : Nat) : ∀ i, i ≤ n → Lc s (n + 1) i = Lc s n i + (((List.range i).filter fun j => vis s j n).length : Nat)
  | 0, _ => by show (0 : Int) = 0 + _; simp
  | i + 1, h => by
    have ih := Lc_next s n i (by omega)
    have e : cR s (n + 1) i = cR s n i + (if vis s i n then 1 else 0) := by
      unfold cR
      rw [show n + 1 - (i + 1) = (n - (i + 1)) + 1 by omega, List.range_succ, List.filter_append, List.length_append]
      have : i + 1 + (n - (i + 1)) = n := by omega
      cases hv : vis s i n <;> simp [this, hv]
    have e2 : (((List.range (i + 1)).filter fun j => vis s j n).length : Int) = (((List.range i).filter fun j => vis s j n).length : Int) + (if vis s i n then 1 else 0) := by
      rw [List.range_succ, List.filter_append, List.length_append]
      cases hv : vis s i n <;> simp [hv]
    show Lc s (n + 1) i + cR s (n + 1) i = Lc s n i + cR s n i + _
    rw [ih, e, e2]
    omega
theorem Lc_PR (s : List Int) : ∀ n, Lc s n n = PR s n
  | 0 => rfl
  | n + 1 => by
    have ih := Lc_PR s n
    have h1 := Lc_next s n n (Nat.le_refl _)
    have h2 : Lc s (n + 1) (n + 1) = Lc s (n + 1) n + cR s (n + 1) n := rfl
    have h3 : cR s (n + 1) n = 0 := by unfold cR; rw [show n + 1 - (n + 1) = 0 by omega]; rfl
    have h4 : PR s (n + 1) = PR s n + cnt s n := rfl
    unfold cnt at h4
    omega
theorem isSeen_filter (s : List Int) (i : Nat) : isSeen s i = decide (((List.range i).filter fun j => decide (hh s j ≥ hh s i)).map (fun (j : Nat) => (j : Int)) = []) := by
  rw [Bool.eq_iff_iff, decide_eq_true_eq, List.map_eq_nil_iff, List.filter_eq_nil_iff]
  unfold isSeen
  rw [List.all_eq_true]
  constructor
  · intro h j hj
    have := h j hj
    simp at this ⊢
    omega
  · intro h j hj
    have := h j hj
    simp at this ⊢
    omega
theorem Fst.unique {s : List Int} {b k : Nat} {p q : Nat × Nat} (h : Fst s b k p) (h2 : Fst s b k q) : p = q := by
  have e : ar s p = ar s q := Int.le_antisymm (h2.most p h.mem) (h.most q h2.mem)
  have a1 := h.fst q h2.mem e.symm
  have a2 := h2.fst p h.mem e
  obtain ⟨p1, p2⟩ := p
  obtain ⟨q1, q2⟩ := q
  simp only at a1 a2
  have : p1 = q1 := by omega
  have : p2 = q2 := by omega
  simp [*]
def BestAt (s : List Int) (b k : Nat) (d : PyData) : Prop := (d = .none ∧ ∀ q, ¬ Done s b k q) ∨ ∃ p, Fst s b k p ∧ d = blkD s p
theorem done_succ {s : List Int} {b k : Nat} {q : Nat × Nat} : Done s b (k + 1) q ↔ Done s b k q ∨ (q = (b, k) ∧ b + k < s.length) := by
  obtain ⟨q1, q2⟩ := q
  unfold Done
  simp only [Prod.mk.injEq]
  constructor
  · intro ⟨h1, h2⟩
    by_cases z : q1 = b ∧ q2 = k
    · exact .inr ⟨z, by omega⟩
    · exact .inl ⟨h1, by omega⟩
  · rintro (⟨h1, h2⟩ | ⟨⟨rfl, rfl⟩, h⟩)
    · exact ⟨h1, by omega⟩
    · exact ⟨h, by omega⟩
theorem done_row {s : List Int} {b : Nat} {q : Nat × Nat} : Done s b (s.length - b) q ↔ Done s (b + 1) 0 q := by
  unfold Done
  constructor
  · intro ⟨h1, h2⟩; exact ⟨h1, by omega⟩
  · intro ⟨h1, h2⟩; exact ⟨h1, by omega⟩
theorem Fst.congr {s : List Int} {b k b' k' : Nat} (h : ∀ q, Done s b k q ↔ Done s b' k' q) {p : Nat × Nat} (f : Fst s b k p) : Fst s b' k' p := ⟨(h p).mp f.mem, fun q hq => f.most q ((h q).mpr hq), fun q hq => f.fst q ((h q).mpr hq)⟩
theorem BestAt.row {s : List Int} {b : Nat} {d : PyData} (h : BestAt s b (s.length - b) d) : BestAt s (b + 1) 0 d := by
  rcases h with ⟨h1, h2⟩ | ⟨p, h1, h2⟩
  · exact .inl ⟨h1, fun q hq => h2 q (done_row.mpr hq)⟩
  · exact .inr ⟨p, h1.congr fun q => done_row, h2⟩
theorem best_new {s : List Int} {b k : Nat} (h : b + k < s.length) (hn : (∀ q, ¬ Done s b k q) ∨ ∃ p, Fst s b k p ∧ ar s p < ar s (b, k)) : BestAt s b (k + 1) (blkD s (b, k)) := by
  refine .inr ⟨(b, k), ⟨done_succ.mpr (.inr ⟨rfl, h⟩), fun q hq => ?_, fun q hq e => ?_⟩, rfl⟩
  · rcases done_succ.mp hq with z | ⟨z, _⟩
    · rcases hn with hn | ⟨p, hp, hlt⟩
      · exact absurd z (hn q)
      · have := hp.most q z; omega
    · rw [z]; exact Int.le_refl _
  · rcases done_succ.mp hq with z | ⟨z, _⟩
    · rcases hn with hn | ⟨p, hp, hlt⟩
      · exact absurd z (hn q)
      · have := hp.most q z; omega
    · rw [z]; exact .inr ⟨rfl, Nat.le_refl _⟩
theorem best_old {s : List Int} {b k : Nat} {p : Nat × Nat} (hp : Fst s b k p) (hlt : ¬ ar s p < ar s (b, k)) : BestAt s b (k + 1) (blkD s p) := by
  refine .inr ⟨p, ⟨done_succ.mpr (.inl hp.mem), fun q hq => ?_, fun q hq e => ?_⟩, rfl⟩
  · rcases done_succ.mp hq with z | ⟨z, _⟩
    · exact hp.most q z
    · rw [z]; omega
  · rcases done_succ.mp hq with z | ⟨z, _⟩
    · exact hp.fst q z e
    · rw [z]
      have := hp.mem
      unfold Done at this
      show p.1 < b ∨ p.1 = b ∧ p.2 ≤ k
      omega
abbrev DL : Ed := ⟨fun _ => False, fun vl => vl = .d (.bool true), fun _ => False, fun _ => False⟩
abbrev FL : Exn → Prop := fun _ => False
abbrev SL (x2 x3 x4 x5 x6 x7 x8 : Option Vl) (s : List Int) (x10 x11 x12 x13 x14 x15 x16 x17 x19 x20 : Option Vl) : Sl :=
  [none, some .row, x2, x3, x4, x5, x6, x7, x8, some (.d (.int (s.length : Int))), x10, x11, x12, x13, x14, x15, x16, x17, none, x19, x20]
def hiP (s : List Int) (i : Nat) : List (Option Int) := (List.range i).map fun i => nx s s.length i
theorem law_s4 {s : List Int} (g : Good s) {x2 : Option Vl}
    (next : ∀ x4 x14 x15 x19, Bar (evSs GL FL P_law_s5 DL (SL x2 (some (.own (Ls s))) x4 none none none none s (some (.own (Ls (higher s)))) (some (.own (Ls (seen s s.length)))) (some (.d (.int (SW s s.length)))) (some (.d (.int (PR s s.length)))) x14 x15 none none x19 none))) :
    Bar (evSs GL FL P_law_s4 DL (SL x2 (some (.own (Ls s))) none none none none none s (some (.own (.list []))) (some (.own (.list []))) (some (.d (.int 0))) (some (.d (.int 0))) none none none none none none)) := by
  have ghi := g.hi
  walk_at "s"
  refine for_upto (fun i st => ∃ x4 x14 x15 x19, st = SL x2 (some (.own (Ls s))) x4 none none none none s (some (.own (Ls (hiP s i)))) (some (.own (Ls (seen s i)))) (some (.d (.int (SW s i)))) (some (.d (.int (Lc s s.length i)))) x14 x15 none none x19 none) ⟨_, _, _, _, rfl⟩ (fun i K st hi hK hI => ?_) (fun st ⟨x4, x14, x15, x19, e⟩ => by subst e; have := next x4 x14 x15 x19; rw [← Lc_PR] at this; exact this)
  obtain ⟨x4, x14, x15, x19, rfl⟩ := hI
  have hi : i < s.length := by omega
  have hai := at_h hi
  have hsl := seen_len s i
  have hhl : (hiP s i).length ≤ 40 := by unfold hiP; rw [List.length_map, List.length_range]; omega
  walk_at "b"
  refine pjoin (s := .asg _ _) (fun st' => ∃ LT : List Int, nx s s.length i = LT.head? ∧ LT.length ≤ 40 ∧ st' = SL x2 (some (.own (Ls s))) (some (.d (.int i))) none none none none s (some (.own (Ls (hiP s i)))) (some (.own (Ls (seen s i)))) (some (.d (.int (SW s i)))) (some (.d (.int (Lc s s.length i)))) (some (.own (Ls LT))) x15 none none x19 none) (fun N hN => ?_) ?_
  · walk_at "g"
    refine comp_ifT (e := fun k : Nat => PyData.int ((i : Int) + 1 + (k : Int))) (fun k => decide (hh s (i + 1 + k) > hh s i)) (fun k => (i : Int) + 1 + (k : Int)) (fun k hk acc k' hk1 hk2 => ?_) ?_
    · have hk := List.mem_range.mp hk
      have hak : atI (s.map fun a => Datum.toD a) ((i : Int) + 1 + (k : Int)) = some (.int (hh s (i + 1 + k))) := by
        have := at_h (s := s) (i := i + 1 + k) (by omega)
        rwa [show ((i + 1 + k : Nat) : Int) = (i : Int) + 1 + (k : Int) by omega] at this
      walk_at "g"
      refine ifB_dc (fun h => ?_) (fun h => ?_)
      · walk_at "g"
        exact hk1 (decide_eq_true h)
      · exact hk2 (decide_eq_false h)
    · walk_at "g"
      refine hN _ ⟨((List.range (s.length - (i + 1))).filter fun k => decide (hh s (i + 1 + k) > hh s i)).map fun (k : Nat) => (i : Int) + 1 + (k : Int), ?_, ?_, ?_⟩
      · unfold nx
        rw [List.head?_map]
        congr 1 <;> (funext k; omega)
      · rw [List.length_map]
        have := List.length_filter_le (fun k => decide (hh s (i + 1 + k) > hh s i)) (List.range (s.length - (i + 1)))
        rw [List.length_range] at this
        omega
      · rw [show ((s.length : Int) - ((i : Int) + 1)).toNat = s.length - (i + 1) by omega]
  rintro _ ⟨LT, hLT, hLl, rfl⟩
  refine pjoin (fun st' => st' = SL x2 (some (.own (Ls s))) (some (.d (.int i))) none none none none s (some (.own (Ls (hiP s (i + 1))))) (some (.own (Ls (seen s i)))) (some (.d (.int (SW s i)))) (some (.d (.int (Lc s s.length i)))) (some (.own (Ls LT))) x15 none none x19 none) (fun N hN => ?_) ?_
  · have eh : Ls (hiP s (i + 1)) = .list (((hiP s i).map fun a => Datum.toD a) ++ [Datum.toD (nx s s.length i)]) := by
      unfold hiP
      rw [List.range_succ, List.map_append, Ls_app]
      rfl
    rw [eh, hLT] at hN
    cases LT with
    | nil =>
      walk_at "g"
      exact hN _ rfl
    | cons v r =>
      walk_at "g"
      rw [show atI (List.map (fun a : Int => Datum.toD a) (v :: r)) 0 = some (.int v) from x_at0]
      walk_at "g"
      exact hN _ rfl
  rintro _ rfl
  refine pjoin (fun st' => st' = SL x2 (some (.own (Ls s))) (some (.d (.int i))) none none none none s (some (.own (Ls (hiP s (i + 1))))) (some (.own (Ls (seen s (i + 1))))) (some (.d (.int (SW s i)))) (some (.d (.int (Lc s s.length i)))) (some (.own (Ls LT))) x15 none none x19 none) (fun N hN => ?_) ?_
  · rw [seen_succ, isSeen_filter] at hN
    walk_at "g"
    refine comp_ifN (fun j => decide (hh s j ≥ hh s i)) (fun j => (j : Int)) (fun j hj acc k' hk1 hk2 => ?_) ?_
    · have haj := at_h (s := s) (i := j) (by omega)
      walk_at "g"
      refine ifB_dc (fun h => ?_) (fun h => ?_)
      · walk_at "g"
        exact hk1 (decide_eq_true h)
      · exact hk2 (decide_eq_false h)
    rw [Int.toNat_natCast]
    walk_at "g"
    refine ifB_dc (fun h => ?_) (fun h => ?_)
    · rw [if_pos (decide_eq_true h), Ls_app] at hN
      walk_at "g"
      exact hN _ rfl
    · rw [if_neg (by rw [decide_eq_true_eq]; exact h), List.append_nil] at hN
      walk_at "g"
      refine hN _ ?_
      show [_, _, _, _, _, _, _, _, _, _, _, some (Vl.own (.list (_ ++ []))), _, _, _, _, _, _, _, _, _] = _
      rw [List.append_nil]
  rintro _ rfl
  refine pjoin (fun st' => st' = SL x2 (some (.own (Ls s))) (some (.d (.int i))) none none none none s (some (.own (Ls (hiP s (i + 1))))) (some (.own (Ls (seen s (i + 1))))) (some (.d (.int (SW s (i + 1))))) (some (.d (.int (Lc s s.length i)))) (some (.own (Ls LT))) x15 none none x19 none) (fun N hN => ?_) ?_
  · have eSW : SW s (i + 1) = SW s i + min (PL s (i + 1)) (QR s (s.length - i)) - hh s i := by
      show SW s i + (min (PL s (i + 1)) (QR s (s.length - i)) - hh s i) = _
      omega
    rw [eSW] at hN
    walk_at "g"
    rw [cutD_map, show (i : Int) + 1 = ((i + 1 : Nat) : Int) by omega, cut_n0 s (show i + 1 ≤ s.length by omega)]
    refine b_max1I (xs := s.take (i + 1)) (PL_max g hi) ?_
    walk_at "g"
    rw [cutD_map, cut_nE s (show i ≤ s.length by omega)]
    refine b_max1I (xs := s.drop i) (QR_max g hi) ?_
    walk_at "g"
    rw [min2_eq]
    exact hN _ rfl
  rintro _ rfl
  walk_at "s"
  refine for_rng (fun k st => ∃ x15 x19, st = SL x2 (some (.own (Ls s))) (some (.d (.int i))) none none none none s (some (.own (Ls (hiP s (i + 1))))) (some (.own (Ls (seen s (i + 1))))) (some (.d (.int (SW s (i + 1))))) (some (.d (.int (Lc s s.length i + (((List.range k).filter fun k => vis s i (i + 1 + k)).length : Nat))))) (some (.own (Ls LT))) x15 none none x19 none) ⟨x15, x19, by simp⟩ (fun k K2 st hk hK2 hI => ?_) (fun st ⟨x15, x19, e⟩ => ?_)
  · obtain ⟨x15, x19, rfl⟩ := hI
    have hk : i + 1 + k < s.length := by omega
    have hak : atI (s.map fun a => Datum.toD a) ((i : Int) + 1 + (k : Int)) = some (.int (hh s (i + 1 + k))) := by
      have := at_h (s := s) hk
      rwa [show ((i + 1 + k : Nat) : Int) = (i : Int) + 1 + (k : Int) by omega] at this
    obtain ⟨M, hM⟩ := exists_max (xs := (s.drop (i + 1)).take k ++ [-1]) (by simp)
    have hv := vis_max g hk hM
    have ec : (((List.range (k + 1)).filter fun k => vis s i (i + 1 + k)).length : Int) = (((List.range k).filter fun k => vis s i (i + 1 + k)).length : Int) + (if vis s i (i + 1 + k) then 1 else 0) := by
      rw [List.range_succ, List.filter_append, List.length_append]
      cases hv : vis s i (i + 1 + k) <;> simp [hv]
    have hBl : ((s.drop (i + 1)).take k).length ≤ 40 := by rw [List.length_take, List.length_drop]; omega
    walk_at "b"
    refine pjoin (fun st' => st' = SL x2 (some (.own (Ls s))) (some (.d (.int i))) none none none none s (some (.own (Ls (hiP s (i + 1))))) (some (.own (Ls (seen s (i + 1))))) (some (.d (.int (SW s (i + 1))))) (some (.d (.int (Lc s s.length i + (((List.range k).filter fun k => vis s i (i + 1 + k)).length : Nat))))) (some (.own (Ls LT))) (some (.d (.int ((i : Int) + 1 + (k : Int))))) none none (some (.own (Ls ((s.drop (i + 1)).take k)))) none) (fun N hN => ?_) ?_
    · walk_at "g"
      refine hN _ ?_
      rw [cutD_map, show (i : Int) + 1 + (k : Int) = ((i + 1 + k : Nat) : Int) by omega, show (i : Int) + 1 = ((i + 1 : Nat) : Int) by omega, cut_nn s (show i + 1 ≤ s.length by omega) (show i + 1 + k ≤ s.length by omega), show i + 1 + k - (i + 1) = k by omega]
    rintro _ rfl
    refine pjoin (fun st' => st' = SL x2 (some (.own (Ls s))) (some (.d (.int i))) none none none none s (some (.own (Ls (hiP s (i + 1))))) (some (.own (Ls (seen s (i + 1))))) (some (.d (.int (SW s (i + 1))))) (some (.d (.int (Lc s s.length i + (((List.range (k + 1)).filter fun k => vis s i (i + 1 + k)).length : Nat))))) (some (.own (Ls LT))) (some (.d (.int ((i : Int) + 1 + (k : Int))))) none none (some (.own (Ls ((s.drop (i + 1)).take k)))) none) (fun N hN => ?_) (fun st e => by subst e; exact bar0 (hK2 _ ⟨_, _, rfl⟩))
    rw [ec, hv] at hN
    walk_at "g"
    rw [show PyData.list ((((s.drop (i + 1)).take k).map fun a => Datum.toD a) ++ [PyData.int (-1)]) = Ls ((s.drop (i + 1)).take k ++ [-1]) from (Ls_app _ [-1]).symm]
    refine b_max1I (xs := (s.drop (i + 1)).take k ++ [-1]) hM ?_
    walk_at "g"
    rw [min2_eq]
    refine ifB_dc (fun h => ?_) (fun h => ?_)
    · rw [if_pos (decide_eq_true h), ← Int.add_assoc] at hN
      walk_at "g"
      exact hN _ rfl
    · rw [if_neg (by rw [decide_eq_true_eq]; exact h), ← Int.add_assoc] at hN
      walk_at "g"
      exact hN _ rfl
  · subst e
    refine hK _ ⟨some (.d (.int i)), some (.own (Ls LT)), x15, x19, ?_⟩
    rw [show ((s.length : Int) - ((i : Int) + 1)).toNat = s.length - (i + 1) by omega]
    rfl
theorem chk_last {good : PyData → Bool} {lo hi : Int} {ds : List PyData} {d : PyData} (h : ∀ x ∈ ds, good x = true) (hd : good d = false) (hl : lo ≤ (ds.length : Int) + 1 ∧ (ds.length : Int) + 1 ≤ hi) : chk good lo hi (.list (ds ++ [d])) = some ds.length := by
  unfold chk
  dsimp only [itemsOf]
  rw [if_pos (by rw [List.length_append, List.length_singleton]; omega), fstBad_at hd h]
  rfl
theorem nd1_list {ds : List PyData} (h : ∀ d ∈ ds, ndP d) : nd1 (.list ds) := ⟨trivial, fun es e d hd => by cases e; exact h d hd⟩
theorem law_s10 {s : List Int} (g : Good s) {x2 x4 x5 x6 x10 x11 x12 x13 x14 x15 x16 x17 x19 x20 : Option Vl} :
    Bar (evSs GL FL P_law_s10 DL (SL x2 (some (.d (Ls s))) x4 x5 x6 none none s x10 x11 x12 x13 x14 x15 x16 x17 x19 x20)) := by
  have c1 := cut_len s none (some 39)
  have glo := g.lo
  have ghi := g.hi
  walk_at "s"
  intro X hX
  have hX : ndP X ∧ gs1 X = false := by
    simp only [List.mem_cons, List.not_mem_nil, or_false] at hX
    rcases hX with rfl | rfl | rfl | rfl <;> exact ⟨trivial, rfl⟩
  rw [cutD_map]
  have lc0 : (cutD s none (some 39)).length ≤ 39 := by
    unfold PX.cutD HT.sIx
    rw [List.length_take]
    simp
    omega
  have lc : ((cutD s none (some 39)).map fun a => Datum.toD a).length ≤ 39 := by rw [List.length_map]; exact lc0
  walk_at "g"
  have hb : chk gs1 1 40 (.list (((cutD s none (some 39)).map fun a => Datum.toD a) ++ [X])) = some ((((((cutD s none (some 39)).map fun a => Datum.toD a) ++ [X]).length : Nat) : Int) - 1) := by
    rw [chk_last ?_ hX.2 (by rw [List.length_map]; omega), List.length_append, List.length_singleton]
    · exact congrArg some (by omega)
    · intro x hx
      obtain ⟨i, hi, rfl⟩ := List.mem_map.mp hx
      have := g.all i (by unfold PX.cutD at hi; exact List.mem_of_mem_drop (List.mem_of_mem_take hi))
      show (decide (0 ≤ i) && decide (i ≤ 1000)) = true
      simp [this.1, this.2]
  have nb : nd1 (.list (((cutD s none (some 39)).map fun a => Datum.toD a) ++ [X])) := nd1_list fun y hy => by
    rcases List.mem_append.mp hy with hy | hy
    · obtain ⟨i, _, rfl⟩ := List.mem_map.mp hy
      trivial
    · rw [List.mem_singleton.mp hy]; exact hX.1
  obtain ⟨bs, hbs⟩ : ∃ bs, ((cutD s none (some 39)).map fun a => Datum.toD a) ++ [X] = bs := ⟨_, rfl⟩
  have lb : bs.length ≤ 40 := by rw [← hbs, List.length_append, List.length_singleton]; omega
  rw [hbs] at hb nb
  have h60 : binV .add (.list ((cutD s none (some 39)).map fun a => Datum.toD a)) (.list [X]) = .own (.list bs) := by rw [← hbs]
  refine bar ?_
  refine for_L (e := fun n : Nat => PyData.int n) (xs := [4, 5, 7, 8, 9]) (fun pre st => ∃ x7 x8, (x7 = .own (.list bs) ∨ x7 = .d (.list bs)) ∧ st = SL x2 (some (.d (Ls s))) x4 x5 x6 (some x7) x8 s x10 x11 x12 x13 x14 x15 x16 x17 x19 x20) ⟨_, _, .inl h60, rfl⟩ (fun pre f post K st hf hK hi => ?_) (fun st hi => ?_)
  · obtain ⟨x7, x8, h7, rfl⟩ := hi
    have hm : f ∈ [4, 5, 7, 8, 9] := by rw [hf]; simp
    have fin : K (SL x2 (some (.d (Ls s))) x4 x5 x6 (some (.d (.list bs))) (some (.fn f)) s x10 x11 x12 x13 x14 x15 x16 x17 x19 x20) := hK _ ⟨_, _, .inr rfl, rfl⟩
    have ask : ∀ {res : List Int → (Vl → Prop) → Prop}, FS f = spS res → f < 14 → ∀ Bk : Sl → Prop, Bar (evSs GL FL P_law_b10 ⟨K, DL.rt, Bk, K⟩ (SL x2 (some (.d (Ls s))) x4 x5 x6 (some x7) (some (.fn f)) s x10 x11 x12 x13 x14 x15 x16 x17 x19 x20)) := fun {res} hfs hf2 Bk => by
      refine pjoin (s := .frz _) (fun st' => st' = SL x2 (some (.d (Ls s))) x4 x5 x6 (some (.d (.list bs))) (some (.fn f)) s x10 x11 x12 x13 x14 x15 x16 x17 x19 x20) (fun N hN => ?_) ?_
      · rcases h7 with rfl | rfl
        · exact hN _ rfl
        · exact hN _ rfl
      rintro _ rfl
      refine pguard (fun N hN => ?_) ?_
      · walk_at "g"
        unfold callF
        rw [show GL.fs f = spS res from hfs]
        refine ⟨_, rfl, nb, .inl ⟨_, hb, _, rfl, ?_⟩⟩
        walk_at "g"
        exact hN
      refine pguard (fun N hN => ?_) (bar0 fin)
      walk_at "g"
      intro Y hY
      walk_at "g"
      unfold callF
      rw [show GL.fs f = spS res from hfs]
      have hy : chk gs1 1 40 Y = some (-1) ∧ nd1 Y := by
        simp only [List.mem_cons, List.not_mem_nil, or_false] at hY
        rcases hY with rfl | rfl | rfl | rfl
        · exact ⟨rfl, trivial, fun _ e => by cases e⟩
        · exact ⟨rfl, trivial, fun _ e d hd => by cases e; cases hd⟩
        · exact ⟨rfl, trivial, fun _ e d hd => by cases e; simp at hd; rw [hd]; trivial⟩
        · exact ⟨rfl, trivial, fun _ e => by cases e⟩
      refine ⟨_, rfl, hy.2, .inl ⟨_, hy.1, _, rfl, ?_⟩⟩
      walk_at "g"
      exact hN
    simp only [List.mem_cons, List.not_mem_nil, or_false] at hm
    rcases hm with rfl | rfl | rfl | rfl | rfl
    · exact ask (res := fun s Q => Q (.d (Ts (higher s)))) rfl (by decide) _
    · exact ask (res := fun s Q => Q (.d (Ts (seen s s.length)))) rfl (by decide) _
    · exact ask (res := fun s Q => ∀ p, IsFirst s p → Q (.d (blkD s p))) rfl (by decide) _
    · exact ask (res := fun s Q => Q (.d (.int (SW s s.length)))) rfl (by decide) _
    · exact ask (res := fun s Q => Q (.d (.int (PR s s.length)))) rfl (by decide) _
  · obtain ⟨x7, x8, h7, rfl⟩ := hi
    have n1 : nd1 (.list [.int 3, .int 1, .int 2]) := seq_nd1 (s := [3, 1, 2]) (.inl rfl)
    have n2 : nd1 (.list [.int 2, .int 0, .int 2]) := seq_nd1 (s := [2, 0, 2]) (.inl rfl)
    walk_at "s"
    refine .inr ⟨[3, 1, 2], .inl rfl, ⟨by decide, by decide, by decide⟩, ?_⟩
    rw [show PR [3, 1, 2] [(3 : Int), 1, 2].length = 3 by decide]
    walk_at "g"
    refine .inr ⟨[2, 0, 2], .inl rfl, ⟨by decide, by decide, by decide⟩, ?_⟩
    rw [show SW [2, 0, 2] [(2 : Int), 0, 2].length = 2 by decide]
    walk_at "g"
    rfl
theorem flat_blk (s : List Int) (p : Nat × Nat) {n : Nat} : flat (n + 1) (blkD s p) := by
  refine ⟨by show 3 ≤ sizeLine; decide, fun e he => ?_⟩
  simp only [List.mem_cons, List.not_mem_nil, or_false] at he
  rcases he with rfl | rfl | rfl
  all_goals
    unfold flat
    trivial
theorem law_s7 {s : List Int} (g : Good s) {x2 x4 x10 x11 x12 x13 x14 x15 x19 : Option Vl} :
    Bar (evSs GL FL P_law_s7 DL (SL x2 (some (.d (Ls s))) x4 none none none none s x10 x11 x12 x13 x14 x15 none none x19 none)) := by
  have ghi := g.hi
  have glo := g.lo
  have nx := seq_nd1 (s := s) (.inl rfl)
  walk_at "s"
  walk_at "s"
  refine for_upto (fun b st => ∃ d x6 x16 x17 x20, BestAt s b 0 d ∧ st = SL x2 (some (.d (Ls s))) x4 (some (.d d)) x6 none none s x10 x11 x12 x13 x14 x15 x16 x17 x19 x20) ⟨.none, none, none, none, none, .inl ⟨rfl, fun q h => by have := h.2; omega⟩, rfl⟩ (fun b K st hb hK hI => ?_) (fun st ⟨d, x6, x16, x17, x20, hd, e⟩ => ?_)
  · obtain ⟨d, x6, x16, x17, x20, hd, rfl⟩ := hI
    have hb : b < s.length := by omega
    have ha := at_h hb
    walk_at "b"
    walk_at "s"
    walk_at "s"
    refine for_rng (fun k st => ∃ d x17 x20, BestAt s b k d ∧ st = SL x2 (some (.d (Ls s))) x4 (some (.d d)) (some (.d (.int b))) none none s x10 x11 x12 x13 x14 x15 (some (.d (.int (lw0 s b k)))) x17 x19 x20) ⟨d, x17, x20, hd, rfl⟩ (fun k K2 st hk hK2 hI => ?_) (fun st ⟨d, x17, x20, hd, e⟩ => ?_)
    · obtain ⟨d, x17, x20, hd, rfl⟩ := hI
      have hbk : b + k < s.length := by omega
      have ha2 : atI (s.map fun a => Datum.toD a) ((b : Int) + 1 + (k : Int) - 1) = some (.int (hh s (b + k))) := by
        have := at_h hbk
        rwa [show ((b + k : Nat) : Int) = (b : Int) + 1 + (k : Int) - 1 by omega] at this
      have hl := lw_bound g hbk
      have har : lw s b k * ((b : Int) + 1 + (k : Int) - b) = ar s (b, k) := by
        show _ = lw s b k * ((k : Int) + 1)
        rw [show (b : Int) + 1 + (k : Int) - b = (k : Int) + 1 by omega]
      have enew : blkD s (b, k) = .tuple [.int (ar s (b, k)), .int (b : Int), .int ((b : Int) + 1 + (k : Int))] := by
        show PyData.tuple [_, _, PyData.int ((b + 1 + k : Nat) : Int)] = _
        rw [show ((b + 1 + k : Nat) : Int) = (b : Int) + 1 + (k : Int) by omega]
      have fin : ∀ d', BestAt s b (k + 1) d' → K2 (SL x2 (some (.d (Ls s))) x4 (some (.d d')) (some (.d (.int b))) none none s x10 x11 x12 x13 x14 x15 (some (.d (.int (lw s b k)))) (some (.d (.int ((b : Int) + 1 + (k : Int))))) x19 (some (.d (.int (ar s (b, k)))))) := fun d' hd' => hK2 _ ⟨d', _, _, hd', by rw [lw0_next]⟩
      walk_at "b"
      walk_at "s"
      rw [lw0_succ]
      refine pjoin (s := .asg _ _) (fun st' => st' = SL x2 (some (.d (Ls s))) x4 (some (.d d)) (some (.d (.int b))) none none s x10 x11 x12 x13 x14 x15 (some (.d (.int (lw s b k)))) (some (.d (.int ((b : Int) + 1 + (k : Int))))) x19 (some (.d (.int (ar s (b, k)))))) (fun N hN => ?_) ?_
      · rw [← har] at hN
        walk_at "g"
        exact hN _ rfl
      rintro _ rfl
      rcases hd with ⟨rfl, hd⟩ | ⟨p, hp, rfl⟩
      · have f := fin _ (best_new hbk (.inl hd))
        rw [enew] at f
        walk_at "s"
        exact bar0 f
      · walk_at "s"
        refine ifB_dc (fun hc => ?_) (fun hc => ?_)
        · have hc : ar s p < ar s (b, k) := hc
          have f := fin _ (best_new hbk (.inr ⟨p, hp, hc⟩))
          rw [enew] at f
          walk_at "g"
          exact bar0 f
        · have hc : ¬ ar s p < ar s (b, k) := hc
          have f := fin _ (best_old hp hc)
          walk_at "g"
          exact bar0 f
    · subst e
      rw [show ((s.length : Int) + 1 - ((b : Int) + 1)).toNat = s.length - b by omega] at hd
      exact hK _ ⟨d, _, _, _, _, hd.row, rfl⟩
  · subst e
    obtain ⟨p, hp, rfl⟩ : ∃ p, IsFirst s p ∧ d = blkD s p := by
      rcases hd with ⟨_, h⟩ | h
      · exact absurd ⟨by show 0 + 0 < s.length; omega, .inl (by show 0 < s.length; omega)⟩ (h (0, 0))
      · exact h
    have hfl := flat_blk s p (n := 2)
    refine pguard (fun N hN => ?_) (law_s10 g)
    walk_at "g"
    refine .inr ⟨s, .inl rfl, g, fun p' hp' => ?_⟩
    have e : p' = p := hp'.unique hp
    subst e
    walk_at "g"
    exact hN
theorem flat_L {n : Nat} {α : Type} [DecidableEq α] [Datum α] (xs : List α) (h : xs.length ≤ 40) (hf : ∀ a : α, flat n (Datum.toD a)) : flat (n + 1) (Ts xs) := by
  refine ⟨by rw [List.length_map]; unfold sizeLine; omega, fun e he => ?_⟩
  obtain ⟨a, _, rfl⟩ := List.mem_map.mp he
  exact hf a
theorem pure_law : evSs GL FL P_law DL (none :: some .row :: List.replicate (N_law.drop 2).length none) := by
  show evSs _ _ _ _ [none, some .row, none, none, none, none, none, none, none, none, none, none, none, none, none, none, none, none, none, none, none]
  walk_at "b"
  walk_at "s"
  intro m' hm'
  obtain ⟨most, rfl, hmost⟩ : ∃ m, m' = .int m ∧ 2 ≤ m ∧ m ≤ 1001 := by
    simp only [List.mem_cons, List.not_mem_nil, or_false] at hm'
    rcases hm' with rfl | rfl | rfl | rfl
    · exact ⟨2, rfl, by decide⟩
    · exact ⟨4, rfl, by decide⟩
    · exact ⟨9, rfl, by decide⟩
    · exact ⟨1001, rfl, by decide⟩
  walk_at "g"
  refine pjoin (s := .asg _ _) (fun st' => ∃ (s : List Int), Good s ∧ st' = [none, some .row, some (.d (.int most)), some (.own (Ls s)), none, none, none, none, none, none, none, none, none, none, none, none, none, none, none, none, none]) (fun N hN => ?_) ?_
  · walk_at "g"
    intro v v0 v1
    walk_at "g"
    have fin : ∀ u : Int, 0 ≤ u → u < 40 → ∀ ys : List Int, All2 (fun (_ : Nat) y => 0 ≤ y ∧ y ≤ (1000 : Int)) (List.range (1 + u).toNat) ys →
        N [none, some .row, some (.d (.int most)), some (.own (.list (ys.map PyData.int))), none, none, none, none, none, none, none, none, none, none, none, none, none, none, none, none, none] := fun u u0 u1 ys hys => by
      have hl := hys.length
      rw [List.length_range] at hl
      refine hN _ ⟨ys, ⟨fun i hi => ?_, by omega, by omega⟩, rfl⟩
      obtain ⟨_, _, h⟩ := hys.mem hi
      exact h
    refine ifB_dc (fun h => ?_) (fun h => ?_)
    all_goals
      walk_at "g"
      intro u u0 u1
      walk_at "g"
      refine comp_some (e := fun k : Nat => PyData.int (0 + (k : Int))) PyData.int (fun (_ : Nat) y => 0 ≤ y ∧ y ≤ (1000 : Int)) (List.range (1 + u).toNat) [] _ (fun x hx acc k' hk => ?_) (fun ys hys => ?_)
      · walk_at "g"
        intro w w0 w1
        walk_at "g"
        exact hk _ (by omega)
      · walk_at "g"
        exact fin u u0 (by omega) ys hys
  rintro _ ⟨s, g, rfl⟩
  have glo := g.lo
  have ghi := g.hi
  have nx := seq_nd1 (s := s) (.inl rfl)
  have nxt := seq_nd1 (s := s) (.inr rfl)
  walk_at "s"
  rw [List.length_map]
  refine law_s4 g fun x4 x14 x15 x19 => ?_
  have hf1 : flat 3 (Ts (higher s)) := flat_L _ (by unfold higher; rw [List.length_map, List.length_range]; omega) fun a => by cases a <;> trivial
  have hf2 : flat 3 (Ts (seen s s.length)) := flat_L _ (by have := seen_len s s.length; omega) fun a => trivial
  refine pjoin (fun st' => ∃ x10 x11, st' = SL (some (.d (.int most))) (some (.d (Ls s))) x4 none none none none s x10 x11 (some (.d (.int (SW s s.length)))) (some (.d (.int (PR s s.length)))) x14 x15 none none x19 none) (fun N hN => ?_) ?_
  · walk_at "g"
    refine .inr ⟨s, .inr rfl, g, ?_⟩
    walk_at "g"
    refine .inr ⟨s, .inl rfl, g, ?_⟩
    walk_at "g"
    exact hN _ ⟨_, _, rfl⟩
  rintro _ ⟨x10, x11, rfl⟩
  refine pguard (fun N hN => ?_) (law_s7 g)
  walk_at "g"
  refine .inr ⟨s, .inl rfl, g, ?_⟩
  walk_at "g"
  refine .inr ⟨s, .inr rfl, g, ?_⟩
  walk_at "g"
  exact hN
theorem len_is_integer : ∀ vls Q E, sp_is_integer vls Q E → vls.length = A_is_integer.length := fun vls Q E h => by first | (obtain ⟨rfl, _⟩ := h; rfl) | (obtain ⟨_, rfl, _⟩ := h; rfl) | (obtain ⟨_, _, rfl, _⟩ := h; rfl) | (obtain ⟨_, _, _, rfl, _⟩ := h; rfl) | (obtain ⟨_, _, _, _, rfl, _⟩ := h; rfl) | (obtain ⟨_, _, _, _, _, rfl, _⟩ := h; rfl) | (obtain ⟨_, _, _, _, _, _, rfl, _⟩ := h; rfl) | (obtain ⟨_, _, _, _, _, _, _, rfl, _⟩ := h; rfl) | (obtain ⟨_, _, _, _, _, _, _, _, rfl, _⟩ := h; rfl)
theorem len_is_within : ∀ vls Q E, sp_is_within vls Q E → vls.length = A_is_within.length := fun vls Q E h => by first | (obtain ⟨rfl, _⟩ := h; rfl) | (obtain ⟨_, rfl, _⟩ := h; rfl) | (obtain ⟨_, _, rfl, _⟩ := h; rfl) | (obtain ⟨_, _, _, rfl, _⟩ := h; rfl) | (obtain ⟨_, _, _, _, rfl, _⟩ := h; rfl) | (obtain ⟨_, _, _, _, _, rfl, _⟩ := h; rfl) | (obtain ⟨_, _, _, _, _, _, rfl, _⟩ := h; rfl) | (obtain ⟨_, _, _, _, _, _, _, rfl, _⟩ := h; rfl) | (obtain ⟨_, _, _, _, _, _, _, _, rfl, _⟩ := h; rfl)
theorem len_is_row : ∀ vls Q E, sp_is_row vls Q E → vls.length = A_is_row.length := fun vls Q E h => by first | (obtain ⟨rfl, _⟩ := h; rfl) | (obtain ⟨_, rfl, _⟩ := h; rfl) | (obtain ⟨_, _, rfl, _⟩ := h; rfl) | (obtain ⟨_, _, _, rfl, _⟩ := h; rfl) | (obtain ⟨_, _, _, _, rfl, _⟩ := h; rfl) | (obtain ⟨_, _, _, _, _, rfl, _⟩ := h; rfl) | (obtain ⟨_, _, _, _, _, _, rfl, _⟩ := h; rfl) | (obtain ⟨_, _, _, _, _, _, _, rfl, _⟩ := h; rfl) | (obtain ⟨_, _, _, _, _, _, _, _, rfl, _⟩ := h; rfl)
theorem len_check_heights : ∀ vls Q E, sp_check_heights vls Q E → vls.length = A_check_heights.length := fun vls Q E h => by first | (obtain ⟨rfl, _⟩ := h; rfl) | (obtain ⟨_, rfl, _⟩ := h; rfl) | (obtain ⟨_, _, rfl, _⟩ := h; rfl) | (obtain ⟨_, _, _, rfl, _⟩ := h; rfl) | (obtain ⟨_, _, _, _, rfl, _⟩ := h; rfl) | (obtain ⟨_, _, _, _, _, rfl, _⟩ := h; rfl) | (obtain ⟨_, _, _, _, _, _, rfl, _⟩ := h; rfl) | (obtain ⟨_, _, _, _, _, _, _, rfl, _⟩ := h; rfl) | (obtain ⟨_, _, _, _, _, _, _, _, rfl, _⟩ := h; rfl)
theorem len_next_higher : ∀ vls Q E, sp_next_higher vls Q E → vls.length = A_next_higher.length := fun vls Q E h => by first | (obtain ⟨rfl, _⟩ := h; rfl) | (obtain ⟨_, rfl, _⟩ := h; rfl) | (obtain ⟨_, _, rfl, _⟩ := h; rfl) | (obtain ⟨_, _, _, rfl, _⟩ := h; rfl) | (obtain ⟨_, _, _, _, rfl, _⟩ := h; rfl) | (obtain ⟨_, _, _, _, _, rfl, _⟩ := h; rfl) | (obtain ⟨_, _, _, _, _, _, rfl, _⟩ := h; rfl) | (obtain ⟨_, _, _, _, _, _, _, rfl, _⟩ := h; rfl) | (obtain ⟨_, _, _, _, _, _, _, _, rfl, _⟩ := h; rfl)
theorem len_seen_from_left : ∀ vls Q E, sp_seen_from_left vls Q E → vls.length = A_seen_from_left.length := fun vls Q E h => by first | (obtain ⟨rfl, _⟩ := h; rfl) | (obtain ⟨_, rfl, _⟩ := h; rfl) | (obtain ⟨_, _, rfl, _⟩ := h; rfl) | (obtain ⟨_, _, _, rfl, _⟩ := h; rfl) | (obtain ⟨_, _, _, _, rfl, _⟩ := h; rfl) | (obtain ⟨_, _, _, _, _, rfl, _⟩ := h; rfl) | (obtain ⟨_, _, _, _, _, _, rfl, _⟩ := h; rfl) | (obtain ⟨_, _, _, _, _, _, _, rfl, _⟩ := h; rfl) | (obtain ⟨_, _, _, _, _, _, _, _, rfl, _⟩ := h; rfl)
theorem len_all_blocks : ∀ vls Q E, sp_all_blocks vls Q E → vls.length = A_all_blocks.length := fun vls Q E h => by first | (obtain ⟨rfl, _⟩ := h; rfl) | (obtain ⟨_, rfl, _⟩ := h; rfl) | (obtain ⟨_, _, rfl, _⟩ := h; rfl) | (obtain ⟨_, _, _, rfl, _⟩ := h; rfl) | (obtain ⟨_, _, _, _, rfl, _⟩ := h; rfl) | (obtain ⟨_, _, _, _, _, rfl, _⟩ := h; rfl) | (obtain ⟨_, _, _, _, _, _, rfl, _⟩ := h; rfl) | (obtain ⟨_, _, _, _, _, _, _, rfl, _⟩ := h; rfl) | (obtain ⟨_, _, _, _, _, _, _, _, rfl, _⟩ := h; rfl)
theorem len_greatest_block : ∀ vls Q E, sp_greatest_block vls Q E → vls.length = A_greatest_block.length := fun vls Q E h => by first | (obtain ⟨rfl, _⟩ := h; rfl) | (obtain ⟨_, rfl, _⟩ := h; rfl) | (obtain ⟨_, _, rfl, _⟩ := h; rfl) | (obtain ⟨_, _, _, rfl, _⟩ := h; rfl) | (obtain ⟨_, _, _, _, rfl, _⟩ := h; rfl) | (obtain ⟨_, _, _, _, _, rfl, _⟩ := h; rfl) | (obtain ⟨_, _, _, _, _, _, rfl, _⟩ := h; rfl) | (obtain ⟨_, _, _, _, _, _, _, rfl, _⟩ := h; rfl) | (obtain ⟨_, _, _, _, _, _, _, _, rfl, _⟩ := h; rfl)
theorem len_rain_held : ∀ vls Q E, sp_rain_held vls Q E → vls.length = A_rain_held.length := fun vls Q E h => by first | (obtain ⟨rfl, _⟩ := h; rfl) | (obtain ⟨_, rfl, _⟩ := h; rfl) | (obtain ⟨_, _, rfl, _⟩ := h; rfl) | (obtain ⟨_, _, _, rfl, _⟩ := h; rfl) | (obtain ⟨_, _, _, _, rfl, _⟩ := h; rfl) | (obtain ⟨_, _, _, _, _, rfl, _⟩ := h; rfl) | (obtain ⟨_, _, _, _, _, _, rfl, _⟩ := h; rfl) | (obtain ⟨_, _, _, _, _, _, _, rfl, _⟩ := h; rfl) | (obtain ⟨_, _, _, _, _, _, _, _, rfl, _⟩ := h; rfl)
theorem len_pairs_seen : ∀ vls Q E, sp_pairs_seen vls Q E → vls.length = A_pairs_seen.length := fun vls Q E h => by first | (obtain ⟨rfl, _⟩ := h; rfl) | (obtain ⟨_, rfl, _⟩ := h; rfl) | (obtain ⟨_, _, rfl, _⟩ := h; rfl) | (obtain ⟨_, _, _, rfl, _⟩ := h; rfl) | (obtain ⟨_, _, _, _, rfl, _⟩ := h; rfl) | (obtain ⟨_, _, _, _, _, rfl, _⟩ := h; rfl) | (obtain ⟨_, _, _, _, _, _, rfl, _⟩ := h; rfl) | (obtain ⟨_, _, _, _, _, _, _, rfl, _⟩ := h; rfl) | (obtain ⟨_, _, _, _, _, _, _, _, rfl, _⟩ := h; rfl)
theorem len_law_pick : ∀ vls Q E, sp_law_pick vls Q E → vls.length = A_law_pick.length := fun vls Q E h => by first | (obtain ⟨rfl, _⟩ := h; rfl) | (obtain ⟨_, rfl, _⟩ := h; rfl) | (obtain ⟨_, _, rfl, _⟩ := h; rfl) | (obtain ⟨_, _, _, rfl, _⟩ := h; rfl) | (obtain ⟨_, _, _, _, rfl, _⟩ := h; rfl) | (obtain ⟨_, _, _, _, _, rfl, _⟩ := h; rfl) | (obtain ⟨_, _, _, _, _, _, rfl, _⟩ := h; rfl) | (obtain ⟨_, _, _, _, _, _, _, rfl, _⟩ := h; rfl) | (obtain ⟨_, _, _, _, _, _, _, _, rfl, _⟩ := h; rfl)
theorem len_law_alike (d : Nat) : ∀ vls Q E, sp_law_alike (d + 1) vls Q E → vls.length = A_law_alike.length := fun vls Q E h => by first | (obtain ⟨rfl, _⟩ := h; rfl) | (obtain ⟨_, rfl, _⟩ := h; rfl) | (obtain ⟨_, _, rfl, _⟩ := h; rfl) | (obtain ⟨_, _, _, rfl, _⟩ := h; rfl) | (obtain ⟨_, _, _, _, rfl, _⟩ := h; rfl) | (obtain ⟨_, _, _, _, _, rfl, _⟩ := h; rfl) | (obtain ⟨_, _, _, _, _, _, rfl, _⟩ := h; rfl) | (obtain ⟨_, _, _, _, _, _, _, rfl, _⟩ := h; rfl) | (obtain ⟨_, _, _, _, _, _, _, _, rfl, _⟩ := h; rfl)
end K44
-- ASM
namespace K44
open PySem PySem.Spec PyProof.Rows L2 L2.PX
structure Dd (L : Lw) (mg : Str → Option Value) : Prop where
  nm : Nm L mg
  d_is_integer : ∃ fd, FunD L.K "is_integer" "is_integer" (defArgs (top 1)) (defBody (top 1)) (defScope (top 1)) [] [] (L.ft 0) fd
  d_is_within : ∃ fd, FunD L.K "is_within" "is_within" (defArgs (top 2)) (defBody (top 2)) (defScope (top 2)) [] [] (L.ft 1) fd
  d_is_row : ∃ fd, FunD L.K "is_row" "is_row" (defArgs (top 3)) (defBody (top 3)) (defScope (top 3)) [] [] (L.ft 2) fd
  d_check_heights : ∃ fd, FunD L.K "check_heights" "check_heights" (defArgs (top 10)) (defBody (top 10)) (defScope (top 10)) [] [] (L.ft 3) fd
  d_next_higher : ∃ fd, FunD L.K "next_higher" "next_higher" (defArgs (top 11)) (defBody (top 11)) (defScope (top 11)) [] [] (L.ft 4) fd
  d_seen_from_left : ∃ fd, FunD L.K "seen_from_left" "seen_from_left" (defArgs (top 12)) (defBody (top 12)) (defScope (top 12)) [] [] (L.ft 5) fd
  d_all_blocks : ∃ fd, FunD L.K "all_blocks" "all_blocks" (defArgs (top 13)) (defBody (top 13)) (defScope (top 13)) [] [] (L.ft 6) fd
  d_greatest_block : ∃ fd, FunD L.K "greatest_block" "greatest_block" (defArgs (top 14)) (defBody (top 14)) (defScope (top 14)) [] [] (L.ft 7) fd
  d_rain_held : ∃ fd, FunD L.K "rain_held" "rain_held" (defArgs (top 15)) (defBody (top 15)) (defScope (top 15)) [] [] (L.ft 8) fd
  d_pairs_seen : ∃ fd, FunD L.K "pairs_seen" "pairs_seen" (defArgs (top 16)) (defBody (top 16)) (defScope (top 16)) [] [] (L.ft 9) fd
  d_law_taken : ∃ fd, FunD L.K "_law_taken" "_law_taken" (defArgs (top 18)) (defBody (top 18)) (defScope (top 18)) [] [] (L.ft 10) fd
  d_law_pick : ∃ fd, FunD L.K "_law_pick" "_law_pick" (defArgs (top 19)) (defBody (top 19)) (defScope (top 19)) [] [] (L.ft 11) fd
  d_law_alike : ∃ fd, FunD L.K "_law_alike" "_law_alike" (defArgs (top 20)) (defBody (top 20)) (defScope (top 20)) [] [] (L.ft 12) fd
  d_law_refused : ∃ fd, FunD L.K "_law_refused" "_law_refused" (defArgs (top 21)) (defBody (top 21)) (defScope (top 21)) [] [] (L.ft 13) fd
  c_BadHeights : ∀ (P : Program) (w : World) (base : Heap) (k : Nat), 2 ≤ k → ClsOk L P w L.K mg base k "BadHeights" 1
section
variable {L : Lw} {mg : Str → Option Value} {P : Program} {w : World} {base : Heap}
theorem upto_0 : ∀ n, n < 0 → Callee L P w L.K mg base 3 n (FS n) := fun _ h => absurd h (Nat.not_lt_zero _)
theorem cal_is_integer (D : Dd L mg) : Callee L P w L.K mg base 4 0 (FS 0) := by
  obtain ⟨fd, F⟩ := D.d_is_integer
  refine ⟨4, fd, A_is_integer, Nat.le_refl _, ?_, F.kp, (FunD.bindsN F fun _ _ _ _ _ _ us hl => match us, hl with | [_], _ => rfl)⟩
  refine def_fn (L := L) (G := Gd 0) (N := N_is_integer) F sc_is_integer len_is_integer (fun n hn => upto_0 n hn) (fun R E0 EX cdv A outer s H E F Gk => wk_is_integer D.nm (fun n h => h) F Gk) pure_is_integer
theorem upto_1 (D : Dd L mg) : ∀ n, n < 1 → Callee L P w L.K mg base 4 n (FS n) := upto_step (fs := FS) upto_0 (by decide) (cal_is_integer D)
theorem cal_is_within (D : Dd L mg) : Callee L P w L.K mg base 5 1 (FS 1) := by
  obtain ⟨fd, F⟩ := D.d_is_within
  refine ⟨5, fd, A_is_within, Nat.le_refl _, ?_, F.kp, (FunD.bindsN F fun _ _ _ _ _ _ us hl => match us, hl with | [_, _, _], _ => rfl)⟩
  refine def_fn (L := L) (G := Gd 1) (N := N_is_within) F sc_is_within len_is_within (fun n hn => upto_1 D n hn) (fun R E0 EX cdv A outer s H E F Gk => wk_is_within D.nm (fun n h => h) F Gk) pure_is_within
theorem upto_2 (D : Dd L mg) : ∀ n, n < 2 → Callee L P w L.K mg base 5 n (FS n) := upto_step (fs := FS) (upto_1 D) (by decide) (cal_is_within D)
theorem cal_is_row (D : Dd L mg) : Callee L P w L.K mg base 6 2 (FS 2) := by
  obtain ⟨fd, F⟩ := D.d_is_row
  refine ⟨6, fd, A_is_row, Nat.le_refl _, ?_, F.kp, (FunD.bindsN F fun _ _ _ _ _ _ us hl => match us, hl with | [_], _ => rfl)⟩
  refine def_fn (L := L) (G := Gd 2) (N := N_is_row) F sc_is_row len_is_row (fun n hn => upto_2 D n hn) (fun R E0 EX cdv A outer s H E F Gk => wk_is_row D.nm (fun n h => h) F Gk) pure_is_row
theorem upto_3 (D : Dd L mg) : ∀ n, n < 3 → Callee L P w L.K mg base 6 n (FS n) := upto_step (fs := FS) (upto_2 D) (by decide) (cal_is_row D)
theorem cal_check_heights (D : Dd L mg) : Callee L P w L.K mg base 7 3 (FS 3) := by
  obtain ⟨fd, F⟩ := D.d_check_heights
  refine ⟨7, fd, A_check_heights, Nat.le_refl _, ?_, F.kp, (FunD.bindsN F fun _ _ _ _ _ _ us hl => match us, hl with | [_], _ => rfl)⟩
  refine def_fn (L := L) (G := Gd 3) (N := N_check_heights) F sc_check_heights len_check_heights (fun n hn => upto_3 D n hn) (fun R E0 EX cdv A outer s H E F Gk => wk_check_heights D.nm (D.c_BadHeights _ _ _ _ (by decide)) (fun n h => h) F Gk) pure_check_heights
theorem upto_4 (D : Dd L mg) : ∀ n, n < 4 → Callee L P w L.K mg base 7 n (FS n) := upto_step (fs := FS) (upto_3 D) (by decide) (cal_check_heights D)
theorem cal_next_higher (D : Dd L mg) : Callee L P w L.K mg base 8 4 (FS 4) := by
  obtain ⟨fd, F⟩ := D.d_next_higher
  refine ⟨8, fd, A_next_higher, Nat.le_refl _, ?_, F.kp, (FunD.bindsN F fun _ _ _ _ _ _ us hl => match us, hl with | [_], _ => rfl)⟩
  refine def_fn (L := L) (G := Gd 4) (N := N_next_higher) F sc_next_higher len_next_higher (fun n hn => upto_4 D n hn) (fun R E0 EX cdv A outer s H E F Gk => wk_next_higher D.nm (fun n h => h) F Gk) pure_next_higher
theorem upto_5 (D : Dd L mg) : ∀ n, n < 5 → Callee L P w L.K mg base 8 n (FS n) := upto_step (fs := FS) (upto_4 D) (by decide) (cal_next_higher D)
theorem cal_seen_from_left (D : Dd L mg) : Callee L P w L.K mg base 9 5 (FS 5) := by
  obtain ⟨fd, F⟩ := D.d_seen_from_left
  refine ⟨9, fd, A_seen_from_left, Nat.le_refl _, ?_, F.kp, (FunD.bindsN F fun _ _ _ _ _ _ us hl => match us, hl with | [_], _ => rfl)⟩
  refine def_fn (L := L) (G := Gd 5) (N := N_seen_from_left) F sc_seen_from_left len_seen_from_left (fun n hn => upto_5 D n hn) (fun R E0 EX cdv A outer s H E F Gk => wk_seen_from_left D.nm (fun n h => h) F Gk) pure_seen_from_left
theorem upto_6 (D : Dd L mg) : ∀ n, n < 6 → Callee L P w L.K mg base 9 n (FS n) := upto_step (fs := FS) (upto_5 D) (by decide) (cal_seen_from_left D)
theorem cal_all_blocks (D : Dd L mg) : Callee L P w L.K mg base 10 6 (FS 6) := by
  obtain ⟨fd, F⟩ := D.d_all_blocks
  refine ⟨10, fd, A_all_blocks, Nat.le_refl _, ?_, F.kp, (FunD.bindsN F fun _ _ _ _ _ _ us hl => match us, hl with | [_], _ => rfl)⟩
  refine def_fn (L := L) (G := Gd 6) (N := N_all_blocks) F sc_all_blocks len_all_blocks (fun n hn => upto_6 D n hn) (fun R E0 EX cdv A outer s H E F Gk => wk_all_blocks D.nm (fun n h => h) F Gk) pure_all_blocks
theorem upto_7 (D : Dd L mg) : ∀ n, n < 7 → Callee L P w L.K mg base 10 n (FS n) := upto_step (fs := FS) (upto_6 D) (by decide) (cal_all_blocks D)
theorem cal_greatest_block (D : Dd L mg) : Callee L P w L.K mg base 11 7 (FS 7) := by
  obtain ⟨fd, F⟩ := D.d_greatest_block
  refine ⟨11, fd, A_greatest_block, Nat.le_refl _, ?_, F.kp, (FunD.bindsN F fun _ _ _ _ _ _ us hl => match us, hl with | [_], _ => rfl)⟩
  refine def_fn (L := L) (G := Gd 7) (N := N_greatest_block) F sc_greatest_block len_greatest_block (fun n hn => upto_7 D n hn) (fun R E0 EX cdv A outer s H E F Gk => wk_greatest_block D.nm (fun n h => h) F Gk) pure_greatest_block
theorem upto_8 (D : Dd L mg) : ∀ n, n < 8 → Callee L P w L.K mg base 11 n (FS n) := upto_step (fs := FS) (upto_7 D) (by decide) (cal_greatest_block D)
theorem cal_rain_held (D : Dd L mg) : Callee L P w L.K mg base 12 8 (FS 8) := by
  obtain ⟨fd, F⟩ := D.d_rain_held
  refine ⟨12, fd, A_rain_held, Nat.le_refl _, ?_, F.kp, (FunD.bindsN F fun _ _ _ _ _ _ us hl => match us, hl with | [_], _ => rfl)⟩
  refine def_fn (L := L) (G := Gd 8) (N := N_rain_held) F sc_rain_held len_rain_held (fun n hn => upto_8 D n hn) (fun R E0 EX cdv A outer s H E F Gk => wk_rain_held D.nm (fun n h => h) F Gk) pure_rain_held
theorem upto_9 (D : Dd L mg) : ∀ n, n < 9 → Callee L P w L.K mg base 12 n (FS n) := upto_step (fs := FS) (upto_8 D) (by decide) (cal_rain_held D)
theorem cal_pairs_seen (D : Dd L mg) : Callee L P w L.K mg base 13 9 (FS 9) := by
  obtain ⟨fd, F⟩ := D.d_pairs_seen
  refine ⟨13, fd, A_pairs_seen, Nat.le_refl _, ?_, F.kp, (FunD.bindsN F fun _ _ _ _ _ _ us hl => match us, hl with | [_], _ => rfl)⟩
  refine def_fn (L := L) (G := Gd 9) (N := N_pairs_seen) F sc_pairs_seen len_pairs_seen (fun n hn => upto_9 D n hn) (fun R E0 EX cdv A outer s H E F Gk => wk_pairs_seen D.nm (fun n h => h) F Gk) pure_pairs_seen
theorem upto_10 (D : Dd L mg) : ∀ n, n < 10 → Callee L P w L.K mg base 13 n (FS n) := upto_step (fs := FS) (upto_9 D) (by decide) (cal_pairs_seen D)
theorem cal_law_taken (D : Dd L mg) : Callee L P w L.K mg base 14 10 (FS 10) := by
  obtain ⟨fd, F⟩ := D.d_law_taken
  refine ⟨14, fd, A_law_taken, Nat.le_refl _, ?_, F.kp, (FunD.bindsN F fun _ _ _ _ _ _ us hl => match us, hl with | [_, _], _ => rfl)⟩
  refine FnOk.mono (j := 1) (FunD.ok F sc_law_taken (fun vs H Q E ⟨R, S, vls, Q', E', I, r, q, _⟩ => by obtain ⟨m, rfl, _⟩ := q; rw [← argVs_len r]; rfl) fun cdv A outer s H vs Q E hr h => ⟨_, wk_law_taken D.nm, taken_pure h⟩) (by decide)
theorem upto_11 (D : Dd L mg) : ∀ n, n < 11 → Callee L P w L.K mg base 14 n (FS n) := upto_step (fs := FS) (upto_10 D) (by decide) (cal_law_taken D)
theorem cal_law_pick (D : Dd L mg) : Callee L P w L.K mg base 15 11 (FS 11) := by
  obtain ⟨fd, F⟩ := D.d_law_pick
  refine ⟨15, fd, A_law_pick, Nat.le_refl _, ?_, F.kp, (FunD.bindsN F fun _ _ _ _ _ _ us hl => match us, hl with | [_, _], _ => rfl)⟩
  refine def_fn (L := L) (G := Gd 11) (N := N_law_pick) F sc_law_pick len_law_pick (fun n hn => upto_11 D n hn) (fun R E0 EX cdv A outer s H E F Gk => wk_law_pick D.nm (fun n h => h) F Gk) pure_law_pick
theorem upto_12 (D : Dd L mg) : ∀ n, n < 12 → Callee L P w L.K mg base 15 n (FS n) := upto_step (fs := FS) (upto_11 D) (by decide) (cal_law_pick D)
theorem cal_law_alike (D : Dd L mg) : Callee L P w L.K mg base 19 12 (FS 12) := by
  obtain ⟨fd, F⟩ := D.d_law_alike
  refine ⟨19, fd, A_law_alike, Nat.le_refl _, ?_, F.kp, (FunD.bindsN F fun _ _ _ _ _ _ us hl => match us, hl with | [_, _], _ => rfl)⟩
  refine rec_fn (k := 15) (sp := sp_law_alike) rfl (fun d hd => def_fn (L := L) (G := Gr 12 (sp_law_alike d)) (N := N_law_alike) F sc_law_alike (len_law_alike d) (fun n hn => ?r) (fun R E0 EX cdv A outer s H E F Gk => wk_law_alike D.nm (fun n h => h) F Gk) (pure_law_alike d)) 4
  case r =>
    by_cases z : n = 12
    · rw [show (Gr 12 (sp_law_alike d)).fs n = sp_law_alike d from if_pos z, z]
      exact ⟨_, fd, A_law_alike, Nat.le_refl _, hd, F.kp, (FunD.bindsN F fun _ _ _ _ _ _ us hl => match us, hl with | [_, _], _ => rfl)⟩
    · rw [show (Gr 12 (sp_law_alike d)).fs n = FS n from if_neg z]
      exact (upto_12 D n (by have : n < 12 + 1 := hn; omega)).mono (Nat.le_add_right ..)
theorem upto_13 (D : Dd L mg) : ∀ n, n < 13 → Callee L P w L.K mg base 19 n (FS n) := upto_step (fs := FS) (upto_12 D) (by decide) (cal_law_alike D)
theorem cal_law_refused (D : Dd L mg) : Callee L P w L.K mg base 20 13 (FS 13) := by
  obtain ⟨fd, F⟩ := D.d_law_refused
  refine ⟨20, fd, A_law_refused, Nat.le_refl _, ?_, F.kp, (FunD.bindsN F fun _ _ _ _ _ _ us hl => match us, hl with | [_], _ => rfl)⟩
  refine fn_none
theorem upto_14 (D : Dd L mg) : ∀ n, n < 14 → Callee L P w L.K mg base 20 n (FS n) := upto_step (fs := FS) (upto_13 D) (by decide) (cal_law_refused D)
end
abbrev LL (K : PySem.W.Frag) : Lw := ⟨K, fun n => He.ga K (ftN n), fun n => He.ga K (ctN n), none, [((He.cT K ("law", none)).2, "law.<locals>.<lambda>")]⟩
theorem dd {K : PySem.W.Frag} {w : World} {h : Heap} {mg : Str → Option Value} (X : K.In h) (G : h.Ns mainGlobals mg) (c : He.SaysX fa fn [] tf exB w h K) : Dd (LL K) mg := by
  have c_BadHeights : ClsF K "CampError" "BadHeights" := clsB_ok (by have := c.more; unfold exB at this; simp only [Bool.and_eq_true] at this; simp only [this])
  obtain ⟨fdI, FI⟩ := c.t.d.def_ 0 (d := dInit) rfl
  have BI : Binds K fdI [("self" : Str), ("value" : Str)] [] := by
    obtain ⟨ds, r, b⟩ := FunD.binds1 (ps := [("self" : Str), ("value" : Str)]) FI 2 1 (fun z => by cases z) rfl (fun T kV doc pm an cdv ct us its hl hi => match us, its, hl, hi with | [_, _], [_], _, _ => ⟨_, rfl, rfl⟩)
    cases r
    exact b
  exact ⟨⟨He.free_ok X G (c.t.d.fact 1 (f := .free "bool") rfl), He.free_ok X G (c.t.d.fact 2 (f := .free "dict") rfl), He.free_ok X G (c.t.d.fact 3 (f := .free "enumerate") rfl), He.free_ok X G (c.t.d.fact 4 (f := .free "int") rfl), He.free_ok X G (c.t.d.fact 5 (f := .free "isinstance") rfl), He.free_ok X G (c.t.d.fact 6 (f := .free "len") rfl), He.free_ok X G (c.t.d.fact 7 (f := .free "list") rfl), He.free_ok X G (c.t.d.fact 8 (f := .free "max") rfl), He.free_ok X G (c.t.d.fact 9 (f := .free "min") rfl), He.free_ok X G (c.t.d.fact 10 (f := .free "range") rfl), He.free_ok X G (c.t.d.fact 11 (f := .free "str") rfl), He.free_ok X G (c.t.d.fact 12 (f := .free "tuple") rfl), He.glo_ok X G (c.t.d.fact 13 (f := .glo "_law_alike") rfl), He.glo_ok X G (c.t.d.fact 14 (f := .glo "_law_pick") rfl), He.glo_ok X G (c.t.d.fact 15 (f := .glo "_law_taken") rfl), He.glo_ok X G (c.t.d.fact 16 (f := .glo "all_blocks") rfl), He.glo_ok X G (c.t.d.fact 17 (f := .glo "check_heights") rfl), He.glo_ok X G (c.t.d.fact 18 (f := .glo "greatest_block") rfl), He.glo_ok X G (c.t.d.fact 19 (f := .glo "is_integer") rfl), He.glo_ok X G (c.t.d.fact 20 (f := .glo "is_row") rfl), He.glo_ok X G (c.t.d.fact 21 (f := .glo "is_within") rfl), He.glo_ok X G (c.t.d.fact 22 (f := .glo "next_higher") rfl), He.glo_ok X G (c.t.d.fact 23 (f := .glo "pairs_seen") rfl), He.glo_ok X G (c.t.d.fact 24 (f := .glo "rain_held") rfl), He.glo_ok X G (c.t.d.fact 25 (f := .glo "seen_from_left") rfl), gInt X G (c.t.d.fact 26 (f := .int "MOST_HEIGHT" 1000) rfl), gInt X G (c.t.d.fact 27 (f := .int "MOST_TREES" 40) rfl)⟩, c.t.d.def_ 1 (d := d_is_integer) rfl, c.t.d.def_ 2 (d := d_is_within) rfl, c.t.d.def_ 3 (d := d_is_row) rfl, c.t.d.def_ 4 (d := d_check_heights) rfl, c.t.d.def_ 5 (d := d_next_higher) rfl, c.t.d.def_ 6 (d := d_seen_from_left) rfl, c.t.d.def_ 7 (d := d_all_blocks) rfl, c.t.d.def_ 8 (d := d_greatest_block) rfl, c.t.d.def_ 9 (d := d_rain_held) rfl, c.t.d.def_ 10 (d := d_pairs_seen) rfl, c.t.d.def_ 11 (d := d_law_taken) rfl, c.t.d.def_ 12 (d := d_law_pick) rfl, c.t.d.def_ 13 (d := d_law_alike) rfl, c.t.d.def_ 14 (d := d_law_refused) rfl, fun P w base k hk => clsOk_of (st := sInit) (qual := dInit.qual) c_BadHeights rfl (He.glo_ok X G (c.t.d.fact 29 (f := .glo "BadHeights") rfl)) FI rfl ⟨rfl, rfl, rfl, by decide +kernel, rfl, by decide +kernel, by decide +kernel⟩ (vis_by rfl) (vis_by rfl) BI hk⟩
theorem lamB {K : PySem.W.Frag} {w : World} {h base : Heap} {mg : Str → Option Value} (X : K.In h) (G : h.Ns mainGlobals mg) (c : He.SaysX fa fn [] tf exB w h K) (TB : LamX.TabB base mg (He.cT K ("law", none)).1 (He.cT K ("law", none)).2) : LamB (LL K) GL mg base (He.codeOf K ("law", none)) "law.<locals>.<lambda>" "_law_refused" := by
  have c_BadHeights : ClsF K "CampError" "BadHeights" := clsB_ok (by have := c.more; unfold exB at this; simp only [Bool.and_eq_true] at this; simp only [this])
  obtain ⟨fd, F⟩ := c.t.d.def_ 14 (d := d_law_refused) rfl
  have ex : exmAll K ctN hsR = true := by have := c.more; unfold exB at this; simp only [Bool.and_eq_true] at this; simp only [this]
  exact ⟨_, (He.cT K ("law", none)).2, fd, top 21, hsR, _, _, _, _, _, _, _, _, _, _, _, _, _, _, _, He.glo_ok X G (c.t.d.fact 28 (f := .glo "_law_refused") rfl), F, rfl, FunD.bindsN F (fun _ _ _ _ _ _ us hl => match us, hl with | [_], _ => rfl), sc_law_refused, vis_by rfl, rfl, .cons (He.glo_ok X G (c.t.d.fact 29 (f := .glo "BadHeights") rfl)) rfl rfl c_BadHeights.xf c_BadHeights.nv (.nil), exmAll_ok ex, fun _ _ h => h, TB, List.mem_cons_self, fun p hp _ => by rw [List.mem_singleton.mp hp]⟩
theorem law_at {K : PySem.W.Frag} {w : World} {h : Heap} {mg : Str → Option Value} {f : Addr} (X : K.In h) (G : h.Ns mainGlobals mg) (hfa : mg ("law" : Str) = some (.ref f)) (c : He.SaysX fa fn [] tf exB w h K) : LawAtG PySem.Challenge.rw_pitchturns_k44_whole_views w K 63 mg f h := by
  have D := dd X G c
  obtain ⟨fd, F⟩ := c.t.d.def_ 15 (d := d_law) rfl
  have e := hfa.symm.trans (He.glo_ok X G (c.t.d.fact 0 (f := .glo "law") rfl))
  cases e
  refine law_run (L := LL K) (G := GL) (cs := P_law) (st := top 22) (N2 := N_law.drop 2) (css := tf.map (He.cT K)) (k := 22) (seed := 144) X F sc_law (fun s us hl => FunD.bindsA (ps := ["script"]) F (fun _ _ _ _ _ _ us hl => match us, hl with | [_], _ => rfl) s us hl) ⟨rfl, by decide, by decide⟩ (vis_by rfl) (loc_by rfl) (by decide) (Nat.le_refl _) (fun p hp => ?hT) (fun p hp => ?nT) (fun p hp => ?hC) (fun p hp => ?hTs) rfl (fun base KB GB TBs R E0 cc A s H hcc F' hgd => ?walk) pure_law
  case hT =>
    obtain ⟨q, hq, e⟩ := List.mem_map.mp hp
    rw [← e]; exact c.empty q hq
  case nT =>
    obtain ⟨q, hq, e⟩ := List.mem_map.mp hp
    rw [← e]; exact c.out q hq
  case hC =>
    obtain ⟨q, hq, e⟩ := List.mem_map.mp hp
    rw [← e]; exact PySem.W.codeHd_of_K X (c.hd q hq)
  case hTs =>
    rw [List.mem_singleton.mp hp]; exact ⟨_, List.mem_cons_self, rfl⟩
  case walk =>
    have hcd : He.codeOf K ("law", none) = cc := hcc.resolve_right fun z => z rfl
    have TB := TBs _ (List.mem_cons_self (l := []))
    subst hcd
    exact wk_law (kb := 20) (by decide) hgd D.nm (fun n h => h) F' (fun n hn => (show Callee _ _ _ _ _ _ 22 n (FS n) from ((upto_14 D n hn).mono (by decide)).at_)) (lamB X G c TB) (fun n hn => (upto_14 D n hn).at_)
end K44
open PySem PySem.W PySem.Calls PyProof.Rows
theorem PySem.Challenge.cw_pitchturns_k44_whole_views_holds : PySem.Challenge.rw_pitchturns_k44_whole_views.Holds := by
  w_on; o_law
  refine HandSHeadRun.head_any (r := OpenLaw.row PySem.Challenge.rw_pitchturns_k44_whole_views) (q := view (OpenLaw.row PySem.Challenge.rw_pitchturns_k44_whole_views).prog [22]) (H := K44.hk) (ob := K44.ob) (M := 4000) (loose := K44.loo) (d := HandSHeadRun.topDef (OpenLaw.row PySem.Challenge.rw_pitchturns_k44_whole_views).prog 22) (kwd := []) K44.ob_eq
    (by kernel_rfl) (fun s => by kernel_rfl) K44.run (by kernel_rfl) (by kernel_rfl) (by kernel_rfl) (by rfl) (by first | assumption | decide +kernel) (by decide +kernel) ⟨rfl, rfl, rfl, rfl, rfl, by decide +kernel⟩ ?hw ?hc
  case hw => w_witness2
  case hc =>
    refine L2.PX.walk_G (l := PySem.Challenge.rw_pitchturns_k44_whole_views) (n := 63) rfl (by decide) (by kernel_rfl) ?F
    intro w mg fa h Y G hmg0
    obtain ⟨K, KX, c⟩ := Y
    have hmg : mg ("law" : PySem.Str) = some (.ref fa) := by
      have e : (HandSHeadRun.topDef (OpenLaw.row PySem.Challenge.rw_pitchturns_k44_whole_views).prog 22).name = ("law" : PySem.Str) := by kernel_rfl
      rw [← e]
      exact hmg0
    exact ⟨K, KX, K44.law_at KX G hmg c⟩
