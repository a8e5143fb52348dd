import PyProof.Rows.All
import Wide.All
import OpenK.AllK
import Wide.FinOn
import HandS.ForMost
import HandS.ForExc
import HandS.WordsExc
import HandS.TryMany
import HandS.Wide
import HandS.IsInst
import HandS.CallSlots
import HandS.HotCalls
import HandS.Iter
import HandS.Zip
import HandS.SetFor
import HandS.ExcField
import HandS.ExcIs
import HandS.ExcValue
import HandS.ExcInit
import HandS.ExcInitHot
import HandS.ClsMeth
import KE.KExcIs
import HandS.WideBits
import HandS.SortInts
import HandS.TryOnly
import HandS.Style
import HandS.TupLe
import HandS.RevRange
import HandS.FltList
import HandS.More
import HandS.Lambda
import HandS.EndTab
import KE.GoesZip
import KE.GoesMore
import HandS.Deep
import HandS.Conv
import HandS.Zip
import HandS.ReplaceLit
import PySem.Challenge.RW_conicplaces_k62_texts_of_sums_read
set_option Elab.async false
set_option linter.all false
set_option maxRecDepth 100000
set_option maxHeartbeats 8000000
namespace DL
open PySem L2

abbrev D := PyData
inductive S where
  | no
  | val (d : D)
  | own (ds : List D)
  | adr (a : Addr)
  /-- a datum all of whose lists, tuples, dicts this frame alone holds: its value, the datum, the addresses -/
  | obj (v : V) (d : D) (fp : List Addr)
structure Exc where
  cls : Str
  arg : Option (Str × D)
mutual
def isDct : D → Bool
  | .dict _ => true
  | .list ds => isDcts ds
  | .tuple ds => isDcts ds
  | _ => false
def isDcts : List D → Bool
  | [] => false
  | d :: ds => isDct d || isDcts ds
end
def S.fr : S → (D → Prop) → Prop
  | .val d, k => k d
  | .own ds, k => k (.list ds)
  | .no, _ => False
  | .adr _, _ => False
  | .obj _ d _, k => isDct d = false ∧ k d
def S.pk : S → (D → Prop) → Prop
  | .val d, k => k d
  | .own ds, k => k (.list ds)
  | .no, _ => False
  | .adr _, _ => False
  | .obj _ _ _, _ => False
def S.var : S → (S → Prop) → Prop
  | .val d, k => k (.val d)
  | .own _, _ => False
  | .no, _ => False
  | .adr _, _ => False
  | .obj _ _ _, _ => False
def S.bl : S → (Bool → Prop) → Prop
  | .val (.bool b), k => k b
  | _, _ => False
def S.nm : S → (Int → Prop) → Prop
  | .val (.int b), k => k b
  | _, _ => False
def S.ow : S → (List D → Prop) → Prop
  | .own ds, k => k ds
  | .val _, _ => False
  | .no, _ => False
  | .adr _, _ => False
  | .obj _ _ _, _ => False
def S.any : S → (S → Prop) → Prop
  | .no, _ => False
  | .adr _, _ => False
  | .obj v d fp, k => k (.obj v d fp)
  | .val d, k => k (.val d)
  | .own ds, k => k (.own ds)
def seqK : D → (List D → Prop) → Prop
  | .list ds, k => k ds
  | .tuple ds, k => k ds
  | _, _ => False
def numK : List D → (Int → Prop) → Prop
  | [.int n], k => k n
  | _, _ => False
def lk : List S → Nat → S
  | [], _ => .no
  | s :: _, 0 => s
  | _ :: r, n + 1 => lk r n
def put : List S → Nat → S → List S
  | [], _, _ => []
  | _ :: r, 0, x => x :: r
  | s :: r, n + 1, x => s :: put r n x
abbrev XP := Exc → Prop
abbrev ES := XP → List S → (S → Prop) → Prop
abbrev EP := XP → List S → (D → Prop) → Prop
abbrev ET := XP → List S → (Bool → Prop) → Prop
abbrev EA := XP → List S → (List D → Prop) → Prop
structure Ends where
  nx : List S → Prop
  rt : S → Prop
  bk : List S → Prop := fun _ => False
  ct : List S → Prop := fun _ => False
  ex : Exc → List S → Prop := fun _ _ => False
  /-- a flat answer, and what the names hold then -/
  rk : D → List S → Prop := fun _ _ => False
abbrev ST := Ends → List S → Prop
abbrev DSp := List D → XP → (S → Prop) → Prop

def eVar (i : Nat) : ES := fun _ δ q => (lk δ i).var q
def pVar (i : Nat) : EP := fun _ δ q => (lk δ i).pk q
def pE (e : ES) : EP := fun x δ q => e x δ fun s => s.fr q
def eC (d : D) : ES := fun _ _ q => q (.val d)
abbrev R2D := D → D → (S → Prop) → Prop
def eOp (r : R2D) (a b : EP) : ES := fun x δ q => a x δ fun c => b x δ fun d => r c d q
abbrev R1D := D → (S → Prop) → Prop
def eUn (r : R1D) (a : EP) : ES := fun x δ q => a x δ fun c => r c q
def tV (e : ES) : ET := fun x δ q => e x δ fun s => s.bl q
def tAnd (t u : ET) : ET := fun x δ q => t x δ fun b => if b = true then u x δ q else q false
def tOr (t u : ET) : ET := fun x δ q => t x δ fun b => if b = true then q true else u x δ q
def tNot (t : ET) : ET := fun x δ q => t x δ fun b => q (!b)
def eAnd (t : ES) (u : ES) : ES := fun x δ q => t x δ fun s => s.bl fun b => if b = true then u x δ q else q (.val (.bool false))
def eNot (t : ES) : ES := fun x δ q => t x δ fun s => s.bl fun b => q (.val (.bool (!b)))
def aNil : EA := fun _ _ q => q []
def aCons (e : ES) (r : EA) : EA := fun x δ q => e x δ fun s => s.fr fun d => r x δ fun ds => q (d :: ds)
def apNil : EA := fun _ _ q => q []
def apCons (e : EP) (r : EA) : EA := fun x δ q => e x δ fun d => r x δ fun ds => q (d :: ds)
def eTup (a : EA) : ES := fun x δ q => a x δ fun ds => ds.length ≤ sizeLine ∧ q (.val (.tuple ds))
def eLst (a : EA) : ES := fun x δ q => a x δ fun ds => ds.length ≤ sizeLine ∧ q (.own ds)
def eCall (p : DSp) (a : EA) : ES := fun x δ q => a x δ fun ds => p ds x q
abbrev RD := List D → (S → Prop) → Prop
def eB (r : RD) (a : EA) : ES := fun x δ q => a x δ fun ds => r ds q
def isFlat : D → Bool
  | .list _ => false
  | .tuple _ => false
  | .dict _ => false
  | _ => true
def S.flat : S → Bool
  | .val d => isFlat d
  | _ => false
def sNext : ST := fun D δ => D.nx δ
def sSeq (t u : ST) : ST := fun D δ => t { D with nx := u D } δ
def sCut (t u : ST) : ST := fun D δ => ∃ Mid : List S → Prop, t { D with nx := Mid } δ ∧ ∀ δ', Mid δ' → u D δ'
abbrev EG := S → List S → (List S → Prop) → Prop
def gVar (i : Nat) : EG := fun s δ q => q (put δ i s)
def gVal (i : Nat) : EG := fun s δ q => s.fr fun d => q (put δ i (.val d))
def sAsg (e : ES) (g : EG) : ST := fun D δ => e (fun x => D.ex x δ) δ fun s => g s δ D.nx
def sDrop (e : ES) : ST := fun D δ => e (fun x => D.ex x δ) δ fun _ => D.nx δ
def sRet (e : ES) : ST := fun D δ => e (fun x => D.ex x δ) δ D.rt
def sRetOwn (i : Nat) : ST := fun D δ => (lk δ i).any D.rt
def sIf (t : ET) (a b : ST) : ST := fun D δ => t (fun x => D.ex x δ) δ fun c => if c = true then a D δ else b D δ
def sWhile (t : ET) (b : ST) : ST := fun D δ => ∃ Inv : Nat → List S → Prop, (∃ m, Inv m δ) ∧ ∀ m δ', Inv m δ' →
  t (fun x => D.ex x δ') δ' fun c => if c = true then b { D with nx := fun δ2 => ∃ m', m' < m ∧ Inv m' δ2, ct := fun δ2 => ∃ m', m' < m ∧ Inv m' δ2, bk := D.nx } δ' else D.nx δ'
abbrev EI := XP → List S → (List D → Prop) → Prop
def sFor (src : EI) (g : EG) (b : ST) : ST := fun D δ => src (fun x => D.ex x δ) δ fun ds => ∃ Inv : Nat → List S → Prop, Inv 0 δ ∧
  (∀ i d δ', ds[i]? = some d → Inv i δ' → g (.val d) δ' fun δ2 => b { D with nx := Inv (i + 1), ct := Inv (i + 1), bk := D.nx } δ2) ∧ ∀ δ', Inv ds.length δ' → D.nx δ'
def sRaise (c : Str) : ST := fun D δ => D.ex ⟨c, none⟩ δ
def sFrz (i : Nat) : ST := fun D δ => (lk δ i).fr fun d => D.nx (put δ i (.val d))
def sApp (i : Nat) (e : ES) : ST := fun D δ => (lk δ i).ow fun ds => e (fun x => D.ex x δ) δ fun s => s.fr fun d => ds.length < sizeLine ∧ D.nx (put δ i (.own (ds ++ [d])))
def setK (ds : List D) (n : Int) (d : D) (k : List D → Prop) : Prop := ∃ j, ixN ds.length n = some j ∧ k (ds.set j d)
def sSet (i : Nat) (k : ES) (e : ES) : ST := fun D δ => (lk δ i).ow fun ds => e (fun x => D.ex x δ) δ fun s => s.fr fun d => k (fun x => D.ex x δ) δ fun t => t.nm fun n => setK ds n d fun es => D.nx (put δ i (.own es))
def wipeD (δ : List S) : List Nat → List S
  | [] => δ
  | v :: vs => put (wipeD δ vs) v .no
def All2 {α β : Type} (P : α → β → Prop) : List α → List β → Prop
  | [], [] => True
  | a :: as, b :: bs => P a b ∧ All2 P as bs
  | _, _ => False
def eComp (src : EI) (vs : List Nat) (g : EG) (t : ET) (e : ES) : ES := fun x δ q => src x δ fun ds => ds.length ≤ 1000000 ∧ ∃ rs : List (Option D),
  All2 (fun d o => g (.val d) (wipeD δ vs) fun δ2 => t (fun _ => False) δ2 fun b => if b = true then e (fun _ => False) δ2 fun s => s.fr fun r => o = some r else o = none) ds rs ∧ q (.own (rs.filterMap id))
def iVal (e : ES) : EI := fun x δ q => e x δ fun s => s.fr fun d => seqK d q
def rngD (lo : Int) (n : Nat) : List D := (List.range n).map fun k : Nat => .int (lo + k)
def iRng1 (a : EA) : EI := fun x δ q => a x δ fun ds => numK ds fun n => (-(2 ^ 62) ≤ n ∧ n < 2 ^ 62) ∧ q (rngD 0 n.toNat)
def startD (n : Nat) (ds : List D) : List S := ds.map S.val ++ List.replicate (n - ds.length) .no
def bodyD (n : Nat) (b : ST) : DSp := fun ds x q => b ⟨fun _ => q (.val .none), q, fun _ => False, fun _ => False, fun e _ => x e, fun _ _ => False⟩ (startD n ds)

def ClsN (K : PySem.W.Frag) (c : Str) (C : Addr) : Prop := PySem.W.nsIn K mainGlobals c = some (some (.ref C))
def excO (C : Addr) (d : Option Addr) (a : Addr) : HO := .ext fun h => ∃ (oe : Obj) (vs : Array Value), h.get? a = some oe ∧ L2N.Zn (.ref C) d oe ∧ oe.data = .fields vs
def excD (e : Exc) : D := .dict (match e.arg with | none => [(.str e.cls, .none)] | some (f, u) => [(.str e.cls, .str f), (.str f, u)])
def keyD : L2.Key → D
  | .inl i => .int i
  | .inr x => .str x
def insD (ds : List (D × D)) : D := .dict [(.none, .dict ds)]
mutual
inductive Dp (K : PySem.W.Frag) (H : Hp) : V → D → Prop
  | non : Dp K H .non .none
  | bl (b : Bool) : Dp K H (.bl b) (.bool b)
  | int (i : Int) : Dp K H (.int i) (.int i)
  | str (x : Str) : Dp K H (.str x) (.str x)
  | lst {a : Addr} {xs : List V} {ds : List D} : SqL K H a xs → DpAll K H xs ds → Dp K H (.ref a) (.list ds)
  | tup {a : Addr} {xs : List V} {ds : List D} : SqT K H a xs → DpAll K H xs ds → Dp K H (.ref a) (.tuple ds)
  | exc0 {a C : Addr} {c : Str} : ClsN K c C → H a = some (excO C none a) → Dp K H (.ref a) (.dict [(.str c, .none)])
  | exc1 {a C dd : Addr} {c f : Str} {v : V} {u : D} : ClsN K c C → H a = some (excO C (some dd) a) → H dd = some (.xd [(f, v)]) → Dp K H v u → Dp K H (.ref a) (.dict [(.str c, .str f), (.str f, u)])
  | ins {a C dd b : Addr} {ks : List L2.Key} {vs : List V} {es : List D} {ds : List (D × D)} : ClsN K "Desk" C → H a = some (.ins C dd [("curves", .ref b)]) → H dd = some (.own a) → H b = some (.dK (ks.zip vs)) → ks.length = vs.length ∧ ds = (ks.map keyD).zip es → DpAll K H vs es → Dp K H (.ref a) (.dict [(.none, .dict ds)])
inductive DpAll (K : PySem.W.Frag) (H : Hp) : List V → List D → Prop
  | nil : DpAll K H [] []
  | cons {v : V} {vs : List V} {d : D} {ds : List D} : Dp K H v d → DpAll K H vs ds → DpAll K H (v :: vs) (d :: ds)
end
mutual
theorem Dp.l2 {K : PySem.W.Frag} {H : Hp} : ∀ {v : V} {d : D}, Dp K H v d → PyData.canLay0 d = true → L2.Dp K H v d
  | _, _, .non, _ => .non
  | _, _, .bl b, _ => .bl b
  | _, _, .int i, _ => .int i
  | _, _, .str x, _ => .str x
  | _, _, .lst h a, n => .lst h (DpAll.l2 a (by unfold PyData.canLay0 at n; exact n))
  | _, _, .tup h a, n => .tup h (DpAll.l2 a (by unfold PyData.canLay0 at n; exact n))
  | _, _, .exc0 _ _, n => by unfold PyData.canLay0 at n; cases n
  | _, _, .exc1 _ _ _ _, n => by unfold PyData.canLay0 at n; cases n
  | _, _, .ins _ _ _ _ _ _, n => by unfold PyData.canLay0 at n; cases n
theorem DpAll.l2 {K : PySem.W.Frag} {H : Hp} : ∀ {vs : List V} {ds : List D}, DpAll K H vs ds → PyData.canLayAll0 ds = true → L2.DpAll K H vs ds
  | _, _, .nil, _ => .nil
  | _, _, .cons h a, n => by
    unfold PyData.canLayAll0 at n
    rw [Bool.and_eq_true] at n
    exact .cons (Dp.l2 h n.1) (DpAll.l2 a n.2)
end
theorem Same.tup {K : PySem.W.Frag} {H H' : Hp} {a : Addr} {xs : List V} (e : Same H H') (h : SqT K H a xs) : SqT K H' a xs := by
  rcases h with (h | ⟨o, h⟩) | h
  · exact .inl (.inl (e _ _ h))
  · exact .inl (.inr ⟨o, e _ _ h⟩)
  · exact .inr h
section
variable {K : PySem.W.Frag} {O O' : Hp}
mutual
theorem dp_mono (e : Same O O') : ∀ {v : V} {d : D}, Dp K O v d → Dp K O' v d
  | _, _, .non => .non
  | _, _, .bl b => .bl b
  | _, _, .int i => .int i
  | _, _, .str x => .str x
  | _, _, .lst h a => .lst (e.seq h) (dpAll_mono e a)
  | _, _, .tup h a => .tup (Same.tup e h) (dpAll_mono e a)
  | _, _, .exc0 h a => .exc0 h (e _ _ a)
  | _, _, .exc1 h a b c => .exc1 h (e _ _ a) (e _ _ b) (dp_mono e c)
  | _, _, .ins h a b c k d => .ins h (e _ _ a) (e _ _ b) (e _ _ c) k (dpAll_mono e d)
theorem dpAll_mono (e : Same O O') : ∀ {vs : List V} {ds : List D}, DpAll K O vs ds → DpAll K O' vs ds
  | _, _, .nil => .nil
  | _, _, .cons h a => .cons (dp_mono e h) (dpAll_mono e a)
end
theorem dpl_length : ∀ {vs : List V} {ds : List D}, DpAll K O vs ds → vs.length = ds.length
  | _, _, .nil => rfl
  | _, _, .cons _ a => congrArg (· + 1) (dpl_length a)
theorem dpl_append : ∀ {vs ws : List V} {ds es : List D}, DpAll K O vs ds → DpAll K O ws es → DpAll K O (vs ++ ws) (ds ++ es)
  | _, _, _, _, .nil, b => b
  | _, _, _, _, .cons h a, b => .cons h (dpl_append a b)
theorem dpl_at : ∀ {vs : List V} {ds : List D} {i : Nat} {d : D}, DpAll K O vs ds → ds[i]? = some d → ∃ v, vs[i]? = some v ∧ Dp K O v d
  | _, _, _, _, .nil, e => by simp at e
  | _, _, 0, _, .cons h _, e => by
    simp only [List.getElem?_cons_zero, Option.some.injEq] at e
    subst e
    exact ⟨_, rfl, h⟩
  | _, _, i + 1, _, .cons _ a, e => by
    simp only [List.getElem?_cons_succ] at e
    obtain ⟨v, h1, h2⟩ := dpl_at a e
    exact ⟨v, by simpa using h1, h2⟩
theorem dpl_at2 : ∀ {vs : List V} {ds : List D} {i : Nat} {v : V}, DpAll K O vs ds → vs[i]? = some v → ∃ d, ds[i]? = some d ∧ Dp K O v d
  | _, _, _, _, .nil, e => by simp at e
  | _, _, 0, _, .cons h _, e => by
    simp only [List.getElem?_cons_zero, Option.some.injEq] at e
    subst e
    exact ⟨_, rfl, h⟩
  | _, _, i + 1, _, .cons _ a, e => by
    simp only [List.getElem?_cons_succ] at e
    obtain ⟨v, h1, h2⟩ := dpl_at2 a e
    exact ⟨v, by simpa using h1, h2⟩
theorem dpl_set : ∀ {vs : List V} {ds : List D} {i : Nat} {v : V} {d : D}, DpAll K O vs ds → Dp K O v d → DpAll K O (vs.set i v) (ds.set i d)
  | _, _, _, _, _, .nil, _ => .nil
  | _, _, 0, _, _, .cons _ a, h => .cons h a
  | _, _, i + 1, _, _, .cons g a, h => .cons g (dpl_set a h)
end
def tabT : List (Addr × Str) := []
structure Sam (H H' : Hp) : Prop where
  k : ∀ b o, H b = some o → (∀ ps, o ≠ .tbl ps) → H' b = some o
  d : ∀ b, H b ≠ none → H' b ≠ none
  t : LamX.Tabs tabT H → LamX.Tabs tabT H'
theorem Sam.refl (H : Hp) : Sam H H := ⟨fun _ _ h _ => h, fun _ h => h, fun h => h⟩
theorem Sam.trans {H H1 H2 : Hp} (a : Sam H H1) (b : Sam H1 H2) : Sam H H2 := ⟨fun c o h n => b.k c o (a.k c o h n) n, fun c h => b.d c (a.d c h), fun h => b.t (a.t h)⟩
theorem Sam.of {H H' : Hp} (e : Same H H') : Sam H H' := ⟨fun b o h _ => e b o h, fun b h z => h (e.free z), fun t => t.ext e⟩
theorem Sam.none (H : Hp) : Sam (fun _ => Option.none) H := ⟨(fun _ _ h => by cases h), fun _ h => absurd rfl h, fun t p hp => by
  obtain ⟨_, h, _⟩ := t p hp
  cases h⟩
theorem Sam.at {H H' : Hp} (e : Sam H H') {b : Addr} {o : HO} (h : H b = some o) (n : ∀ ps, o ≠ .tbl ps := by intro ps h; cases h) : H' b = some o := e.k b o h n
theorem Sam.free {H H' : Hp} (e : Sam H H') {l : Addr} (h : H' l = Option.none) : H l = Option.none := Classical.byContradiction fun n => e.d l n h
theorem Sam.seq {K : PySem.W.Frag} {H H' : Hp} {a : Addr} {xs : List V} (e : Sam H H') (h : SqL K H a xs) : SqL K H' a xs := by
  rcases h with (h | ⟨o, h⟩) | h
  · exact .inl (.inl (e.at h))
  · exact .inl (.inr ⟨o, e.at h⟩)
  · exact .inr h
theorem Sam.tup {K : PySem.W.Frag} {H H' : Hp} {a : Addr} {xs : List V} (e : Sam H H') (h : SqT K H a xs) : SqT K H' a xs := by
  rcases h with (h | ⟨o, h⟩) | h
  · exact .inl (.inl (e.at h))
  · exact .inl (.inr ⟨o, e.at h⟩)
  · exact .inr h
theorem tabs_upd {T : List (Addr × Str)} {H : Hp} {p : Addr} {o : HO} (t : LamX.Tabs T H) (w : HO) (hp : H p = some o) (n : ∀ ps, o ≠ .tbl ps := by intro ps h; cases h) (n2 : ∀ c q, o ≠ LamX.CodeO c q := by intro c q h; unfold LamX.CodeO at h; cases h) : LamX.Tabs T (upd H p w) := fun x hx => by
  obtain ⟨ps, a1, a2, a3⟩ := t x hx
  refine ⟨ps, by rw [upd_ne (fun z => n ps (Option.some.inj (hp.symm.trans (by rw [← z]; exact a1))))]; exact a1, a2, fun pos cv hc => ?_⟩
  obtain ⟨c, e1, e2⟩ := a3 pos cv hc
  exact ⟨c, e1, by rw [upd_ne (fun z => n2 c x.2 (Option.some.inj (hp.symm.trans (by rw [← z]; exact e2))))]; exact e2⟩
class HotA where
  h : Option (Addr × Addr × Option Addr)
instance (priority := 10) noHot : HotA := ⟨none⟩
variable [HotA]
structure TOk (O H : Hp) : Prop where
  t : LamX.Tabs tabT H
  n : ∀ p ∈ tabT, O p.1 = none
  x : ∀ p, HotA.h = some p → O p.1 = some (excO p.2.1 p.2.2 p.1)
theorem TOk.there {O H : Hp} (t : TOk O H) {p : Addr × Str} (hp : p ∈ tabT) : H p.1 ≠ none := by
  obtain ⟨ps, h, _⟩ := t.t p hp
  rw [h]; simp
structure Up (O H O' H' : Hp) : Prop where
  o : Same O O'
  h : Sam H H'
  oh : Same O' H'
  nn : ∀ a, H a ≠ none → O a = none → O' a = none
theorem Up.refl {O H : Hp} (e : Same O H) : Up O H O H := ⟨Same.refl O, Sam.refl H, e, fun _ _ h => h⟩
theorem Up.trans {O H O1 H1 O2 H2 : Hp} (a : Up O H O1 H1) (b : Up O1 H1 O2 H2) : Up O H O2 H2 := ⟨a.o.trans b.o, a.h.trans b.h, b.oh, fun x hx ho => b.nn x (a.h.d x hx) (a.nn x hx ho)⟩
theorem Up.tt {O H O' H' : Hp} (u : Up O H O' H') (t : TOk O H) : TOk O' H' := ⟨u.h.t t.t, fun p hp => u.nn p.1 (t.there hp) (t.n p hp), fun p hp => u.o _ _ (t.x p hp)⟩
theorem same_new {H : Hp} {p : Addr} (h : H p = none) (o : HO) : Same H (upd H p o) := fun b u q => by rw [upd_ne (ne_of_none q h)]; exact q
theorem Up.new {O H : Hp} (e : Same O H) {p : Addr} (hp : H p = none) (o : HO) : Up O H (upd O p o) (upd H p o) :=
  ⟨same_new (e.free hp) o, .of (same_new hp o), fun b u q => by
    by_cases hb : b = p
    · subst hb; rw [upd_same] at q ⊢; exact q
    · rw [upd_ne hb] at q ⊢; exact e b u q, fun a ha ho => by
    have hn : a ≠ p := fun z => ha (by rw [z]; exact hp)
    rw [upd_ne hn]; exact ho⟩
theorem Up.own {O H : Hp} (e : Same O H) {p : Addr} (hp : H p = none) (o : HO) : Up O H O (upd H p o) :=
  ⟨Same.refl O, .of (same_new hp o), e.trans (same_new hp o), fun _ _ h => h⟩
theorem Up.let {O H O' H' : Hp} (u : Up O H O' H') {p : Addr} {o : HO} (hp : H p = none) (ho : O' p = none) (hh : H' p = some o) : Up O H (upd O' p o) H' :=
  ⟨u.o.trans (same_new ho o), u.h, fun b w q => by
    by_cases hb : b = p
    · subst hb; rw [upd_same] at q; cases q; exact hh
    · rw [upd_ne hb] at q; exact u.oh b w q, fun a ha z => by
    have hn : a ≠ p := fun y => ha (by rw [y]; exact hp)
    rw [upd_ne hn]; exact u.nn a ha z⟩
def PRep (K : PySem.W.Frag) (O H : Hp) (v : V) : D → Prop
  | .list ds => ∃ a vs, v = .ref a ∧ SqL K H a vs ∧ DpAll K O vs ds
  | .tuple ds => ∃ a vs, v = .ref a ∧ SqT K H a vs ∧ DpAll K O vs ds
  | d => Dp K O v d
section
variable {K : PySem.W.Frag} {O H O' H' : Hp}
theorem PRep.of (e : Same O H) {v : V} {d : D} (h : Dp K O v d) : PRep K O H v d := by
  cases h with
  | lst q a => exact ⟨_, _, rfl, e.seq q, a⟩
  | tup q a => exact ⟨_, _, rfl, Same.tup e q, a⟩
  | non => exact .non
  | bl b => exact .bl b
  | int i => exact .int i
  | str x => exact .str x
  | exc0 h a => exact Dp.exc0 h a
  | exc1 h a b c => exact Dp.exc1 h a b c
  | ins h a b c k d => exact Dp.ins h a b c k d
theorem PRep.up (u : Up O H O' H') {v : V} {d : D} (h : PRep K O H v d) : PRep K O' H' v d := by
  cases d with
  | list ds => obtain ⟨a, vs, e, q, z⟩ := h; exact ⟨a, vs, e, u.h.seq q, dpAll_mono u.o z⟩
  | tuple ds => obtain ⟨a, vs, e, q, z⟩ := h; exact ⟨a, vs, e, u.h.tup q, dpAll_mono u.o z⟩
  | none => exact dp_mono u.o h
  | bool _ => exact dp_mono u.o h
  | int _ => exact dp_mono u.o h
  | str _ => exact dp_mono u.o h
  | dict _ => exact dp_mono u.o h
theorem PRep.all (e : Same O H) {v : V} {d : D} (h : PRep K O H v d) : Dp K H v d := by
  cases d with
  | list ds => obtain ⟨a, vs, rfl, q, z⟩ := h; exact .lst q (dpAll_mono e z)
  | tuple ds => obtain ⟨a, vs, rfl, q, z⟩ := h; exact .tup q (dpAll_mono e z)
  | none => exact dp_mono e h
  | bool _ => exact dp_mono e h
  | int _ => exact dp_mono e h
  | str _ => exact dp_mono e h
  | dict _ => exact dp_mono e h
end
mutual
/-- no list, no dict in it -/
def noLst : D → Bool
  | .list _ => false
  | .dict _ => false
  | .tuple ds => noLsts ds
  | _ => true
def noLsts : List D → Bool
  | [] => true
  | d :: ds => noLst d && noLsts ds
end
inductive DctAll (K : PySem.W.Frag) (O : Hp) : List (L2.Key × V) → List (D × D) → Prop
  | nil : DctAll K O [] []
  | cons {k : L2.Key} {v : V} {d : D} {kvs : List (L2.Key × V)} {ds : List (D × D)} : Dp K O v d → DctAll K O kvs ds → DctAll K O ((k, v) :: kvs) ((keyD k, d) :: ds)
mutual
inductive Ow (K : PySem.W.Frag) (O H : Hp) : V → D → List Addr → Prop
  | dat {v : V} {d : D} : Dp K O v d → noLst d = true → Ow K O H v d []
  | tup {a : Addr} {xs : List V} {ds : List D} {fp : List Addr} : H a = some (.tup xs) → OwAll K O H xs ds fp → Ow K O H (.ref a) (.tuple ds) (a :: fp)
  | lst {a : Addr} {xs : List V} {ds : List D} {fp : List Addr} : H a = some (.lst xs) → OwAll K O H xs ds fp → Ow K O H (.ref a) (.list ds) (a :: fp)
  | dct {a : Addr} {kvs : List (L2.Key × V)} {ds : List (D × D)} : H a = some (.dK kvs) → DctAll K O kvs ds → Ow K O H (.ref a) (.dict ds) [a]
  | ins {a C dd b : Addr} {kvs : List (L2.Key × V)} {ds : List (D × D)} : ClsN K "Desk" C → H a = some (.ins C dd [("curves", .ref b)]) → H dd = some (.own a) → H b = some (.dK kvs) → DctAll K O kvs ds → Ow K O H (.ref a) (insD ds) [a, dd, b]
inductive OwAll (K : PySem.W.Frag) (O H : Hp) : List V → List D → List Addr → Prop
  | nil : OwAll K O H [] [] []
  | cons {v : V} {vs : List V} {d : D} {ds : List D} {f g : List Addr} : Ow K O H v d f → OwAll K O H vs ds g → OwAll K O H (v :: vs) (d :: ds) (f ++ g)
end
theorem dct_mono {K : PySem.W.Frag} {O O' : Hp} (e : Same O O') : ∀ {kvs : List (L2.Key × V)} {ds : List (D × D)}, DctAll K O kvs ds → DctAll K O' kvs ds
  | _, _, .nil => .nil
  | _, _, .cons h a => .cons (dp_mono e h) (dct_mono e a)
mutual
/-- it stands where O grows and what is at its addresses stands -/
theorem Ow.keep {K : PySem.W.Frag} {O O' H H' : Hp} (eo : Same O O') : ∀ {v : V} {d : D} {fp : List Addr}, Ow K O H v d fp → (∀ b ∈ fp, ∀ x, H b = some x → H' b = some x) → Ow K O' H' v d fp
  | _, _, _, .dat h n, _ => .dat (dp_mono eo h) n
  | _, _, _, .tup h a, k => .tup (k _ List.mem_cons_self _ h) (OwAll.keep eo a fun b hb => k b (List.mem_cons_of_mem _ hb))
  | _, _, _, .lst h a, k => .lst (k _ List.mem_cons_self _ h) (OwAll.keep eo a fun b hb => k b (List.mem_cons_of_mem _ hb))
  | _, _, _, .dct h a, k => .dct (k _ List.mem_cons_self _ h) (dct_mono eo a)
  | _, _, _, .ins n h1 h2 h3 a, k => .ins n (k _ (by simp) _ h1) (k _ (by simp) _ h2) (k _ (by simp) _ h3) (dct_mono eo a)
theorem OwAll.keep {K : PySem.W.Frag} {O O' H H' : Hp} (eo : Same O O') : ∀ {vs : List V} {ds : List D} {fp : List Addr}, OwAll K O H vs ds fp → (∀ b ∈ fp, ∀ x, H b = some x → H' b = some x) → OwAll K O' H' vs ds fp
  | _, _, _, .nil, _ => .nil
  | _, _, _, .cons h a, k => .cons (Ow.keep eo h fun b hb => k b (List.mem_append_left _ hb)) (OwAll.keep eo a fun b hb => k b (List.mem_append_right _ hb))
end
mutual
theorem Ow.keepS {K : PySem.W.Frag} {O O' H H' : Hp} (eo : Same O O') : ∀ {v : V} {d : D} {fp : List Addr}, Ow K O H v d fp → (∀ b ∈ fp, ∀ x, H b = some x → (∀ ps, x ≠ .tbl ps) → H' b = some x) → Ow K O' H' v d fp
  | _, _, _, .dat h n, _ => .dat (dp_mono eo h) n
  | _, _, _, .tup h a, k => .tup (k _ List.mem_cons_self _ h (by intro _ z; cases z)) (OwAll.keepS eo a fun b hb => k b (List.mem_cons_of_mem _ hb))
  | _, _, _, .lst h a, k => .lst (k _ List.mem_cons_self _ h (by intro _ z; cases z)) (OwAll.keepS eo a fun b hb => k b (List.mem_cons_of_mem _ hb))
  | _, _, _, .dct h a, k => .dct (k _ List.mem_cons_self _ h (by intro _ z; cases z)) (dct_mono eo a)
  | _, _, _, .ins n h1 h2 h3 a, k => .ins n (k _ (by simp) _ h1 (by intro _ z; cases z)) (k _ (by simp) _ h2 (by intro _ z; cases z)) (k _ (by simp) _ h3 (by intro _ z; cases z)) (dct_mono eo a)
theorem OwAll.keepS {K : PySem.W.Frag} {O O' H H' : Hp} (eo : Same O O') : ∀ {vs : List V} {ds : List D} {fp : List Addr}, OwAll K O H vs ds fp → (∀ b ∈ fp, ∀ x, H b = some x → (∀ ps, x ≠ .tbl ps) → H' b = some x) → OwAll K O' H' vs ds fp
  | _, _, _, .nil, _ => .nil
  | _, _, _, .cons h a, k => .cons (Ow.keepS eo h fun b hb => k b (List.mem_append_left _ hb)) (OwAll.keepS eo a fun b hb => k b (List.mem_append_right _ hb))
end
mutual
theorem Ow.there {K : PySem.W.Frag} {O H : Hp} : ∀ {v : V} {d : D} {fp : List Addr}, Ow K O H v d fp → ∀ b ∈ fp, H b ≠ none
  | _, _, _, .dat _ _, _, hb => nomatch hb
  | _, _, _, .tup h a, b, hb => by
    rcases List.mem_cons.mp hb with e | e
    · rw [e, h]; simp
    · exact OwAll.there a b e
  | _, _, _, .lst h a, b, hb => by
    rcases List.mem_cons.mp hb with e | e
    · rw [e, h]; simp
    · exact OwAll.there a b e
  | _, _, _, .dct h _, b, hb => by rw [List.mem_singleton.mp hb, h]; simp
  | _, _, _, .ins _ h1 h2 h3 _, b, hb => by
    simp only [List.mem_cons, List.not_mem_nil, or_false] at hb
    rcases hb with e | e | e
    · rw [e, h1]; simp
    · rw [e, h2]; simp
    · rw [e, h3]; simp
theorem OwAll.there {K : PySem.W.Frag} {O H : Hp} : ∀ {vs : List V} {ds : List D} {fp : List Addr}, OwAll K O H vs ds fp → ∀ b ∈ fp, H b ≠ none
  | _, _, _, .nil, _, hb => nomatch hb
  | _, _, _, .cons h a, b, hb => by
    rcases List.mem_append.mp hb with e | e
    · exact Ow.there h b e
    · exact OwAll.there a b e
end
def Plain (H : Hp) (b : Addr) : Prop := ∃ o, H b = some o ∧ (∀ ps, o ≠ .tbl ps) ∧ ∀ c q, o ≠ LamX.CodeO c q
theorem plain_tup {H : Hp} {b : Addr} {xs : List V} (h : H b = some (.tup xs)) : Plain H b := ⟨_, h, (by intro _ z; cases z), by intro _ _ z; unfold LamX.CodeO at z; cases z⟩
theorem plain_lst {H : Hp} {b : Addr} {xs : List V} (h : H b = some (.lst xs)) : Plain H b := ⟨_, h, (by intro _ z; cases z), by intro _ _ z; unfold LamX.CodeO at z; cases z⟩
theorem plain_dk {H : Hp} {b : Addr} {xs : List (L2.Key × V)} (h : H b = some (.dK xs)) : Plain H b := ⟨_, h, (by intro _ z; cases z), by intro _ _ z; unfold LamX.CodeO at z; cases z⟩
mutual
theorem Ow.kd {K : PySem.W.Frag} {O H : Hp} : ∀ {v : V} {d : D} {fp : List Addr}, Ow K O H v d fp → ∀ b ∈ fp, Plain H b
  | _, _, _, .dat _ _, _, hb => nomatch hb
  | _, _, _, .tup h a, b, hb => by
    rcases List.mem_cons.mp hb with e | e
    · rw [e]; exact plain_tup h
    · exact OwAll.kd a b e
  | _, _, _, .lst h a, b, hb => by
    rcases List.mem_cons.mp hb with e | e
    · rw [e]; exact plain_lst h
    · exact OwAll.kd a b e
  | _, _, _, .dct h _, b, hb => by rw [List.mem_singleton.mp hb]; exact plain_dk h
  | _, _, _, .ins _ h1 h2 h3 _, b, hb => by
    simp only [List.mem_cons, List.not_mem_nil, or_false] at hb
    rcases hb with e | e | e
    · rw [e]; exact ⟨_, h1, (by intro _ z; cases z), by intro _ _ z; unfold LamX.CodeO at z; cases z⟩
    · rw [e]; exact ⟨_, h2, (by intro _ z; cases z), by intro _ _ z; unfold LamX.CodeO at z; cases z⟩
    · rw [e]; exact plain_dk h3
theorem OwAll.kd {K : PySem.W.Frag} {O H : Hp} : ∀ {vs : List V} {ds : List D} {fp : List Addr}, OwAll K O H vs ds fp → ∀ b ∈ fp, Plain H b
  | _, _, _, .nil, _, hb => nomatch hb
  | _, _, _, .cons h a, b, hb => by
    rcases List.mem_append.mp hb with e | e
    · exact Ow.kd h b e
    · exact OwAll.kd a b e
end
theorem Ow.nt {K : PySem.W.Frag} {O H : Hp} {v : V} {d : D} {fp : List Addr} (a : Ow K O H v d fp) : ∀ b ∈ fp, ∀ ps, H b ≠ some (.tbl ps) := fun b hb ps z => by
  obtain ⟨o, h, n, _⟩ := a.kd b hb
  rw [h] at z
  exact n ps (Option.some.inj z)
theorem TOk.nf {K : PySem.W.Frag} {O H : Hp} (t : TOk O H) {v : V} {d : D} {fp : List Addr} (a : Ow K O H v d fp) {p : Addr × Str} (hp : p ∈ tabT) : p.1 ∉ fp := fun z => by
  obtain ⟨ps, h, _⟩ := t.t p hp
  exact a.nt _ z ps h
theorem TOk.na {O H : Hp} (t : TOk O H) {q : Addr} {o : HO} (h : H q = some o) {p : Addr × Str} (hp : p ∈ tabT) (n : ∀ ps, o ≠ .tbl ps := by intro ps h; cases h) : p.1 ≠ q := fun z => by
  obtain ⟨ps, e, _⟩ := t.t p hp
  rw [z, h] at e
  exact n ps (Option.some.inj e)
def plusO (O H : Hp) (fp : List Addr) : Hp := fun b => match O b with
  | some x => some x
  | none => if b ∈ fp then H b else none
theorem plus_same {O H : Hp} {fp : List Addr} : Same O (plusO O H fp) := fun b x e => by unfold plusO; rw [e]
theorem plus_in {O H : Hp} {fp : List Addr} {b : Addr} (h : b ∈ fp) (o : O b = none) : plusO O H fp b = H b := by unfold plusO; rw [o]; exact if_pos h
theorem plus_sub {O H : Hp} {fp : List Addr} (so : Same O H) : Same (plusO O H fp) H := fun b x e => by
  unfold plusO at e
  cases ho : O b with
  | some y => rw [ho] at e; cases e; exact so b _ ho
  | none =>
    rw [ho] at e
    by_cases hb : b ∈ fp
    · rw [show (if b ∈ fp then H b else none) = H b from if_pos hb] at e; exact e
    · rw [show (if b ∈ fp then H b else none) = none from if_neg hb] at e; cases e
theorem plus_out {O H : Hp} {fp : List Addr} {b : Addr} (h : b ∉ fp) (o : O b = none) : plusO O H fp b = none := by unfold plusO; rw [o]; exact if_neg h
mutual
/-- let go -/
theorem Ow.dp {K : PySem.W.Frag} {O H O2 : Hp} (eo : Same O O2) : ∀ {v : V} {d : D} {fp : List Addr}, Ow K O H v d fp → (∀ b ∈ fp, ∀ x, H b = some x → O2 b = some x) → isDct d = false → Dp K O2 v d
  | _, _, _, .dat h _, _, _ => dp_mono eo h
  | _, _, _, .tup h a, k, n => .tup (.inl (.inl (k _ List.mem_cons_self _ h))) (OwAll.dp eo a (fun b hb => k b (List.mem_cons_of_mem _ hb)) (by unfold isDct at n; exact n))
  | _, _, _, .lst h a, k, n => .lst (.inl (.inl (k _ List.mem_cons_self _ h))) (OwAll.dp eo a (fun b hb => k b (List.mem_cons_of_mem _ hb)) (by unfold isDct at n; exact n))
  | _, _, _, .dct _ _, _, n => by unfold isDct at n; cases n
  | _, _, _, .ins _ _ _ _ _, _, n => by unfold insD isDct at n; cases n
theorem OwAll.dp {K : PySem.W.Frag} {O H O2 : Hp} (eo : Same O O2) : ∀ {vs : List V} {ds : List D} {fp : List Addr}, OwAll K O H vs ds fp → (∀ b ∈ fp, ∀ x, H b = some x → O2 b = some x) → isDcts ds = false → DpAll K O2 vs ds
  | _, _, _, .nil, _, _ => .nil
  | _, _, _, .cons h a, k, n => by
    unfold isDcts at n
    rw [Bool.or_eq_false_iff] at n
    exact .cons (Ow.dp eo h (fun b hb => k b (List.mem_append_left _ hb)) n.1) (OwAll.dp eo a (fun b hb => k b (List.mem_append_right _ hb)) n.2)
end
def SRep (K : PySem.W.Frag) (H O' H' : Hp) (v : V) : S → Prop
  | .no => False
  | .adr _ => False
  | .obj w d fp => v = w ∧ Ow K O' H' v d fp ∧ fp.Nodup ∧ ∀ b ∈ fp, H b = none ∧ O' b = none
  | .val d => Dp K O' v d
  | .own ds => ∃ p vs, v = .ref p ∧ H p = none ∧ O' p = none ∧ H' p = some (.lst vs) ∧ DpAll K O' vs ds
theorem SRep.back {K : PySem.W.Frag} {H H1 O' H' : Hp} {v : V} {s : S} (e : Sam H H1) (h : SRep K H1 O' H' v s) : SRep K H O' H' v s := by
  cases s with
  | no => exact h
  | adr _ => exact h
  | val d => exact h
  | own ds => obtain ⟨p, vs, r, n, o, z⟩ := h; exact ⟨p, vs, r, e.free n, o, z⟩
  | obj w d fp => exact ⟨h.1, h.2.1, h.2.2.1, fun b hb => ⟨e.free (h.2.2.2 b hb).1, (h.2.2.2 b hb).2⟩⟩
theorem SRep.fr {K : PySem.W.Frag} {O H O' H' : Hp} {v : V} {s : S} {k : D → Prop} (u : Up O H O' H') (h : SRep K H O' H' v s) (f : s.fr k) : ∃ O2 d, Up O H O2 H' ∧ Dp K O2 v d ∧ k d := by
  cases s with
  | no => exact f.elim
  | adr _ => exact f.elim
  | val d => exact ⟨O', d, u, h, f⟩
  | own ds =>
    obtain ⟨p, vs, rfl, n, o, z, a⟩ := h
    exact ⟨upd O' p (.lst vs), .list ds, u.let n o z, .lst (.of upd_same) (dpAll_mono (same_new o _) a), f⟩
  | obj w d fp =>
    obtain ⟨rfl, a, nd, fr⟩ := h
    exact ⟨plusO O' H' fp, d, ⟨u.o.trans plus_same, u.h, plus_sub u.oh, fun b hb hn => plus_out (fun z => hb (fr b z).1) (u.nn b hb hn)⟩, a.dp plus_same (fun b hb x e => by rw [plus_in hb (fr b hb).2]; exact e) f.1, f.2⟩
def XRep (K : PySem.W.Frag) (mg : Str → Option Value) (O' H' : Hp) (e : Exc) (cls : Value) (d : Option Addr) : Prop :=
  (∃ C, ClsN K e.cls C ∧ cls = .ref C) ∧ match e.arg with
  | none => d = none
  | some (f, u) => ∃ dd v, d = some dd ∧ O' dd = some (.xd [(f, v)]) ∧ Dp K O' v u
structure ObjR (K : PySem.W.Frag) (H0 O H : Hp) (σ : St) (δ : List S) : Prop where
  obj : ∀ i v d fp, lk δ i = .obj v d fp → σ[i]? = some (some v) ∧ Ow K O H v d fp ∧ fp.Nodup ∧ ∀ b ∈ fp, H0 b = none ∧ O b = none
  oo : ∀ i j ds v d fp p, lk δ i = .own ds → lk δ j = .obj v d fp → σ[i]? = some (some (.ref p)) → p ∉ fp
  pp : ∀ i j v d fp w e gp, i ≠ j → lk δ i = .obj v d fp → lk δ j = .obj w e gp → ∀ b ∈ fp, b ∉ gp
theorem ObjR.up {K : PySem.W.Frag} {H0 O H O' H' : Hp} {σ : St} {δ : List S} (r : ObjR K H0 O H σ δ) (u : Up O H O' H') : ObjR K H0 O' H' σ δ :=
  ⟨fun i v d fp h => let ⟨e, a, nd, fr⟩ := r.obj i v d fp h; ⟨e, a.keepS u.o fun b _ x q n => u.h.k b x q n, nd, fun b hb => ⟨(fr b hb).1, u.nn b (a.there b hb) (fr b hb).2⟩⟩, r.oo, r.pp⟩
structure EnvR (K : PySem.W.Frag) (H0 O H : Hp) (σ : St) (δ : List S) : Prop where
  len : σ.length = δ.length
  val : ∀ i d, lk δ i = .val d → ∃ v, σ[i]? = some (some v) ∧ Dp K O v d
  own : ∀ i ds, lk δ i = .own ds → ∃ p vs, σ[i]? = some (some (.ref p)) ∧ H0 p = none ∧ O p = none ∧ H p = some (.lst vs) ∧ DpAll K O vs ds
  inj : ∀ i j ds es, lk δ i = .own ds → lk δ j = .own es → σ[i]? = σ[j]? → i = j
  adr : ∀ i a, lk δ i = .adr a → σ[i]? = some (some (.ref a))
  ob : ObjR K H0 O H σ δ
  tt : TOk O H
theorem EnvR.up {K : PySem.W.Frag} {H0 O H O' H' : Hp} {σ : St} {δ : List S} (r : EnvR K H0 O H σ δ) (u : Up O H O' H') : EnvR K H0 O' H' σ δ where
  len := r.len
  val := fun i d h => let ⟨v, e, q⟩ := r.val i d h; ⟨v, e, dp_mono u.o q⟩
  own := fun i ds h => let ⟨p, vs, e, n, o, z, a⟩ := r.own i ds h; ⟨p, vs, e, n, u.nn p (by rw [z]; simp) o, u.h.at z, dpAll_mono u.o a⟩
  inj := r.inj
  adr := r.adr
  ob := r.ob.up u
  tt := u.tt r.tt
theorem lk_put_same : ∀ {δ : List S} {i : Nat} {s : S}, i < δ.length → lk (put δ i s) i = s
  | [], _, _, h => absurd h (Nat.not_lt_zero _)
  | _ :: _, 0, _, _ => rfl
  | _ :: r, i + 1, _, h => lk_put_same (δ := r) (Nat.lt_of_succ_lt_succ h)
theorem lk_put_ne : ∀ {δ : List S} {i j : Nat} {s : S}, j ≠ i → lk (put δ i s) j = lk δ j
  | [], _, _, _, _ => rfl
  | _ :: _, 0, 0, _, h => absurd rfl h
  | _ :: _, 0, _ + 1, _, _ => rfl
  | _ :: _, _ + 1, 0, _, _ => rfl
  | _ :: r, i + 1, j + 1, _, h => lk_put_ne (δ := r) fun e => h (congrArg _ e)
theorem put_put : ∀ {δ : List S} {i : Nat} {s t : S}, put (put δ i s) i t = put δ i t
  | [], _, _, _ => rfl
  | _ :: _, 0, _, _ => rfl
  | _ :: r, i + 1, _, _ => congrArg (_ :: ·) (put_put (δ := r))
theorem put_length : ∀ {δ : List S} {i : Nat} {s : S}, (put δ i s).length = δ.length
  | [], _, _ => rfl
  | _ :: _, 0, _ => rfl
  | _ :: r, i + 1, _ => congrArg (· + 1) (put_length (δ := r))
theorem lk_out : ∀ {δ : List S} {i : Nat}, δ.length ≤ i → lk δ i = .no
  | [], _, _ => rfl
  | _ :: _, 0, h => absurd h (Nat.not_succ_le_zero _)
  | _ :: r, i + 1, h => lk_out (δ := r) (Nat.le_of_succ_le_succ h)
theorem ObjR.put {K : PySem.W.Frag} {H0 O H : Hp} {σ : St} {δ : List S} (r : ObjR K H0 O H σ δ) (i : Nat) (x : Option V) {s : S} (hs : (∀ v d fp, s ≠ .obj v d fp) ∧ ∀ ds, s ≠ .own ds) : ObjR K H0 O H (σ.set i x) (DL.put δ i s) := by
  have ne : ∀ {j : Nat} {t : S}, lk (DL.put δ i s) j = t → t ≠ s → t ≠ .no → j ≠ i ∧ lk δ j = t := fun {j t} h n n0 => by
    by_cases hj : j = i
    · subst hj
      by_cases hl : j < δ.length
      · rw [lk_put_same hl] at h
        exact absurd h.symm n
      · rw [lk_out (by rw [put_length]; omega)] at h
        exact absurd h.symm n0
    · rw [lk_put_ne hj] at h
      exact ⟨hj, h⟩
  refine ⟨fun j v d fp h => ?_, fun j k ds v d fp p h1 h2 q => ?_, fun j k v d fp w e gp n h1 h2 => ?_⟩
  · obtain ⟨n, h⟩ := ne h (fun e => hs.1 _ _ _ e.symm) (by simp)
    rw [List.getElem?_set_ne (Ne.symm n)]
    exact r.obj j v d fp h
  · obtain ⟨n1, h1⟩ := ne h1 (fun e => hs.2 _ e.symm) (by simp)
    obtain ⟨n2, h2⟩ := ne h2 (fun e => hs.1 _ _ _ e.symm) (by simp)
    rw [List.getElem?_set_ne (Ne.symm n1)] at q
    exact r.oo j k ds v d fp p h1 h2 q
  · obtain ⟨n1, h1⟩ := ne h1 (fun e => hs.1 _ _ _ e.symm) (by simp)
    obtain ⟨n2, h2⟩ := ne h2 (fun e => hs.1 _ _ _ e.symm) (by simp)
    exact r.pp j k v d fp w e gp n h1 h2
theorem ObjR.drop {K : PySem.W.Frag} {H0 O H : Hp} {σ : St} {δ : List S} (r : ObjR K H0 O H σ δ) (i : Nat) : ObjR K H0 O H σ (DL.put δ i .no) := by
  have ne : ∀ {j : Nat} {t : S}, lk (DL.put δ i .no) j = t → t ≠ .no → lk δ j = t := fun {j t} h n0 => by
    by_cases hj : j = i
    · subst hj
      by_cases hl : j < δ.length
      · rw [lk_put_same hl] at h
        exact absurd h.symm n0
      · rw [lk_out (by rw [put_length]; omega)] at h
        exact absurd h.symm n0
    · rw [lk_put_ne hj] at h
      exact h
  exact ⟨fun j v d fp h => r.obj j v d fp (ne h (by simp)), fun j k ds v d fp p h1 h2 q => r.oo j k ds v d fp p (ne h1 (by simp)) (ne h2 (by simp)) q, fun j k v d fp w e gp n h1 h2 => r.pp j k v d fp w e gp n (ne h1 (by simp)) (ne h2 (by simp))⟩
theorem ObjR.grow {K : PySem.W.Frag} {H0 O O' H : Hp} {σ : St} {δ : List S} (r : ObjR K H0 O H σ δ) (so : Same O O') (h : ∀ j v d fp, lk δ j = .obj v d fp → ∀ b ∈ fp, O' b = none) : ObjR K H0 O' H σ δ :=
  ⟨fun i v d fp e => let ⟨q, a, nd, fr⟩ := r.obj i v d fp e; ⟨q, a.keep so fun _ _ _ z => z, nd, fun b hb => ⟨(fr b hb).1, h i v d fp e b hb⟩⟩, r.oo, r.pp⟩
theorem ObjR.setOwn {K : PySem.W.Frag} {H0 O H : Hp} {σ : St} {δ : List S} (r : ObjR K H0 O H σ δ) {i : Nat} {ds es : List D} {p : Addr} (w : HO) (hi : lk δ i = .own ds) (hp : σ[i]? = some (some (.ref p))) : ObjR K H0 O (upd H p w) σ (DL.put δ i (.own es)) := by
  have ne : ∀ {j : Nat} {v : V} {d : D} {fp : List Addr}, lk (DL.put δ i (.own es)) j = .obj v d fp → lk δ j = .obj v d fp := fun {j v d fp} h => by
    by_cases hj : j = i
    · subst hj
      by_cases hl : j < δ.length
      · rw [lk_put_same hl] at h
        cases h
      · rw [lk_out (by rw [put_length]; omega)] at h
        cases h
    · rw [lk_put_ne hj] at h
      exact h
  have ow : ∀ {j : Nat} {fs : List D}, lk (DL.put δ i (.own es)) j = .own fs → ∃ gs, lk δ j = .own gs := fun {j fs} h => by
    by_cases hj : j = i
    · exact ⟨ds, by rw [hj]; exact hi⟩
    · rw [lk_put_ne hj] at h
      exact ⟨fs, h⟩
  refine ⟨fun j v d fp h => ?_, fun j k fs v d fp q h1 h2 e => ?_, fun j k v d fp w e gp n h1 h2 => r.pp j k v d fp w e gp n (ne h1) (ne h2)⟩
  · obtain ⟨q, a, nd, fr⟩ := r.obj j v d fp (ne h)
    refine ⟨q, a.keep (.refl O) fun b hb x z => ?_, nd, fr⟩
    rw [upd_ne (fun y => r.oo i j ds v d fp p hi (ne h) hp (by rw [← y]; exact hb))]
    exact z
  · obtain ⟨gs, hg⟩ := ow h1
    exact r.oo j k gs v d fp q hg (ne h2) e
theorem ObjR.putOwn {K : PySem.W.Frag} {H0 O H : Hp} {σ : St} {δ : List S} (r : ObjR K H0 O H σ δ) (i : Nat) {p : Addr} {es : List D} (new : ∀ j v d fp, j ≠ i → lk δ j = .obj v d fp → p ∉ fp) : ObjR K H0 O H (σ.set i (some (.ref p))) (DL.put δ i (.own es)) := by
  have ne : ∀ {j : Nat} {t : S}, lk (DL.put δ i (.own es)) j = t → t ≠ .own es → t ≠ .no → j ≠ i ∧ lk δ j = t := fun {j t} h n n0 => by
    by_cases hj : j = i
    · subst hj
      by_cases hl : j < δ.length
      · rw [lk_put_same hl] at h
        exact absurd h.symm n
      · rw [lk_out (by rw [put_length]; omega)] at h
        exact absurd h.symm n0
    · rw [lk_put_ne hj] at h
      exact ⟨hj, h⟩
  refine ⟨fun j v d fp h => ?_, fun j k ds v d fp q h1 h2 e => ?_, fun j k v d fp w e gp n h1 h2 => ?_⟩
  · obtain ⟨n, h⟩ := ne h (by simp) (by simp)
    rw [List.getElem?_set_ne (Ne.symm n)]
    exact r.obj j v d fp h
  · obtain ⟨n2, g2⟩ := ne h2 (by simp) (by simp)
    by_cases hj : j = i
    · subst hj
      have hl : j < σ.length := by
        have := (List.getElem?_eq_some_iff.mp e).1
        rwa [List.length_set] at this
      rw [List.getElem?_set_self hl] at e
      cases e
      exact new k v d fp n2 g2
    · rw [lk_put_ne hj] at h1
      rw [List.getElem?_set_ne (Ne.symm hj)] at e
      exact r.oo j k ds v d fp q h1 g2 e
  · obtain ⟨n1, h1⟩ := ne h1 (by simp) (by simp)
    obtain ⟨n2, h2⟩ := ne h2 (by simp) (by simp)
    exact r.pp j k v d fp w e gp n h1 h2
theorem lk_lt {δ : List S} {i : Nat} {s : S} (h : lk δ i = s) (n : s ≠ .no) : i < δ.length := by
  rcases Nat.lt_or_ge i δ.length with z | z
  · exact z
  · exact absurd (h.symm.trans (lk_out z)) n
end DL
namespace DL
variable [HotA]
open PySem L2
def Snd {α β : Type} (K : PySem.W.Frag) (mg : Str → Option Value) (W : WX) (R : Hp → Hp → Hp → α → β → Prop) (te : St → Hp → (α → Hp → Prop) → Prop) (de : XP → List S → (β → Prop) → Prop) : Prop :=
  ∀ (O H H0 : Hp) (σ : St) (δ : List S) (x : XP) (q : β → Prop) (Q : α → Hp → Prop), Same O H → EnvR K H0 O H σ δ →
    (∀ e cls d O' H', Up O H O' H' → XRep K mg O' H' e cls d → x e → W cls d σ H') →
    (∀ a O' H' b, Up O H O' H' → R H O' H' a b → q b → Q a H') → de x δ q → te σ H Q
abbrev RE (K : PySem.W.Frag) : Hp → Hp → Hp → V → S → Prop := fun H O' H' v s => SRep K H O' H' v s
abbrev RP (K : PySem.W.Frag) : Hp → Hp → Hp → V → D → Prop := fun _ O' H' v d => PRep K O' H' v d
abbrev RT : Hp → Hp → Hp → Bool → Bool → Prop := fun _ _ _ a b => a = b
abbrev RA (K : PySem.W.Frag) : Hp → Hp → Hp → List V → List D → Prop := fun _ O' _ vs ds => DpAll K O' vs ds
inductive PAll (K : PySem.W.Frag) (O H : Hp) : List V → List D → Prop
  | nil : PAll K O H [] []
  | cons {v : V} {vs : List V} {d : D} {ds : List D} : PRep K O H v d → PAll K O H vs ds → PAll K O H (v :: vs) (d :: ds)
abbrev RAP (K : PySem.W.Frag) : Hp → Hp → Hp → List V → List D → Prop := fun _ O' H' vs ds => PAll K O' H' vs ds
theorem PAll.up {K : PySem.W.Frag} {O H O' H' : Hp} (u : Up O H O' H') : ∀ {vs : List V} {ds : List D}, PAll K O H vs ds → PAll K O' H' vs ds
  | _, _, .nil => .nil
  | _, _, .cons h a => .cons (h.up u) (PAll.up u a)
theorem PAll.all {K : PySem.W.Frag} {O H : Hp} (e : Same O H) : ∀ {vs : List V} {ds : List D}, PAll K O H vs ds → DpAll K H vs ds
  | _, _, .nil => .nil
  | _, _, .cons h a => .cons (h.all e) (PAll.all e a)
theorem PAll.of {K : PySem.W.Frag} {O H : Hp} (e : Same O H) : ∀ {vs : List V} {ds : List D}, DpAll K O vs ds → PAll K O H vs ds
  | _, _, .nil => .nil
  | _, _, .cons h a => .cons (.of e h) (PAll.of e a)
structure JE (X : Cx) (W : WX) (e : Expr) (de : ES) : Prop where
  ex : ∃ te, PE X e te ∧ Snd X.K X.mg W (RE X.K) te de
structure JP (X : Cx) (W : WX) (e : Expr) (de : EP) : Prop where
  ex : ∃ te, PE X e te ∧ Snd X.K X.mg W (RP X.K) te de
structure JT (X : Cx) (W : WX) (e : Expr) (de : ET) : Prop where
  ex : ∃ te, PT X e te ∧ Snd X.K X.mg W RT te de
structure JW (X : Cx) (W : WX) (e : Expr) (de : ET) : Prop where
  ex : ∃ te, PW X e te ∧ Snd X.K X.mg W RT te de
structure JA (X : Cx) (W : WX) (es : List Expr) (de : EA) : Prop where
  ex : ∃ te, PA X es te ∧ Snd X.K X.mg W (RA X.K) te de
structure JAP (X : Cx) (W : WX) (es : List Expr) (de : EA) : Prop where
  ex : ∃ te, PA X es te ∧ Snd X.K X.mg W (RAP X.K) te de
theorem JW.pt {X : Cx} {W : WX} {e : Expr} {de : ET} (h : JW X W e de) : JT X W e de := let ⟨te, p, s⟩ := h.ex; ⟨te, p.pt, s⟩

section
variable {X : Cx} {W : WX} {a b e : Expr} {es : List Expr} {pos : Pos}
theorem je_var (i : Nat) {x : Str} {p : Pos} (hN : X.N[i]? = some x := by rfl) (hv : Vis X.env.scope x := by first | exact Or.inl rfl | exact Or.inr (Or.inl rfl) | exact Or.inr (Or.inr rfl)) (hd : (x == ("__debug__" : Str)) = false := by decide)
    (hcd : (x == ("__classdict__" : Str)) = false := by decide) : JE X W (.Name x p) (eVar i) := by
  refine ⟨_, pe_var hN hv hd hcd, fun O H H0 σ δ x q Q so env hx hq h => ?_⟩
  unfold eVar S.var at h
  split at h
  · rename_i d hl
    obtain ⟨v, e, r⟩ := env.val i d hl
    exact ⟨v, e, hq v O H (.val d) (.refl so) r h⟩
  all_goals exact h.elim
theorem jp_var (i : Nat) {x : Str} {p : Pos} (hN : X.N[i]? = some x := by rfl) (hv : Vis X.env.scope x := by first | exact Or.inl rfl | exact Or.inr (Or.inl rfl) | exact Or.inr (Or.inr rfl)) (hd : (x == ("__debug__" : Str)) = false := by decide)
    (hcd : (x == ("__classdict__" : Str)) = false := by decide) : JP X W (.Name x p) (pVar i) := by
  refine ⟨_, pe_var hN hv hd hcd, fun O H H0 σ δ x q Q so env hx hq h => ?_⟩
  unfold pVar S.pk at h
  split at h
  · rename_i d hl
    obtain ⟨v, e, r⟩ := env.val i d hl
    exact ⟨v, e, hq v O H d (.refl so) (.of so r) h⟩
  · rename_i ds hl
    obtain ⟨p, vs, e, _, _, z, r⟩ := env.own i ds hl
    exact ⟨.ref p, e, hq _ O H (.list ds) (.refl so) ⟨p, vs, rfl, .of z, r⟩ h⟩
  all_goals exact h.elim
theorem jp_of {de : ES} (h : JE X W e de) : JP X W e (pE de) := by
  obtain ⟨te, p, s⟩ := h.ex
  refine ⟨te, p, fun O H H0 σ δ x q Q so env hx hq h => s O H H0 σ δ x _ Q so env hx (fun v O' H' s u r f => ?_) h⟩
  obtain ⟨O2, d, u2, r2, k⟩ := r.fr u f
  exact hq v O2 H' d u2 (.of u2.oh r2) k
theorem je_int {i j pos} : JE X W (.Constant (.int i) j pos) (eC (.int i)) := ⟨_, pe_int, fun O H _ _ _ _ _ _ so _ _ hq h => hq (.int i) O H (.val (.int i)) (.refl so) (.int i) h⟩
theorem je_bl {i j pos} : JE X W (.Constant (.bool i) j pos) (eC (.bool i)) := ⟨_, pe_bl, fun O H _ _ _ _ _ _ so _ _ hq h => hq (.bl i) O H (.val (.bool i)) (.refl so) (.bl i) h⟩
theorem je_non {j pos} : JE X W (.Constant .none j pos) (eC .none) := ⟨_, pe_non, fun O H _ _ _ _ _ _ so _ _ hq h => hq .non O H (.val .none) (.refl so) .non h⟩
theorem je_str {i j pos} : JE X W (.Constant (.str i) j pos) (eC (.str i)) := ⟨_, pe_str, fun O H _ _ _ _ _ _ so _ _ hq h => hq (.str i) O H (.val (.str i)) (.refl so) (.str i) h⟩
def OpS (X : Cx) (f : Value → Value → Sem Value) (rd : R2D) : Prop := ∃ r, OpR X f r ∧ ∀ (O H : Hp) (v w : V) (c d : D) (q : S → Prop) (Q : VK), Same O H → PRep X.K O H v c → PRep X.K O H w d →
  (∀ u O' H' s, Up O H O' H' → SRep X.K H O' H' u s → q s → Q u H') → rd c d q → r v w H Q
theorem snd_two {K : PySem.W.Frag} {mg : Str → Option Value} {ta tb : TE} {da db : EP} (sa : Snd K mg W (RP K) ta da) (sb : Snd K mg W (RP K) tb db) {β γ : Type} {R : Hp → Hp → Hp → β → γ → Prop} {r : V → V → Hp → (β → Hp → Prop) → Prop} {rd : D → D → (γ → Prop) → Prop}
    (hb : ∀ H H1 O' H' a b, Sam H H1 → R H1 O' H' a b → R H O' H' a b)
    (h : ∀ (O H : Hp) (v w : V) (c d : D) (q : γ → Prop) (Q : β → Hp → Prop), Same O H → PRep K O H v c → PRep K O H w d → (∀ u O' H' s, Up O H O' H' → R H O' H' u s → q s → Q u H') → rd c d q → r v w H Q) :
    Snd K mg W R (fun σ H Q => ta σ H fun x H1 => tb σ H1 fun y H2 => r x y H2 Q) (fun x δ q => da x δ fun c => db x δ fun d => rd c d q) := by
  intro O H H0 σ δ x q Q so env hx hq g
  refine sa O H H0 σ δ x _ _ so env hx (fun v O1 H1 c u1 r1 g1 => ?_) g
  refine sb O1 H1 H0 σ δ x _ _ u1.oh (env.up u1) (fun e cls d O' H' u' => hx e cls d O' H' (u1.trans u')) (fun w O2 H2 d u2 r2 g2 => ?_) g1
  exact h O2 H2 v w c d q Q u2.oh (r1.up u2) r2 (fun u O3 H3 s u3 r3 => hq u O3 H3 s ((u1.trans u2).trans u3) (hb _ _ _ _ _ _ (u1.trans u2).h r3)) g2
theorem je_bin {op : Operator} {rd : R2D} {da db : EP} (ho : OpS X (binaryOp op) rd) (ha : JP X W a da) (hb : JP X W b db) : JE X W (.BinOp a op b pos) (eOp rd da db) := by
  obtain ⟨r, hr, hs⟩ := ho
  obtain ⟨ta, pa, sa⟩ := ha.ex
  obtain ⟨tb, pb, sb⟩ := hb.ex
  exact ⟨_, pe_op hr pa pb, snd_two sa sb (R := RE X.K) (r := r) (fun _ _ _ _ _ _ e => SRep.back e) hs⟩
theorem je_cmp {op : CmpOp} {rd : R2D} {da db : EP} (ho : OpS X (compareOp op) rd) (ha : JP X W a da) (hb : JP X W b db) (hm : behindInMarks op b = false) : JE X W (.Compare a [op] [b] pos) (eOp rd da db) := by
  obtain ⟨r, hr, hs⟩ := ho
  obtain ⟨ta, pa, sa⟩ := ha.ex
  obtain ⟨tb, pb, sb⟩ := hb.ex
  exact ⟨_, pe_cmpR hr pa pb hm, snd_two sa sb (R := RE X.K) (r := r) (fun _ _ _ _ _ _ e => SRep.back e) hs⟩
theorem snd_test {K : PySem.W.Frag} {mg : Str → Option Value} {te : TE} {de : ES} (s : Snd K mg W (RE K) te de) : Snd K mg W RT (fun σ H Q => te σ H fun x H' => ∃ k, x = .bl k ∧ Q k H') (tV de) := by
  intro O H H0 σ δ x q Q so env hx hq g
  refine s O H H0 σ δ x _ _ so env hx (fun v O1 H1 c u1 r1 g1 => ?_) g
  cases c with
  | no => exact g1.elim
  | adr _ => exact g1.elim
  | obj _ _ _ => exact g1.elim
  | own ds => exact g1.elim
  | val d =>
    cases d with
    | bool k =>
      cases r1
      exact ⟨k, rfl, hq k O1 H1 k u1 rfl g1⟩
    | none => exact g1.elim
    | int _ => exact g1.elim
    | str _ => exact g1.elim
    | list _ => exact g1.elim
    | tuple _ => exact g1.elim
    | dict _ => exact g1.elim
theorem jt_cmp {op : CmpOp} {rd : R2D} {da db : EP} (ho : OpS X (compareOp op) rd) (ha : JP X W a da) (hb : JP X W b db) (hm : behindInMarks op b = false) : JT X W (.Compare a [op] [b] pos) (tV (eOp rd da db)) := by
  obtain ⟨r, hr, hs⟩ := ho
  obtain ⟨ta, pa, sa⟩ := ha.ex
  obtain ⟨tb, pb, sb⟩ := hb.ex
  exact ⟨_, pt_cmpR hr pa pb hm, snd_test (snd_two sa sb (R := RE X.K) (r := r) (fun _ _ _ _ _ _ e => SRep.back e) hs)⟩
theorem jt_val {de : ES} (h : JE X W e de) (he : ∀ whole, isTrue e X.env whole = (do let v ← whole; standAt e.pos; holding [v] (truthy v)) := by intro _; rfl) : JT X W e (tV de) := by
  obtain ⟨te, p, s⟩ := h.ex
  exact ⟨_, pt_val p he, snd_test s⟩
theorem snd_and {K : PySem.W.Frag} {mg : Str → Option Value} {t u : TT} {dt du : ET} (s : Snd K mg W RT t dt) (s2 : Snd K mg W RT u du) : Snd K mg W RT (L2.tAnd t u) (tAnd dt du) := by
  intro O H H0 σ δ x q Q so env hx hq g
  refine s O H H0 σ δ x _ _ so env hx (fun v O1 H1 c u1 r1 g1 => ?_) g
  have r1 : v = c := r1
  subst r1
  cases v with
  | true => exact s2 O1 H1 H0 σ δ x q Q u1.oh (env.up u1) (fun e cls d O' H' u' => hx e cls d O' H' (u1.trans u')) (fun k O2 H2 k' u2 r2 => hq k O2 H2 k' (u1.trans u2) r2) g1
  | false => exact hq false O1 H1 false u1 rfl g1
theorem snd_or {K : PySem.W.Frag} {mg : Str → Option Value} {t u : TT} {dt du : ET} (s : Snd K mg W RT t dt) (s2 : Snd K mg W RT u du) : Snd K mg W RT (L2.tOr t u) (tOr dt du) := by
  intro O H H0 σ δ x q Q so env hx hq g
  refine s O H H0 σ δ x _ _ so env hx (fun v O1 H1 c u1 r1 g1 => ?_) g
  have r1 : v = c := r1
  subst r1
  cases v with
  | false => exact s2 O1 H1 H0 σ δ x q Q u1.oh (env.up u1) (fun e cls d O' H' u' => hx e cls d O' H' (u1.trans u')) (fun k O2 H2 k' u2 r2 => hq k O2 H2 k' (u1.trans u2) r2) g1
  | true => exact hq true O1 H1 true u1 rfl g1
theorem jw_and1 {t : ET} (h : JT X W a t) : JW X W (.BoolOp .And [a] pos) t := let ⟨te, p, s⟩ := h.ex; ⟨te, pw_and1 p, s⟩
theorem jw_or1 {t : ET} (h : JT X W a t) : JW X W (.BoolOp .Or [a] pos) t := let ⟨te, p, s⟩ := h.ex; ⟨te, pw_or1 p, s⟩
theorem jw_and {t u : ET} (h : JT X W a t) (h2 : JW X W (.BoolOp .And (b :: es) pos) u) : JW X W (.BoolOp .And (a :: b :: es) pos) (tAnd t u) := by
  obtain ⟨te, p, s⟩ := h.ex
  obtain ⟨tf, p2, s2⟩ := h2.ex
  exact ⟨_, pw_and p p2, snd_and s s2⟩
theorem jw_or {t u : ET} (h : JT X W a t) (h2 : JW X W (.BoolOp .Or (b :: es) pos) u) : JW X W (.BoolOp .Or (a :: b :: es) pos) (tOr t u) := by
  obtain ⟨te, p, s⟩ := h.ex
  obtain ⟨tf, p2, s2⟩ := h2.ex
  exact ⟨_, pw_or p p2, snd_or s s2⟩
theorem jt_not {t : ET} (h : JT X W a t) : JT X W (.UnaryOp .Not a pos) (tNot t) := by
  obtain ⟨te, p, s⟩ := h.ex
  refine ⟨_, pt_not p, fun O H H0 σ δ x q Q so env hx hq g => ?_⟩
  refine s O H H0 σ δ x _ _ so env hx (fun v O1 H1 c u1 r1 g1 => ?_) g
  have r1 : v = c := r1
  subst r1
  exact hq (!v) O1 H1 (!v) u1 rfl g1
theorem je_one {op} {de : ES} (h : JE X W a de) : JE X W (.BoolOp op [a] pos) de := let ⟨te, p, s⟩ := h.ex; ⟨te, pe_one p, s⟩
theorem je_and {da db : ES} (ha : JE X W a da) (hb : JE X W (.BoolOp .And (b :: es) pos) db) : JE X W (.BoolOp .And (a :: b :: es) pos) (eAnd da db) := by
  obtain ⟨te, p, s⟩ := ha.ex
  obtain ⟨tf, p2, s2⟩ := hb.ex
  refine ⟨_, pe_and p p2, fun O H H0 σ δ x q Q so env hx hq g => ?_⟩
  refine s O H H0 σ δ x _ _ so env hx (fun v O1 H1 c u1 r1 g1 => ?_) g
  unfold S.bl at g1
  split at g1
  · rename_i k
    cases r1
    refine ⟨k, rfl, ?_⟩
    cases k with
    | true => exact s2 O1 H1 H0 σ δ x q Q u1.oh (env.up u1) (fun e cls d O' H' u' => hx e cls d O' H' (u1.trans u')) (fun v2 O2 H2 k' u2 r2 => hq v2 O2 H2 k' (u1.trans u2) (r2.back u1.h)) g1
    | false => exact hq _ O1 H1 (.val (.bool false)) u1 (.bl false) g1
  · exact g1.elim
theorem je_not {da : ES} (ha : JE X W a da) : JE X W (.UnaryOp .Not a pos) (eNot da) := by
  obtain ⟨te, p, s⟩ := ha.ex
  refine ⟨_, pe_not p, fun O H H0 σ δ x q Q so env hx hq g => ?_⟩
  refine s O H H0 σ δ x _ _ so env hx (fun v O1 H1 c u1 r1 g1 => ?_) g
  unfold S.bl at g1
  split at g1
  · rename_i k
    cases r1
    exact ⟨k, rfl, hq _ O1 H1 (.val (.bool (!k))) u1 (.bl (!k)) g1⟩
  · exact g1.elim
theorem ja_nil : JA X W [] aNil := ⟨_, pa_nil, fun O H _ _ _ _ _ _ so _ _ hq h => hq [] O H [] (.refl so) .nil h⟩
theorem jap_nil : JAP X W [] apNil := ⟨_, pa_nil, fun O H _ _ _ _ _ _ so _ _ hq h => hq [] O H [] (.refl so) .nil h⟩
theorem ja_cons {de : ES} {da : EA} (h : JE X W e de) (hr : JA X W es da) (hs : starEach (e :: es) X.env = (false, eval e X.env) :: starEach es X.env := by rfl) : JA X W (e :: es) (aCons de da) := by
  obtain ⟨te, p, s⟩ := h.ex
  obtain ⟨tr, p2, s2⟩ := hr.ex
  refine ⟨_, pa_cons p p2 hs, fun O H H0 σ δ x q Q so env hx hq g => ?_⟩
  refine s O H H0 σ δ x _ _ so env hx (fun v O1 H1 c u1 r1 g1 => ?_) g
  obtain ⟨O2, d, u2, r2, k⟩ := r1.fr u1 g1
  exact s2 O2 H1 H0 σ δ x _ _ u2.oh (env.up u2) (fun e cls d O' H' u' => hx e cls d O' H' (u2.trans u')) (fun vs O3 H3 ds u3 r3 g3 => hq _ O3 H3 _ (u2.trans u3) (.cons (dp_mono u3.o r2) r3) g3) k
theorem jap_cons {de : EP} {da : EA} (h : JP X W e de) (hr : JAP X W es da) (hs : starEach (e :: es) X.env = (false, eval e X.env) :: starEach es X.env := by rfl) : JAP X W (e :: es) (apCons de da) := by
  obtain ⟨te, p, s⟩ := h.ex
  obtain ⟨tr, p2, s2⟩ := hr.ex
  refine ⟨_, pa_cons p p2 hs, fun O H H0 σ δ x q Q so env hx hq g => ?_⟩
  refine s O H H0 σ δ x _ _ so env hx (fun v O1 H1 c u1 r1 g1 => ?_) g
  exact s2 O1 H1 H0 σ δ x _ _ u1.oh (env.up u1) (fun e cls d O' H' u' => hx e cls d O' H' (u1.trans u')) (fun vs O3 H3 ds u3 r3 g3 => hq _ O3 H3 _ (u1.trans u3) (.cons (r1.up u3) r3) g3) g1
theorem je_tup {x1} {da : EA} (h : JA X W es da) : JE X W (.Tuple es x1 pos) (eTup da) := by
  obtain ⟨te, p, s⟩ := h.ex
  refine ⟨_, pe_tup p, fun O H H0 σ δ x q Q so env hx hq g => ?_⟩
  refine s O H H0 σ δ x _ _ so env hx (fun vs O1 H1 ds u1 r1 g1 => ?_) g
  have r1 : DpAll X.K O1 vs ds := r1
  refine ⟨by rw [dpl_length r1]; exact g1.1, fun p hp => ?_⟩
  have u2 := Up.new u1.oh hp (.tup vs)
  exact hq _ _ _ (.val (.tuple ds)) (u1.trans u2) (.tup (.of upd_same) (dpAll_mono u2.o r1)) g1.2
theorem je_lst {da : EA} (h : JA X W es da) : JE X W (.List es pos) (eLst da) := by
  obtain ⟨te, p, s⟩ := h.ex
  refine ⟨_, pe_lst p, fun O H H0 σ δ x q Q so env hx hq g => ?_⟩
  refine s O H H0 σ δ x _ _ so env hx (fun vs O1 H1 ds u1 r1 g1 => ?_) g
  have r1 : DpAll X.K O1 vs ds := r1
  refine ⟨by rw [dpl_length r1]; exact g1.1, fun p hp => ?_⟩
  have u2 := Up.own u1.oh hp (.lst vs)
  exact hq _ _ _ (.own ds) (u1.trans u2) ⟨p, vs, rfl, u1.h.free hp, u1.oh.free hp, upd_same, r1⟩ g1.2

def spD (K : PySem.W.Frag) (mg : Str → Option Value) (p : DSp) : Sp := fun vs H Q E => ∃ O ds x q, Same O H ∧ TOk O H ∧ DpAll K O vs ds ∧ p ds x q ∧
  (∀ v O' H' s, Up O H O' H' → SRep K H O' H' v s → q s → Q v H') ∧ ∀ e cls d O' H', Up O H O' H' → XRep K mg O' H' e cls d → x e → E cls d H'
variable {k : Nat} {f : Addr} {fd : FuncData} {ps : List Str} {p : DSp} {x : Str} {p1 : Pos}
theorem je_call {da : EA} (F : FnOk X.prog X.w X.K X.mg X.base (L2N.CX X.prog X.w) k f fd ps (spD X.K X.mg p)) (hr : Room k X.A) (tk : L2N.Takes X W) (hm : X.mg x = some (.ref f)) (hk : PySem.W.keepIn X.K (.ref f) = true) (hb : Binds X.K fd ps [])
    (ha : JA X W (e :: es) da) (hg : Gl X x := by rfl) (hdb : (x == ("__debug__" : Str)) = false := by decide) (he : starEach (e :: es) X.env = (false, eval e X.env) :: starEach es X.env := by rfl) (hpl : (backTo pos (starEach es X.env)).any (·.1) = false := by rfl) :
    JE X W (.Call (.Name x p1) (e :: es) [] pos) (eCall p da) := by
  obtain ⟨ta, pa, sa⟩ := ha.ex
  refine ⟨_, pe_callS F hr hg hm hk hb (fun σ => L2N.passAt tk σ) pa hdb he hpl, fun O H H0 σ δ x q Q so env hx hq g => ?_⟩
  refine sa O H H0 σ δ x _ _ so env hx (fun vs O1 H1 ds u1 r1 g1 => ?_) g
  exact ⟨O1, ds, x, q, u1.oh, u1.tt env.tt, r1, g1, fun v O' H' s u r z => hq v O' H' s (u1.trans u) (r.back u1.h) z, fun e cls d O' H' u r z => hx e cls d O' H' (u1.trans u) r z⟩
def CallS (X : Cx) (f : Value) (rd : RD) : Prop := ∃ r, CallR X f r ∧ ∀ (O H : Hp) (vs : List V) (ds : List D) (q : S → Prop) (Q : VK), Same O H → PAll X.K O H vs ds →
  (∀ u O' H' s, Up O H O' H' → SRep X.K H O' H' u s → q s → Q u H') → rd ds q → r vs H Q
theorem snd_call {K : PySem.W.Frag} {mg : Str → Option Value} {ta : TA} {da : EA} {r : List V → Hp → VK → Prop} {rd : RD} (sa : Snd K mg W (RAP K) ta da)
    (h : ∀ (O H : Hp) (vs : List V) (ds : List D) (q : S → Prop) (Q : VK), Same O H → PAll K O H vs ds → (∀ u O' H' s, Up O H O' H' → SRep K H O' H' u s → q s → Q u H') → rd ds q → r vs H Q) : Snd K mg W (RE K) (tCB r ta) (eB rd da) := by
  intro O H H0 σ δ x q Q so env hx hq g
  refine sa O H H0 σ δ x _ _ so env hx (fun vs O1 H1 ds u1 r1 g1 => ?_) g
  exact h O1 H1 vs ds q Q u1.oh r1 (fun u O' H' s u2 r2 => hq u O' H' s (u1.trans u2) (r2.back u1.h)) g1
theorem je_callB {id : String} {rd : RD} {da : EA} (hc : CallS X (.builtin id) rd) (hm : X.mg x = none) (hv : bootBuiltins x = some (.builtin id)) (ha : JAP X W (e :: es) da) (hg : Gl X x := by rfl) (hn : x ≠ "__name__" := by decide) (hdb : (x == ("__debug__" : Str)) = false := by decide)
    (he : starEach (e :: es) X.env = (false, eval e X.env) :: starEach es X.env := by rfl) (hpl : (backTo pos (starEach es X.env)).any (·.1) = false := by rfl) : JE X W (.Call (.Name x p1) (e :: es) [] pos) (eB rd da) := by
  obtain ⟨r, hr, hs⟩ := hc
  obtain ⟨ta, pa, sa⟩ := ha.ex
  exact ⟨_, pe_callB hr hg hm hv pa hn hdb he hpl, snd_call sa hs⟩
theorem je_callTy {T : String} {rd : RD} {da : EA} (hc : CallS X (.type T) rd) (hm : X.mg x = none) (hv : bootBuiltins x = some (.type T)) (ha : JAP X W (e :: es) da) (hg : Gl X x := by rfl) (hn : x ≠ "__name__" := by decide) (hdb : (x == ("__debug__" : Str)) = false := by decide)
    (he : starEach (e :: es) X.env = (false, eval e X.env) :: starEach es X.env := by rfl) (hpl : (backTo pos (starEach es X.env)).any (·.1) = false := by rfl) : JE X W (.Call (.Name x p1) (e :: es) [] pos) (eB rd da) := by
  obtain ⟨r, hr, hs⟩ := hc
  obtain ⟨ta, pa, sa⟩ := ha.ex
  exact ⟨_, pe_callTy hr hg hm hv pa hn hdb he hpl, snd_call sa hs⟩
end
end DL
namespace DL
variable [HotA]
open PySem L2 PyProof.Rows
def rAddD : R2D
  | .int i, .int j, q => q (.val (.int (i + j)))
  | .list xs, .list ys, q => xs.length + ys.length ≤ sizeLine ∧ q (.own (xs ++ ys))
  | .str x, .str y, q => x.length + y.length ≤ sizeLine ∧ q (.val (.str (x ++ y)))
  | .tuple xs, .tuple ys, q => (xs ≠ [] ∧ ys ≠ []) ∧ xs.length + ys.length ≤ sizeLine ∧ q (.val (.tuple (xs ++ ys)))
  | _, _, _ => False
def rIntD (C : Int → Int → Prop) (g : Int → Int → D) : R2D
  | .int i, .int j, q => C i j ∧ q (.val (g i j))
  | _, _, _ => False
def rInt0D (g : Int → Int → D) : R2D
  | .int i, .int j, q => q (.val (g i j))
  | _, _, _ => False
def DivOk (j : Int) : Prop := j ≠ 0 ∧ j.natAbs.log2 < 9000
abbrev rSubD : R2D := rInt0D fun i j => .int (i - j)
abbrev rMulD : R2D := rIntD IntMulOk fun i j => .int (i * j)
abbrev rFdivD : R2D := rIntD (fun _ j => DivOk j) fun i j => .int (i.fdiv j)
abbrev rModD : R2D := rIntD (fun _ j => j ≠ 0) fun i j => .int (i.fmod j)
abbrev rLtD : R2D := rInt0D fun i j => .bool (decide (i < j))
abbrev rGtD : R2D := rInt0D fun i j => .bool (decide (j < i))
def shapedB (d : D) : Bool := SeqAt.shaped d
theorem shapedB_2 {d : D} (h : shapedB d = true) : PyData.canLay0 d = true := by
  unfold shapedB SeqAt.shaped at h
  rw [Bool.and_eq_true] at h
  exact h.1
def rEqD : R2D
  | .int i, .int j, q => q (.val (.bool (decide (i = j))))
  | .str x, .str y, q => q (.val (.bool (decide (x = y))))
  | c, d, q => shapedB c = true ∧ shapedB d = true ∧ q (.val (.bool (PyData.eqv c d)))
def rNeD : R2D
  | .int i, .int j, q => q (.val (.bool (!decide (i = j))))
  | .str x, .str y, q => q (.val (.bool (!decide (x = y))))
  | c, d, q => shapedB c = true ∧ shapedB d = true ∧ q (.val (.bool (!PyData.eqv c d)))
def isNon : D → Bool
  | .none => true
  | _ => false
def rIsND : R2D
  | c, .none, q => q (.val (.bool (isNon c)))
  | _, _, _ => False
def optK {α : Type} : Option α → (α → Prop) → Prop
  | some a, k => k a
  | none, _ => False
def rIxD : R2D
  | .list xs, .int i, q => optK (atI xs i) fun v => q (.val v)
  | .tuple xs, .int i, q => optK (atI xs i) fun v => q (.val v)
  | .str z, .int i, q => z.length ≤ sizeLine ∧ optK (atI z.cps.toList i) fun c => q (.val (.str ⟨#[c]⟩))
  | _, _, _ => False
section
variable {X : Cx} {W : WX}
theorem ops_int {f : Value → Value → Sem Value} {C : Int → Int → Prop} {g : Int → Int → V} {gd : Int → Int → D} (h : OpR X f (rI C g)) (hg : ∀ K O i j, Dp K O (g i j) (gd i j)) : OpS X f (rIntD C gd) := by
  refine ⟨_, h, fun O H v w c d q Q so rc rd hq g1 => ?_⟩
  unfold rIntD at g1
  split at g1
  · rename_i i j
    cases rc
    cases rd
    exact ⟨i, j, rfl, rfl, g1.1, hq _ O H (.val (gd i j)) (.refl so) (hg _ _ _ _) g1.2⟩
  · exact g1.elim
theorem ops_int0 {f : Value → Value → Sem Value} {g : Int → Int → V} {gd : Int → Int → D} (h : OpR X f (rI0 g)) (hg : ∀ K O i j, Dp K O (g i j) (gd i j)) : OpS X f (rInt0D gd) := by
  refine ⟨_, h, fun O H v w c d q Q so rc rd hq g1 => ?_⟩
  unfold rInt0D at g1
  split at g1
  · rename_i i j
    cases rc
    cases rd
    exact ⟨i, j, rfl, rfl, hq _ O H (.val (gd i j)) (.refl so) (hg _ _ _ _) g1⟩
  · exact g1.elim
theorem os_sub : OpS X (binaryOp .Sub) rSubD := ops_int0 op_sub fun _ _ _ _ => .int _
theorem os_mul : OpS X (binaryOp .Mult) rMulD := ops_int (C := IntMulOk) (g := fun i j => .int (i * j)) (opI fun _ _ _ _ _ _ _ hc q => mul_int q hc) fun _ _ _ _ => .int _
theorem os_fdiv : OpS X (binaryOp .FloorDiv) rFdivD := ops_int (C := fun _ j => DivOk j) (g := fun i j => .int (i.fdiv j)) (opI fun _ _ _ _ _ _ _ hc q => floordiv_int hc.1 q (.inl (PyProof.noPylong_of_log2 hc.2))) fun _ _ _ _ => .int _
theorem os_mod : OpS X (binaryOp .Mod) rModD := ops_int op_modN fun _ _ _ _ => .int _
theorem os_lt : OpS X (compareOp .Lt) rLtD := ops_int0 op_lt fun _ _ _ _ => .bl _
theorem os_gt : OpS X (compareOp .Gt) rGtD := ops_int0 op_gt fun _ _ _ _ => .bl _
def rJoinL (K : PySem.W.Frag) : R2 := fun x y H Q => ∃ l b xs zs, x = .ref l ∧ y = .ref b ∧ (SqL K H l xs ∧ SqL K H b zs) ∧ xs.length + zs.length ≤ sizeLine ∧ ∀ p, H p = none → Q (.ref p) (upd H p (.lst (xs ++ zs)))
theorem op_joinL : OpR X (binaryOp .Add) (rJoinL X.K) := fun pins s σ H x y v u Q I rx ry h => by
  obtain ⟨l, b, xs, zs, e1, e2, ⟨ql, qb⟩, hlen, q⟩ := h
  subst e1
  subst e2
  cases rx
  cases ry
  obtain ⟨i1, r1, ⟨⟨c1, d1, t1, k1⟩, n1, g1, f1, _, w1⟩, _⟩ := I.list ql
  obtain ⟨i2, r2, ⟨⟨c2, d2, t2, k2⟩, n2, g2, f2, _, w2⟩, _⟩ := I.list qb
  dsimp only at f1 w1 f2 w2
  subst f1 w1 f2 w2
  have l1 := r1.length
  have l2 := r2.length
  refine concat_meets ⟨_, g1, rfl⟩ ⟨_, g2, rfl⟩ noFill_list_add seq_list_add PySem.F.slot_list_add PySem.F.entry_list_add (PySem.F.args_list_add_2 _ _)
    (list_addW l b i1.toArray i2.toArray n1 n2 d1 d2 k1 k2 (by rw [List.size_toArray, List.size_toArray]; omega)) ⟨g1, g2, ?_⟩
  have ej : i1.toArray ++ i2.toArray = (i1 ++ i2).toArray := by simp
  rw [ej]
  exact ⟨.ref _, upd H s.heap.objs.size (.lst (xs ++ zs)), I.lnew (t' := s.toks) (r1.append r2) (by rw [List.length_append]; exact hlen), rfl, q _ I.fresh⟩
theorem os_add : OpS X (binaryOp .Add) rAddD := by
  refine ⟨_, op_add.or (op_add_str.or (op_catT.or op_joinL)), fun O H v w c d q Q so rc rd hq g1 => ?_⟩
  unfold rAddD at g1
  split at g1
  · rename_i i j
    cases rc
    cases rd
    exact .inl ⟨i, j, rfl, rfl, hq _ O H (.val (.int (i + j))) (.refl so) (.int _) g1⟩
  · rename_i xs ys
    obtain ⟨a, vs, rfl, qa, za⟩ := rc
    obtain ⟨b, ws, rfl, qb, zb⟩ := rd
    refine .inr (.inr (.inr ⟨a, b, vs, ws, rfl, rfl, ⟨qa, qb⟩, by rw [dpl_length za, dpl_length zb]; exact g1.1, fun p hp => ?_⟩))
    exact hq _ O _ (.own (xs ++ ys)) (Up.own so hp _) ⟨p, _, rfl, hp, so.free hp, upd_same, dpl_append za zb⟩ g1.2
  · rename_i x y
    cases rc
    cases rd
    exact .inr (.inl ⟨x, y, rfl, rfl, g1.1, hq _ O H (.val (.str (x ++ y))) (.refl so) (.str _) g1.2⟩)
  · rename_i xs ys
    obtain ⟨a, vs, rfl, qa, za⟩ := rc
    obtain ⟨b, ws, rfl, qb, zb⟩ := rd
    obtain ⟨n1, n2, n3⟩ := g1
    have hl := dpl_length za
    have hl2 := dpl_length zb
    have e2 : ws ≠ [] := fun z => n1.2 (List.length_eq_zero_iff.mp (by rw [← hl2, z]; rfl))
    refine .inr (.inr (.inl ⟨a, b, vs, ws, rfl, rfl, qa, qb, fun z => n1.1 (List.length_eq_zero_iff.mp (by rw [← hl, z]; rfl)), by rw [hl, hl2]; exact n2, fun z => absurd z e2, fun _ p hp => ?_⟩))
    have u2 := Up.new so hp (.tup (vs ++ ws))
    exact hq _ _ _ (.val (.tuple (xs ++ ys))) u2 (.tup (.of upd_same) (dpAll_mono u2.o (dpl_append za zb))) n3
  · exact g1.elim
end
end DL
namespace DL
variable [HotA]
open PySem L2 PyProof.Rows
section
variable {X : Cx} {W : WX}
theorem os_eq (hu : X.A.units + 64 < cLine) : OpS X (compareOp .Eq) rEqD := by
  refine ⟨_, op_eq.or (op_eqD hu), fun O H v w c d q Q so rc rd hq g1 => ?_⟩
  unfold rEqD at g1
  split at g1
  · rename_i i j
    cases rc
    cases rd
    exact .inl ⟨rfl, hq _ O H (.val (.bool (decide (i = j)))) (.refl so) (by rw [dec_int, ← Bool.beq_eq_decide_eq]; exact .bl _) g1⟩
  · rename_i x y
    cases rc
    cases rd
    exact .inl ⟨rfl, hq _ O H (.val (.bool (decide (x = y)))) (.refl so) (by rw [dec_str, ← Bool.beq_eq_decide_eq]; exact .bl _) g1⟩
  · exact .inr ⟨c, d, (rc.all so).l2 (shapedB_2 g1.1), (rd.all so).l2 (shapedB_2 g1.2.1), g1.1, g1.2.1, hq _ O H (.val (.bool _)) (.refl so) (.bl _) g1.2.2⟩
theorem os_ne (hu : X.A.units + 64 < cLine) : OpS X (compareOp .NotEq) rNeD := by
  refine ⟨_, op_ne.or (op_neD hu), fun O H v w c d q Q so rc rd hq g1 => ?_⟩
  unfold rNeD at g1
  split at g1
  · rename_i i j
    cases rc
    cases rd
    exact .inl ⟨rfl, hq _ O H (.val (.bool (!decide (i = j)))) (.refl so) (by rw [dec_int, ← Bool.beq_eq_decide_eq]; exact .bl _) g1⟩
  · rename_i x y
    cases rc
    cases rd
    exact .inl ⟨rfl, hq _ O H (.val (.bool (!decide (x = y)))) (.refl so) (by rw [dec_str, ← Bool.beq_eq_decide_eq]; exact .bl _) g1⟩
  · exact .inr ⟨c, d, (rc.all so).l2 (shapedB_2 g1.1), (rd.all so).l2 (shapedB_2 g1.2.1), g1.1, g1.2.1, hq _ O H (.val (.bool _)) (.refl so) (.bl _) g1.2.2⟩
theorem isNon_iff {K : PySem.W.Frag} {O H : Hp} {v : V} {d : D} (h : PRep K O H v d) : decide (v = .non) = isNon d := by
  cases d with
  | none => cases h; rfl
  | bool b => cases h; rfl
  | int b => cases h; rfl
  | str b => cases h; rfl
  | list b => obtain ⟨a, vs, rfl, _⟩ := h; rfl
  | tuple b => obtain ⟨a, vs, rfl, _⟩ := h; rfl
  | dict b => cases h <;> rfl
theorem os_isN : OpS X (compareOp .Is) rIsND := by
  refine ⟨_, op_isN, fun O H v w c d q Q so rc rd hq g1 => ?_⟩
  unfold rIsND at g1
  split at g1
  · cases rd
    refine ⟨rfl, ?_⟩
    rw [isNon_iff rc]
    exact hq _ O H (.val (.bool _)) (.refl so) (.bl _) g1
  · exact g1.elim
theorem optK_iff {α : Type} {o : Option α} {k : α → Prop} (h : optK o k) : ∃ v, o = some v ∧ k v := by
  cases o with
  | none => exact h.elim
  | some v => exact ⟨v, rfl, h⟩
theorem atI_dp {K : PySem.W.Frag} {O : Hp} {vs : List V} {ds : List D} {i : Int} {d : D} (a : DpAll K O vs ds) (h : atI ds i = some d) : ∃ v, atI vs i = some v ∧ Dp K O v d := by
  unfold atI at h ⊢
  rw [dpl_length a]
  cases e : ixN ds.length i with
  | none => rw [e] at h; cases h
  | some j =>
    rw [e] at h
    exact dpl_at a h
theorem je_ix {a b : Expr} {pos : Pos} {da db : EP} (ha : JP X W a da) (hb : JP X W b db) (hs : PlainIx b := by exact fun _ _ => rfl) : JE X W (.Subscript a b pos) (eOp rIxD da db) := by
  obtain ⟨ta, pa, sa⟩ := ha.ex
  obtain ⟨tb, pb, sb⟩ := hb.ex
  refine ⟨_, pe_ix ix_seq pa pb hs, snd_two sa sb (R := RE X.K) (r := rIx X.K) (fun _ _ _ _ _ _ e => SRep.back e) fun O H v w c d q Q so rc rd hq g1 => ?_⟩
  unfold rIxD at g1
  split at g1
  · rename_i xs i
    obtain ⟨e, h1, h2⟩ := optK_iff g1
    obtain ⟨a, vs, rfl, qa, za⟩ := rc
    cases rd
    obtain ⟨u, h3, h4⟩ := atI_dp za h1
    exact .inl ⟨a, vs, i, u, rfl, rfl, qa, h3, hq _ O H (.val e) (.refl so) h4 h2⟩
  · rename_i xs i
    obtain ⟨e, h1, h2⟩ := optK_iff g1
    obtain ⟨a, vs, rfl, qa, za⟩ := rc
    cases rd
    obtain ⟨u, h3, h4⟩ := atI_dp za h1
    exact .inr (.inl ⟨a, vs, i, u, rfl, rfl, qa, h3, hq _ O H (.val e) (.refl so) h4 h2⟩)
  · rename_i z i
    obtain ⟨hz, g1⟩ := g1
    obtain ⟨e, h1, h2⟩ := optK_iff g1
    cases rc
    cases rd
    exact .inr (.inr ⟨z, i, e, rfl, rfl, hz, h1, hq _ O H (.val (.str ⟨#[e]⟩)) (.refl so) (.str _) h2⟩)
  · exact g1.elim
theorem nat_at {α : Type} {xs : List α} {j : Nat} {v : α} (h : xs[j]? = some v) {i : Int} (e : i = (j : Int)) : atI xs i = some v := by subst e; exact atI_nat h
theorem atI_0 {α : Type} (a : α) (l : List α) : atI (a :: l) 0 = some a := nat_at (j := 0) rfl rfl
theorem atI_1 {α : Type} (a b : α) (l : List α) : atI (a :: b :: l) 1 = some b := nat_at (j := 1) rfl rfl
theorem atI_2 {α : Type} (a b c : α) (l : List α) : atI (a :: b :: c :: l) 2 = some c := nat_at (j := 2) rfl rfl
theorem atI_3 {α : Type} (a b c d : α) (l : List α) : atI (a :: b :: c :: d :: l) 3 = some d := nat_at (j := 3) rfl rfl
theorem atI_4 {α : Type} (a b c d e : α) (l : List α) : atI (a :: b :: c :: d :: e :: l) 4 = some e := nat_at (j := 4) rfl rfl
theorem atI_5 {α : Type} (a b c d e f : α) (l : List α) : atI (a :: b :: c :: d :: e :: f :: l) 5 = some f := nat_at (j := 5) rfl rfl
def rLenD : RD
  | [.list xs], q => q (.val (.int xs.length))
  | [.tuple xs], q => q (.val (.int xs.length))
  | [.str z], q => z.length ≤ sizeLine ∧ q (.val (.int z.length))
  | _, _ => False
theorem pall1 {K : PySem.W.Frag} {O H : Hp} {vs : List V} {d : D} (h : PAll K O H vs [d]) : ∃ v, vs = [v] ∧ PRep K O H v d := by
  cases h with
  | cons a b => cases b; exact ⟨_, rfl, a⟩
theorem cs_len : CallS X (.builtin "len") rLenD := by
  refine ⟨_, call_len, fun O H vs ds q Q so ra hq g1 => ?_⟩
  unfold rLenD at g1
  split at g1
  · rename_i xs
    obtain ⟨v, rfl, a, ws, rfl, qa, za⟩ := pall1 ra
    refine ⟨.ref a, ws.length, rfl, .inl ⟨ws, qa, rfl⟩, ?_⟩
    rw [dpl_length za]
    exact hq _ O H (.val (.int _)) (.refl so) (.int _) g1
  · rename_i xs
    obtain ⟨v, rfl, a, ws, rfl, qa, za⟩ := pall1 ra
    refine ⟨.ref a, ws.length, rfl, .inr ⟨ws, qa, rfl⟩, ?_⟩
    rw [dpl_length za]
    exact hq _ O H (.val (.int _)) (.refl so) (.int _) g1
  · rename_i z
    obtain ⟨v, rfl, r⟩ := pall1 ra
    cases r
    exact ⟨.str z, z.length, rfl, ⟨g1.1, rfl⟩, hq _ O H (.val (.int _)) (.refl so) (.int _) g1.2⟩
  · exact g1.elim
def rAbsD : RD
  | [.int i], q => q (.val (.int (if i < 0 then -i else i)))
  | _, _ => False
theorem cs_abs : CallS X (.builtin "abs") rAbsD := by
  refine ⟨_, call_abs, fun O H vs ds q Q so ra hq g1 => ?_⟩
  unfold rAbsD at g1
  split at g1
  · rename_i i
    obtain ⟨v, rfl, r⟩ := pall1 ra
    cases r
    exact ⟨i, rfl, hq _ O H (.val (.int _)) (.refl so) (.int _) g1⟩
  · exact g1.elim
def bools : List D → Option (List Bool)
  | [] => some []
  | .bool b :: r => (bools r).map (b :: ·)
  | _ :: _ => none
theorem bools_of {K : PySem.W.Frag} {O : Hp} : ∀ {vs : List V} {ds : List D} {bs : List Bool}, DpAll K O vs ds → bools ds = some bs → vs = bs.map V.bl
  | _, _, _, .nil, e => by cases e; rfl
  | _, _, _, .cons h a, e => by
    cases h with
    | bl b =>
      unfold bools at e
      cases q : bools _ with
      | none => rw [q] at e; cases e
      | some cs =>
        rw [q] at e
        cases e
        rw [bools_of a q]
        rfl
    | non => cases e
    | int _ => cases e
    | str _ => cases e
    | lst _ _ => cases e
    | tup _ _ => cases e
    | exc0 _ _ => cases e
    | exc1 _ _ _ _ => cases e
    | ins _ _ _ _ _ _ => cases e
def rAllD : RD
  | [.list xs], q => ∃ bs, bools xs = some bs ∧ q (.val (.bool (bs.all id)))
  | _, _ => False
theorem cs_all (hc : X.calm = true) : CallS X (.builtin "all") rAllD := by
  refine ⟨_, cr_all hc, fun O H vs ds q Q so ra hq g1 => ?_⟩
  unfold rAllD at g1
  split at g1
  · rename_i xs
    obtain ⟨v, rfl, a, ws, rfl, qa, za⟩ := pall1 ra
    obtain ⟨bs, hb, g1⟩ := g1
    have e := bools_of za hb
    subst e
    exact ⟨a, bs, rfl, qa, hq _ O H (.val (.bool _)) (.refl so) (.bl _) g1⟩
  · exact g1.elim
def rTupleD : RD
  | [.list xs], q => q (.val (.tuple xs))
  | _, _ => False
theorem cs_tuple : CallS X (.type "tuple") rTupleD := by
  refine ⟨_, call_tuple_of, fun O H vs ds q Q so ra hq g1 => ?_⟩
  unfold rTupleD at g1
  split at g1
  · rename_i xs
    obtain ⟨v, rfl, a, ws, rfl, qa, za⟩ := pall1 ra
    refine ⟨a, ws, rfl, .inl ⟨qa, fun l hl => ?_⟩⟩
    have u2 := Up.new so hl (.tup ws)
    exact hq _ _ _ (.val (.tuple xs)) u2 (.tup (.of upd_same) (dpAll_mono u2.o za)) g1
  · exact g1.elim
def tyD : D → String
  | .none => "NoneType"
  | .bool _ => "bool"
  | .int _ => "int"
  | .str _ => "str"
  | .list _ => "list"
  | .tuple _ => "tuple"
  | .dict _ => "dict"
def isD (T : String) (d : D) : Bool := (kitB (tyD d) T).getD false
def noDict : D → Bool
  | .dict _ => false
  | _ => true
theorem tyx_of {K : PySem.W.Frag} {O H : Hp} {v : V} {d : D} (h : PRep K O H v d) (nd : noDict d = true) : TyX K H v (.type (tyD d)) := by
  cases d with
  | none => cases h; exact .base .non
  | bool b => cases h; exact .base (.bl b)
  | int b => cases h; exact .base (.int b)
  | str b => cases h; exact .base (.str b)
  | list b =>
    obtain ⟨a, vs, rfl, q, _⟩ := h
    rcases q with (q | ⟨o, q⟩) | ⟨o, its, n, q, c, _⟩
    · exact .base (.lst q)
    · exact .base (.frz q)
    · exact .kList q c
  | tuple b =>
    obtain ⟨a, vs, rfl, q, _⟩ := h
    rcases q with (q | ⟨o, q⟩) | ⟨o, its, n, q, c, _⟩
    · exact .base (.tup q)
    · exact .fTuple q
    · exact .kTuple q c
  | dict b => cases nd
def eIsi (T : String) (e : EP) : ES := fun x δ q => e x δ fun d => noDict d = true ∧ q (.val (.bool (isD T d)))
theorem je_isi {T : String} {e : Expr} {p1 p2 pos : Pos} {TN : Str} {de : EP} (hm : X.mg "isinstance" = none) (hmT : X.mg TN = none) (hvT : bootBuiltins TN = some (.type T)) (hk : ∀ d, (kitB (tyD d) T).isSome = true) (h : JP X W e de)
    (hg : Gl X "isinstance" := by rfl) (hgT : Gl X TN := by rfl) (hnT : TN ≠ "__name__" := by decide) (hdT : (TN == ("__debug__" : Str)) = false := by decide)
    (hs : starEach (e :: [.Name TN p2]) X.env = (false, eval e X.env) :: starEach [.Name TN p2] X.env := by rfl) (hs2 : starEach [.Name TN p2] X.env = (false, eval (.Name TN p2) X.env) :: starEach [] X.env := by rfl)
    (hpl : (backTo pos (starEach [.Name TN p2] X.env)).any (·.1) = false := by rfl) :
    JE X W (.Call (.Name "isinstance" p1) [e, .Name TN p2] [] pos) (eIsi T de) := by
  obtain ⟨te, p, s⟩ := h.ex
  refine ⟨_, pe_callB call_isi hg hm (by decide +kernel) (pa_cons p (pa_cons (pe_bltn (v := .ty T) hgT hmT hvT rfl hnT hdT) pa_nil hs2) hs) (by decide) (by decide) hs hpl, fun O H H0 σ δ x q Q so env hx hq g => ?_⟩
  refine s O H H0 σ δ x _ _ so env hx (fun v O1 H1 d u1 r1 g1 => ?_) g
  have hkd := hk d
  refine ⟨v, .ty T, .type (tyD d), .type T, isD T d, rfl, .ty T, tyx_of r1 g1.1, kit_ty ?_, hq _ O1 H1 (.val (.bool (isD T d))) u1 (.bl _) g1.2⟩
  unfold isD
  cases e : kitB (tyD d) T with
  | none => rw [e] at hkd; cases hkd
  | some b => rfl
end
end DL

namespace DL
variable [HotA]
open PySem L2
def tOf {α β : Type} (K : PySem.W.Frag) (mg : Str → Option Value) (W : WX) (R : Hp → Hp → Hp → α → β → Prop) (de : XP → List S → (β → Prop) → Prop) : L2.St → Hp → (α → Hp → Prop) → Prop := fun σ H Q =>
  ∃ (O H0 : Hp) (δ : List S) (x : XP) (q : β → Prop), Same O H ∧ EnvR K H0 O H σ δ ∧ (∀ e cls d O' H', Up O H O' H' → XRep K mg O' H' e cls d → x e → W cls d σ H') ∧
    (∀ a O' H' b, Up O H O' H' → R H O' H' a b → q b → Q a H') ∧ de x δ q
theorem tOf_snd {α β : Type} {K : PySem.W.Frag} {mg : Str → Option Value} {W : WX} {R : Hp → Hp → Hp → α → β → Prop} {de : XP → List S → (β → Prop) → Prop} : Snd K mg W R (tOf K mg W R de) de :=
  fun O H H0 σ δ x q Q so env hx hq g => ⟨O, H0, δ, x, q, so, env, hx, hq, g⟩
theorem tOf_le {α β : Type} {K : PySem.W.Frag} {mg : Str → Option Value} {W : WX} {R : Hp → Hp → Hp → α → β → Prop} {te : L2.St → Hp → (α → Hp → Prop) → Prop} {de : XP → List S → (β → Prop) → Prop} (s : Snd K mg W R te de) {σ : L2.St} {H : Hp} {Q : α → Hp → Prop}
    (h : tOf K mg W R de σ H Q) : te σ H Q := by
  obtain ⟨O, H0, δ, x, q, so, env, hx, hq, g⟩ := h
  exact s O H H0 σ δ x q Q so env hx hq g
theorem JE.can {X : Cx} {W : WX} {e : Expr} {de : ES} (h : JE X W e de) : PE X e (tOf X.K X.mg W (RE X.K) de) := by
  obtain ⟨te, p, s⟩ := h.ex
  exact ⟨fun pins st σ H Q I g => p.run pins st σ H Q I (tOf_le s g)⟩
theorem JT.can {X : Cx} {W : WX} {e : Expr} {de : ET} (h : JT X W e de) : PT X e (tOf X.K X.mg W RT de) := by
  obtain ⟨te, p, s⟩ := h.ex
  exact ⟨fun pins st σ H Q I g => p.run pins st σ H Q I (tOf_le s g)⟩
def JTs (X : Cx) (W : WX) (ifs : List Expr) (de : ET) : Prop := PTs X ifs (tOf X.K X.mg W RT de)
def tYesD : ET := fun _ _ q => q true
theorem jts_nil {X : Cx} {W : WX} : JTs X W [] tYesD := ⟨fun pins s σ H Q I h => pts_nil.run pins s σ H Q I (by
  obtain ⟨O, H0, δ, x, q, so, env, hx, hq, g⟩ := h
  exact hq true O H true (.refl so) rfl g)⟩
theorem wipe_put {σ : L2.St} {i : Nat} {x : Option V} : ∀ {vs : List Nat}, i ∈ vs → wipe (σ.set i x) vs = wipe σ vs
  | [], h => by cases h
  | v :: vs, h => by
    unfold wipe
    by_cases hi : i ∈ vs
    · rw [wipe_put hi]
    · have hv : i = v := by
        rcases List.mem_cons.mp h with z | z
        · exact z
        · exact absurd z hi
      have out : ∀ {ws : List Nat}, i ∉ ws → wipe (σ.set i x) ws = (wipe σ ws).set i x := by
        intro ws
        induction ws with
        | nil => intro _; rfl
        | cons w r ih =>
          intro hw
          unfold wipe
          rw [ih fun z => hw (List.mem_cons_of_mem _ z)]
          exact List.set_comm _ _ fun z => hw (by rw [z]; exact List.mem_cons_self)
      rw [out hi, hv, List.set_set]
theorem EnvR.put {K : PySem.W.Frag} {H0 O H : Hp} {σ : L2.St} {δ : List S} (r : EnvR K H0 O H σ δ) {v : V} {d : D} (i : Nat) (h : Dp K O v d) : EnvR K H0 O H (σ.set i (some v)) (put δ i (.val d)) where
  len := by rw [List.length_set, put_length, r.len]
  val := fun j e z => by
    by_cases hj : j = i
    · subst hj
      have hl := lk_lt z (by intro y; cases y)
      rw [put_length] at hl
      rw [lk_put_same hl] at z
      cases z
      exact ⟨v, List.getElem?_set_self (by rw [r.len]; exact hl), h⟩
    · rw [lk_put_ne hj] at z
      rw [List.getElem?_set_ne (Ne.symm hj)]
      exact r.val j e z
  own := fun j ds z => by
    by_cases hj : j = i
    · subst hj
      have hl := lk_lt z (by intro y; cases y)
      rw [put_length] at hl
      rw [lk_put_same hl] at z
      cases z
    · rw [lk_put_ne hj] at z
      rw [List.getElem?_set_ne (Ne.symm hj)]
      exact r.own j ds z
  inj := fun j k ds es z1 z2 e => by
    have n1 : j ≠ i := fun hj => by
      subst hj
      have hl := lk_lt z1 (by intro y; cases y)
      rw [put_length] at hl
      rw [lk_put_same hl] at z1
      cases z1
    have n2 : k ≠ i := fun hj => by
      subst hj
      have hl := lk_lt z2 (by intro y; cases y)
      rw [put_length] at hl
      rw [lk_put_same hl] at z2
      cases z2
    rw [lk_put_ne n1] at z1
    rw [lk_put_ne n2] at z2
    rw [List.getElem?_set_ne (Ne.symm n1), List.getElem?_set_ne (Ne.symm n2)] at e
    exact r.inj j k ds es z1 z2 e
  adr := fun j a z => by
    by_cases hj : j = i
    · subst hj
      have hl := lk_lt z (by intro y; cases y)
      rw [put_length] at hl
      rw [lk_put_same hl] at z
      cases z
    · rw [lk_put_ne hj] at z
      rw [List.getElem?_set_ne (Ne.symm hj)]
      exact r.adr j a z
  ob := r.ob.put i _ ⟨by simp, by simp⟩
  tt := r.tt
theorem EnvR.putNo {K : PySem.W.Frag} {H0 O H : Hp} {σ : L2.St} {δ : List S} (r : EnvR K H0 O H σ δ) (i : Nat) (x : Option V) : EnvR K H0 O H (σ.set i x) (DL.put δ i .no) where
  len := by rw [List.length_set, put_length, r.len]
  val := fun j e z => by
    by_cases hj : j = i
    · subst hj
      have hl := lk_lt z (by intro y; cases y)
      rw [put_length] at hl
      rw [lk_put_same hl] at z
      cases z
    · rw [lk_put_ne hj] at z
      rw [List.getElem?_set_ne (Ne.symm hj)]
      exact r.val j e z
  own := fun j ds z => by
    by_cases hj : j = i
    · subst hj
      have hl := lk_lt z (by intro y; cases y)
      rw [put_length] at hl
      rw [lk_put_same hl] at z
      cases z
    · rw [lk_put_ne hj] at z
      rw [List.getElem?_set_ne (Ne.symm hj)]
      exact r.own j ds z
  inj := fun j k ds es z1 z2 e => by
    have n1 : j ≠ i := fun hj => by
      subst hj
      have hl := lk_lt z1 (by intro y; cases y)
      rw [put_length] at hl
      rw [lk_put_same hl] at z1
      cases z1
    have n2 : k ≠ i := fun hj => by
      subst hj
      have hl := lk_lt z2 (by intro y; cases y)
      rw [put_length] at hl
      rw [lk_put_same hl] at z2
      cases z2
    rw [lk_put_ne n1] at z1
    rw [lk_put_ne n2] at z2
    rw [List.getElem?_set_ne (Ne.symm n1), List.getElem?_set_ne (Ne.symm n2)] at e
    exact r.inj j k ds es z1 z2 e
  adr := fun j a z => by
    by_cases hj : j = i
    · subst hj
      have hl := lk_lt z (by intro y; cases y)
      rw [put_length] at hl
      rw [lk_put_same hl] at z
      cases z
    · rw [lk_put_ne hj] at z
      rw [List.getElem?_set_ne (Ne.symm hj)]
      exact r.adr j a z
  ob := r.ob.put i _ ⟨by simp, by simp⟩
  tt := r.tt
theorem EnvR.wipe1 {K : PySem.W.Frag} {H0 O H : Hp} {σ : L2.St} {δ : List S} (r : EnvR K H0 O H σ δ) (i : Nat) : EnvR K H0 O H (σ.set i none) (DL.put δ i .no) := r.putNo i none
theorem EnvR.wipe {K : PySem.W.Frag} {H0 O H : Hp} {σ : L2.St} {δ : List S} (r : EnvR K H0 O H σ δ) : ∀ vs : List Nat, EnvR K H0 O H (L2.wipe σ vs) (wipeD δ vs)
  | [] => r
  | v :: vs => (EnvR.wipe r vs).wipe1 v
theorem EnvR.putOwn {K : PySem.W.Frag} {H0 O H : Hp} {σ : L2.St} {δ : List S} (r : EnvR K H0 O H σ δ) {p : Addr} {vs : List V} {ds : List D} (i : Nat) (h0 : H0 p = none) (ho : O p = none) (hh : H p = some (.lst vs)) (a : DpAll K O vs ds)
    (new : ∀ (j : Nat) (es : List D), j ≠ i → lk δ j = .own es → σ[j]? ≠ some (some (.ref p))) (newO : ∀ j v d fp, j ≠ i → lk δ j = .obj v d fp → p ∉ fp) : EnvR K H0 O H (σ.set i (some (.ref p))) (DL.put δ i (.own ds)) where
  len := by rw [List.length_set, put_length, r.len]
  val := fun j e z => by
    by_cases hj : j = i
    · subst hj
      have hl := lk_lt z (by intro y; cases y)
      rw [put_length] at hl
      rw [lk_put_same hl] at z
      cases z
    · rw [lk_put_ne hj] at z
      rw [List.getElem?_set_ne (Ne.symm hj)]
      exact r.val j e z
  own := fun j es z => by
    by_cases hj : j = i
    · subst hj
      have hl := lk_lt z (by intro y; cases y)
      rw [put_length] at hl
      rw [lk_put_same hl] at z
      cases z
      exact ⟨p, vs, List.getElem?_set_self (by rw [r.len]; exact hl), h0, ho, hh, a⟩
    · rw [lk_put_ne hj] at z
      rw [List.getElem?_set_ne (Ne.symm hj)]
      exact r.own j es z
  inj := fun j k es fs z1 z2 e => by
    by_cases hj : j = i
    · by_cases hk : k = i
      · rw [hj, hk]
      · exfalso
        subst hj
        have hl := lk_lt z1 (by intro y; cases y)
        rw [put_length] at hl
        rw [lk_put_ne hk] at z2
        rw [List.getElem?_set_self (by rw [r.len]; exact hl), List.getElem?_set_ne (Ne.symm hk)] at e
        exact new k fs hk z2 e.symm
    · by_cases hk : k = i
      · exfalso
        subst hk
        have hl := lk_lt z2 (by intro y; cases y)
        rw [put_length] at hl
        rw [lk_put_ne hj] at z1
        rw [List.getElem?_set_self (by rw [r.len]; exact hl), List.getElem?_set_ne (Ne.symm hj)] at e
        exact new j es hj z1 e
      · rw [lk_put_ne hj] at z1
        rw [lk_put_ne hk] at z2
        rw [List.getElem?_set_ne (Ne.symm hj), List.getElem?_set_ne (Ne.symm hk)] at e
        exact r.inj j k es fs z1 z2 e
  adr := fun j a z => by
    by_cases hj : j = i
    · subst hj
      have hl := lk_lt z (by intro y; cases y)
      rw [put_length] at hl
      rw [lk_put_same hl] at z
      cases z
    · rw [lk_put_ne hj] at z
      rw [List.getElem?_set_ne (Ne.symm hj)]
      exact r.adr j a z
  ob := r.ob.putOwn i newO
  tt := r.tt
theorem EnvR.putObj {K : PySem.W.Frag} {H0 O H : Hp} {σ : L2.St} {δ : List S} (r : EnvR K H0 O H σ δ) {v : V} {d : D} {fp : List Addr} (i : Nat) (a : Ow K O H v d fp) (nd : fp.Nodup) (fr : ∀ b ∈ fp, H0 b = none ∧ O b = none)
    (n1 : ∀ j es p, j ≠ i → lk δ j = .own es → σ[j]? = some (some (.ref p)) → p ∉ fp) (n2 : ∀ j w e gp, j ≠ i → lk δ j = .obj w e gp → ∀ b ∈ fp, b ∉ gp) : EnvR K H0 O H (σ.set i (some v)) (DL.put δ i (.obj v d fp)) := by
  have ne : ∀ {j : Nat} {t : S}, lk (DL.put δ i (.obj v d fp)) j = t → (∀ w e gp, t ≠ .obj w e gp) → t ≠ .no → j ≠ i ∧ lk δ j = t := fun {j t} h n n0 => by
    by_cases hj : j = i
    · subst hj
      by_cases hl : j < δ.length
      · rw [lk_put_same hl] at h
        exact absurd h.symm (n _ _ _)
      · rw [lk_out (by rw [put_length]; omega)] at h
        exact absurd h.symm n0
    · rw [lk_put_ne hj] at h
      exact ⟨hj, h⟩
  have at_i : ∀ {j : Nat} {w : V} {e : D} {gp : List Addr}, lk (DL.put δ i (.obj v d fp)) j = .obj w e gp → (j = i ∧ j < δ.length ∧ w = v ∧ e = d ∧ gp = fp) ∨ (j ≠ i ∧ lk δ j = .obj w e gp) := fun {j w e gp} h => by
    by_cases hj : j = i
    · subst hj
      by_cases hl : j < δ.length
      · rw [lk_put_same hl] at h
        cases h
        exact .inl ⟨rfl, hl, rfl, rfl, rfl⟩
      · rw [lk_out (by rw [put_length]; omega)] at h
        cases h
    · rw [lk_put_ne hj] at h
      exact .inr ⟨hj, h⟩
  refine ⟨by rw [List.length_set, put_length, r.len], fun j x h => ?_, fun j es h => ?_, fun j k es fs h1 h2 q => ?_, fun j b h => ?_, ⟨fun j w e gp h => ?_, fun j k es w e gp p h1 h2 q => ?_, fun j k w e gp w' e' gp' n h1 h2 => ?_⟩, r.tt⟩
  · obtain ⟨n, h'⟩ := ne h (by simp) (by simp)
    rw [List.getElem?_set_ne (Ne.symm n)]
    exact r.val j x h'
  · obtain ⟨n, h'⟩ := ne h (by simp) (by simp)
    rw [List.getElem?_set_ne (Ne.symm n)]
    exact r.own j es h'
  · obtain ⟨m1, h1'⟩ := ne h1 (by simp) (by simp)
    obtain ⟨m2, h2'⟩ := ne h2 (by simp) (by simp)
    rw [List.getElem?_set_ne (Ne.symm m1), List.getElem?_set_ne (Ne.symm m2)] at q
    exact r.inj j k es fs h1' h2' q
  · obtain ⟨n, h'⟩ := ne h (by simp) (by simp)
    rw [List.getElem?_set_ne (Ne.symm n)]
    exact r.adr j b h'
  · rcases at_i h with ⟨rfl, hl, rfl, rfl, rfl⟩ | ⟨n, h'⟩
    · exact ⟨List.getElem?_set_self (by rw [r.len]; exact hl), a, nd, fr⟩
    · rw [List.getElem?_set_ne (Ne.symm n)]
      exact r.ob.obj j w e gp h'
  · obtain ⟨m1, h1'⟩ := ne h1 (by simp) (by simp)
    rw [List.getElem?_set_ne (Ne.symm m1)] at q
    rcases at_i h2 with ⟨rfl, hl, rfl, rfl, rfl⟩ | ⟨n, h2'⟩
    · exact n1 j es p m1 h1' q
    · exact r.ob.oo j k es w e gp p h1' h2' q
  · rcases at_i h1 with ⟨rfl, hl, rfl, rfl, rfl⟩ | ⟨m1, h1'⟩
    · rcases at_i h2 with ⟨rfl, _, rfl, rfl, rfl⟩ | ⟨m2, h2'⟩
      · exact absurd rfl n
      · exact n2 k w' e' gp' m2 h2'
    · rcases at_i h2 with ⟨rfl, _, rfl, rfl, rfl⟩ | ⟨m2, h2'⟩
      · exact fun b hb hg => n2 j w e gp m1 h1' b hg hb
      · exact r.ob.pp j k w e gp w' e' gp' n h1' h2'
theorem EnvR.drop {K : PySem.W.Frag} {H0 O H : Hp} {σ : L2.St} {δ : List S} (r : EnvR K H0 O H σ δ) (i : Nat) : EnvR K H0 O H σ (DL.put δ i .no) := by
  have ne : ∀ {j : Nat} {t : S}, lk (DL.put δ i .no) j = t → t ≠ .no → lk δ j = t := fun {j t} h n0 => by
    by_cases hj : j = i
    · subst hj
      by_cases hl : j < δ.length
      · rw [lk_put_same hl] at h
        exact absurd h.symm n0
      · rw [lk_out (by rw [put_length]; omega)] at h
        exact absurd h.symm n0
    · rw [lk_put_ne hj] at h
      exact h
  exact ⟨by rw [put_length]; exact r.len, fun j d h => r.val j d (ne h (by simp)), fun j ds h => r.own j ds (ne h (by simp)), fun j k ds es h1 h2 q => r.inj j k ds es (ne h1 (by simp)) (ne h2 (by simp)) q, fun j a h => r.adr j a (ne h (by simp)), r.ob.drop i, r.tt⟩
theorem EnvR.grow {K : PySem.W.Frag} {H0 O O' H : Hp} {σ : L2.St} {δ : List S} (r : EnvR K H0 O H σ δ) (so : Same O O') (h1 : ∀ j ds p, lk δ j = .own ds → σ[j]? = some (some (.ref p)) → O' p = none) (h2 : ∀ j v d fp, lk δ j = .obj v d fp → ∀ b ∈ fp, O' b = none) (ht : ∀ p ∈ tabT, O' p.1 = none) : EnvR K H0 O' H σ δ :=
  ⟨r.len, fun j d h => let ⟨v, e, q⟩ := r.val j d h; ⟨v, e, dp_mono so q⟩, fun j ds h => let ⟨p, vs, e, n, _, z, a⟩ := r.own j ds h; ⟨p, vs, e, n, h1 j ds p h e, z, dpAll_mono so a⟩, r.inj, r.adr, r.ob.grow so h2, ⟨r.tt.t, ht, fun p hp => so _ _ (r.tt.x p hp)⟩⟩
def GSnd (K : PySem.W.Frag) (js : List Nat) (g : TG) (dg : EG) : Prop := ∀ (H0 O H O1 H1 : Hp) (σ : L2.St) (δ : List S) (v : V) (s : S) (q : List S → Prop) (Q : L2.St → Hp → Prop), Sam H0 H → EnvR K H0 O H σ δ → Up O H O1 H1 → SRep K H O1 H1 v s →
  (∀ σ' O2 δ', Up O H O2 H1 → EnvR K H0 O2 H1 σ' δ' → (∀ vs : List Nat, (∀ j ∈ js, j ∈ vs) → wipe σ' vs = wipe σ vs) → q δ' → Q σ' H1) → dg s δ q → g v σ H1 Q
structure JG (X : Cx) (js : List Nat) (tg : Expr) (dg : EG) : Prop where
  ex : ∃ g, PG X tg g ∧ GSnd X.K js g dg
def gOf (K : PySem.W.Frag) (js : List Nat) (dg : EG) : TG := fun v σ H1 Q => ∃ (H0 O H O1 : Hp) (δ : List S) (s : S) (q : List S → Prop), Sam H0 H ∧ EnvR K H0 O H σ δ ∧ Up O H O1 H1 ∧ SRep K H O1 H1 v s ∧
  (∀ σ' O2 δ', Up O H O2 H1 → EnvR K H0 O2 H1 σ' δ' → (∀ vs : List Nat, (∀ j ∈ js, j ∈ vs) → wipe σ' vs = wipe σ vs) → q δ' → Q σ' H1) ∧ dg s δ q
theorem gOf_snd {K : PySem.W.Frag} {js : List Nat} {dg : EG} : GSnd K js (gOf K js dg) dg := fun H0 O H O1 H1 σ δ v s q Q h0 env u r hq g => ⟨H0, O, H, O1, δ, s, q, h0, env, u, r, hq, g⟩
theorem JG.can {X : Cx} {js : List Nat} {tg : Expr} {dg : EG} (h : JG X js tg dg) : PG X tg (gOf X.K js dg) := by
  obtain ⟨g, p, s⟩ := h.ex
  refine ⟨fun pins st σ H v u Q I r w => p.run pins st σ H v u Q I r ?_⟩
  obtain ⟨H0, O, H2, O1, δ, s', q, h0, env, up, sr, hq, d⟩ := w
  exact s H0 O H2 O1 H σ δ v s' q _ h0 env up sr hq d
section
variable {X : Cx} {W : WX} {pos : Pos}
theorem gsnd_var {K : PySem.W.Frag} (i : Nat) : GSnd K [i] (gName i) (gVar i) := by
  intro H0 O H O1 H1 σ δ v s q Q h0 env u r hq g
  have wp : ∀ vs : List Nat, (∀ j ∈ [i], j ∈ vs) → wipe (σ.set i (some v)) vs = wipe σ vs := fun vs h => wipe_put (h i List.mem_cons_self)
  cases s with
  | no => exact r.elim
  | adr _ => exact r.elim
  | val d => exact hq _ O1 _ u ((env.up u).put i r) wp g
  | own ds =>
    obtain ⟨p, vs, rfl, n, o, z, a⟩ := r
    refine hq _ O1 _ u ((env.up u).putOwn i (h0.free n) o z a (fun j es _ hj e => ?_) fun j w e fp _ hj hp => (env.ob.obj j w e fp hj).2.1.there _ hp n) wp g
    obtain ⟨p', vs', e', _, _, z', _⟩ := env.own j es hj
    rw [e'] at e
    cases e
    rw [n] at z'
    cases z'
  | obj w d fp =>
    obtain ⟨rfl, a, nd, fr⟩ := r
    refine hq _ O1 _ u ((env.up u).putObj i a nd (fun b hb => ⟨h0.free (fr b hb).1, (fr b hb).2⟩) (fun j es p _ hj e hp => ?_) fun j w e gp _ hj b hb hg => (env.ob.obj j w e gp hj).2.1.there b hg (fr b hb).1) wp g
    obtain ⟨p', vs', e', _, _, z', _⟩ := env.own j es hj
    rw [e'] at e
    cases e
    rw [(fr p hp).1] at z'
    cases z'
theorem gsnd_val {K : PySem.W.Frag} (i : Nat) : GSnd K [i] (gName i) (gVal i) := by
  intro H0 O H O1 H1 σ δ v s q Q h0 env u r hq g
  have wp : ∀ vs : List Nat, (∀ j ∈ [i], j ∈ vs) → wipe (σ.set i (some v)) vs = wipe σ vs := fun vs h => wipe_put (h i List.mem_cons_self)
  obtain ⟨O2, d, u2, r2, k⟩ := r.fr u g
  exact hq _ O2 _ u2 ((env.up u2).put i r2) wp k
theorem jg_var (i : Nat) {x : Str} {p : Pos} (hN : X.N.Nodup) (hi : X.N[i]? = some x := by rfl) (hx : Loc X.env.scope x := by first | exact Or.inl rfl | exact Or.inr rfl) (hf : X.fn x = true ∨ X.env.scope.names.lookup x = some .local := by first | exact .inl rfl | exact .inr rfl) : JG X [i] (.Name x p) (gVar i) :=
  ⟨_, pg_name hN hi hx hf, gsnd_var i⟩
theorem jg_val (i : Nat) {x : Str} {p : Pos} (hN : X.N.Nodup) (hi : X.N[i]? = some x := by rfl) (hx : Loc X.env.scope x := by first | exact Or.inl rfl | exact Or.inr rfl) (hf : X.fn x = true ∨ X.env.scope.names.lookup x = some .local := by first | exact .inl rfl | exact .inr rfl) : JG X [i] (.Name x p) (gVal i) :=
  ⟨_, pg_name hN hi hx hf, gsnd_val i⟩
structure Walks (K : PySem.W.Frag) (J : It) (O : Hp) (ds : List D) : Prop where
  go : ∀ (i : Nat) (H2 : Hp), Same O H2 → i < ds.length → J.go i H2
  yld : ∀ (i : Nat) (O2 H2 : Hp) (x : V) (H' : Hp) (d : D), Same O O2 → Same O2 H2 → ds[i]? = some d → J.yld i H2 x H' → ∃ O3, Up O2 H2 O3 H' ∧ Dp K O3 x d
  stop : ∀ (i : Nat) (H2 : Hp), Same O H2 → ds.length ≤ i → J.stop i H2
structure JI (X : Cx) (W : WX) (tg iter : Expr) (di : EI) : Prop where
  ex : ∃ wi, PI X tg iter wi ∧ ∀ (O H H0 : Hp) (σ : L2.St) (δ : List S) (x : XP) (q : List D → Prop) (R : It → Hp → Prop), Same O H → EnvR X.K H0 O H σ δ →
    (∀ e cls d O' H', Up O H O' H' → XRep X.K X.mg O' H' e cls d → x e → W cls d σ H') → (∀ J O' H' ds, Up O H O' H' → Walks X.K J O' ds → q ds → R J H') → di x δ q → wi σ H R
theorem walks_list {K : PySem.W.Frag} {O : Hp} {a : Addr} {vs : List V} {ds : List D} (h : SqL K O a vs) (r : DpAll K O vs ds) : Walks K (Itl K a) O ds where
  go := fun i H2 so hi => ⟨vs, vs[i]'(by rw [dpl_length r]; exact hi), so.seq h, List.getElem?_eq_getElem _⟩
  yld := fun i O2 H2 x H' d o1 o2 hd hy => by
    obtain ⟨rfl, hy⟩ := hy
    have e := hy vs ((o1.trans o2).seq h)
    obtain ⟨d', e1, r1⟩ := dpl_at2 r e
    rw [hd] at e1
    cases e1
    exact ⟨O2, .refl o2, dp_mono o1 r1⟩
  stop := fun i H2 so hi => ⟨vs, so.seq h, by rw [dpl_length r]; exact hi⟩
theorem walks_tup {K : PySem.W.Frag} {O : Hp} {a : Addr} {vs : List V} {ds : List D} (h : SqT K O a vs) (r : DpAll K O vs ds) : Walks K (Itt K a) O ds where
  go := fun i H2 so hi => ⟨vs, vs[i]'(by rw [dpl_length r]; exact hi), Same.tup so h, List.getElem?_eq_getElem _⟩
  yld := fun i O2 H2 x H' d o1 o2 hd hy => by
    obtain ⟨rfl, hy⟩ := hy
    have e := hy vs (Same.tup (o1.trans o2) h)
    obtain ⟨d', e1, r1⟩ := dpl_at2 r e
    rw [hd] at e1
    cases e1
    exact ⟨O2, .refl o2, dp_mono o1 r1⟩
  stop := fun i H2 so hi => ⟨vs, Same.tup so h, by rw [dpl_length r]; exact hi⟩
def iSeq (K : PySem.W.Frag) (tl : TE) : TI := fun σ H R => tl σ H fun x H1 => (∃ a, x = .ref a ∧ (∃ xs, SqL K H1 a xs) ∧ R (Itl K a) H1) ∨ ∃ a, x = .ref a ∧ (∃ xs, SqT K H1 a xs) ∧ R (Itt K a) H1
theorem pi_seq {tg l : Expr} {tl : TE} (hl : PE X l tl) : PI X tg l (iSeq X.K tl) := by
  refine ⟨fun pins s σ H R I h => ?_⟩
  refine thn (hl.run pins s σ H _ I h) fun v s1 ⟨x, H1, I1, r1, q1⟩ => ?_
  rcases q1 with ⟨a, e, ⟨xs, hq⟩, q⟩ | ⟨a, e, ⟨xs, hq⟩, q⟩
  · subst e
    cases r1
    obtain ⟨its, rv, p, hz⟩ := I1.list hq
    refine wpAny_pyIter_list p.isList ?_
    refine ⟨s1.heap.objs.size, [s1.heap.objs.size], _, _, H1, rfl, I1.kept (t' := s1.toks) fun b o e => Heap.get?_push_of_some _ e, turn_list a _, ⟨_, Heap.get?_push_size _ rfl, rfl, rfl⟩, fun b hb => ?_, q⟩
    have e : b = s1.heap.objs.size := by simpa using hb
    subst e
    exact I1.fpOk (Nat.le_refl _) (I1.hok.fresh (Nat.le_refl _))
  · subst e
    cases r1
    obtain ⟨its, rv, p, hz⟩ := I1.tuple hq
    refine wpAny_pyIter_tuple (show s1.heap.IsTuple a its.toArray from p) ?_
    refine ⟨s1.heap.objs.size, [s1.heap.objs.size], _, _, H1, rfl, I1.kept (t' := s1.toks) fun b o e => Heap.get?_push_of_some _ e, turn_tuple a _, ⟨_, Heap.get?_push_size _ rfl, rfl, rfl⟩, fun b hb => ?_, q⟩
    have e : b = s1.heap.objs.size := by simpa using hb
    subst e
    exact I1.fpOk (Nat.le_refl _) (I1.hok.fresh (Nat.le_refl _))
theorem ji_val {tg l : Expr} {de : ES} (h : JE X W l de) : JI X W tg l (iVal de) := by
  obtain ⟨te, p, s⟩ := h.ex
  refine ⟨_, pi_seq p, fun O H H0 σ δ x q R so env hx hq g => ?_⟩
  refine s O H H0 σ δ x _ _ so env hx (fun v O1 H1 c u1 r1 g1 => ?_) g
  obtain ⟨O2, d, u2, r2, k⟩ := r1.fr u1 g1
  cases d with
  | list ds =>
    cases r2 with
    | lst qa za => exact .inl ⟨_, rfl, ⟨_, u2.oh.seq qa⟩, hq _ O2 H1 ds u2 (walks_list qa za) k⟩
  | tuple ds =>
    cases r2 with
    | tup qa za => exact .inr ⟨_, rfl, ⟨_, Same.tup u2.oh qa⟩, hq _ O2 H1 ds u2 (walks_tup qa za) k⟩
  | none => exact k.elim
  | bool _ => exact k.elim
  | int _ => exact k.elim
  | str _ => exact k.elim
  | dict _ => exact k.elim
theorem rngD_at {lo : Int} {n i : Nat} {d : D} (h : (rngD lo n)[i]? = some d) : d = .int (lo + i) ∧ i < n := by
  unfold rngD at h
  rw [List.getElem?_map] at h
  by_cases hi : i < n
  · rw [List.getElem?_range hi] at h
    cases h
    exact ⟨rfl, hi⟩
  · rw [List.getElem?_eq_none (by rw [List.length_range]; omega)] at h
    cases h
theorem rngD_length {lo : Int} {n : Nat} : (rngD lo n).length = n := by unfold rngD; rw [List.length_map, List.length_range]
theorem walks_range {K : PySem.W.Frag} {O : Hp} {lo : Int} {n : Nat} : Walks K (Itr lo n) O (rngD lo n) where
  go := fun i H2 _ hi => by rw [rngD_length] at hi; exact hi
  yld := fun i O2 H2 x H' d o1 o2 hd hy => by
    obtain ⟨rfl, rfl⟩ := hy
    obtain ⟨rfl, _⟩ := rngD_at hd
    exact ⟨O2, .refl o2, .int _⟩
  stop := fun i H2 _ hi => by rw [rngD_length] at hi; exact hi
theorem ji_rng1 {tg a : Expr} {da : EA} {p : Pos} (hm : X.mg "range" = none) (ha : JA X W [a] da) (hg : Gl X "range" := by rfl) (hs : starEach [a] X.env = [(false, eval a X.env)] := by rfl) : JI X W tg (.Call (.Name "range" p) [a] [] pos) (DL.iRng1 da) := by
  obtain ⟨ta, pa, sa⟩ := ha.ex
  refine ⟨_, pi_range1 hg hm pa hs, fun O H H0 σ δ x q R so env hx hq g => ?_⟩
  refine sa O H H0 σ δ x _ _ so env hx (fun vs O1 H1 ds u1 r1 g1 => ?_) g
  unfold numK at g1
  split at g1
  · rename_i n
    cases r1 with
    | cons a b =>
      cases b
      cases a
      exact ⟨n, rfl, g1.1.1, g1.1.2, hq _ O1 H1 _ u1 walks_range g1.2⟩
  · exact g1.elim
end
end DL

namespace DL
variable [HotA]
open PySem L2
section
variable {X : Cx} {W : WX} {pos : Pos}
def WF : WX := fun _ _ _ _ => False
theorem takesF {X : Cx} : L2N.Takes X WF := fun _ _ ⟨_, _, _, _, _, _, _, _, _, _, _, _, _, _, _, _, z⟩ => z.elim
theorem EnvR.weak {K : PySem.W.Frag} {H0 O H : Hp} {σ : L2.St} {δ : List S} (r : EnvR K H0 O H σ δ) : EnvR K (fun _ => none) O H σ δ :=
  ⟨r.len, r.val, fun i ds h => let ⟨p, vs, e, _, o, z, a⟩ := r.own i ds h; ⟨p, vs, e, rfl, o, z, a⟩, r.inj, r.adr, ⟨fun i v d fp h => let ⟨e, a, nd, fr⟩ := r.ob.obj i v d fp h; ⟨e, a, nd, fun b hb => ⟨rfl, (fr b hb).2⟩⟩, r.ob.oo, r.ob.pp⟩, r.tt⟩
theorem set_wipe {σ : L2.St} {v : Nat} : ∀ {vs : List Nat}, v ∈ vs → (wipe σ vs).set v none = wipe σ vs
  | [], h => by cases h
  | w :: r, h => by
    unfold wipe
    by_cases e : v = w
    · rw [e, List.set_set]
    · have hv : v ∈ r := by
        rcases List.mem_cons.mp h with z | z
        · exact absurd z e
        · exact z
      rw [List.set_comm _ _ (Ne.symm e), set_wipe hv]
theorem wipe_sub {σ : L2.St} {us : List Nat} : ∀ {vs : List Nat}, (∀ v ∈ vs, v ∈ us) → wipe (wipe σ us) vs = wipe σ us
  | [], _ => rfl
  | v :: vs, h => by
    show (wipe (wipe σ us) vs).set v none = wipe σ us
    rw [wipe_sub fun w hw => h w (List.mem_cons_of_mem _ hw), set_wipe (h v List.mem_cons_self)]
theorem wipe_wipe {σ : L2.St} {vs : List Nat} : wipe (wipe σ vs) vs = wipe σ vs := wipe_sub fun _ h => h
theorem EnvR.mut {K : PySem.W.Frag} {H0 O H : Hp} {σ : L2.St} {δ : List S} (r : EnvR K H0 O H σ δ) {p : Addr} (n : ∀ (i : Nat) (es : List D), lk δ i = .own es → σ[i]? ≠ some (some (.ref p))) (nO : ∀ i v d fp, lk δ i = .obj v d fp → p ∉ fp) (w : HO) (tb : LamX.Tabs tabT H → LamX.Tabs tabT (upd H p w)) : EnvR K H0 O (upd H p w) σ δ :=
  ⟨r.len, r.val, fun i ds h => let ⟨q, vs, e, a, o, z, b⟩ := r.own i ds h; ⟨q, vs, e, a, o, by rw [upd_ne (fun y => n i ds h (by rw [← y]; exact e))]; exact z, b⟩, r.inj, r.adr, ⟨fun i v d fp h => let ⟨e, a, nd, fr⟩ := r.ob.obj i v d fp h; ⟨e, a.keep (.refl O) fun b hb x q => by rw [upd_ne (fun y => nO i v d fp h (by rw [← y]; exact hb))]; exact q, nd, fr⟩, r.ob.oo, r.ob.pp⟩, ⟨tb r.tt.t, r.tt.n, r.tt.x⟩⟩
theorem Up.mut {O H O' H' : Hp} (u : Up O H O' H') {p : Addr} (h : H p = none) (o : O' p = none) (w : HO) (tb : LamX.Tabs tabT H' → LamX.Tabs tabT (upd H' p w)) : Up O H O' (upd H' p w) :=
  ⟨u.o, ⟨fun b x q n => by rw [upd_ne (ne_of_none q h)]; exact u.h.k b x q n, fun b hb => by
    by_cases e : b = p
    · rw [e, upd_same]; simp
    · rw [upd_ne e]; exact u.h.d b hb, fun t => tb (u.h.t t)⟩, fun b x q => by rw [upd_ne (ne_of_none q o)]; exact u.oh b x q, u.nn⟩

theorem all2_at {α β : Type} {P : α → β → Prop} : ∀ {as : List α} {bs : List β} {i : Nat} {a : α}, All2 P as bs → as[i]? = some a → ∃ b, bs[i]? = some b ∧ P a b
  | [], _, _, _, _, e => by simp at e
  | _ :: _, [], _, _, h, _ => h.elim
  | a :: as, b :: bs, 0, _, h, e => by
    simp only [List.getElem?_cons_zero, Option.some.injEq] at e
    subst e
    exact ⟨b, rfl, h.1⟩
  | a :: as, b :: bs, i + 1, _, h, e => by
    simp only [List.getElem?_cons_succ] at e
    obtain ⟨c, h1, h2⟩ := all2_at h.2 e
    exact ⟨c, by simpa using h1, h2⟩
theorem all2_length {α β : Type} {P : α → β → Prop} : ∀ {as : List α} {bs : List β}, All2 P as bs → as.length = bs.length
  | [], [], _ => rfl
  | [], _ :: _, h => h.elim
  | _ :: _, [], h => h.elim
  | _ :: _, _ :: _, h => congrArg (· + 1) (all2_length h.2)
theorem filterMap_take (l : List (Option D)) (i : Nat) (d : Option D) (h : l[i]? = some d) : (l.take (i + 1)).filterMap id = (l.take i).filterMap id ++ d.toList := by
  have e : l.take (i + 1) = l.take i ++ [d] := by
    rw [List.take_succ, h]; rfl
  rw [e, List.filterMap_append]
  cases d with
  | none => rfl
  | some r => rfl
theorem snd_comp {K : PySem.W.Frag} {mg : Str → Option Value} {wi : TI} {di : EI} {vs js : List Nat} {dg : EG} {dt : ET} {de : ES} (hj : ∀ j ∈ js, j ∈ vs)
    (si : ∀ (O H H0 : Hp) (σ : L2.St) (δ : List S) (x : XP) (q : List D → Prop) (R : It → Hp → Prop), Same O H → EnvR K H0 O H σ δ → (∀ e cls d O' H', Up O H O' H' → XRep K mg O' H' e cls d → x e → W cls d σ H') →
      (∀ J O' H' ds, Up O H O' H' → Walks K J O' ds → q ds → R J H') → di x δ q → wi σ H R) :
    Snd K mg W (RE K) (tLc wi (gOf K js dg) (tOf K mg WF RT dt) (tOf K mg WF (RE K) de) vs) (eComp di vs dg dt de) := by
  intro O H H0 σ δ x q Q so env hx hq g
  refine si O H H0 σ δ x _ _ so env hx (fun J O1 H1 ds u1 wk g1 => ?_) g
  obtain ⟨hz, rs, hf, g2⟩ := g1
  have hlen := all2_length hf
  intro Dl hD
  have hDH : H Dl = none := u1.h.free hD
  have hDO : O1 Dl = none := u1.oh.free hD
  have nD : ∀ (i : Nat) (es : List D), lk δ i = .own es → σ[i]? ≠ some (some (.ref Dl)) := fun i es h z => by
    obtain ⟨p, ws, e, _, _, hp, _⟩ := env.own i es h
    rw [z] at e
    cases e
    rw [hDH] at hp
    cases hp
  have nDO : ∀ i v d fp, lk δ i = .obj v d fp → Dl ∉ fp := fun i v d fp h z => (env.ob.obj i v d fp h).2.1.there Dl z hDH
  have hline : (1000000 : Nat) < sizeLine := by rw [sizeLine_eq]; omega
  refine ⟨fun i m H2 => m = ds.length - i ∧ i ≤ ds.length ∧ ∃ O2 acc, Same O1 O2 ∧ Up O H O2 H2 ∧ EnvR K H0 O2 H2 σ δ ∧ O2 Dl = none ∧ H2 Dl = some (.lst acc) ∧ DpAll K O2 acc ((rs.take i).filterMap id), ⟨ds.length, rfl, Nat.zero_le _, O1, [], Same.refl O1, u1.trans (.own u1.oh hD _), (env.up u1).up (.own u1.oh hD _), hDO, upd_same, .nil⟩, ?_⟩
  rintro i m H2 ⟨rfl, hi, O2, acc, s12, u2, e2, hO2, hH2, ra⟩
  have len : ∀ k : Nat, ((rs.take k).filterMap id).length ≤ 1000000 := fun k => by
    have h1 := List.length_filterMap_le id (rs.take k)
    have h3 : (rs.take k).length ≤ rs.length := by rw [List.length_take]; omega
    omega
  by_cases hlt : i < ds.length
  · refine .inr ⟨wk.go i H2 (s12.trans u2.oh) hlt, fun H3 => ∃ O3 acc, Same O1 O3 ∧ Up O H O3 H3 ∧ EnvR K H0 O3 H3 σ δ ∧ O3 Dl = none ∧ H3 Dl = some (.lst acc) ∧ DpAll K O3 acc ((rs.take (i + 1)).filterMap id), fun H3 z => ⟨ds.length - (i + 1), by omega, rfl, hlt, z⟩, fun y H3 hy => ?_⟩
    obtain ⟨d, hd⟩ : ∃ d, ds[i]? = some d := ⟨_, List.getElem?_eq_getElem hlt⟩
    obtain ⟨O3, u3, ry⟩ := wk.yld i O2 H2 y H3 d s12 u2.oh hd hy
    obtain ⟨o, hr, hfd⟩ := all2_at hf hd
    have e3 := e2.up u3
    -- the target
    refine gOf_snd (fun _ => none) O3 H3 O3 H3 (wipe σ vs) (wipeD δ vs) y (.val d) _ _ (.none H3) (e3.weak.wipe vs) (.refl u3.oh) ry (fun σ2 O4 δ2 u4 e4 wp g4 => ?_) hfd
    refine ⟨(wp vs hj).trans wipe_wipe, ?_⟩
    refine tOf_snd O4 H3 (fun _ => none) σ2 δ2 _ _ _ u4.oh e4 (fun _ _ _ _ _ _ _ z => z.elim) (fun b O5 H5 b' u5 rb g5 => ?_) g4
    have rb : b = b' := rb
    subst rb
    have u35 := (u2.trans u3).trans (u4.trans u5)
    have s15 : Same O1 O5 := s12.trans ((u3.trans (u4.trans u5)).o)
    have e5 := (e3.up u4).up u5
    have hO5 : O5 Dl = none := (u3.trans (u4.trans u5)).nn Dl (by rw [hH2]; simp) hO2
    have hH5 : H5 Dl = some (.lst acc) := (u3.trans (u4.trans u5)).h.at hH2
    have ra5 := dpAll_mono (u3.trans (u4.trans u5)).o ra
    cases b with
    | false =>
      have g5 : o = none := g5
      show ∃ O3 acc, _
      refine ⟨O5, acc, s15, u35, e5, hO5, hH5, ?_⟩
      rw [filterMap_take rs i o hr, g5]
      show DpAll K O5 acc (_ ++ [])
      rw [List.append_nil]
      exact ra5
    | true =>
      show tOf K mg WF (RE K) de σ2 H5 _
      refine tOf_snd O5 H5 (fun _ => none) σ2 δ2 _ _ _ u5.oh (e4.up u5) (fun _ _ _ _ _ _ _ z => z.elim) (fun v O6 H6 s u6 rsv g6 => ?_) g5
      obtain ⟨O7, r, u7, r7, fd⟩ := rsv.fr u6 g6
      have fd : o = some r := fd
      have hO7 : O7 Dl = none := u7.nn Dl (by rw [hH5]; simp) hO5
      have hH6 : H6 Dl = some (.lst acc) := u7.h.at hH5
      have hl : acc.length < sizeLine := by
        rw [dpl_length ra5]
        exact Nat.lt_of_le_of_lt (len i) hline
      refine ⟨acc, hH6, hl, O7, acc ++ [v], s15.trans u7.o, (u35.trans u7).mut hDH hO7 _ (fun t => tabs_upd t _ hH6), (e5.up u7).mut nD nDO _ (fun t => tabs_upd t _ hH6), hO7, upd_same, ?_⟩
      rw [filterMap_take rs i o hr, fd]
      exact dpl_append (dpAll_mono u7.o ra5) (.cons r7 .nil)
  · have e : i = ds.length := by omega
    subst e
    rw [hlen, List.take_length] at ra
    exact .inl ⟨wk.stop _ H2 (s12.trans u2.oh) (Nat.le_refl _), hq _ O2 H2 (.own (rs.filterMap id)) u2 ⟨Dl, acc, rfl, hDH, hO2, hH2, ra⟩ g2⟩
end
end DL
namespace DL
variable [HotA]
open PySem L2
section
variable {X : Cx} {W : WX} {pos : Pos}
theorem JI.cx {tg iter : Expr} {di : EI} (h : JI X W tg iter di) : ∃ wi, PI X tg iter wi ∧ ∀ (O H H0 : Hp) (σ : L2.St) (δ : List S) (x : XP) (q : List D → Prop) (R : It → Hp → Prop), Same O H → EnvR X.K H0 O H σ δ →
    (∀ e cls d O' H', Up O H O' H' → XRep X.K X.mg O' H' e cls d → x e → W cls d σ H') → (∀ J O' H' ds, Up O H O' H' → Walks X.K J O' ds → q ds → R J H') → di x δ q → wi σ H R := h.ex
theorem je_lc {elt tg iter : Expr} {ifs : List Expr} {scope : Scope} {own : List (Str × Nat)} {js : List Nat} {di : EI} {dg : EG} {dt : ET} {de : ES} (hc : X.calm = true) (hN : X.N.Nodup) (hi : JI X W tg iter di) (ok : BlkOk X.N X.env.scope scope own) (hj : ∀ j ∈ js, j ∈ own.map (·.2))
    (hg : ∀ (s : Shared) (H : Hp) (C : Addr) (cl : List (Str × Addr)) (fp : List Addr), JG (X.blk s H scope (compEnvC scope cl C X.env) fp) js tg dg) (ht : ∀ (s : Shared) (H : Hp) (C : Addr) (cl : List (Str × Addr)) (fp : List Addr), JTs (X.blk s H scope (compEnvC scope cl C X.env) fp) WF ifs dt)
    (he : ∀ (s : Shared) (H : Hp) (C : Addr) (cl : List (Str × Addr)) (fp : List Addr), JE (X.blk s H scope (compEnvC scope cl C X.env) fp) WF elt de) (hs : ∀ x, foldedSetIterable iter X.env x = pure x := by intro _; rfl) :
    JE X W (.ListComp elt [⟨tg, iter, ifs, 0⟩] scope pos) (eComp di (own.map (·.2)) dg dt de) := by
  obtain ⟨wi, pi, si⟩ := hi.cx
  exact ⟨_, pe_lc hc hN pi ok (fun s H C cl fp => show PG _ tg (gOf X.K js dg) from (hg s H C cl fp).can) (fun s H C cl fp => show PTs _ ifs (tOf X.K X.mg WF RT dt) from ht s H C cl fp) (fun s H C cl fp => show PE _ elt (tOf X.K X.mg WF (RE X.K) de) from (he s H C cl fp).can) hs, snd_comp hj si⟩

structure EndsR (K : PySem.W.Frag) (mg : Str → Option Value) (W : WX) (O0 H0 : Hp) (D : L2.Ends) (Dd : DL.Ends) : Prop where
  nx : ∀ O H σ δ, Up O0 H0 O H → EnvR K H0 O H σ δ → Dd.nx δ → D.nx σ H
  rt : ∀ O H v s, Up O0 H0 O H → SRep K H0 O H v s → Dd.rt s → D.rt v H
  bk : ∀ O H σ δ, Up O0 H0 O H → EnvR K H0 O H σ δ → Dd.bk δ → D.bk σ H
  ct : ∀ O H σ δ, Up O0 H0 O H → EnvR K H0 O H σ δ → Dd.ct δ → D.ct σ H
  ex : ∀ e cls d O H σ δ, Up O0 H0 O H → EnvR K H0 O H σ δ → XRep K mg O H e cls d → Dd.ex e δ → W cls d σ H
  rk : ∀ O H v d σ δ, Up O0 H0 O H → EnvR K H0 O H σ δ → isFlat d = true → Dp K O v d → Dd.rk d δ → D.rt v H
def SndS (K : PySem.W.Frag) (mg : Str → Option Value) (W : WX) (ts : TS) (ds : ST) : Prop := ∀ (O0 H0 O H : Hp) (σ : L2.St) (δ : List S) (D : L2.Ends) (Dd : DL.Ends), Up O0 H0 O H → EnvR K H0 O H σ δ → EndsR K mg W O0 H0 D Dd → ds Dd δ → ts D σ H
structure JS (X : Cx) (W : WX) (st : Stmt) (ds : ST) : Prop where
  ex : ∃ ts, PS X st ts ∧ SndS X.K X.mg W ts ds
structure JSs (X : Cx) (W : WX) (st : List Stmt) (ds : ST) : Prop where
  ex : ∃ ts, PSs X st ts ∧ SndS X.K X.mg W ts ds
theorem Up.swap {O0 H0 O1 H1 O H : Hp} (a : Up O0 H0 O1 H1) (b : Up O1 H0 O H) : Up O0 H0 O H := ⟨a.o.trans b.o, b.h, b.oh, fun x hx ho => b.nn x hx (a.nn x hx ho)⟩
theorem EndsR.swap {K : PySem.W.Frag} {mg : Str → Option Value} {O0 H0 O1 H1 : Hp} {D : L2.Ends} {Dd : DL.Ends} (u : Up O0 H0 O1 H1) (r : EndsR K mg W O0 H0 D Dd) : EndsR K mg W O1 H0 D Dd :=
  ⟨fun O H σ δ z => r.nx O H σ δ (u.swap z), fun O H v s z => r.rt O H v s (u.swap z), fun O H σ δ z => r.bk O H σ δ (u.swap z), fun O H σ δ z => r.ct O H σ δ (u.swap z), fun e c d O H σ δ z => r.ex e c d O H σ δ (u.swap z), fun O H v d σ δ z => r.rk O H v d σ δ (u.swap z)⟩
theorem EndsR.xe {K : PySem.W.Frag} {mg : Str → Option Value} {O0 H0 O H : Hp} {σ : L2.St} {δ : List S} {D : L2.Ends} {Dd : DL.Ends} (r : EndsR K mg W O0 H0 D Dd) (u : Up O0 H0 O H) (env : EnvR K H0 O H σ δ) :
    ∀ e cls d O' H', Up O H O' H' → XRep K mg O' H' e cls d → Dd.ex e δ → W cls d σ H' := fun e cls d O' H' u' xr z => r.ex e cls d O' H' σ δ (u.trans u') (env.up u') xr z
theorem jss_nil : JSs X W [] sNext := ⟨_, pss_nil, fun O0 H0 O H σ δ D Dd u env er g => er.nx O H σ δ u env g⟩
theorem jss_cons {st : Stmt} {rest : List Stmt} {s t : ST} (h : JS X W st s) (hr : JSs X W rest t) : JSs X W (st :: rest) (sSeq s t) := by
  obtain ⟨ts, p, a⟩ := h.ex
  obtain ⟨tr, p2, b⟩ := hr.ex
  exact ⟨_, pss_cons p p2, fun O0 H0 O H σ δ D Dd u env er g => a O0 H0 O H σ δ _ { Dd with nx := t Dd } u env ⟨fun O' H' σ' δ' u' e' g' => b O0 H0 O' H' σ' δ' D Dd u' e' er g', er.rt, er.bk, er.ct, er.ex, er.rk⟩ g⟩
theorem jss_cut {st : Stmt} {rest : List Stmt} {s t : ST} (h : JS X W st s) (hr : JSs X W rest t) : JSs X W (st :: rest) (sCut s t) := by
  obtain ⟨ts, p, a⟩ := h.ex
  obtain ⟨tr, p2, b⟩ := hr.ex
  refine ⟨_, pss_cons p p2, fun O0 H0 O H σ δ D Dd u env er g => ?_⟩
  obtain ⟨Mid, g1, g2⟩ := g
  exact a O0 H0 O H σ δ _ { Dd with nx := Mid } u env ⟨fun O' H' σ' δ' u' e' g' => b O0 H0 O' H' σ' δ' D Dd u' e' er (g2 δ' g'), er.rt, er.bk, er.ct, er.ex, er.rk⟩ g1
theorem jss_one {st : Stmt} {s : ST} (h : JS X W st s) : JSs X W [st] s := by
  obtain ⟨ts, p, a⟩ := h.ex
  exact ⟨_, pss_one p, a⟩
theorem jss_frz {sts : List Stmt} {s : ST} (i : Nat) (h : JSs X W sts s) : JSs X W sts (sSeq (sFrz i) s) := by
  obtain ⟨ts, p, a⟩ := h.ex
  refine ⟨_, p, fun O0 H0 O H σ δ D Dd u env er g => ?_⟩
  have g : (lk δ i).fr fun d => s Dd (put δ i (.val d)) := g
  cases e : lk δ i with
  | no => rw [e] at g; exact g.elim
  | adr _ => rw [e] at g; exact g.elim
  | obj v d fp =>
    rw [e] at g
    obtain ⟨nd, g⟩ := g
    obtain ⟨e1, ow, nu, fr⟩ := env.ob.obj i v d fp e
    have hl := lk_lt e (by intro y; cases y)
    have u2 : Up O0 H0 (plusO O H fp) H := ⟨u.o.trans plus_same, u.h, plus_sub u.oh, fun b hb hn => plus_out (fun z => hb (fr b z).1) (u.nn b hb hn)⟩
    have e2 : EnvR X.K H0 (plusO O H fp) H σ (put δ i .no) := (env.drop i).grow plus_same (fun j es p hj q => by
      by_cases hji : j = i
      · rw [hji, lk_put_same hl] at hj; cases hj
      · rw [lk_put_ne hji] at hj
        obtain ⟨p', _, q', _, o', _⟩ := env.own j es hj
        rw [q] at q'
        cases q'
        exact plus_out (env.ob.oo j i es v d fp p hj e q) o') (fun j w x gp hj b hb => by
      by_cases hji : j = i
      · rw [hji, lk_put_same hl] at hj; cases hj
      · rw [lk_put_ne hji] at hj
        exact plus_out (env.ob.pp j i w x gp v d fp hji hj e b hb) ((env.ob.obj j w x gp hj).2.2.2 b hb).2) (fun p hp => plus_out (env.tt.nf ow hp) (env.tt.n p hp))
    have e3 := e2.put i (ow.dp plus_same (fun b hb x z => by rw [plus_in hb (fr b hb).2]; exact z) nd)
    have es : σ.set i (some v) = σ := by
      refine List.ext_getElem? fun j => ?_
      by_cases hj : j = i
      · subst hj
        rw [List.getElem?_set_self (List.getElem?_eq_some_iff.mp e1).1, e1]
      · rw [List.getElem?_set_ne (Ne.symm hj)]
    have ed : put (put δ i .no) i (.val d) = put δ i (.val d) := put_put
    rw [es, ed] at e3
    exact a O0 H0 _ H σ _ D Dd u2 e3 er g
  | val d =>
    rw [e] at g
    obtain ⟨v, e1, r1⟩ := env.val i d e
    have e2 := env.put i r1
    have es : σ.set i (some v) = σ := by
      refine List.ext_getElem? fun j => ?_
      by_cases hj : j = i
      · subst hj
        rw [List.getElem?_set_self (List.getElem?_eq_some_iff.mp e1).1, e1]
      · rw [List.getElem?_set_ne (Ne.symm hj)]
    rw [es] at e2
    exact a O0 H0 O H σ _ D Dd u e2 er g
  | own ds =>
    rw [e] at g
    obtain ⟨p, vs, e1, n, o, z, r⟩ := env.own i ds e
    have u2 : Up O0 H0 (upd O p (.lst vs)) H := ⟨u.o.trans (same_new o _), u.h, fun b w q => by
      by_cases hb : b = p
      · subst hb; rw [upd_same] at q; cases q; exact z
      · rw [upd_ne hb] at q; exact u.oh b w q, fun b ha y => by
      have hn : b ≠ p := fun y => ha (by rw [y]; exact n)
      rw [upd_ne hn]; exact u.nn b ha y⟩
    have so := same_new o (.lst vs)
    have hi := lk_lt e (by intro y; cases y)
    have es : σ.set i (some (.ref p)) = σ := by
      refine List.ext_getElem? fun j => ?_
      by_cases hj : j = i
      · subst hj
        rw [List.getElem?_set_self (List.getElem?_eq_some_iff.mp e1).1, e1]
      · rw [List.getElem?_set_ne (Ne.symm hj)]
    have env2 : EnvR X.K H0 (upd O p (.lst vs)) H σ (put δ i .no) := by
      refine ⟨by rw [put_length]; exact env.len, fun j d h => ?_, fun j es h => ?_, fun j k es fs h1 h2 q => ?_, fun j a h => by
        have hj : j ≠ i := fun y => by rw [y, lk_put_same hi] at h; cases h
        rw [lk_put_ne hj] at h
        exact env.adr j a h, (env.ob.drop i).grow so fun j w x gp h b hb => by
        have hj : j ≠ i := fun y => by rw [y, lk_put_same hi] at h; cases h
        rw [lk_put_ne hj] at h
        have := env.ob.oo i j ds w x gp p e h e1
        rw [upd_ne (fun y => this (by rw [← y]; exact hb))]
        exact ((env.ob.obj j w x gp h).2.2.2 b hb).2, ⟨env.tt.t, fun q hq => by rw [upd_ne (env.tt.na z hq)]; exact env.tt.n q hq, fun q hq => so _ _ (env.tt.x q hq)⟩⟩
      · have hj : j ≠ i := fun y => by rw [y, lk_put_same hi] at h; cases h
        rw [lk_put_ne hj] at h
        obtain ⟨v, q1, q2⟩ := env.val j d h
        exact ⟨v, q1, dp_mono so q2⟩
      · have hj : j ≠ i := fun y => by rw [y, lk_put_same hi] at h; cases h
        rw [lk_put_ne hj] at h
        obtain ⟨p', vs', q1, q2, q3, q4, q5⟩ := env.own j es h
        refine ⟨p', vs', q1, q2, ?_, q4, dpAll_mono so q5⟩
        rw [upd_ne]
        · exact q3
        · rintro rfl
          exact hj (env.inj j i _ ds h e (q1.trans e1.symm))
      · have hj : j ≠ i := fun y => by rw [y, lk_put_same hi] at h1; cases h1
        have hk : k ≠ i := fun y => by rw [y, lk_put_same hi] at h2; cases h2
        rw [lk_put_ne hj] at h1
        rw [lk_put_ne hk] at h2
        exact env.inj j k es fs h1 h2 q
    have e3 := env2.put (v := .ref p) i (Dp.lst (ds := ds) (SqL.of upd_same) (dpAll_mono so r))
    rw [es] at e3
    have pp : put (put δ i .no) i (.val (.list ds)) = put δ i (.val (.list ds)) := by
      have h : ∀ (l : List S) (i : Nat) (a b : S), put (put l i a) i b = put l i b := by
        intro l
        induction l with
        | nil => intro _ _ _; rfl
        | cons x r ih =>
          intro i a b
          cases i with
          | zero => rfl
          | succ i => exact congrArg (x :: ·) (ih i a b)
      exact h δ i _ _
    rw [pp] at e3
    exact a O0 H0 _ H σ _ D Dd u2 e3 er g
theorem js_set {js : List Nat} {x : Str} {p : Pos} {e : Expr} {de : ES} {dg : EG} (h : JE X W e de) (hg : JG X js (.Name x p) dg) (hs : swapsWithSole [.Name x p] e pos.line X.env = pure false := by rfl) (hw : swappedStores [.Name x p] e X.env = pure none := by rfl) : JS X W (.Assign [.Name x p] e pos) (sAsg de dg) := by
  obtain ⟨te, pe, s⟩ := h.ex
  obtain ⟨g, pg, sg⟩ := hg.ex
  refine ⟨_, ps_asg pe pg hs hw, fun O0 H0 O H σ δ D Dd u env er k => ?_⟩
  refine s O H H0 σ δ _ _ _ u.oh env (er.xe u env) (fun v O1 H1 t u1 r1 g1 => ?_) k
  exact sg H0 O H O1 H1 σ δ v t _ _ u.h env u1 r1 (fun σ' O2 δ' u2 e2 _ k2 => er.nx O2 H1 σ' δ' (u.trans u2) e2 k2) g1
theorem js_drop {e : Expr} {de : ES} (h : JE X W e de) (hs : swapsWith e none pos.line X.env = pure false := by rfl) : JS X W (.Expr e pos) (sDrop de) := by
  obtain ⟨te, pe, s⟩ := h.ex
  refine ⟨_, ps_expr pe hs, fun O0 H0 O H σ δ D Dd u env er k => ?_⟩
  exact s O H H0 σ δ _ _ _ u.oh env (er.xe u env) (fun v O1 H1 t u1 r1 g1 => er.nx O1 H1 σ δ (u.trans u1) (env.up u1) g1) k
theorem js_ret {e : Expr} {de : ES} (h : JE X W e de) : JS X W (.Return (some e) pos) (sRet de) := by
  obtain ⟨te, pe, s⟩ := h.ex
  refine ⟨_, ps_ret pe, fun O0 H0 O H σ δ D Dd u env er k => ?_⟩
  exact s O H H0 σ δ _ _ _ u.oh env (er.xe u env) (fun v O1 H1 t u1 r1 g1 => er.rt O1 H1 v t (u.trans u1) (r1.back u.h) g1) k
theorem js_retOwn (i : Nat) {x : Str} {p : Pos} (hN : X.N[i]? = some x := by rfl) (hv : Vis X.env.scope x := by first | exact Or.inl rfl | exact Or.inr (Or.inl rfl) | exact Or.inr (Or.inr rfl)) (hd : (x == ("__debug__" : Str)) = false := by decide)
    (hcd : (x == ("__classdict__" : Str)) = false := by decide) : JS X W (.Return (some (.Name x p)) pos) (sRetOwn i) := by
  refine ⟨_, ps_ret (pe_var hN hv hd hcd), fun O0 H0 O H σ δ D Dd u env er k => ?_⟩
  show tVar i σ H D.rt
  unfold sRetOwn S.any at k
  split at k
  · exact k.elim
  · exact k.elim
  · rename_i v d fp e
    obtain ⟨e1, ow, nd, fr⟩ := env.ob.obj i v d fp e
    exact ⟨v, e1, er.rt O H v (.obj v d fp) u ⟨rfl, ow, nd, fr⟩ k⟩
  · rename_i d e
    obtain ⟨v, e1, r1⟩ := env.val i d e
    exact ⟨v, e1, er.rt O H v (.val d) u r1 k⟩
  · rename_i ds e
    obtain ⟨p, vs, e1, n, o, z, r⟩ := env.own i ds e
    exact ⟨_, e1, er.rt O H _ (.own ds) u ⟨p, vs, rfl, n, o, z, r⟩ k⟩
theorem js_if {c : Expr} {a b : List Stmt} {dt : ET} {da db : ST} (hc : JT X W c dt) (ha : JSs X W a da) (hb : JSs X W b db) : JS X W (.If c a b pos) (sIf dt da db) := by
  obtain ⟨tc, pc, sc⟩ := hc.ex
  obtain ⟨ta, pa, sa⟩ := ha.ex
  obtain ⟨tb, pb, sb⟩ := hb.ex
  refine ⟨_, ps_if pc pa pb, fun O0 H0 O H σ δ D Dd u env er k => ?_⟩
  refine sc O H H0 σ δ _ _ _ u.oh env (er.xe u env) (fun v O1 H1 t u1 r1 g1 => ?_) k
  have r1 : v = t := r1
  subst r1
  cases v with
  | true => exact sa O0 H0 O1 H1 σ δ D Dd (u.trans u1) (env.up u1) er g1
  | false => exact sb O0 H0 O1 H1 σ δ D Dd (u.trans u1) (env.up u1) er g1
theorem js_while {c : Expr} {b : List Stmt} {dt : ET} {db : ST} (hp : PassesOwn (model X.prog X.w) X.A X.env X.xe) (hc : JT X W c dt) (hb : JSs X W b db) : JS X W (.While c b [] pos) (sWhile dt db) := by
  obtain ⟨tc, pc, sc⟩ := hc.ex
  obtain ⟨tb, pb, sb⟩ := hb.ex
  refine ⟨_, ps_while hp pc pb, fun O0 H0 O H σ δ D Dd u env er k => ?_⟩
  obtain ⟨Inv, ⟨m, hm⟩, turn⟩ := k
  refine ⟨fun m σ H => ∃ O δ, Up O0 H0 O H ∧ EnvR X.K H0 O H σ δ ∧ Inv m δ, ⟨m, O, δ, u, env, hm⟩, ?_⟩
  rintro m σ1 H1 ⟨O1, δ1, u1, e1, w1⟩
  refine sc O1 H1 H0 σ1 δ1 _ _ _ u1.oh e1 (er.xe u1 e1) (fun v O2 H2 t u2 r2 g2 => ?_) (turn m δ1 w1)
  have r2 : v = t := r2
  subst r2
  cases v with
  | true =>
    refine ⟨fun σ3 H3 => ∃ O3 δ3, Up O0 H0 O3 H3 ∧ EnvR X.K H0 O3 H3 σ3 δ3 ∧ ∃ m', m' < m ∧ Inv m' δ3, fun σ3 H3 ⟨O3, δ3, u3, e3, m', hm, w3⟩ => ⟨m', hm, O3, δ3, u3, e3, w3⟩, ?_⟩
    exact sb O0 H0 O2 H2 σ1 δ1 _ { Dd with nx := fun δ2 => ∃ m', m' < m ∧ Inv m' δ2, ct := fun δ2 => ∃ m', m' < m ∧ Inv m' δ2, bk := Dd.nx } (u1.trans u2) (e1.up u2) ⟨fun O3 H3 σ3 δ3 u3 e3 w3 => ⟨O3, δ3, u3, e3, w3⟩, er.rt, er.nx, fun O3 H3 σ3 δ3 u3 e3 w3 => ⟨O3, δ3, u3, e3, w3⟩, er.ex, er.rk⟩ g2
  | false => exact er.nx O2 H2 σ1 δ1 (u1.trans u2) (e1.up u2) g2
theorem js_for {tg iter : Expr} {b : List Stmt} {js : List Nat} {di : EI} {dg : EG} {db : ST} (hp : PassesOwn (model X.prog X.w) X.A X.env X.xe) (hc : X.calm = true) (hi : JI X W tg iter di) (hg : JG X js tg dg) (hb : JSs X W b db) (hs' : ∀ x, foldedSetIterable iter X.env x = pure x := by intro _; rfl) : JS X W (.For tg iter b [] pos) (sFor di dg db) := by
  obtain ⟨wi, pi, si⟩ := hi.cx
  obtain ⟨g, pg, sg⟩ := hg.ex
  obtain ⟨tb, pb, sb⟩ := hb.ex
  refine ⟨_, ps_for hp hc pi pg pb hs', fun O0 H0 O H σ δ D Dd u env er k => ?_⟩
  refine si O H H0 σ δ _ _ _ u.oh env (er.xe u env) (fun J O1 H1 ds u1 wk g1 => ?_) k
  obtain ⟨Inv, i0, hs, hd⟩ := g1
  have u01 := u.trans u1
  refine ⟨fun i m σ H => m = ds.length - i ∧ i ≤ ds.length ∧ ∃ O δ, Up O1 H0 O H ∧ EnvR X.K H0 O H σ δ ∧ Inv i δ, ⟨ds.length, rfl, Nat.zero_le _, O1, δ, ⟨Same.refl O1, u01.h, u01.oh, fun _ _ z => z⟩, env.up u1, i0⟩, ?_⟩
  rintro i m σ2 H2 ⟨rfl, hi, O2, δ2, u2, e2, w2⟩
  by_cases hlt : i < ds.length
  · refine .inr ⟨wk.go i H2 (u2.o.trans u2.oh) hlt, fun σ3 H3 => ∃ O3 δ3, Up O1 H0 O3 H3 ∧ EnvR X.K H0 O3 H3 σ3 δ3 ∧ Inv (i + 1) δ3, fun σ3 H3 z => ⟨ds.length - (i + 1), by omega, rfl, hlt, z⟩, fun y H3 hy => ?_⟩
    obtain ⟨d, hd'⟩ : ∃ d, ds[i]? = some d := ⟨_, List.getElem?_eq_getElem hlt⟩
    obtain ⟨O3, u3, ry⟩ := wk.yld i O2 H2 y H3 d u2.o u2.oh hd' hy
    have u23 := u2.trans u3
    refine sg H0 O3 H3 O3 H3 σ2 δ2 y (.val d) _ _ u23.h (e2.up u3) (.refl u3.oh) ry (fun σ4 O4 δ4 u4 e4 _ g4 => ?_) (hs i d δ2 hd' w2)
    have er1 : EndsR X.K X.mg W O1 H0 D Dd := er.swap u01
    exact sb O1 H0 O4 H3 σ4 δ4 _ { Dd with nx := Inv (i + 1), ct := Inv (i + 1), bk := Dd.nx } (u23.trans u4) e4 ⟨fun O5 H5 σ5 δ5 u5 e5 w5 => ⟨O5, δ5, u5, e5, w5⟩, er1.rt, er1.nx, fun O5 H5 σ5 δ5 u5 e5 w5 => ⟨O5, δ5, u5, e5, w5⟩, er1.ex, er1.rk⟩ g4
  · have e : i = ds.length := by omega
    subst e
    exact .inl ⟨wk.stop _ H2 (u2.o.trans u2.oh) (Nat.le_refl _), er.nx O2 H2 σ2 δ2 (u01.swap u2) e2 (hd δ2 w2)⟩
theorem EnvR.setOwn {K : PySem.W.Frag} {H0 O H : Hp} {σ : L2.St} {δ : List S} (r : EnvR K H0 O H σ δ) {i : Nat} {ds es : List D} {p : Addr} {ws : List V} (hi : lk δ i = .own ds) (hp : σ[i]? = some (some (.ref p))) (a : DpAll K O ws es) :
    EnvR K H0 O (upd H p (.lst ws)) σ (DL.put δ i (.own es)) := by
  have hl := lk_lt hi (by intro y; cases y)
  obtain ⟨p', vs', e1, n, o, z, _⟩ := r.own i ds hi
  rw [hp] at e1
  cases e1
  refine ⟨by rw [put_length]; exact r.len, fun j d h => ?_, fun j fs h => ?_, fun j k fs gs h1 h2 q => ?_, fun j a h => by
    have hj : j ≠ i := fun y => by rw [y, lk_put_same hl] at h; cases h
    rw [lk_put_ne hj] at h
    exact r.adr j a h, r.ob.setOwn _ hi hp, ⟨tabs_upd r.tt.t _ z, r.tt.n, r.tt.x⟩⟩
  · have hj : j ≠ i := fun y => by rw [y, lk_put_same hl] at h; cases h
    rw [lk_put_ne hj] at h
    exact r.val j d h
  · by_cases hj : j = i
    · subst hj
      rw [lk_put_same hl] at h
      cases h
      exact ⟨p, ws, hp, n, o, upd_same, a⟩
    · rw [lk_put_ne hj] at h
      obtain ⟨p2, vs2, q1, q2, q3, q4, q5⟩ := r.own j fs h
      refine ⟨p2, vs2, q1, q2, q3, ?_, q5⟩
      rw [upd_ne]
      · exact q4
      · rintro rfl
        exact hj (r.inj j i _ ds h hi (q1.trans hp.symm))
  · have key : ∀ j fs, lk (DL.put δ i (.own es)) j = .own fs → ∃ gs, lk δ j = .own gs := fun j fs h => by
      by_cases hj : j = i
      · exact ⟨ds, by rw [hj]; exact hi⟩
      · rw [lk_put_ne hj] at h
        exact ⟨fs, h⟩
    obtain ⟨_, k1⟩ := key j fs h1
    obtain ⟨_, k2⟩ := key k gs h2
    exact r.inj j k _ _ k1 k2 q
theorem js_app (i : Nat) {x : Str} {e : Expr} {de : ES} {p1 p2 pos' : Pos} (h : JE X W e de) (hs : swapsWith (.Call (.Attribute (.Name x p1) "append" p2) [e] [] pos') none pos.line X.env = pure false := by rfl)
    (hb : ∀ {te : TE}, PE X e te → PE X (.Call (.Attribute (.Name x p1) "append" p2) [e] [] pos') (tBM X.K "list" rAppend (tVar i) (tCons te tNil)) := by exact fun pe => pe_bm PySem.F.plainAttrs_list PySem.F.slot_list_append PySem.F.type_list_append mt_append (pv _) (pa_cons pe pa_nil)) :
    JS X W (.Expr (.Call (.Attribute (.Name x p1) "append" p2) [e] [] pos') pos) (sApp i de) := by
  obtain ⟨te, pe, s⟩ := h.ex
  refine ⟨_, ps_expr (hb pe) hs, fun O0 H0 O H σ δ D Dd u env er k => ?_⟩
  unfold sApp S.ow at k
  split at k
  · rename_i ds hi
    obtain ⟨p, vs, e1, n, o, z, r⟩ := env.own i ds hi
    refine ⟨.ref p, e1, .inl ⟨rfl, _, SqL.of z⟩, ?_⟩
    refine s O H H0 σ δ _ _ _ u.oh env (er.xe u env) (fun v O1 H1 t u1 r1 g1 => ?_) k
    obtain ⟨O2, d, u2, r2, g2, g3⟩ := r1.fr u1 g1
    have hH := u2.h.at z
    have hO := u2.nn p (by rw [z]; simp) o
    refine ⟨p, vs, v, rfl, rfl, hH, by rw [dpl_length r]; exact g2, ?_⟩
    exact er.nx O2 _ σ _ ((u.trans u2).mut n hO _ (fun t => tabs_upd t _ hH)) ((env.up u2).setOwn hi e1 (dpl_append (dpAll_mono u2.o r) (.cons r2 .nil))) g3
  all_goals exact k.elim
theorem js_item (i : Nat) {x : Str} {e k : Expr} {de : ES} {dk : ES} {p1 p2 : Pos} (h : JE X W e de) (hk : JE X W k dk)
    (hb : ∀ {te tk : TE}, PE X e te → PE X k tk → PS X (.Assign [.Subscript (.Name x p1) k p2] e pos) (tAsg te (gSub (tVar i) tk rSetL)) := by exact fun pe pk => ps_asg pe (pg_sub (pv _) pk set_list)) :
    JS X W (.Assign [.Subscript (.Name x p1) k p2] e pos) (sSet i dk de) := by
  obtain ⟨te, pe, s⟩ := h.ex
  obtain ⟨tk, pk, sk⟩ := hk.ex
  refine ⟨_, hb pe pk, fun O0 H0 O H σ δ D Dd u env er g => ?_⟩
  unfold sSet S.ow at g
  split at g
  · rename_i ds hi
    refine s O H H0 σ δ _ _ _ u.oh env (er.xe u env) (fun v O1 H1 t u1 r1 g1 => ?_) g
    obtain ⟨O2, d, u2, r2, g2⟩ := r1.fr u1 g1
    have env2 := env.up u2
    have u02 := u.trans u2
    obtain ⟨p, vs, e1, n, o, z, r⟩ := env2.own i ds hi
    refine ⟨.ref p, e1, ?_⟩
    refine sk O2 H1 H0 σ δ _ _ _ u2.oh env2 (er.xe u02 env2) (fun w O3 H3 t3 u3 r3 g3 => ?_) g2
    unfold S.nm setK at g3
    split at g3
    · rename_i n'
      cases r3
      obtain ⟨j, hj, g3⟩ := g3
      have hH := u3.h.at z
      have hO := u3.nn p (by rw [z]; simp) o
      refine ⟨p, vs, n', j, rfl, rfl, hH, by rw [dpl_length r]; exact hj, ?_⟩
      exact er.nx O3 _ σ _ ((u02.trans u3).mut n hO _ (fun t => tabs_upd t _ hH)) ((env2.up u3).setOwn hi e1 (dpl_set (dpAll_mono u3.o r) (dp_mono u3.o r2))) g3
    · exact g3.elim
  all_goals exact g.elim
end

theorem startD_obj {n : Nat} {ds : List D} {i : Nat} {v : V} {d : D} {fp : List Addr} : lk (startD n ds) i ≠ .obj v d fp := by
  have h1 : ∀ (l : List D) (r : List S) (i : Nat), (∀ j, lk r j ≠ .obj v d fp) → lk (l.map S.val ++ r) i ≠ .obj v d fp := by
    intro l
    induction l with
    | nil => intro r i h; exact h i
    | cons a l ih =>
      intro r i h
      cases i with
      | zero => intro z; cases z
      | succ i => exact ih r i h
  refine h1 ds _ i fun j => ?_
  have h2 : ∀ (m j : Nat), lk (List.replicate m S.no) j ≠ .obj v d fp := by
    intro m
    induction m with
    | zero => intro j z; cases z
    | succ m ih =>
      intro j
      cases j with
      | zero => intro z; cases z
      | succ j => exact ih j
  exact h2 _ j
theorem startD_own {n : Nat} {ds : List D} {i : Nat} {es : List D} : lk (startD n ds) i ≠ .own es := by
  have h1 : ∀ (l : List D) (r : List S) (i : Nat) (es : List D), (∀ j es, lk r j ≠ .own es) → lk (l.map S.val ++ r) i ≠ .own es := by
    intro l
    induction l with
    | nil => intro r i es h; exact h i es
    | cons a l ih =>
      intro r i es h
      cases i with
      | zero => intro z; cases z
      | succ i => exact ih r i es h
  refine h1 ds _ i es fun j es => ?_
  have h2 : ∀ (m j : Nat) (es : List D), lk (List.replicate m S.no) j ≠ .own es := by
    intro m
    induction m with
    | zero => intro j es z; cases z
    | succ m ih =>
      intro j es
      cases j with
      | zero => intro z; cases z
      | succ j => exact ih j es
  exact h2 _ j es
theorem startD_adr {n : Nat} {ds : List D} {i : Nat} {es : Addr} : lk (startD n ds) i ≠ .adr es := by
  have h1 : ∀ (l : List D) (r : List S) (i : Nat) (es : Addr), (∀ j es, lk r j ≠ .adr es) → lk (l.map S.val ++ r) i ≠ .adr es := by
    intro l
    induction l with
    | nil => intro r i es h; exact h i es
    | cons a l ih =>
      intro r i es h
      cases i with
      | zero => intro z; cases z
      | succ i => exact ih r i es h
  refine h1 ds _ i es fun j es => ?_
  have h2 : ∀ (m j : Nat) (es : Addr), lk (List.replicate m S.no) j ≠ .adr es := by
    intro m
    induction m with
    | zero => intro j es z; cases z
    | succ m ih =>
      intro j es
      cases j with
      | zero => intro z; cases z
      | succ j => exact ih j es
  exact h2 _ j es
theorem startD_val {K : PySem.W.Frag} {O : Hp} {N : List Str} {vs : List V} {ds : List D} (r : DpAll K O vs ds) {i : Nat} {d : D} (h : lk (startD N.length ds) i = .val d) : ∃ v, (L2.start N vs)[i]? = some (some v) ∧ Dp K O v d := by
  have h1 : ∀ (l : List D) (ws : List V) (m : Nat) (tl : List (Option V)) (i : Nat), DpAll K O ws l → lk (l.map S.val ++ List.replicate m S.no) i = .val d → ∃ v, (ws.map some ++ tl)[i]? = some (some v) ∧ Dp K O v d := by
    intro l
    induction l with
    | nil =>
      intro ws m tl i hr z
      exfalso
      have h2 : ∀ (m j : Nat), lk (List.replicate m S.no) j ≠ .val d := by
        intro m
        induction m with
        | zero => intro j z; cases z
        | succ m ih =>
          intro j
          cases j with
          | zero => intro z; cases z
          | succ j => exact ih j
      exact h2 m i z
    | cons a l ih =>
      intro ws m tl i hr z
      cases hr with
      | cons h1 h2 =>
        cases i with
        | zero => cases z; exact ⟨_, rfl, h1⟩
        | succ i => exact ih _ m tl i h2 z
  exact h1 ds vs _ _ i r h
theorem startD_length {n : Nat} {ds : List D} (h : ds.length ≤ n) : (startD n ds).length = n := by
  unfold startD
  rw [List.length_append, List.length_map, List.length_replicate]
  omega
theorem start_env {K : PySem.W.Frag} {O H : Hp} {N : List Str} {vs : List V} {ds : List D} (r : DpAll K O vs ds) (hl : ds.length ≤ N.length) (tt : TOk O H) : EnvR K H O H (L2.start N vs) (startD N.length ds) where
  tt := tt
  len := by
    rw [startD_length hl]
    unfold L2.start
    rw [List.length_append, List.length_map, List.length_replicate, dpl_length r]
    omega
  val := fun i d h => startD_val r h
  own := fun i es h => absurd h startD_own
  inj := fun i j es fs h => absurd h startD_own
  adr := fun i a h => absurd h startD_adr
  ob := ⟨fun i v d fp h => absurd h startD_obj, fun i j ds v d fp p h => absurd h startD_own, fun i j v d fp w e gp _ h => absurd h startD_obj⟩
section
open PyProof.Rows
variable {P : Program} {w : World} {K : PySem.W.Frag} {mg : Str → Option Value} {base : Heap}
abbrev WX0 (E : XK) : WX := fun cls d _ H => E cls d H
theorem fnD {x qual : Str} {st : Stmt} {f : Addr} {fd : FuncData} {N ps : List Str} {k : Nat} {p : DSp} {b : ST} (F : Fun K x qual st f fd) (S : FnScope N ps (defScope st)) (len : ∀ ds x q, p ds x q → ds.length = ps.length)
    (hb : ∀ (cdv : Value) (A : Around) (outer : List Env) (s : Shared) (H : Hp) (E : XK), Room k (A.deeper (envOfC qual (defScope st) s.heap.objs.size f cdv)) →
      JSs (cxOf (L2N.CX P w) P w K mg base N qual (defScope st) f cdv A outer s H E) (WX0 E) (defBody st) b)
    (ok : ∀ ds x q, p ds x q → bodyD N.length b ds x q) : FnOk P w K mg base (L2N.CX P w) (k + 1) f fd ps (spD K mg p) := by
  have hN : ps.length ≤ N.length := by
    have h := congrArg List.length S.pre
    rw [List.length_take] at h
    omega
  obtain ⟨oc, od, kV, doc, pm, an, cdv, ct, osl, rfl, lk, hcd⟩ := F.ex
  refine fn_of lk hcd S (fun vs H Q E h => ?_) (fun A outer s H vs Q E hr h => ?_)
  · obtain ⟨O, ds, x, q, _, _, r, g, _⟩ := h
    rw [dpl_length r]
    exact len ds x q g
  · obtain ⟨ts, ps', ss⟩ := (hb cdv A outer s H E hr).ex
    refine ⟨ts, ps', ?_⟩
    obtain ⟨O, ds, x, q, so, tt, r, g, h1, h2⟩ := h
    have hl := len ds x q g
    refine ss O H O H (L2.start N vs) (startD N.length ds) _ ⟨fun _ => q (.val .none), q, fun _ => False, fun _ => False, fun e _ => x e, fun _ _ => False⟩ (.refl so) (start_env r (by omega) tt) ?_ (ok ds x q g)
    exact ⟨fun O' H' σ δ u _ z => h1 .non O' H' (.val .none) u .non z, fun O' H' v s u z y => h1 v O' H' s u z y, fun _ _ _ _ _ _ z => z.elim, fun _ _ _ _ _ _ z => z.elim, fun e c d O' H' σ δ u _ xr z => h2 e c d O' H' u xr z, fun _ _ _ _ _ _ _ _ _ _ z => z.elim⟩
theorem takesD {f : Addr} {qual : Str} {sc : Scope} {cdv : Value} {A : Around} {outer : List Env} {s : Shared} {H : Hp} {E : XK} {N : List Str} : L2N.Takes (cxOf (L2N.CX P w) P w K mg base N qual sc f cdv A outer s H E) (WX0 E) := L2N.takes_of rfl rfl rfl rfl
theorem passesD {f : Addr} {qual : Str} {sc : Scope} {cdv : Value} {A : Around} {outer : List Env} {s : Shared} {H : Hp} {E : XK} {N : List Str} : PassesOwn (model P w) (cxOf (L2N.CX P w) P w K mg base N qual sc f cdv A outer s H E).A (cxOf (L2N.CX P w) P w K mg base N qual sc f cdv A outer s H E).env (cxOf (L2N.CX P w) P w K mg base N qual sc f cdv A outer s H E).xe := passes_of (X := cxOf (L2N.CX P w) P w K mg base N qual sc f cdv A outer s H E) rfl
end
def spLaw (C : List Int → Prop) : DSp
  | [.list xs], _, q => ∃ ns : List Int, xs = ns.map PyData.int ∧ C ns ∧ q (.val (.bool true))
  | _, _, _ => False
theorem dp_ints {K : PySem.W.Frag} {O : Hp} : ∀ ns : List Int, DpAll K O (ns.map V.int) (ns.map PyData.int)
  | [] => .nil
  | n :: ns => .cons (.int n) (dp_ints ns)
structure Script (ns : List Int) : Prop where
  len : ns.length ≤ 63
  bits : ∀ n ∈ ns, Builtin.Int.intBits n ≤ 2 ^ 20
end DL

namespace DL
variable [HotA]
open PySem L2 PyProof.Rows
section
variable {X : Cx} {W : WX} {a b c e : Expr} {es : List Expr} {pos : Pos}
def rNegD : R1D
  | .int i, q => q (.val (.int (-i)))
  | _, _ => False
theorem je_neg {da : EP} (h : JP X W a da) : JE X W (.UnaryOp .USub a pos) (eUn rNegD da) := by
  obtain ⟨te, p, s⟩ := h.ex
  refine ⟨_, pe_un un_neg p, fun O H H0 σ δ x q Q so env hx hq g => ?_⟩
  refine s O H H0 σ δ x _ _ so env hx (fun v O1 H1 d u1 r1 g1 => ?_) g
  unfold rNegD at g1
  split at g1
  · rename_i i
    cases r1
    exact ⟨i, rfl, hq _ O1 H1 (.val (.int (-i))) u1 (.int _) g1⟩
  · exact g1.elim
end
end DL

namespace DL
open PySem L2 PySem.W PyProof.Rows
theorem script_ok {l : OpenLaw} (hn : l.most = some 63) {P : Params} {h : Heap} {args : List WData} {vals : List Value} (hpre : l.row.toRowW.claim.pre args = true) (hlay : WData.layableAll args = true) (hwl : WellAll P h vals args) :
    ∃ a vs ns, vals = [Value.ref a] ∧ args = [WData.list (ns.map WData.int)] ∧ h.get? a = some { cls := .type "list", data := .seq vs.toArray } ∧ IntsAre vs ns ∧ Script ns := by
  obtain ⟨a, vs, ns, rfl, rfl, h1, h2, h3⟩ := Att.script_of hn hpre hwl
  refine ⟨a, vs, ns, rfl, rfl, h1, h2, h3, fun n hm => ?_⟩
  have h4 : (WData.list (ns.map WData.int)).layable = true := by
    unfold WData.layableAll at hlay
    simpa using hlay
  have h5 := layableW_item h4 (.int n) (List.mem_map.mpr ⟨n, hm, rfl⟩)
  have h6 := (layableW_iff.mp h5).2.2
  unfold WData.weight at h6
  exact h6
theorem walkD {l : OpenLaw} {k : Nat} {q : Program} {loose : List Str} {XP : (Str → Option Value) → Heap → Prop} {YP : World → Heap → Prop} {d : DefRec} {K : Params → PySem.W.Frag} {x : Str}
    (hn : l.most = some 63) (hdf : d.params.defaults = []) (hr : Room k callerA) (hY : ∀ (w : World) (h : Heap), YP w h → (K w.params).In h)
    (F : ∀ (w : World) (mg : Str → Option Value) (fa : Addr) (h : Heap), (K w.params).In h → h.Ns mainGlobals mg → mg d.name = some (.ref fa) →
      ∃ fd : FuncData, (∀ (s : Shared) (u : Value), BindsTo s fd ⟨[u], []⟩ [(x, u)]) ∧ ∀ base : Heap, (K w.params).In base → base.Ns mainGlobals mg → FnOk l.prog w (K w.params) mg base (L2N.CX l.prog w) k fa fd [x] (spD (K w.params) mg (spLaw Script))) (nt : tabT = [] := by rfl) :
    PySem.W.WalkO q loose XP YP l.row.toRowW d [] (fun f vs => PySem.call f vs) := by
  intro w s₀ s₁ mg mb G Y fa o pm cd doc dV kV ho hd hcd hD hmg hg args vals as hpre hlay hrd hwl hlo
  obtain rfl : dV = .none := Dflts.none hD hdf
  obtain rfl : kV = .none := Dflts.noKw hD
  obtain ⟨a, vs, ns, rfl, rfl, hobj, hints, hsc⟩ := script_ok hn hpre hlay hwl
  have KX := hY w _ Y
  obtain ⟨fd, hb, hF⟩ := F w mg fa _ KX G.T.g hmg
  have call : codeAny (model l.prog w) callerA (.call (.ref fa) ⟨[.ref a], []⟩) (fun r s' => r = .ok (.ret (.bool true)) ∧ OldK s₁.heap s'.heap ∧ s'.os = s₁.os ∧ AllBare s'.gens) s₁ :=
    law_call KX G.T.g G.T.b G.T.builtins G.T.nolimit hg hobj hints (Nat.le_trans hsc.len (by decide)) hr hF hb (fun H hO hS => ⟨H, [.list (ns.map .int)], fun _ => False, fun s => s = .val (.bool true), Same.refl H, ⟨fun p hp => (by rw [nt] at hp; exact nomatch hp), fun p hp => (by rw [nt] at hp; exact nomatch hp), fun p hp => nomatch hp⟩, .cons (.lst hS (dp_ints ns)) .nil, ⟨ns, rfl, hsc, rfl⟩, fun v O' H' s u r z => by
      subst z
      cases r
      rfl, fun _ _ _ _ _ _ _ z => z⟩) fun H e s' h => by
      obtain ⟨_, _, _, _, _, _, _, _, _, _, _, _, z⟩ := h
      exact z.elim
  refine PySem.W.enter_call (codeAny_mono call fun r s' hq => ?_)
  obtain ⟨rfl, h2, h3, h4⟩ := hq
  exact ⟨.inl ⟨.bool true, .bool true, [], rfl, fun _ => rfl, .bool true, Att.post_true l _, fun _ => ⟨List.Pairwise.nil, fun _ hm => (nomatch hm)⟩⟩, h2, h3, h4⟩
structure Df (K : PySem.W.Frag) (mg : Str → Option Value) (x : Str) (st : Stmt) (ps : List Str) where
  a : Addr
  fd : FuncData
  F : Fun K x x st a fd
  m : mg x = some (.ref a)
  bd : ∀ us : List Value, us.length = ps.length → bindArgs fd ⟨us, []⟩ = pure (ps.zip us)
theorem Df.b {K : PySem.W.Frag} {mg : Str → Option Value} {x : Str} {st : Stmt} {ps : List Str} (D : Df K mg x st ps) : Binds K D.fd ps [] := .all D.bd
theorem df_mk {K : PySem.W.Frag} {mg : Str → Option Value} {h : Heap} {x : Str} {st : Stmt} {ps : List Str} {f : Addr} {oc : Value} {od an : Option Addr} {osl : Array (Option Value)} {kV doc pm cdv ct : Value} (X : K.In h) (G : h.Ns mainGlobals mg)
    (hb : ∀ (kV doc pm : Value) (an : Option Addr) (cdv ct : Value) (us : List Value), us.length = ps.length → bindArgs (fnOf x x (defArgs st) (defBody st) (defScope st) .none kV doc pm an cdv ct) ⟨us, []⟩ = pure (ps.zip us))
    (a : nsIn K mainGlobals x = some (some (.ref f))) (l : K.lookup f = some ⟨oc, od, .func (fnOf x x (defArgs st) (defBody st) (defScope st) .none kV doc pm an cdv ct), osl⟩) (c : codeIn K cdv x = true) (k : keepIn K (.ref f) = true) :
    Nonempty (Df K mg x st ps) := ⟨⟨f, _, fun_mk (st := st) l c k, mg_of X G a, hb _ _ _ _ _ _⟩⟩
theorem law_mk {P : Program} {w : World} {K : PySem.W.Frag} {mg : Str → Option Value} {st : Stmt} {x : Str} {fa : Addr} {k : Nat} {sp : Sp} (D : Df K mg "law" st [x]) (h : mg "law" = some (.ref fa)) (F : ∀ base : Heap, FnOk P w K mg base (L2N.CX P w) k D.a D.fd [x] sp) :
    ∃ fd : FuncData, (∀ (s : Shared) (u : Value), BindsTo s fd ⟨[u], []⟩ [(x, u)]) ∧ ∀ base : Heap, K.In base → base.Ns mainGlobals mg → FnOk P w K mg base (L2N.CX P w) k fa fd [x] sp := by
  have e := h.symm.trans D.m
  injection e with e
  injection e with e
  subst e
  exact ⟨D.fd, fun s u => .of_eq (D.bd [u] rfl), fun base _ _ => F base⟩
theorem hk_int : ∀ d, (kitB (tyD d) "int").isSome = true := by intro d; cases d <;> (show (kitB _ "int").isSome = true; first | exact (by decide +kernel : (kitB "NoneType" "int").isSome = true) | exact (by decide +kernel : (kitB "bool" "int").isSome = true) | exact (by decide +kernel : (kitB "int" "int").isSome = true) | exact (by decide +kernel : (kitB "str" "int").isSome = true) | exact (by decide +kernel : (kitB "list" "int").isSome = true) | exact (by decide +kernel : (kitB "tuple" "int").isSome = true) | exact (by decide +kernel : (kitB "dict" "int").isSome = true))
theorem hk_bool : ∀ d, (kitB (tyD d) "bool").isSome = true := by intro d; cases d <;> (show (kitB _ "bool").isSome = true; first | exact (by decide +kernel : (kitB "NoneType" "bool").isSome = true) | exact (by decide +kernel : (kitB "bool" "bool").isSome = true) | exact (by decide +kernel : (kitB "int" "bool").isSome = true) | exact (by decide +kernel : (kitB "str" "bool").isSome = true) | exact (by decide +kernel : (kitB "list" "bool").isSome = true) | exact (by decide +kernel : (kitB "tuple" "bool").isSome = true) | exact (by decide +kernel : (kitB "dict" "bool").isSome = true))
theorem hk_tuple : ∀ d, (kitB (tyD d) "tuple").isSome = true := by intro d; cases d <;> (show (kitB _ "tuple").isSome = true; first | exact (by decide +kernel : (kitB "NoneType" "tuple").isSome = true) | exact (by decide +kernel : (kitB "bool" "tuple").isSome = true) | exact (by decide +kernel : (kitB "int" "tuple").isSome = true) | exact (by decide +kernel : (kitB "str" "tuple").isSome = true) | exact (by decide +kernel : (kitB "list" "tuple").isSome = true) | exact (by decide +kernel : (kitB "tuple" "tuple").isSome = true) | exact (by decide +kernel : (kitB "dict" "tuple").isSome = true))
theorem hk_str : ∀ d, (kitB (tyD d) "str").isSome = true := by intro d; cases d <;> (show (kitB _ "str").isSome = true; first | exact (by decide +kernel : (kitB "NoneType" "str").isSome = true) | exact (by decide +kernel : (kitB "bool" "str").isSome = true) | exact (by decide +kernel : (kitB "int" "str").isSome = true) | exact (by decide +kernel : (kitB "str" "str").isSome = true) | exact (by decide +kernel : (kitB "list" "str").isSome = true) | exact (by decide +kernel : (kitB "tuple" "str").isSome = true) | exact (by decide +kernel : (kitB "dict" "str").isSome = true))
theorem isD_int (i : Int) : isD "int" (.int i) = true := by show (kitB "int" "int").getD false = true; decide +kernel
theorem isD_int_bool (i : Int) : isD "bool" (.int i) = false := by show (kitB "int" "bool").getD false = false; decide +kernel
theorem isD_tuple (l : List D) : isD "tuple" (.tuple l) = true := by show (kitB "tuple" "tuple").getD false = true; decide +kernel
theorem isD_list (l : List D) : isD "list" (.list l) = true := by show (kitB "list" "list").getD false = true; decide +kernel
theorem isD_str (l : Str) : isD "str" (.str l) = true := by show (kitB "str" "str").getD false = true; decide +kernel
abbrev Sz (n : Nat) (i : Int) : Prop := Builtin.Int.intBits i ≤ n
theorem DivOk.of {n : Nat} {j : Int} (h : j ≠ 0) (hz : Sz n j) (hn : n ≤ 9000) : DivOk j := by
  refine ⟨h, ?_⟩
  have e : (j == 0) = false := by simpa using h
  unfold Sz Builtin.Int.intBits at hz
  rw [e] at hz
  simp only [Bool.false_eq_true, if_false] at hz
  omega
instance {a b : Int} : Decidable (IntMulOk a b) := by unfold IntMulOk; exact inferInstance
theorem use {K : PySem.W.Frag} {mg : Str → Option Value} {h : Heap} {x : Str} {p : Prop} (X : K.In h) (G : h.Ns mainGlobals mg) (e : nsIn K mainGlobals x = some none) (k : mg x = none → p) : p := k (mg_none_of X G e)
theorem df_use {K : PySem.W.Frag} {mg : Str → Option Value} {h : Heap} {x : Str} {st : Stmt} {ps : List Str} {p : Prop} {f : Addr} {oc : Value} {od an : Option Addr} {osl : Array (Option Value)} {kV doc pm cdv ct : Value} (X : K.In h) (G : h.Ns mainGlobals mg)
    (hb : ∀ (kV doc pm : Value) (an : Option Addr) (cdv ct : Value) (us : List Value), us.length = ps.length → bindArgs (fnOf x x (defArgs st) (defBody st) (defScope st) .none kV doc pm an cdv ct) ⟨us, []⟩ = pure (ps.zip us))
    (a : nsIn K mainGlobals x = some (some (.ref f))) (l : K.lookup f = some ⟨oc, od, .func (fnOf x x (defArgs st) (defBody st) (defScope st) .none kV doc pm an cdv ct), osl⟩) (c : codeIn K cdv x = true) (k : keepIn K (.ref f) = true)
    (q : Df K mg x st ps → p) : p := (df_mk X G hb a l c k).elim q
abbrev p_law : DSp := spLaw Script
theorem len_law : ∀ ds x q, p_law ds x q → ds.length = 1 := by
  intro ds x q h
  unfold p_law spLaw at h
  split at h
  · rfl
  · exact h.elim
instance {a b : Int} : Decidable (CPow a b) := by unfold CPow; exact inferInstance
instance {a : Int} : Decidable (DivOk a) := by unfold DivOk; exact inferInstance
theorem CPow.of {i : Int} {j : Int} (h : 0 ≤ j ∧ j ≤ 1000000) (hi : Sz 64 i) : CPow i j := ⟨h.1, h.2, intBits_le_iff.mp hi⟩
theorem Sz.mono {m n : Nat} {i : Int} (h : Sz m i) (e : m ≤ n) : Sz n i := Nat.le_trans h e
end DL

namespace DL
open PySem L2
class Kq where
  k : S → Prop
class Ke where
  e : DL.Ends
def callK (p : DSp) (ds : List D) (x : XP) [K : Kq] : Prop := p ds x K.k
def ixK (o : Option D) [K : Kq] : Prop := optK o fun v => K.k (.val v)
theorem w_ixS {d : D} {K : Kq} : ixK (some d) = K.k (.val d) := (rfl)
section
variable {d c : D} {ds : List D} {i j : Int} {b : Bool} {k : D → Prop} {q : S → Prop} {kb : Bool → Prop} {kn : Int → Prop} {kl : List D → Prop} {x y : Str} {xs ys : List D}
theorem u_eVar {i : Nat} {x0 : XP} {δ : List S} {q : S → Prop} : eVar i x0 δ q = ((lk δ i).var q) := (rfl)
theorem u_pVar {i : Nat} {x0 : XP} {δ : List S} {q : D → Prop} : pVar i x0 δ q = ((lk δ i).pk q) := (rfl)
theorem u_pE {e : ES} {x : XP} {δ : List S} {q : D → Prop} : pE e x δ q = (e x δ fun s => s.fr q) := (rfl)
theorem u_eC {d : D} {x0 : XP} {δ0 : List S} {q : S → Prop} : eC d x0 δ0 q = (q (.val d)) := (rfl)
theorem u_eOp {r : R2D} {a b : EP} {x : XP} {δ : List S} {q : S → Prop} : eOp r a b x δ q = (a x δ fun c => b x δ fun d => r c d q) := (rfl)
theorem u_eUn {r : R1D} {a : EP} {x : XP} {δ : List S} {q : S → Prop} : eUn r a x δ q = (a x δ fun c => r c q) := (rfl)
theorem u_tV {e : ES} {x : XP} {δ : List S} {q : Bool → Prop} : tV e x δ q = (e x δ fun s => s.bl q) := (rfl)
theorem u_tAnd {t u : ET} {x : XP} {δ : List S} {q : Bool → Prop} : tAnd t u x δ q = (t x δ fun b => if b = true then u x δ q else q false) := (rfl)
theorem u_tOr {t u : ET} {x : XP} {δ : List S} {q : Bool → Prop} : tOr t u x δ q = (t x δ fun b => if b = true then q true else u x δ q) := (rfl)
theorem u_tNot {t : ET} {x : XP} {δ : List S} {q : Bool → Prop} : tNot t x δ q = (t x δ fun b => q (!b)) := (rfl)
theorem u_eAnd {t : ES} {u : ES} {x : XP} {δ : List S} {q : S → Prop} : eAnd t u x δ q = (t x δ fun s => s.bl fun b => if b = true then u x δ q else q (.val (.bool false))) := (rfl)
theorem u_eNot {t : ES} {x : XP} {δ : List S} {q : S → Prop} : eNot t x δ q = (t x δ fun s => s.bl fun b => q (.val (.bool (!b)))) := (rfl)
theorem u_aNil {x0 : XP} {δ0 : List S} {q : List D → Prop} : aNil  x0 δ0 q = (q []) := (rfl)
theorem u_aCons {e : ES} {r : EA} {x : XP} {δ : List S} {q : List D → Prop} : aCons e r x δ q = (e x δ fun s => s.fr fun d => r x δ fun ds => q (d :: ds)) := (rfl)
theorem u_apNil {x0 : XP} {δ0 : List S} {q : List D → Prop} : apNil  x0 δ0 q = (q []) := (rfl)
theorem u_apCons {e : EP} {r : EA} {x : XP} {δ : List S} {q : List D → Prop} : apCons e r x δ q = (e x δ fun d => r x δ fun ds => q (d :: ds)) := (rfl)
theorem u_eTup {a : EA} {x : XP} {δ : List S} {q : S → Prop} : eTup a x δ q = (a x δ fun ds => ds.length ≤ sizeLine ∧ q (.val (.tuple ds))) := (rfl)
theorem u_eLst {a : EA} {x : XP} {δ : List S} {q : S → Prop} : eLst a x δ q = (a x δ fun ds => ds.length ≤ sizeLine ∧ q (.own ds)) := (rfl)
theorem u_eCall {p : DSp} {a : EA} {x : XP} {δ : List S} {q : S → Prop} : eCall p a x δ q = (a x δ fun ds => @callK p ds x ⟨q⟩) := (rfl)
theorem u_eB {r : RD} {a : EA} {x : XP} {δ : List S} {q : S → Prop} : eB r a x δ q = (a x δ fun ds => r ds q) := (rfl)
theorem u_sNext {D : DL.Ends} {δ : List S} : sNext  D δ = (D.nx δ) := (rfl)
theorem u_sSeq {t u : ST} {D : DL.Ends} {δ : List S} : sSeq t u D δ = (t { D with nx := u D } δ) := (rfl)
theorem u_gVar {i : Nat} {s : S} {δ : List S} {q : List S → Prop} : gVar i s δ q = (q (put δ i s)) := (rfl)
theorem u_gVal {i : Nat} {s : S} {δ : List S} {q : List S → Prop} : gVal i s δ q = (s.fr fun d => q (put δ i (.val d))) := (rfl)
theorem u_sAsg {e : ES} {g : EG} {D : DL.Ends} {δ : List S} : sAsg e g D δ = (e (fun x => D.ex x δ) δ fun s => g s δ D.nx) := (rfl)
theorem u_sDrop {e : ES} {D : DL.Ends} {δ : List S} : sDrop e D δ = (e (fun x => D.ex x δ) δ fun _ => D.nx δ) := (rfl)
theorem u_sRet {e : ES} {D : DL.Ends} {δ : List S} : sRet e D δ = (e (fun x => D.ex x δ) δ D.rt) := (rfl)
theorem u_sRetOwn {i : Nat} {D : DL.Ends} {δ : List S} : sRetOwn i D δ = ((lk δ i).any D.rt) := (rfl)
theorem u_sIf {t : ET} {a b : ST} {D : DL.Ends} {δ : List S} : sIf t a b D δ = (t (fun x => D.ex x δ) δ fun c => if c = true then a D δ else b D δ) := (rfl)
theorem u_sRaise {c : Str} {D : DL.Ends} {δ : List S} : sRaise c D δ = (D.ex ⟨c, none⟩ δ) := (rfl)
theorem u_sFrz {i : Nat} {D : DL.Ends} {δ : List S} : sFrz i D δ = ((lk δ i).fr fun d => D.nx (put δ i (.val d))) := (rfl)
theorem u_sApp {i : Nat} {e : ES} {D : DL.Ends} {δ : List S} : sApp i e D δ = ((lk δ i).ow fun ds => e (fun x => D.ex x δ) δ fun s => s.fr fun d => ds.length < sizeLine ∧ D.nx (put δ i (.own (ds ++ [d])))) := (rfl)
theorem u_sSet {i : Nat} {k : ES} {e : ES} {D : DL.Ends} {δ : List S} : sSet i k e D δ = ((lk δ i).ow fun ds => e (fun x => D.ex x δ) δ fun s => s.fr fun d => k (fun x => D.ex x δ) δ fun t => t.nm fun n => setK ds n d fun es => D.nx (put δ i (.own es))) := (rfl)
theorem u_iVal {e : ES} {x : XP} {δ : List S} {q : List D → Prop} : iVal e x δ q = (e x δ fun s => s.fr fun d => seqK d q) := (rfl)
theorem u_iRng1 {a : EA} {x : XP} {δ : List S} {q : List D → Prop} : iRng1 a x δ q = (a x δ fun ds => numK ds fun n => (-(2 ^ 62) ≤ n ∧ n < 2 ^ 62) ∧ q (rngD 0 n.toNat)) := (rfl)
theorem u_eIsi {T : String} {e : EP} {x : XP} {δ : List S} {q : S → Prop} : eIsi T e x δ q = (e x δ fun d => noDict d = true ∧ q (.val (.bool (isD T d)))) := (rfl)
theorem u_tYesD {x0 : XP} {δ0 : List S} {q : Bool → Prop} : tYesD  x0 δ0 q = (q true) := (rfl)
theorem u_body {n : Nat} {b : ST} {ds : List D} {x : XP} {q : S → Prop} : bodyD n b ds x q = b ⟨fun _ => q (.val .none), q, fun _ => False, fun _ => False, fun e _ => x e, fun _ _ => False⟩ (startD n ds) := (rfl)
def forK (g : EG) (b : ST) (δ : List S) (ds : List DL.D) [K : Ke] : Prop := ∃ Inv : Nat → List S → Prop, Inv 0 δ ∧
  (∀ i d δ', ds[i]? = some d → Inv i δ' → g (.val d) δ' fun δ2 => b { K.e with nx := Inv (i + 1), ct := Inv (i + 1), bk := K.e.nx } δ2) ∧ ∀ δ', Inv ds.length δ' → K.e.nx δ'
theorem u_sFor {src : EI} {g : EG} {b : ST} {D : DL.Ends} {δ : List S} : sFor src g b D δ = src (fun x => D.ex x δ) δ (fun ds => @forK g b δ ds ⟨D⟩) := (rfl)
def whileK (t : ET) (b : ST) (δ : List S) [K : Ke] : Prop := sWhile t b K.e δ
theorem u_sWhile {t : ET} {b : ST} {D : DL.Ends} {δ : List S} : sWhile t b D δ = @whileK t b δ ⟨D⟩ := (rfl)
def cutsK (t u : ST) (δ : List S) [K : Ke] : Prop := sCut t u K.e δ
theorem u_sCut {t u : ST} {D : DL.Ends} {δ : List S} : sCut t u D δ = @cutsK t u δ ⟨D⟩ := (rfl)
def compK (vs : List Nat) (g : EG) (t : ET) (e : ES) (δ : List S) (ds : List DL.D) [K : Kq] : Prop := ds.length ≤ 1000000 ∧ ∃ rs : List (Option D),
  All2 (fun d o => g (.val d) (wipeD δ vs) fun δ2 => t (fun _ => False) δ2 fun b => if b = true then e (fun _ => False) δ2 fun s => s.fr fun r => o = some r else o = none) ds rs ∧ K.k (.own (rs.filterMap id))
theorem u_eComp {src : EI} {vs : List Nat} {g : EG} {t : ET} {e : ES} {x : XP} {δ : List S} {q : S → Prop} : eComp src vs g t e x δ q = src x δ (fun ds => @compK vs g t e δ ds ⟨q⟩) := (rfl)
theorem while_ {t : ET} {b : ST} {D : DL.Ends} {δ : List S} (Inv : Nat → List S → Prop) (m : Nat) (h0 : Inv m δ) (hs : ∀ m δ', Inv m δ' →
  t (fun x => D.ex x δ') δ' fun c => if c = true then b { D with nx := fun δ2 => ∃ m', m' < m ∧ Inv m' δ2, ct := fun δ2 => ∃ m', m' < m ∧ Inv m' δ2, bk := D.nx } δ' else D.nx δ') : @whileK t b δ ⟨D⟩ := ⟨Inv, ⟨m, h0⟩, hs⟩
theorem w_pk1 : (S.val d).pk k = k d := (rfl)
theorem w_pk2 : (S.own ds).pk k = k (.list ds) := (rfl)
theorem w_fr1 : (S.val d).fr k = k d := (rfl)
theorem w_fr2 : (S.own ds).fr k = k (.list ds) := (rfl)
theorem w_var : (S.val d).var q = q (.val d) := (rfl)
theorem w_bl : (S.val (.bool b)).bl kb = kb b := (rfl)
theorem w_nm : (S.val (.int i)).nm kn = kn i := (rfl)
theorem w_ow : (S.own ds).ow kl = kl ds := (rfl)
theorem w_any1 : (S.val d).any q = q (.val d) := (rfl)
theorem w_any2 : (S.own ds).any q = q (.own ds) := (rfl)
theorem w_seq1 : seqK (.list ds) kl = kl ds := (rfl)
theorem w_seq2 : seqK (.tuple ds) kl = kl ds := (rfl)
theorem w_num : numK [.int i] kn = kn i := (rfl)
theorem w_opt {α : Type} {a : α} {ka : α → Prop} : optK (some a) ka = ka a := (rfl)
theorem w_int {C : Int → Int → Prop} {g : Int → Int → D} : rIntD C g (.int i) (.int j) q = (C i j ∧ q (.val (g i j))) := (rfl)
theorem w_int0 {g : Int → Int → D} : rInt0D g (.int i) (.int j) q = q (.val (g i j)) := (rfl)
theorem w_add1 : rAddD (.int i) (.int j) q = q (.val (.int (i + j))) := (rfl)
theorem w_add2 : rAddD (.str x) (.str y) q = (x.length + y.length ≤ sizeLine ∧ q (.val (.str (x ++ y)))) := (rfl)
theorem w_add4 : rAddD (.list xs) (.list ys) q = (xs.length + ys.length ≤ sizeLine ∧ q (.own (xs ++ ys))) := (rfl)
theorem w_add3 : rAddD (.tuple xs) (.tuple ys) q = ((xs ≠ [] ∧ ys ≠ []) ∧ xs.length + ys.length ≤ sizeLine ∧ q (.val (.tuple (xs ++ ys)))) := (rfl)
theorem w_eq1 : rEqD (.int i) (.int j) q = q (.val (.bool (decide (i = j)))) := (rfl)
theorem w_eq2 : rEqD (.str x) (.str y) q = q (.val (.bool (decide (x = y)))) := (rfl)
theorem w_eq3 : rEqD (.tuple xs) d q = (shapedB (.tuple xs) = true ∧ shapedB d = true ∧ q (.val (.bool (PyData.eqv (.tuple xs) d)))) := by cases d <;> rfl
theorem w_eq4 : rEqD (.list xs) d q = (shapedB (.list xs) = true ∧ shapedB d = true ∧ q (.val (.bool (PyData.eqv (.list xs) d)))) := by cases d <;> rfl
theorem w_eq5 : rEqD (.int i) (.bool b) q = (shapedB (.int i) = true ∧ shapedB (.bool b) = true ∧ q (.val (.bool (PyData.eqv (.int i) (.bool b))))) := (rfl)
theorem w_eq6 : rEqD (.bool b) d q = (shapedB (.bool b) = true ∧ shapedB d = true ∧ q (.val (.bool (PyData.eqv (.bool b) d)))) := by cases d <;> rfl
theorem w_ne1 : rNeD (.int i) (.int j) q = q (.val (.bool (!decide (i = j)))) := (rfl)
theorem w_ne2 : rNeD (.str x) (.str y) q = q (.val (.bool (!decide (x = y)))) := (rfl)
theorem w_ne3 : rNeD (.tuple xs) d q = (shapedB (.tuple xs) = true ∧ shapedB d = true ∧ q (.val (.bool (!PyData.eqv (.tuple xs) d)))) := by cases d <;> rfl
theorem w_ne4 : rNeD (.list xs) d q = (shapedB (.list xs) = true ∧ shapedB d = true ∧ q (.val (.bool (!PyData.eqv (.list xs) d)))) := by cases d <;> rfl
theorem w_isN : rIsND d .none q = q (.val (.bool (isNon d))) := (rfl)
theorem w_ix1 : rIxD (.list xs) (.int i) q = @ixK (atI xs i) ⟨q⟩ := (rfl)
theorem w_ix2 : rIxD (.tuple xs) (.int i) q = @ixK (atI xs i) ⟨q⟩ := (rfl)
theorem w_ix3 : rIxD (.str x) (.int i) q = (x.length ≤ sizeLine ∧ optK (atI x.cps.toList i) fun c => q (.val (.str ⟨#[c]⟩))) := (rfl)
theorem w_len1 : rLenD [.list xs] q = q (.val (.int xs.length)) := (rfl)
theorem w_len2 : rLenD [.tuple xs] q = q (.val (.int xs.length)) := (rfl)
theorem w_len3 : rLenD [.str x] q = (x.length ≤ sizeLine ∧ q (.val (.int x.length))) := (rfl)
theorem w_abs : rAbsD [.int i] q = q (.val (.int i.natAbs)) := by
  show q (.val (.int (if i < 0 then -i else i))) = _
  have : (if i < 0 then -i else i) = (i.natAbs : Int) := by split <;> omega
  rw [this]
theorem w_all : rAllD [.list xs] q = optK (bools xs) fun bs => q (.val (.bool (bs.all id))) := by
  show (∃ bs, bools xs = some bs ∧ q (.val (.bool (bs.all id)))) = _
  cases bools xs with
  | none => exact propext ⟨fun ⟨_, e, _⟩ => (nomatch e), fun h => h.elim⟩
  | some bs => exact propext ⟨fun ⟨_, e, h⟩ => by cases e; exact h, fun h => ⟨bs, rfl, h⟩⟩
theorem w_tuple : rTupleD [.list xs] q = q (.val (.tuple xs)) := (rfl)
theorem w_neg : rNegD (.int i) q = q (.val (.int (-i))) := (rfl)
theorem w_flat1 : (S.val (.int i)).flat = true := (rfl)
theorem w_flat2 : (S.val (.bool b)).flat = true := (rfl)
theorem w_flat3 : (S.val (.str x)).flat = true := (rfl)
theorem w_flat4 : (S.val .none).flat = true := (rfl)
theorem w_lk0 {s : S} {l : List S} : lk (s :: l) 0 = s := (rfl)
theorem w_lks {s : S} {l : List S} {n : Nat} : lk (s :: l) (n + 1) = lk l n := (rfl)
theorem w_put0 {s t : S} {l : List S} : put (s :: l) 0 t = t :: l := (rfl)
theorem w_puts {s t : S} {l : List S} {n : Nat} : put (s :: l) (n + 1) t = s :: put l n t := (rfl)
theorem w_wipe0 {l : List S} : wipeD l [] = l := (rfl)
theorem w_wipe1 {l : List S} {v : Nat} {vs : List Nat} : wipeD l (v :: vs) = put (wipeD l vs) v .no := (rfl)
theorem w_all2a {α β : Type} {P : α → β → Prop} : All2 P [] [] = True := (rfl)
theorem w_all2b {α β : Type} {P : α → β → Prop} {a : α} {b : β} {as : List α} {bs : List β} : All2 P (a :: as) (b :: bs) = (P a b ∧ All2 P as bs) := (rfl)
theorem w_id1 {α : Type} {a : α} {l : List (Option α)} : (some a :: l).filterMap id = a :: l.filterMap id := (rfl)
theorem w_id2 {α : Type} {l : List (Option α)} : (none :: l).filterMap id = l.filterMap id := (rfl)
theorem w_id3 {α : Type} : ([] : List (Option α)).filterMap id = [] := (rfl)
theorem filterMap_some {α β : Type} (f : α → β) (l : List α) : (l.map fun a => some (f a)).filterMap id = l.map f := by
  induction l with
  | nil => rfl
  | cons a l ih => show f a :: (l.map fun a => some (f a)).filterMap id = f a :: l.map f; rw [ih]
theorem filterMap_filter {α β : Type} (p : α → Bool) (f : α → β) (l : List α) : (l.map fun a => if p a = true then some (f a) else none).filterMap id = (l.filter p).map f := by
  induction l with
  | nil => rfl
  | cons a l ih =>
    by_cases h : p a = true
    · rw [List.filter_cons_of_pos h, List.map_cons, List.map_cons, if_pos h, ← ih]; rfl
    · rw [List.filter_cons_of_neg h, List.map_cons, if_neg h, ← ih]; rfl
theorem rng3 : rngD 0 (Int.toNat 3) = [.int 0, .int 1, .int 2] := rfl
theorem map_int_inj : ∀ {ns ms : List Int}, ns.map PyData.int = ms.map PyData.int → ns = ms
  | [], [], _ => rfl
  | [], _ :: _, h => by cases h
  | _ :: _, [], h => by cases h
  | n :: ns, m :: ms, h => by
    injection h with h1 h2
    injection h1 with h1
    rw [h1, map_int_inj h2]
theorem ints_inj {ns ms : List Int} : (ns.map PyData.int = ms.map PyData.int) = (ns = ms) := propext ⟨map_int_inj, fun h => by rw [h]⟩
theorem Sz.add {m n : Nat} {i j : Int} (h : Sz m i) (k : Sz n j) : Sz (max m n + 1) (i + j) := intBits_add_le h k
theorem Sz.sub {m n : Nat} {i j : Int} (h : Sz m i) (k : Sz n j) : Sz (max m n + 1) (i - j) := intBits_sub_le h k
theorem Sz.mul {m n : Nat} {i j : Int} (h : Sz m i) (k : Sz n j) : Sz (m + n) (i * j) := intBits_mul_le h k
theorem Sz.neg {m : Nat} {i : Int} (h : Sz m i) : Sz m (-i) := intBits_neg_le h
theorem Sz.fdiv {m : Nat} {i j : Int} (h : Sz m i) : Sz m (i.fdiv j) := intBits_fdiv_le h
theorem Sz.fmod {m n : Nat} {i j : Int} (h : Sz m i) (k : Sz n j) : Sz (max m n) (i.fmod j) := intBits_fmod_le h k
theorem Sz.ediv {m : Nat} {i j : Int} (h : Sz m i) : Sz m (i / j) := intBits_le_of_natAbs (by
  by_cases z : 0 ≤ j
  · rw [← Int.fdiv_eq_ediv_of_nonneg i z]
    exact natAbs_fdiv_le i j
  · have : i / j = -(i / (-j)) := by rw [Int.ediv_neg, Int.neg_neg]
    rw [this, Int.natAbs_neg, ← Int.fdiv_eq_ediv_of_nonneg i (by omega)]
    exact natAbs_fdiv_le i (-j)) h
theorem Sz.emod {n : Nat} {i j : Int} (h : 0 < j) (k : Sz n j) : Sz n (i % j) := by
  have h1 := Int.emod_nonneg i (show j ≠ 0 by omega)
  have h2 := Int.emod_lt_of_pos i h
  exact intBits_le_of_natAbs (by omega) k
theorem Sz.of_le {n : Nat} {i j : Int} (h : i.natAbs ≤ j.natAbs) (k : Sz n j) : Sz n i := intBits_le_of_natAbs h k
theorem Sz.ite {m n : Nat} {c : Prop} [Decidable c] {i j : Int} (h : Sz m i) (k : Sz n j) : Sz (max m n) (if c then i else j) := intBits_ite_le h k
theorem w_fmod {a b : Int} (h : 0 ≤ b) : a.fmod b = a % b := Int.fmod_eq_emod_of_nonneg a h
theorem w_fdiv {a b : Int} (h : 0 ≤ b) : a.fdiv b = a / b := Int.fdiv_eq_ediv_of_nonneg a h
def rngI (lo : Int) (n : Nat) : List Int := (List.range n).map fun k : Nat => lo + k
theorem comp_maps {α : Type} {vs : List Nat} {g : EG} {t : ET} {e : ES} {δ : List S} {q : S → Prop} {as : List α} {en : α → D} (p : α → Bool) (f : α → D) (hl : as.length ≤ 1000000)
    (h : ∀ a ∈ as, g (.val (en a)) (wipeD δ vs) fun δ2 => t (fun _ => False) δ2 fun b => if b = true then e (fun _ => False) δ2 fun s => s.fr fun r => p a = true ∧ f a = r else p a = false) (hk : q (.own ((as.filter p).map f))) : @compK vs g t e δ (as.map en) ⟨q⟩ := by
  refine ⟨by rw [List.length_map]; exact hl, as.map fun a => if p a = true then some (f a) else none, ?_, by rw [filterMap_filter]; exact hk⟩
  clear hl hk
  induction as with
  | nil => exact True.intro
  | cons a as ih =>
    refine ⟨?_, ih fun b hb => h b (List.mem_cons_of_mem _ hb)⟩
    have z := h a List.mem_cons_self
    have e1 : ∀ b : Bool, ∀ δ2 : List S, (if b = true then e (fun _ => False) δ2 fun s => s.fr fun r => (if p a = true then some (f a) else none) = some r else (if p a = true then some (f a) else none) = (none : Option D)) = (if b = true then e (fun _ => False) δ2 fun s => s.fr fun r => p a = true ∧ f a = r else p a = false) := by
      intro b δ2
      cases hp : p a with
      | true => simp
      | false => simp
    simp only [e1]
    exact z
theorem comp_all {α : Type} {vs : List Nat} {g : EG} {e : ES} {δ : List S} {q : S → Prop} {as : List α} {en : α → D} (f : α → D) (hl : as.length ≤ 1000000)
    (h : ∀ a ∈ as, g (.val (en a)) (wipeD δ vs) fun δ2 => e (fun _ => False) δ2 fun s => s.fr fun r => f a = r) (hk : q (.own (as.map f))) : @compK vs g tYesD e δ (as.map en) ⟨q⟩ := by
  refine comp_maps (fun _ => true) f hl (fun a ha => ?_) (by rw [List.filter_eq_self.mpr fun _ _ => rfl]; exact hk)
  have z := h a ha
  simp only [tYesD, if_true, true_and]
  exact z
theorem w_bools {α : Type} {as : List α} {f : α → Bool} : bools (as.map fun a => PyData.bool (f a)) = some (as.map f) := by
  induction as with
  | nil => rfl
  | cons a as ih => show (bools (as.map fun a => PyData.bool (f a))).map (f a :: ·) = _; rw [ih]; rfl
theorem map_at {α : Type} {as : List α} {g : α → D} {i : Nat} {d : D} (h : (as.map g)[i]? = some d) : ∃ a, as[i]? = some a ∧ d = g a := by
  rw [List.getElem?_map] at h
  cases e : as[i]? with
  | none => rw [e] at h; cases h
  | some a => rw [e] at h; cases h; exact ⟨a, rfl, rfl⟩
theorem for_maps {α : Type} {as : List α} {en : α → D} {g : EG} {b : ST} {D : DL.Ends} {δ : List S} (I : List α → List α → List S → Prop) (h0 : I [] as δ)
    (hs : ∀ (l : List α) (a : α) (r : List α) (δ' : List S), as = l ++ a :: r → I l (a :: r) δ' → g (.val (en a)) δ' fun δ2 => b { D with nx := I (l ++ [a]) r, ct := I (l ++ [a]) r, bk := D.nx } δ2) (hd : ∀ δ', I as [] δ' → D.nx δ') : @forK g b δ (as.map en) ⟨D⟩ := by
  refine ⟨fun i δ' => I (as.take i) (as.drop i) δ', h0, fun i d δ' hd' w => ?_, fun δ' w => hd δ' (by rw [List.length_map, List.take_length, List.drop_length] at w; exact w)⟩
  obtain ⟨a, ha, rfl⟩ := map_at hd'
  obtain ⟨hl, rfl⟩ := List.getElem?_eq_some_iff.mp ha
  have e : as.drop i = as[i] :: as.drop (i + 1) := List.drop_eq_getElem_cons hl
  have w : I (as.take i) (as.drop i) δ' := w
  rw [e] at w
  have z := hs (as.take i) as[i] (as.drop (i + 1)) δ' (by rw [← e, List.take_append_drop]) w
  have e2 : as.take (i + 1) = as.take i ++ [as[i]] := by rw [List.take_succ, ha]; rfl
  rw [← e2] at z
  exact z
theorem for_rng {lo : Int} {n : Nat} {g : EG} {b : ST} {D : DL.Ends} {δ : List S} (I : Nat → List S → Prop) (h0 : I 0 δ)
    (hs : ∀ (i : Nat) (δ' : List S), i < n → I i δ' → g (.val (.int (lo + i))) δ' fun δ2 => b { D with nx := I (i + 1), ct := I (i + 1), bk := D.nx } δ2) (hd : ∀ δ', I n δ' → D.nx δ') : @forK g b δ (rngD lo n) ⟨D⟩ := by
  refine ⟨I, h0, fun i d δ' hd' w => ?_, fun δ' w => hd δ' (by rw [rngD_length] at w; exact w)⟩
  obtain ⟨rfl, hi⟩ := rngD_at hd'
  exact hs i δ' hi w
theorem cut_ {t u : ST} {D : DL.Ends} {δ : List S} (Mid : List S → Prop) (h1 : t { D with nx := Mid } δ) (h2 : ∀ δ', Mid δ' → u D δ') : @cutsK t u δ ⟨D⟩ := ⟨Mid, h1, h2⟩
theorem w_ex1 {α : Type} {P : α → Prop} {a : α} : (∃ n, P n ∧ a = n) = P a := propext ⟨fun ⟨n, p, e⟩ => by rw [e]; exact p, fun p => ⟨a, p, rfl⟩⟩
theorem w_ex2 {α : Type} {a : α} : (∃ n, a = n) = True := propext ⟨fun _ => True.intro, fun _ => ⟨a, rfl⟩⟩
theorem w_ex3 {α β : Type} {P : α → β → Prop} {a : α} {b : β} : (∃ m n, P m n ∧ a = m ∧ b = n) = P a b := propext ⟨fun ⟨m, n, p, e, f⟩ => by rw [e, f]; exact p, fun p => ⟨a, b, p, rfl, rfl⟩⟩
theorem w_bools1 : bools [] = some [] := (rfl)
theorem w_bools2 {b : Bool} {r : List D} : bools (.bool b :: r) = (bools r).map (b :: ·) := (rfl)
theorem rng_0 {i : Int} : rngD i 0 = [] := rfl
theorem rng_1 : rngD 0 1 = [.int 0] := rfl
theorem rng_2 : rngD 0 2 = [.int 0, .int 1] := rfl
theorem rng_3 : rngD 0 3 = [.int 0, .int 1, .int 2] := rfl
theorem rng_6 : rngD 0 6 = [.int 0, .int 1, .int 2, .int 3, .int 4, .int 5] := rfl
def elK (vs : List Nat) (g : EG) (e : ES) (δ : List S) (d r : D) : Prop := g (.val d) (wipeD δ vs) fun δ2 => e (fun _ => False) δ2 fun s => s.fr fun r' => r = r'
theorem u_elK {vs : List Nat} {g : EG} {e : ES} {δ : List S} {d r : D} : elK vs g e δ d r = g (.val d) (wipeD δ vs) fun δ2 => e (fun _ => False) δ2 fun s => s.fr fun r' => r = r' := (rfl)
theorem all2_el {vs : List Nat} {g : EG} {e : ES} {δ : List S} : ∀ {ds rs : List D}, All2 (elK vs g e δ) ds rs → All2 (fun d o => g (.val d) (wipeD δ vs) fun δ2 => tYesD (fun _ => False) δ2 fun b => if b = true then e (fun _ => False) δ2 fun s => s.fr fun r => o = some r else o = none) ds (rs.map some)
  | [], [], _ => True.intro
  | d :: ds, r :: rs, h => ⟨by
      have z := h.1
      unfold elK at z
      simp only [tYesD, if_true, Option.some.injEq]
      exact z, all2_el h.2⟩
  | [], _ :: _, h => h.elim
  | _ :: _, [], h => h.elim
theorem comp_lit {vs : List Nat} {g : EG} {e : ES} {δ : List S} {q : S → Prop} {ds : List D} (rs : List D) (hl : ds.length ≤ 1000000) (h : All2 (elK vs g e δ) ds rs) (hk : q (.own rs)) : @compK vs g tYesD e δ ds ⟨q⟩ :=
  ⟨hl, rs.map some, all2_el h, by rw [List.filterMap_map]; have : (id ∘ some : D → Option D) = some := rfl; rw [this, List.filterMap_some]; exact hk⟩
theorem eqvAll_ints_iff : ∀ xs ys : List Int, PyData.eqvAll (xs.map PyData.int) (ys.map PyData.int) = decide (xs = ys)
  | [], [] => by simp [PyData.eqvAll]
  | [], _ :: _ => by simp [PyData.eqvAll]
  | _ :: _, [] => by simp [PyData.eqvAll]
  | a :: xs, b :: ys => by rw [List.map_cons, List.map_cons, PyData.eqvAll, eqvAll_ints_iff xs ys]; by_cases h : a = b <;> by_cases k : xs = ys <;> simp [PyData.eqv, h, k]
theorem lay_ints : ∀ xs : List Int, PyData.canLayAll0 (xs.map PyData.int) = true ∧ PyData.depthAll (xs.map PyData.int) ≤ 63
  | [] => ⟨by simp [PyData.canLayAll0], by simp [PyData.depthAll]⟩
  | a :: xs => by
    have h := lay_ints xs
    exact ⟨by rw [List.map_cons, PyData.canLayAll0]; simp [PyData.canLay0, h.1], by rw [List.map_cons, PyData.depthAll]; simp [PyData.depth]; omega⟩
theorem shaped_ints {xs : List Int} : shapedB (.list (xs.map PyData.int)) = true := by
  unfold shapedB SeqAt.shaped
  simp [PyData.canLay0, PyData.depth, lay_ints xs]
theorem shaped_intsT {xs : List Int} : shapedB (.tuple (xs.map PyData.int)) = true := by
  unfold shapedB SeqAt.shaped
  simp [PyData.canLay0, PyData.depth, lay_ints xs]
theorem setK_0 {a d : D} {l : List D} {k : List D → Prop} : setK (a :: l) 0 d k = k (d :: l) := by
  unfold setK
  have : ixN (a :: l).length 0 = some 0 := by unfold ixN; simp
  rw [this]
  exact propext ⟨fun ⟨j, e, h⟩ => by cases e; exact h, fun h => ⟨0, rfl, h⟩⟩
theorem setK_1 {a b d : D} {l : List D} {k : List D → Prop} : setK (a :: b :: l) 1 d k = k (a :: d :: l) := by
  unfold setK
  have : ixN (a :: b :: l).length 1 = some 1 := by unfold ixN; simp; omega
  rw [this]
  exact propext ⟨fun ⟨j, e, h⟩ => by cases e; exact h, fun h => ⟨1, rfl, h⟩⟩
theorem setK_2 {a b c d : D} {l : List D} {k : List D → Prop} : setK (a :: b :: c :: l) 2 d k = k (a :: b :: d :: l) := by
  unfold setK
  have : ixN (a :: b :: c :: l).length 2 = some 2 := by unfold ixN; simp; omega
  rw [this]
  exact propext ⟨fun ⟨j, e, h⟩ => by cases e; exact h, fun h => ⟨2, rfl, h⟩⟩
theorem eqv_i {i j : Int} : PyData.eqv (.int i) (.int j) = decide (i = j) := by rw [PyData.eqv]; by_cases h : i = j <;> simp [h]
theorem eqv_l {xs ys : List D} : PyData.eqv (.list xs) (.list ys) = PyData.eqvAll xs ys := by rw [PyData.eqv]
theorem eqv_t {xs ys : List D} : PyData.eqv (.tuple xs) (.tuple ys) = PyData.eqvAll xs ys := by rw [PyData.eqv]
theorem eqv_c {x y : D} {xs ys : List D} : PyData.eqvAll (x :: xs) (y :: ys) = (PyData.eqv x y && PyData.eqvAll xs ys) := by rw [PyData.eqvAll]
theorem eqv_n : PyData.eqvAll [] [] = true := by rw [PyData.eqvAll]
end
end DL

namespace DL
variable [HotA]
open PySem L2 PySem.W PyProof.Rows
section
variable {X : Cx} {W : WX} {pos : Pos}
structure ExD (K : PySem.W.Frag) (mg : Str → Option Value) (c : Str) where
  C : Addr
  n : ClsN K c C
  m : mg c = some (.ref C)
  x : excIn K C [.type "ValueError", .type "Exception", .type "BaseException", .type "object"] "ValueError.__new__" = true
  k : keepIn K (.ref C) = true
  b : subIn K (.ref C) (.type "BaseException") = some true
  t : typeIn K (.ref C) = some (.type "type")
theorem js_raise {c m : Str} {j : Nat} {p p2 pos' : Pos} (hc : X.calm = true) (tk : L2N.Takes X W) (C : ExD X.K X.mg c) (hg : Gl X c := by rfl) (hdb : (c == ("__debug__" : Str)) = false := by decide) :
    JS X W (.Raise (some (.Call (.Name c p) [.Constant (.str m) j p2] [] pos')) none pos) (sRaise c) :=
  ⟨_, L2N.ps_raise hc tk (L2N.pmk_own PySem.F.excBase_ValueError C.x C.m C.k (raises_own C.b C.t) hg hdb), fun O0 H0 O H σ δ D Dd u env er g => er.ex ⟨c, none⟩ (.ref C.C) none O H σ δ u env ⟨⟨C.C, C.n, rfl⟩, rfl⟩ g⟩
mutual
inductive CoV (K : PySem.W.Frag) : Value → D → Prop
  | int (i : Int) (t : Tok) : CoV K (.int i t) (.int i)
  | str (x : Str) (t : Tok) : CoV K (.str x t) (.str x)
  | tup {a : Addr} {its : Array Value} {n : Nat} {dd : Option Addr} {sl : Array (Option Value)} {ds : List D} : K.lookup a = some ⟨.type "tuple", dd, .seq its n, sl⟩ → its.size ≤ sizeLine → CoVs K its.toList ds → CoV K (.ref a) (.tuple ds)
inductive CoVs (K : PySem.W.Frag) : List Value → List D → Prop
  | nil : CoVs K [] []
  | cons {u : Value} {us : List Value} {d : D} {ds : List D} : CoV K u d → CoVs K us ds → CoVs K (u :: us) (d :: ds)
end
mutual
theorem CoV.dp {K : PySem.W.Frag} : ∀ {u : Value} {d : D}, CoV K u d → ∃ v, RelV v u ∧ ∀ O : Hp, Dp K O v d
  | _, _, .int i t => ⟨.int i, ⟨t, rfl⟩, fun _ => .int i⟩
  | _, _, .str x t => ⟨.str x, ⟨t, rfl⟩, fun _ => .str x⟩
  | _, _, .tup h1 h2 h3 => by
    obtain ⟨vs, r, z⟩ := CoVs.dp h3
    exact ⟨.ref _, rfl, fun O => .tup (.inr ⟨_, _, _, h1, rfl, rfl, h2, r⟩) (z O)⟩
theorem CoVs.dp {K : PySem.W.Frag} : ∀ {us : List Value} {ds : List D}, CoVs K us ds → ∃ vs, Vals vs us ∧ ∀ O : Hp, DpAll K O vs ds
  | _, _, .nil => ⟨[], .nil, fun _ => .nil⟩
  | _, _, .cons a b => by
    obtain ⟨v, r, z⟩ := CoV.dp a
    obtain ⟨vs, r2, z2⟩ := CoVs.dp b
    exact ⟨v :: vs, .cons r r2, fun O => .cons (z O) (z2 O)⟩
end
structure CoD (K : PySem.W.Frag) (mg : Str → Option Value) (x : Str) (d : D) : Prop where
  ex : ∃ u v, mg x = some u ∧ RelV v u ∧ ∀ O : Hp, Dp K O v d
theorem co_use {K : PySem.W.Frag} {mg : Str → Option Value} {h : Heap} {x : Str} {d : D} {u : Value} {p : Prop} (X : K.In h) (G : h.Ns mainGlobals mg) (a : nsIn K mainGlobals x = some (some u)) (v : CoV K u d) (q : CoD K mg x d → p) : p :=
  q (let ⟨w, r, z⟩ := v.dp; ⟨u, w, mg_of X G a, r, z⟩)
theorem je_const {x : Str} {p : Pos} {d : D} (C : CoD X.K X.mg x d) (hg : Gl X x := by rfl) (hd : (x == ("__debug__" : Str)) = false := by decide) : JE X W (.Name x p) (eC d) := by
  obtain ⟨u, v, m, r, z⟩ := C.ex
  exact ⟨_, pe_glob hg m r hd, fun O H H0 σ δ x q Q so env hx hq g => hq v O H (.val d) (.refl so) (z O) g⟩
def cutD (ds : List D) (lo hi : Option Int) : List D := (ds.drop (HT.sIx ds.length 0 lo)).take (HT.sIx ds.length ds.length hi - HT.sIx ds.length 0 lo)
def oNo : XP → List S → (Option Int → Prop) → Prop := fun _ _ q => q none
def oSome (e : ES) : XP → List S → (Option Int → Prop) → Prop := fun x δ q => e x δ fun s => s.nm fun n => q (some n)
def cutK : D → Option Int → Option Int → (S → Prop) → Prop
  | .list ds, lo, hi, q => q (.own (cutD ds lo hi))
  | .tuple ds, lo, hi, q => ¬ (HT.sIx ds.length 0 lo = 0 ∧ HT.sIx ds.length ds.length hi = ds.length) ∧ q (.val (.tuple (cutD ds lo hi)))
  | .str z, lo, hi, q => z.length ≤ sizeLine ∧ q (.val (.str (cutS z lo hi)))
  | _, _, _, _ => False
def eSlice (a : EP) (lo hi : XP → List S → (Option Int → Prop) → Prop) : ES := fun x δ q => a x δ fun d => lo x δ fun i => hi x δ fun j => cutK d i j q
structure JO (X : Cx) (W : WX) (e : Option Expr) (d : XP → List S → (Option Int → Prop) → Prop) : Prop where
  ex : ∃ t, PO X e t ∧ Snd X.K X.mg W (fun _ _ _ a b => a = b) t d
theorem jo_no : JO X W none oNo := ⟨_, po_none, fun O H H0 σ δ x q Q so env hx hq g => hq none O H none (.refl so) rfl g⟩
theorem jo_some {e : Expr} {de : ES} (h : JE X W e de) : JO X W (some e) (oSome de) := by
  obtain ⟨te, p, s⟩ := h.ex
  refine ⟨_, po_some p, fun O H H0 σ δ x q Q so env hx hq g => ?_⟩
  refine s O H H0 σ δ x _ _ so env hx (fun v O1 H1 c u1 r1 g1 => ?_) g
  unfold S.nm at g1
  split at g1
  · rename_i n
    cases r1
    exact ⟨n, rfl, hq _ O1 H1 _ u1 rfl g1⟩
  · exact g1.elim
theorem dpl_cut {K : PySem.W.Frag} {O : Hp} {vs : List V} {ds : List D} (r : DpAll K O vs ds) (lo hi : Option Int) : DpAll K O (cutV vs lo hi) (cutD ds lo hi) := by
  have hd : ∀ (n : Nat) {vs : List V} {ds : List D}, DpAll K O vs ds → DpAll K O (vs.drop n) (ds.drop n) := by
    intro n
    induction n with
    | zero => intro vs ds r; exact r
    | succ n ih =>
      intro vs ds r
      cases r with
      | nil => exact .nil
      | cons a b => exact ih b
  have ht : ∀ (n : Nat) {vs : List V} {ds : List D}, DpAll K O vs ds → DpAll K O (vs.take n) (ds.take n) := by
    intro n
    induction n with
    | zero => intro vs ds r; exact .nil
    | succ n ih =>
      intro vs ds r
      cases r with
      | nil => exact .nil
      | cons a b => exact .cons a (ih b)
  unfold cutV cutD
  rw [dpl_length r]
  exact ht _ (hd _ r)
theorem je_slice {a : Expr} {lo hi : Option Expr} {da : EP} {dl dh : XP → List S → (Option Int → Prop) → Prop} {p2 : Pos} (h : JP X W a da) (hl : JO X W lo dl) (hh : JO X W hi dh) : JE X W (.Subscript a (.Slice lo hi none p2) pos) (eSlice da dl dh) := by
  obtain ⟨te, p, s⟩ := h.ex
  obtain ⟨tl, pl, sl⟩ := hl.ex
  obtain ⟨th, ph, sh⟩ := hh.ex
  refine ⟨_, pe_slice (sl_list.or (sl_tup.or sl_str)) p pl ph, fun O H H0 σ δ x q Q so env hx hq g => ?_⟩
  refine s O H H0 σ δ x _ _ so env hx (fun v O1 H1 d u1 r1 g1 => ?_) g
  refine sl O1 H1 H0 σ δ x _ _ u1.oh (env.up u1) (fun e c d' O' H' u' => hx e c d' O' H' (u1.trans u')) (fun i O2 H2 j u2 r2 g2 => ?_) g1
  subst r2
  have u12 := u1.trans u2
  refine sh O2 H2 H0 σ δ x _ _ u2.oh (env.up u12) (fun e c d' O' H' u' => hx e c d' O' H' (u12.trans u')) (fun k O3 H3 m u3 r3 g3 => ?_) g2
  subst r3
  have u13 := u12.trans u3
  have r4 := (r1.up u2).up u3
  unfold cutK at g3
  split at g3
  · rename_i ds
    obtain ⟨b, vs, rfl, qa, za⟩ := r4
    refine .inl ⟨b, vs, rfl, qa, fun p hp => ?_⟩
    exact hq _ O3 _ (.own (cutD ds _ _)) (u13.trans (.own u3.oh hp _)) ⟨p, _, rfl, u13.h.free hp, u3.oh.free hp, upd_same, dpl_cut za _ _⟩ g3
  · rename_i ds
    obtain ⟨b, vs, rfl, qa, za⟩ := r4
    refine .inr (.inl ⟨b, vs, rfl, qa, by rw [dpl_length za]; exact g3.1, fun p hp => ?_⟩)
    have un := Up.new u3.oh hp (.tup (cutV vs i k))
    exact hq _ _ _ (.val (.tuple (cutD ds _ _))) (u13.trans un) (.tup (.of upd_same) (dpAll_mono un.o (dpl_cut za _ _))) g3.2
  · rename_i z
    cases r4
    exact .inr (.inr ⟨z, rfl, g3.1, hq _ O3 H3 (.val (.str _)) u13 (.str _) g3.2⟩)
  · exact g3.elim
theorem u_oNo {x : XP} {δ : List S} {q : Option Int → Prop} : oNo x δ q = q none := (rfl)
theorem u_oSome {e : ES} {x : XP} {δ : List S} {q : Option Int → Prop} : oSome e x δ q = e x δ fun s => s.nm fun n => q (some n) := (rfl)
theorem u_eSlice {a : EP} {lo hi : XP → List S → (Option Int → Prop) → Prop} {x : XP} {δ : List S} {q : S → Prop} : eSlice a lo hi x δ q = a x δ fun d => lo x δ fun i => hi x δ fun j => cutK d i j q := (rfl)
theorem w_cut1 {ds : List D} {lo hi : Option Int} {q : S → Prop} : cutK (.list ds) lo hi q = q (.own (cutD ds lo hi)) := (rfl)
theorem w_cut2 {ds : List D} {lo hi : Option Int} {q : S → Prop} : cutK (.tuple ds) lo hi q = (¬ (HT.sIx ds.length 0 lo = 0 ∧ HT.sIx ds.length ds.length hi = ds.length) ∧ q (.val (.tuple (cutD ds lo hi)))) := (rfl)
theorem w_cut3 {z : Str} {lo hi : Option Int} {q : S → Prop} : cutK (.str z) lo hi q = (z.length ≤ sizeLine ∧ q (.val (.str (cutS z lo hi)))) := (rfl)
theorem rng_9 : rngD 0 9 = [.int 0, .int 1, .int 2, .int 3, .int 4, .int 5, .int 6, .int 7, .int 8] := rfl
theorem rng_4 : rngD 0 4 = [.int 0, .int 1, .int 2, .int 3] := rfl
theorem rng_5 : rngD 0 5 = [.int 0, .int 1, .int 2, .int 3, .int 4] := rfl
end
end DL

namespace DL
variable [HotA]
open PySem PySem.Spec PyProof.Rows L2
theorem excO_ok {P : Program} {w : World} {H : Hp} {h : Heap} {a C : Addr} {d : Option Addr} {oe : Obj} {vs : Array Value} (e : h.get? a = some oe) (z : L2N.Zn (.ref C) d oe) (dd : oe.data = .fields vs) : ObjOk P w H h a (excO C d a) :=
  ⟨⟨oe, vs, e, z, dd⟩, ⟨oe, e⟩, fun _ _ ⟨o, v, q, r⟩ k => ⟨o, v, k o q, r⟩⟩
theorem inv_track {X : Cx} {pins : List (Addr × Obj)} {σ : L2.St} {H : Hp} {s : Shared} {a : Addr} {o : HO} (I : Inv X pins σ H s) (n0 : X.s_0.heap.get? a = none) (hn : H a = none) (hL : a ≠ X.env.locals)
    (hC : ∀ x c, X.env.cells.lookup x = some c → c ≠ a) (hP : ∀ p ∈ X.pn ++ pins, p.1 ≠ a) (new : ObjOk X.prog X.w (upd H a o) s.heap a o) : Inv X pins σ (upd H a o) s where
  ok := I.ok
  os := I.os
  bare := I.bare
  base := {
    keep := I.base.keep
    slot := I.base.slot
    free := fun b u e n hx => by rw [upd_ne (fun z => by rw [z, n0] at e; cases e)]; exact I.base.free b u e n hx
    there := I.base.there
    tups := fun b xs e => by have q := I.base.tups b xs e; rw [upd_ne (ne_of_none q hn)]; exact q
    frzs := fun b u xs e => by have q := I.base.frzs b u xs e; rw [upd_ne (ne_of_none q hn)]; exact q
    tbls := fun b ps e => by obtain ⟨m, q⟩ := I.base.tbls b ps e; exact ⟨m, by rw [upd_ne (ne_of_none q hn)]; exact q⟩ }
  loc := I.loc
  cell := I.cell
  free := by rw [upd_ne (Ne.symm hL)]; exact I.free
  freeC := fun x c e => by rw [upd_ne (hC x c e)]; exact I.freeC x c e
  pin := fun p hp => by obtain ⟨a1, a2, a3⟩ := I.pin p hp; exact ⟨a1, by rw [upd_ne (hP p hp)]; exact a2, a3⟩
  hok := I.hok.laidN (fun _ _ e => e) hn new
  len := I.len
def sOf (K : PySem.W.Frag) (mg : Str → Option Value) (W : WX) (ds : ST) : TS := fun D σ H => ∃ (O0 H0 O : Hp) (δ : List S) (Dd : DL.Ends), Up O0 H0 O H ∧ EnvR K H0 O H σ δ ∧ EndsR K mg W O0 H0 D Dd ∧ ds Dd δ
theorem sOf_snd {K : PySem.W.Frag} {mg : Str → Option Value} {W : WX} {ds : ST} : SndS K mg W (sOf K mg W ds) ds := fun O0 H0 O H σ δ D Dd u env er g => ⟨O0, H0, O, δ, Dd, u, env, er, g⟩
theorem JSs.can {X : Cx} {W : WX} {st : List Stmt} {ds : ST} (h : JSs X W st ds) : PSs X st (sOf X.K X.mg W ds) := by
  obtain ⟨ts, p, z⟩ := h.ex
  exact ⟨fun pins s σ H D I ⟨O0, H0, O, δ, Dd, u, env, er, g⟩ => p.run pins s σ H D I (z O0 H0 O H σ δ D Dd u env er g)⟩
def subE (c T : Str) : Bool := c == T || T == "CurveError" || T == "ValueError"
def EasyA (A : Around) : Prop := A.handled = none ∨ ∃ p, HotA.h = some p ∧ A.handled = some (.ref p.1)
omit [HotA] in
/-- nothing is handled, or an exception that is tracked -/
def EasyH (A : Around) (H : Hp) : Prop := A.handled = none ∨ ∃ p : Addr × Addr × Option Addr, A.handled = some (.ref p.1) ∧ H p.1 = some (excO p.2.1 p.2.2 p.1)
theorem EasyA.at {A : Around} {O H : Hp} (e : EasyA A) (t : TOk O H) (so : Same O H) : EasyH A H := e.imp_right fun ⟨p, h1, h2⟩ => ⟨p, h2, so _ _ (t.x p h1)⟩
theorem EnvR.hot {K : PySem.W.Frag} {H0 O H : Hp} {σ : L2.St} {δ : List S} (r : EnvR K H0 O H σ δ) (h2 : Option (Addr × Addr × Option Addr)) (hx : ∀ p, h2 = some p → O p.1 = some (excO p.2.1 p.2.2 p.1)) : @EnvR ⟨h2⟩ K H0 O H σ δ :=
  @EnvR.mk ⟨h2⟩ K H0 O H σ δ r.len r.val r.own r.inj r.adr r.ob (@TOk.mk ⟨h2⟩ O H r.tt.t r.tt.n hx)
structure Cl where
  R : List Str
  T : Str
  i : Option Nat
  s : ST
def atE : Option Nat → Exc → List S → List S
  | some i, e, δ => put δ i (.val (excD e))
  | none, _, δ => δ
def goneE : Option Nat → List S → List S
  | some i, δ => put δ i .no
  | none, δ => δ
def afterE (o : Option Nat) (D : DL.Ends) : DL.Ends where
  nx := fun δ => D.nx (goneE o δ)
  rt := D.rt
  bk := fun δ => D.bk (goneE o δ)
  ct := fun δ => D.ct (goneE o δ)
  ex := fun _ _ => False
def hands : List Cl → Exc → DL.Ends → List S → Prop
  | [], e, D, δ => D.ex e δ
  | k :: r, e, D, δ => e.cls ∈ k.R ∧ if subE e.cls k.T = true then k.s (afterE k.i D) (atE k.i e δ) else hands r e D δ
def sTry (b : ST) (cs : List Cl) : ST := fun D δ => b { D with ex := fun e δ' => hands cs e D δ' } δ
structure ExT (K : PySem.W.Frag) (mg : Str → Option Value) (R : List Str) (T : Str) : Prop where
  ex : ∃ v : Value, ((mg T = some v) ∨ (mg T = none ∧ bootBuiltins T = some v ∧ T ≠ "__name__")) ∧ ∀ c ∈ R, ∀ C, ClsN K c C → PySem.W.exmOne K (.ref C) v = some (subE c T)
def onSlot (X : Cx) (o : Option Str) (i : Option Nat) : Prop := match o, i with
  | some n, some i => X.N[i]? = some n ∧ X.env.kindOf n = some .local
  | none, none => True
  | _, _ => False
inductive HdsD (X : Cx) : List ExceptHandler → List Cl → Prop
  | nil : HdsD X [] []
  | cons {x : Str} {n : Option Str} {i : Option Nat} {b0 : Stmt} {suite : List Stmt} {np pos' : Pos} {hds : List ExceptHandler} {R : List Str} {ds : ST} {cs : List Cl} (hx : ExT X.K X.mg R x) (hg : Gl X x) (hd : (x == ("__debug__" : Str)) = false) (hi : onSlot X n i)
      (hs : ∀ (i2 : HotA) (a : Addr) (pn : List (Addr × Obj)), @EasyA i2 (X.suite a pn).A → @JSs i2 (X.suite a pn) WF (b0 :: suite) ds) (r : HdsD X hds cs) : HdsD X (.ExceptHandler (some (.Name x np)) n (b0 :: suite) pos' :: hds) (⟨R, x, i, ds⟩ :: cs)
theorem Inv.inSuite {X : Cx} {pins : List (Addr × Obj)} {σ : L2.St} {H : Hp} {s : Shared} (I : Inv X pins σ H s) (a : Addr) : Inv (X.suite a (X.pn ++ pins)) [] σ H s :=
  ⟨I.ok.suite _ _, I.os, I.bare, I.base, I.loc, I.cell, I.free, I.freeC, fun p hp => by rw [List.append_nil] at hp; exact I.pin p hp, I.hok, I.len⟩
theorem Inv.outSuite {X : Cx} {pins pn' : List (Addr × Obj)} {σ : L2.St} {H : Hp} {s : Shared} {a : Addr} (I : Inv (X.suite a (X.pn ++ pins)) pn' σ H s) (ok : X.Ok) : Inv X pins σ H s :=
  ⟨ok, I.os, I.bare, I.base, I.loc, I.cell, I.free, I.freeC, fun p hp => I.pin p (List.mem_append_left _ hp), I.hok, I.len⟩
theorem exc_known {K : PySem.W.Frag} {mg : Str → Option Value} {O H : Hp} {e : Exc} {cls : Value} {d : Option Addr} {a : Addr} (so : Same O H) (na : H a = none) (r : XRep K mg O H e cls d) :
    ∃ C, cls = .ref C ∧ Up O H (upd O a (excO C d a)) (upd H a (excO C d a)) ∧ Dp K (upd O a (excO C d a)) (.ref a) (excD e) := by
  obtain ⟨⟨C, hC, rfl⟩, r⟩ := r
  have up := Up.new so na (excO C d a)
  refine ⟨C, rfl, up, ?_⟩
  obtain ⟨c, arg⟩ := e
  cases arg with
  | none =>
    have r : d = none := r
    subst r
    exact .exc0 hC upd_same
  | some y =>
    obtain ⟨f, u⟩ := y
    obtain ⟨dd, v, rfl, h1, h2⟩ := r
    exact .exc1 hC upd_same (up.o _ _ h1) (dp_mono up.o h2)
section
variable {X : Cx} {W : WX} {pos : Pos}
theorem EndsR.hot {K : PySem.W.Frag} {mg : Str → Option Value} {O0 H0 O : Hp} {H : Hp} {D : L2.Ends} {Dd : DL.Ends} (er : EndsR K mg W O0 H0 D Dd) (u : Up O0 H0 O H) (h2 : Option (Addr × Addr × Option Addr)) (tt : TOk O H) : @EndsR ⟨h2⟩ K mg W O H0 D Dd := by
  have er := er.swap u
  have b : ∀ {O' H' : Hp} {σ : L2.St} {δ : List S}, Up O H0 O' H' → @EnvR ⟨h2⟩ K H0 O' H' σ δ → EnvR K H0 O' H' σ δ := fun u' r => @EnvR.hot ⟨h2⟩ _ _ _ _ _ _ r HotA.h fun p hp => u'.o _ _ (tt.x p hp)
  exact @EndsR.mk ⟨h2⟩ K mg W O H0 D Dd (fun O' H' σ δ u' r z => er.nx O' H' σ δ u' (b u' r) z) er.rt (fun O' H' σ δ u' r z => er.bk O' H' σ δ u' (b u' r) z) (fun O' H' σ δ u' r z => er.ct O' H' σ δ u' (b u' r) z) (fun e c d O' H' σ δ u' r xr z => er.ex e c d O' H' σ δ u' (b u' r) xr z) (fun O' H' v d σ δ u' r => er.rk O' H' v d σ δ u' (b u' r))
theorem hands_go {hds : List ExceptHandler} {cs : List Cl} {B : Heap} {sI s' : Shared} {pins : List (Addr × Obj)} {σ' : L2.St} {H' O0 H0 O' : Hp} {δ' : List S} {D : L2.Ends} {Dd : DL.Ends} {a : Addr} {cls : Value} {d : Option Addr} {e : Exc} {h3 : Heap}
    (hs : X.stack = X.env :: X.outer) (hf : X.env.frame = some X.env.locals) (hx0 : X.ex = []) (hN : X.N.Nodup) (tk : L2N.Takes X W) (J : Inv X pins σ' H' sI) (nb : ∀ b o, sI.heap.get? b = some o → b ∉ frs X.stack → B.get? b = some o)
    (fl : HandSPX.FlyingZ B (X.env :: X.outer) a (L2N.Zn cls d) h3) (up : sI.heap.UpToSlots h3) (na : H' a = none) (os : s'.os = sI.os) (ag : AllBare s'.gens)
    (u : Up O0 H0 O' H') (env : EnvR X.K H0 O' H' σ' δ') (er : EndsR X.K X.mg W O0 H0 D Dd) (xr : XRep X.K X.mg O' H' e cls d) (hk : HdsD X hds cs) : hands cs e Dd δ' →
    wpAny (model X.prog X.w) X.A (handleBy (.ref a) X.env hds) (SP X pins D) X.xe { s' with heap := h3 } := by
  have ok := J.ok
  have J3 : Inv X pins σ' H' { s' with heap := h3 } := J.landed nb fl.1 up os ag
  obtain ⟨o3, v3, g3, z3, d3⟩ := fl.there
  have aF : a ∉ frs (X.env :: X.outer) := fun hm => by
    obtain ⟨_, o', e', hnf⟩ := fl.2.2.1.mem hm
    rw [g3] at e'
    cases e'
    exact hnf _ d3
  have aL : a ≠ X.env.locals := fun z => aF (List.mem_filterMap.mpr ⟨X.env, List.mem_cons_self, by rw [hf, z]⟩)
  -- the state ahead of the exception doesn't hold its object
  have aI : sI.heap.get? a = none := by
    cases q : sI.heap.get? a with
    | none => rfl
    | some o =>
      have z := nb a o q (by rw [hs]; exact aF)
      rw [fl.2.1] at z
      cases z
  have a0 : X.s_0.heap.get? a = none := by
    cases q : X.s_0.heap.get? a with
    | none => rfl
    | some o =>
      obtain ⟨o', q'⟩ := J.base.there a o q (by rw [hx0]; exact fun z => nomatch z)
      rw [aI] at q'
      cases q'
  have aC : ∀ x c, X.env.cells.lookup x = some c → c ≠ a := fun x c hc z => by
    obtain ⟨v, o, q, _⟩ := J.cell x c hc
    rw [z, aI] at q
    cases q
  have aP : ∀ p ∈ X.pn ++ pins, p.1 ≠ a := fun p hp z => by
    have q := (J.pin p hp).1
    rw [z, aI] at q
    cases q
  obtain ⟨C, hcls, uK, rK⟩ := exc_known u.oh na xr
  subst hcls
  have track : ∀ {h4 : Heap}, HandSPX.FlyingZ B (X.env :: X.outer) a (L2N.Zn (.ref C) d) h4 → h3.UpToSlots h4 → Inv X pins σ' (upd H' a (excO C d a)) { s' with heap := h4 } := fun {h4} fl4 up4 => by
    obtain ⟨o4, v4, g4, z4, d4⟩ := fl4.there
    exact inv_track (J.landed nb fl4.1 (up.trans up4) os ag) a0 na aL aC aP (excO_ok g4 z4 d4)
  induction hk with
  | nil =>
    intro w
    refine wpAny_handleBy_nil ?_
    obtain ⟨_, _, _, oe, vs, T, oT, ts', he, _, hd, h1, _⟩ := id fl
    unfold PySem.passOn
    refine wpAny_bind (wpAny_field he hd h1 ?_)
    rw [if_neg (by simp : ¬ ((Value.ref T == Value.none) = true))]
    have out : wpAny (model X.prog X.w) X.A (setFlight (.ref a) X.env.frame) (fun _ s4 => wpAny (model X.prog X.w) X.A (throw (.ref a) : Sem Flow) (SP X pins D) X.xe s4) X.xe { s' with heap := h3 } := by
      rw [hf]
      exact HandSPX.setFlight_upZ fl fun h4 hh4 up4 => wpAny_throw (tk _ _ ⟨a, B, sI, pins, σ', H', .ref C, d, rfl, J, nb, up.trans up4, .inr (.inr (by rw [hs]; exact hh4)), na, os, ag, er.ex e (.ref C) d O' H' σ' δ' u env xr w⟩)
    first
      | exact wpAny_bind (wpAny_pure (wpAny_bind out))
      | exact wpAny_bind out
  | @cons x n i b0 suite np pos' hds R ds cs hx hg hdb hi hsu r ih =>
    intro w
    obtain ⟨hR, w⟩ := w
    obtain ⟨v, hv, hex⟩ := hx.ex
    have hb := hex e.cls hR C (by obtain ⟨⟨C', hC', eC⟩, _⟩ := xr; cases eC; exact hC')
    refine wpAny_handleBy_cons (codeAny_handlers_test ?_) (by intro q; cases q)
    have LT : PySem.W.Looks (model X.prog X.w) h3 (typeOf (.ref a)) (.ref C) := fun A Q E s k q => wpAny_typeOf_ref (k _ _ g3) (by rw [z3.1]; exact q)
    have LM := PySem.W.exm_one (M := model X.prog X.w) J3.kIn LT hb
    have S3 := Inv.inSuite J3 a
    have test : ∀ {Q E : Value → Shared → Prop}, Q v { s' with heap := h3 } → wpAny (model X.prog X.w) (X.A.mark (some (.ref a))) (eval (.Name x np) X.env) Q E { s' with heap := h3 } := fun {Q E} q => by
      rcases hv with hm | ⟨hm, hv, hnn⟩
      · exact ld_glob (X := X.suite a (X.pn ++ pins)) S3 hg hm q hdb
      · exact ld_blt (X := X.suite a (X.pn ++ pins)) S3 hg hm hv q hnn hdb
    refine test (LM.here ?_)
    cases hsub : subE e.cls x with
    | false =>
      rw [hsub] at w
      exact ih (by simpa using w)
    | true =>
      rw [hsub] at w
      have w : ds (afterE i Dd) (atE i e δ') := by simpa using w
      have env2 := env.up uK
      have u2 := u.trans uK
      have ez : @EasyA ⟨some (a, C, d)⟩ (X.suite a (X.pn ++ pins)).A := .inr ⟨(a, C, d), rfl, rfl⟩
      have known : ∀ p, some (a, C, d) = some p → (upd O' a (excO C d a)) p.1 = some (excO p.2.1 p.2.2 p.1) := fun p hp => by
        obtain rfl : (a, C, d) = p := Option.some.inj hp
        exact upd_same
      have u0 : Up (upd O' a (excO C d a)) H0 (upd O' a (excO C d a)) (upd H' a (excO C d a)) := ⟨Same.refl _, u2.h, u2.oh, fun _ _ z => z⟩
      cases n with
      | none =>
        cases i with
        | some _ => exact hi.elim
        | none =>
          refine codeAny_handlers_suite ?_
          refine HandSPX.lands_againZ fl fun h4 fl4 up4 => ?_
          have S4 := Inv.inSuite (track fl4 up4) a
          have e1 : EndsR X.K X.mg WF O0 H0 D (afterE none Dd) := ⟨er.nx, er.rt, er.bk, er.ct, fun _ _ _ _ _ _ _ _ _ _ z => z.elim, fun _ _ _ _ _ _ _ _ _ _ z => z.elim⟩
          refine wpAny_mono ((@JSs.can ⟨some (a, C, d)⟩ _ _ _ _ (hsu ⟨some (a, C, d)⟩ a (X.pn ++ pins) ez)).run [] _ σ' _ D S4 ⟨_, H0, _, δ', _, u0, env2.hot _ known, e1.hot u2 _ env2.tt, w⟩) (fun f s6 hsp => ?_) (fun _ _ z => False.elim z)
          cases f with
          | next => obtain ⟨σ6, H6, S6, q6⟩ := hsp; exact ⟨σ6, H6, Inv.outSuite S6 ok, q6⟩
          | brk => obtain ⟨σ6, H6, S6, q6⟩ := hsp; exact ⟨σ6, H6, Inv.outSuite S6 ok, q6⟩
          | cont => obtain ⟨σ6, H6, S6, q6⟩ := hsp; exact ⟨σ6, H6, Inv.outSuite S6 ok, q6⟩
          | ret y => obtain ⟨v6, σ6, H6, S6, r6, q6⟩ := hsp; exact ⟨v6, σ6, H6, Inv.outSuite S6 ok, r6, q6⟩
      | some n =>
        cases i with
        | none => exact hi.elim
        | some i =>
          obtain ⟨hi, hln⟩ := hi
          refine codeAny_handlers_suite_as ?_
          refine HandSPX.lands_againZ fl fun h4 fl4 up4 => ?_
          have S4 := Inv.inSuite (track fl4 up4) a
          refine store_ok (X := X.suite a (X.pn ++ pins)) (v := .ref a) S4 hN hi (.inl hln) rfl (fun s5 S5 => ?_) (.inr hln)
          let D2 : L2.Ends := { nx := fun σ6 H6 => D.nx (σ6.set i none) H6, rt := D.rt, bk := fun σ6 H6 => D.bk (σ6.set i none) H6, ct := fun σ6 H6 => D.ct (σ6.set i none) H6 }
          have gone : ∀ {s6 : Shared} {σ6 : L2.St} {H6 : Hp} {Q : Shared → Prop}, Inv (X.suite a (X.pn ++ pins)) [] σ6 H6 s6 → (∀ s7, Inv X pins (σ6.set i none) H6 s7 → Q s7) →
              wpAny (model X.prog X.w) X.A (do bindName X.env n .none; unbindBehindTheSuite X.env n pos') (fun _ s7 => Q s7) X.xe s6 := fun S6 hq => gone_ok (Inv.outSuite S6 ok) hN hi hln hq
          have e2 : EndsR X.K X.mg WF O0 H0 D2 (afterE (some i) Dd) := ⟨fun O H σ δ u e z => er.nx O H _ _ u (e.wipe1 i) z, er.rt, fun O H σ δ u e z => er.bk O H _ _ u (e.wipe1 i) z, fun O H σ δ u e z => er.ct O H _ _ u (e.wipe1 i) z, fun _ _ _ _ _ _ _ _ _ _ z => z.elim, fun _ _ _ _ _ _ _ _ _ _ z => z.elim⟩
          refine wpAny_mono ((@JSs.can ⟨some (a, C, d)⟩ _ _ _ _ (hsu ⟨some (a, C, d)⟩ a (X.pn ++ pins) ez)).run [] s5 _ _ D2 S5 ⟨_, H0, _, _, _, u0, (env2.put i rK).hot _ known, e2.hot u2 _ env2.tt, w⟩) (fun f s6 hsp => ?_) (fun _ _ z => False.elim z)
          cases f with
          | next => obtain ⟨σ6, H6, S6, q6⟩ := hsp; exact gone S6 fun s7 J7 => ⟨_, H6, J7, q6⟩
          | brk => obtain ⟨σ6, H6, S6, q6⟩ := hsp; exact gone S6 fun s7 J7 => ⟨_, H6, J7, q6⟩
          | cont => obtain ⟨σ6, H6, S6, q6⟩ := hsp; exact gone S6 fun s7 J7 => ⟨_, H6, J7, q6⟩
          | ret y => obtain ⟨v6, σ6, H6, S6, r6, q6⟩ := hsp; exact gone S6 fun s7 J7 => ⟨v6, _, H6, J7, r6, q6⟩
theorem js_try {body : List Stmt} {h0 : ExceptHandler} {hds : List ExceptHandler} {db : ST} {cs : List Cl} (hs : X.stack = X.env :: X.outer) (hf : X.env.frame = some X.env.locals) (hx0 : X.ex = []) (hN : X.N.Nodup) (tk : L2N.Takes X W)
    (hb : ∀ (W' : WX) (pn : List (Addr × Obj)) (xe : Value → Shared → Prop), L2N.Takes (X.tr pn xe) W' → PassesOwn (model X.prog X.w) X.A X.env xe → JSs (X.tr pn xe) W' body db) (hh : HdsD X (h0 :: hds) cs) : JS X W (.Try body (h0 :: hds) [] [] pos) (sTry db cs) := by
  refine ⟨sOf X.K X.mg W (sTry db cs), ⟨fun pins s σ H D I h => ?_⟩, sOf_snd⟩
  obtain ⟨O0, H0, O, δ, Dd, u, env, er, h⟩ := h
  have ok := I.ok
  have hfr : X.A.frames = some (X.env :: X.outer) := by rw [ok.frames, hs]
  refine wpAny_Try_except ?_
  let W' : WX := fun cls d σ' H' => ∃ e O' δ', Up O0 H0 O' H' ∧ EnvR X.K H0 O' H' σ' δ' ∧ XRep X.K X.mg O' H' e cls d ∧ hands cs e Dd δ'
  let xe : Value → Shared → Prop := fun e s1 => wpAny (model X.prog X.w) X.A (noteFrame e X.env) (fun _ s2 => wpAny (model X.prog X.w) X.A (setFlight e none) (fun _ s3 => wpAny (model X.prog X.w) X.A (handleBy e X.env (h0 :: hds)) (SP X pins D) X.xe s3) X.xe s2) X.xe s1
  have tk' : L2N.Takes (X.tr (X.pn ++ pins) xe) W' := fun y s' xx => by
    obtain ⟨a, B, sI, pins', σ', H', cls, d, rfl, J', nb, up, sky, na, os, ag, e, O', δ', u', env', xr, w⟩ := xx
    have J : Inv X pins σ' H' sI := J'.ofTry ok
    have sky' : Sky B (X.env :: X.outer) a (L2N.Zn cls d) X.env.locals s'.heap := by rw [← hs]; exact sky
    refine L2N.Sky.land L2N.Zn.steady hfr hf sky' fun h3 fl3 up3 => ?_
    exact hands_go hs hf hx0 hN tk J nb fl3 (up.trans up3) na os ag u' env' er xr hh w
  refine wpAny_mono ((hb W' (X.pn ++ pins) xe tk' PassesOwn.looking).can.run [] s σ H D (I.toTry _) ⟨O0, H0, O, δ, { Dd with ex := fun e δ' => hands cs e Dd δ' }, u, env, ⟨er.nx, er.rt, er.bk, er.ct, fun e cls d O' H' σ' δ' u' env' xr z => ⟨e, O', δ', u', env', xr, z⟩, er.rk⟩, h⟩) (fun f s1 hsp => ?_) (fun e s1 he => he)
  cases f with
  | next => obtain ⟨σ', H', J', q⟩ := hsp; exact wpAny_execs_nil ⟨σ', H', J'.ofTry ok, q⟩
  | brk => obtain ⟨σ', H', J', q⟩ := hsp; exact ⟨σ', H', J'.ofTry ok, q⟩
  | cont => obtain ⟨σ', H', J', q⟩ := hsp; exact ⟨σ', H', J'.ofTry ok, q⟩
  | ret y => obtain ⟨v, σ', H', J', r, q⟩ := hsp; exact ⟨v, σ', H', J'.ofTry ok, r, q⟩
end
end DL

namespace DL
variable [HotA]
open PySem PySem.Spec PyProof.Rows L2
abbrev cxHot (P : Program) (w : World) (K : PySem.W.Frag) (mg : Str → Option Value) (base : Heap) (N : List Str) (qual : Str) (scope : Scope) (f : Addr) (cd : Value) (A : Around) (outer : List Env) (s : Shared) (H : Hp) (E : XK) : Cx :=
  { cxOf (L2N.CX P w) P w K mg base N qual scope f cd A outer s H E with calm := false }
structure FnC (P : Program) (w : World) (K : PySem.W.Frag) (mg : Str → Option Value) (base : Heap) (k : Nat) (f : Addr) (fd : FuncData) (ps : List Str) (sp : Sp) : Prop where
  len : ∀ vs H Q E, sp vs H Q E → vs.length = ps.length
  run : ∀ (A : Around) (outer : List Env) (s : Shared) (H : Hp) (args : Args) (us : List Value) (vs : List V) (Q : VK) (E : XK), L2H.RoomH k A → EasyA A → Env0 P w K mg base A outer s H → BindsTo s fd args (ps.zip us) → Vals vs us → sp vs H Q E →
    codeAny (model P w) A (.call (.ref f) args) (CR (L2N.CX P w) outer P w H s Q E) s
theorem FnC.ok {P : Program} {w : World} {K : PySem.W.Frag} {mg : Str → Option Value} {base : Heap} {k : Nat} {f : Addr} {fd : FuncData} {ps : List Str} {sp : Sp} (F : FnC P w K mg base k f fd ps sp) : FnOk P w K mg base (L2N.CX P w) k f fd ps sp :=
  ⟨F.len, fun A outer s H args us vs Q E hr => F.run A outer s H args us vs Q E (L2H.roomH_of hr) (.inl hr.hd)⟩
section
variable {P : Program} {w : World} {K : PySem.W.Frag} {mg : Str → Option Value} {base : Heap}
theorem hot_start {N ps : List Str} {qual : Str} {scope : Scope} {f : Addr} {cd : Value} {A : Around} {outer : List Env} {s s1 : Shared} {H : Hp} {E : XK} {us : List Value} {vs : List V} (S : FnScope N ps scope) (e0 : Env0 P w K mg base A outer s H) (hl : vs.length = ps.length) (r : Vals vs us)
    (x : InCallC s s.heap.objs.size (bindL (envOfC qual scope s.heap.objs.size f cd).kindOf (ps.zip us) fun _ => none) (cellsFrom (s.heap.objs.size + 1) scope.names []) (bindC (envOfC qual scope s.heap.objs.size f cd).kindOf (ps.zip us) fun _ => none) s1) :
    Inv (cxHot P w K mg base N qual scope f cd A outer s H E) [] (L2.start N vs) H s1 := by
  have e1 : Env0 P w K mg base { A with handled := none } outer s H := ⟨e0.frames, e0.mod, e0.bs, e0.bsz, e0.funs, e0.frf, e0.hok, e0.bare⟩
  have I := inv_start (CX := L2N.CX P w) (E := E) S (A := { A with handled := none }) rfl e1 hl r x
  exact ⟨⟨I.ok.mod, I.ok.kind, I.ok.glob, I.ok.blt, I.ok.above, I.ok.inj, I.ok.has, I.ok.cab, (fun z => Bool.noConfusion (show false = true from z)), Around.frames_deeper e0.frames, I.ok.stk, I.ok.exf, I.ok.bs, I.ok.bsz, I.ok.noex, I.ok.exfs, I.ok.funs, I.ok.frf⟩,
    I.os, I.bare, I.base, I.loc, I.cell, I.free, I.freeC, I.pin, I.hok, I.len⟩
theorem fnHot {x qual : Str} {st : Stmt} {f : Addr} {fd : FuncData} {N ps : List Str} {k : Nat} {p : DSp} {b : ST} (F : Fun K x qual st f fd) (S : FnScope N ps (defScope st)) (len : ∀ ds x q, p ds x q → ds.length = ps.length)
    (hb : ∀ (cdv : Value) (A : Around) (outer : List Env) (s : Shared) (H : Hp) (E : XK), L2H.RoomH k (A.deeper (envOfC qual (defScope st) s.heap.objs.size f cdv)) → EasyA (A.deeper (envOfC qual (defScope st) s.heap.objs.size f cdv)) → JSs (cxHot P w K mg base N qual (defScope st) f cdv A outer s H E) (WX0 E) (defBody st) b)
    (ok : ∀ ds x q, p ds x q → bodyD N.length b ds x q) : FnC P w K mg base (k + 1) f fd ps (spD K mg p) := by
  obtain ⟨oc, od, kV, doc, pm, an, cdv, ct, osl, rfl, lk, hcd⟩ := F.ex
  have hN : ps.length ≤ N.length := by
    have h := congrArg List.length S.pre
    rw [List.length_take] at h
    omega
  have len' : ∀ vs H Q E, spD K mg p vs H Q E → vs.length = ps.length := fun vs H Q E h => by
    obtain ⟨O, ds, x, q, _, _, r, g, _⟩ := h
    rw [dpl_length r]
    exact len ds x q g
  refine ⟨len', fun A outer s H args us vs Q E hr ez e0 hbd r hsp => ?_⟩
  have hl := len' _ _ _ _ hsp
  have KX : K.In s.heap := e0.mod.kin.keeps fun b o e => (e0.bs b o e).1
  have lim : s.heap.NoLimit := e0.mod.nolimit.keeps fun b o e => (e0.bs b o e).1
  have kinds : ∀ y ∈ ps.zip us, (defScope st).names.lookup y.1 = some .local ∨ ((defScope st).names.lookup y.1 = some .cell ∧ ((cellsFrom (s.heap.objs.size + 1) (defScope st).names []).lookup y.1).isSome = true) := fun y hy =>
    (S.par y.1 (List.of_mem_zip hy).1).imp id fun q => ⟨q, PySem.W.cellsFrom_some _ _ _ (.inl q)⟩
  refine codeAny_call_function hr.depth (KX _ _ lk) rfl S.co S.gen rfl (PySem.W.codeRec_of KX hcd) (hbd _ _ _ _ ?_)
  refine wpAny_newFunctionEnv_cells S.kind kinds fun env he s1 x => ?_
  subst he
  refine ⟨lim.keeps x.toInCall.keep, codeAny_func ?_⟩
  obtain ⟨ts, ps', ss⟩ := (hb cdv A outer s H E (hr.deeper _) ez).ex
  have I := hot_start (E := E) S e0 hl r x
  obtain ⟨O, ds, xx, q, so, tt, rr, g, h1, h2⟩ := hsp
  have hl2 := len ds xx q g
  have run := ss O H O H (L2.start N vs) (startD N.length ds) { nx := fun _ H' => Q .non H', rt := Q } ⟨fun _ => q (.val .none), q, fun _ => False, fun _ => False, fun e _ => xx e, fun _ _ => False⟩ (.refl so) (start_env rr (by omega) tt)
    ⟨fun O' H' σ δ u _ z => h1 .non O' H' (.val .none) u .non z, fun O' H' v s u z y => h1 v O' H' s u z y, fun _ _ _ _ _ _ z => z.elim, fun _ _ _ _ _ _ z => z.elim, fun e c d O' H' σ δ u _ xr z => h2 e c d O' H' u xr z, fun _ _ _ _ _ _ _ _ _ _ z => z.elim⟩ (ok ds xx q g)
  refine wpAny_mono (ps'.run [] s1 (L2.start N vs) H _ I run) (fun fl s' hs => ?_) fun e s' hs => hs
  cases fl with
  | ret u => obtain ⟨v, σ', H', J, rv, q⟩ := hs; exact ⟨v, H', J.os, J.bare, J.base, J.hok, rv, q⟩
  | next => obtain ⟨σ', H', J, q⟩ := hs; exact ⟨V.non, H', J.os, J.bare, J.base, J.hok, rfl, q⟩
  | brk => obtain ⟨_, _, _, q⟩ := hs; exact q.elim
  | cont => obtain ⟨_, _, _, q⟩ := hs; exact q.elim
end
section
variable {X : Cx} {W : WX} {e : Expr} {es : List Expr} {pos : Pos}
theorem run_hot {k : Nat} {f : Addr} {fd : FuncData} {ps : List Str} {sp : Sp} {E : L2.St → XK} {pins : List (Addr × Obj)} {σ : L2.St} {H : Hp} {s : Shared} {Q : VK} {us : List Value} {vs : List V} (F : FnC X.prog X.w X.K X.mg X.base k f fd ps sp) (hr : L2H.RoomH k X.A) (ez : EasyA X.A) (hb : Binds X.K fd ps [])
    (hx : PassesAt (L2N.CX X.prog X.w) X σ (E σ)) (I : Inv X pins σ H s) (r : Vals vs us) (h : sp vs H Q (E σ)) : wpAny (model X.prog X.w) X.A (call (.ref f) us) (L2.EP X pins σ Q) X.xe s := by
  have hl : us.length = ps.length := by rw [← r.length]; exact F.len _ _ _ _ h
  have b := hb s us I.kIn (by rw [List.append_nil]; exact hl)
  rw [List.append_nil] at b
  refine wpAny_call (codeAny_mono (F.run X.A X.stack s H ⟨us, []⟩ us vs Q (E σ) hr ez I.env0 b r h) fun y s' hq => ?_)
  match y, hq with
  | .error er, hq => exact hx pins H s er s' I hq
  | .ok (.ret u), hq => exact I.after hq
  | .ok .next, hq => exact hq.elim
  | .ok .brk, hq => exact hq.elim
  | .ok .cont, hq => exact hq.elim
theorem je_callC {k : Nat} {f : Addr} {fd : FuncData} {ps : List Str} {p : DSp} {x : Str} {p1 : Pos} {da : EA} (F : FnC X.prog X.w X.K X.mg X.base k f fd ps (spD X.K X.mg p)) (hr : L2H.RoomH k X.A) (ez : EasyA X.A) (tk : L2N.Takes X W) (hm : X.mg x = some (.ref f)) (hk : PySem.W.keepIn X.K (.ref f) = true) (hb : Binds X.K fd ps [])
    (ha : JA X W (e :: es) da) (hg : Gl X x := by rfl) (hdb : (x == ("__debug__" : Str)) = false := by decide) (he : starEach (e :: es) X.env = (false, eval e X.env) :: starEach es X.env := by rfl) (hpl : (backTo pos (starEach es X.env)).any (·.1) = false := by rfl) :
    JE X W (.Call (.Name x p1) (e :: es) [] pos) (eCall p da) := by
  obtain ⟨ta, pa, sa⟩ := ha.ex
  refine ⟨tCallS (spD X.K X.mg p) (fun σ => WE W σ) ta, ⟨fun pins s σ H Q I h => ?_⟩, fun O H H0 σ δ x q Q so env hx hq g => ?_⟩
  · refine wpAny_Call_Name_kw (ld_glob I hg hm ?_ hdb)
    exact PySem.W.callWith_K (h₀ := X.base) I.ok.mod.kin hk (thn (pa.run pos pins s σ H _ I h) fun us s1 ⟨vs, H1, I1, r, q⟩ => ⟨I1.kIn, run_hot F hr ez hb (L2N.passAt tk σ) I1 r q⟩) he hpl
  · refine sa O H H0 σ δ x _ _ so env hx (fun vs O1 H1 ds u1 r1 g1 => ?_) g
    exact ⟨O1, ds, x, q, u1.oh, u1.tt env.tt, r1, g1, fun v O' H' s u r z => hq v O' H' s (u1.trans u) (r.back u1.h) z, fun e cls d O' H' u r z => hx e cls d O' H' (u1.trans u) r z⟩
structure ExI (K : PySem.W.Frag) (C : Addr) : Prop where
  cl : (PySem.W.clsIn K C).isSome = true
  ga : PySem.W.findIn K (.ref C) "__getattribute__" = some (some (.builtin "BaseException.__getattribute__"))
  gt : PySem.W.findIn K (.ref C) "__getattr__" = some none
  sb : PySem.W.subIn K (.ref C) (.type "BaseException") = some true
  ca : PySem.W.findIn K (.ref C) "__class__" = some (some (.builtin "object.__class__"))
  cn : PySem.W.specialIn K (.builtin "object.__class__") "__get__" = some (some (.builtin "getset_descriptor.__get__"))
  tk : PySem.W.takesIn K (.builtin "object.__class__") = some true
  mr : PySem.W.mroIn K C (.type "object") = some true
  hd : PySem.W.hasDictIn K C = true
def rIsX (K : PySem.W.Frag) : List V → Hp → VK → Prop := fun xs H Q => ∃ (a C : Addr) (d : Option Addr) (c : V) (cv : Value) (b : Bool), xs = [.ref a, c] ∧ (∀ u, RelV c u → u = cv) ∧ H a = some (excO C d a) ∧ (∀ dd, d = some dd → ∃ fs, H dd = some (.xd fs)) ∧ ExI K C ∧
  PySem.W.kitOne K (.ref C) cv = some b ∧ Q (.bl b) H
theorem exc_at {X : Cx} {pins : List (Addr × Obj)} {σ : L2.St} {H : Hp} {s : Shared} (I : Inv X pins σ H s) {a C : Addr} {d : Option Addr} (ha : H a = some (excO C d a)) (hd : ∀ dd, d = some dd → ∃ fs, H dd = some (.xd fs)) : ∃ oe od, PySem.W.InstAt s.heap a oe C od ∧
    match d with | none => od = none | some dd => ∃ o, od = some o ∧ s.heap.get? dd = some o := by
  obtain ⟨⟨oe, vs, ho, hz, hv⟩, _, _⟩ := I.hok a _ ha
  have nc : PySem.W.notCls oe = true := by unfold PySem.W.notCls; rw [hv]
  cases d with
  | none => exact ⟨oe, none, ⟨ho, hz.1, nc, by rw [hz.2.1]; exact True.intro⟩, rfl⟩
  | some dd =>
    obtain ⟨fs, hf⟩ := hd dd rfl
    obtain ⟨mA, hns, _⟩ := (show ObjOk X.prog X.w H s.heap dd (.xd fs) from I.hok dd _ hf)
    obtain ⟨o, h1, _⟩ := lookIn_ns hns
    exact ⟨oe, some o, ⟨ho, hz.1, nc, by rw [hz.2.1]; exact h1⟩, o, rfl, h1⟩
theorem call_isX : CallR X (.builtin "isinstance") (rIsX X.K) := by
  intro pins s σ H xs us Q I r h
  obtain ⟨a, C, d, c, cv, b, rfl, hcv, ha, hd, T, e, q⟩ := h
  obtain ⟨u1, u2, rfl, r1, r2⟩ := vals2 r
  obtain rfl : u1 = Value.ref a := r1
  have ec := hcv _ r2
  subst ec
  obtain ⟨oe, od, J, _⟩ := exc_at I ha hd
  exact PySem.W.kia_one (PySem.W.kitx_exc T.cl T.ga T.gt T.sb T.ca T.cn T.tk T.mr) I.kIn J e (fun z => nomatch z) fun tk => ⟨.bl b, H, I.tok tk, rfl, q⟩
structure IsT (K : PySem.W.Frag) (mg : Str → Option Value) (R : List Str) (T : Str) : Prop where
  ex : ∃ (c : V) (v : Value), ((mg T = some v ∧ RelV c v) ∨ (mg T = none ∧ bootBuiltins T = some v ∧ RelV c v ∧ T ≠ "__name__")) ∧ (∀ u, RelV c u → u = v) ∧ ∀ k ∈ R, ∀ C, ClsN K k C → PySem.W.kitOne K (.ref C) v = some (subE k T)
structure ExIs (K : PySem.W.Frag) (R : List Str) : Prop where
  ex : ∀ k ∈ R, ∀ C, ClsN K k C → ExI K C
def excK (R : List Str) : D → (Str → Prop) → Prop
  | .dict ((.str c, _) :: _), q => c ∈ R ∧ q c
  | _, _ => False
def eIsE (R : List Str) (T : Str) (e : ES) : ES := fun x δ q => e x δ fun s => s.fr fun d => excK R d fun c => q (.val (.bool (subE c T)))
theorem je_isE {R : List Str} {T : Str} {p1 p2 : Pos} {de : ES} (hm : X.mg "isinstance" = none) (hI : ExIs X.K R) (hT : IsT X.K X.mg R T) (h : JE X W e de) (hg : Gl X "isinstance" := by rfl) (hgT : Gl X T := by rfl) (hdT : (T == ("__debug__" : Str)) = false := by decide)
    (hs : starEach (e :: [.Name T p2]) X.env = (false, eval e X.env) :: starEach [.Name T p2] X.env := by rfl) (hs2 : starEach [.Name T p2] X.env = (false, eval (.Name T p2) X.env) :: starEach [] X.env := by rfl)
    (hpl : (backTo pos (starEach [.Name T p2] X.env)).any (·.1) = false := by rfl) : JE X W (.Call (.Name "isinstance" p1) [e, .Name T p2] [] pos) (eIsE R T de) := by
  obtain ⟨te, p, s⟩ := h.ex
  obtain ⟨c, v, hv, hcv, hR⟩ := hT.ex
  have pT : PE X (.Name T p2) (fun σ H Q => Q c H) := by
    rcases hv with ⟨m, r⟩ | ⟨m, bb, r, nn⟩
    · exact pe_glob hgT m r hdT
    · exact pe_bltn hgT m bb r nn hdT
  refine ⟨_, pe_callB call_isX hg hm (by decide +kernel) (pa_cons p (pa_cons pT pa_nil hs2) hs) (by decide) (by decide) hs hpl, fun O H H0 σ δ x q Q so env hx hq g => ?_⟩
  refine s O H H0 σ δ x _ _ so env hx (fun y O1 H1 t u1 r1 g1 => ?_) g
  obtain ⟨O2, d, u2, r2, g2⟩ := r1.fr u1 g1
  unfold excK at g2
  split at g2
  · rename_i k tl rest
    obtain ⟨hk, g2⟩ := g2
    cases r2 with
    | exc0 hC ha =>
      have hI := hI.ex k hk _ hC
      have hkit := hR k hk _ hC
      exact ⟨_, _, none, c, v, subE k T, rfl, hcv, u2.oh _ _ ha, (fun _ z => nomatch z), hI, hkit, hq _ O2 H1 (.val (.bool _)) u2 (.bl _) g2⟩
    | exc1 hC ha hd _ =>
      have hI := hI.ex k hk _ hC
      have hkit := hR k hk _ hC
      exact ⟨_, _, some _, c, v, subE k T, rfl, hcv, u2.oh _ _ ha, (fun _ z => by cases z; exact ⟨_, u2.oh _ _ hd⟩), hI, hkit, hq _ O2 H1 (.val (.bool _)) u2 (.bl _) g2⟩
  · exact g2.elim
def rCntF (K : PySem.W.Frag) : V → List V → Hp → VK → Prop := fun x vs H Q => ∃ (a : Addr) (ys : List V) (y : V), x = V.ref a ∧ vs = [y] ∧ SqL K H a ys ∧ flatV y = true ∧ ys.all flatV = true ∧ Q (.int ((ys.countP fun z => eqV z y : Nat) : Int)) H
theorem mt_cntF : MtR X "list.count" (rCntF X.K) := by
  intro pins s σ H x xs v us Q I rx rxs h
  obtain ⟨a, ys, y, rfl, rfl, hs, fy, fys, q⟩ := h
  cases rx
  cases rxs with
  | cons ry rt =>
    rename_i uy ut
    cases rt
    obtain ⟨its, rv, ⟨⟨cls, dd, data, sl⟩, n, ho, hc, hdn, hd⟩, hlen⟩ := I.list hs
    simp only at hc hd
    subst hc hd
    refine call_meets PySem.F.slot_list_count ⟨_, ho, rfl⟩ PySem.F.entry_list_count (PySem.F.args_list_count_2 _ _) (SeqAt.list_countAt a its.toArray n dd sl uy (eqU y)) ⟨ho, fun u' hu' => mem_eqAt ry fy rv fys u' (by simpa using hu'), ?_⟩
    have ec : ∀ {vs : List V} {us : List Value}, Vals vs us → vs.all flatV = true → us.countP (eqU y) = vs.countP fun z => eqV z y := by
      intro vs us r
      induction r with
      | nil => intro _; rfl
      | cons r1 _ ih =>
        intro f
        rw [List.all_cons, Bool.and_eq_true] at f
        rw [List.countP_cons, List.countP_cons, ih f.2, eqU_of r1 f.1]
    refine ⟨.int ((ys.countP fun z => eqV z y : Nat) : Int), H, I.tok _, ⟨s.toks, ?_⟩, q⟩
    show Value.int ((its.toArray.toList.countP (eqU y) : Nat) : Int) s.toks = _
    rw [ec rv fys]
def lstK : D → (List D → Prop) → Prop
  | .list xs, k => k xs
  | _, _ => False
def blK : D → (Bool → Prop) → Prop
  | .bool b, k => k b
  | _, _ => False
def eCnt (a e : EP) : ES := fun x δ q => a x δ fun d => lstK d fun xs => e x δ fun c => blK c fun b => optK (bools xs) fun bs => q (.val (.int ((bs.count b : Nat) : Int)))
theorem flat_bools : ∀ bs : List Bool, (bs.map V.bl).all flatV = true
  | [] => rfl
  | _ :: bs => by rw [List.map_cons, List.all_cons, flat_bools bs]; rfl
theorem cnt_bools (b : Bool) : ∀ bs : List Bool, (bs.map V.bl).countP (fun z => eqV z (.bl b)) = bs.count b
  | [] => rfl
  | c :: bs => by
    rw [List.map_cons, List.countP_cons, cnt_bools b bs, List.count_cons]
    have : eqV (.bl c) (.bl b) = (c == b) := by cases b <;> cases c <;> rfl
    rw [this]
theorem je_count {a e : Expr} {da de : EP} {p1 : Pos} (ha : JP X W a da) (he : JP X W e de)
    (hb : ∀ {ta te : TE}, PE X a ta → PE X e te → PE X (.Call (.Attribute a "count" p1) [e] [] pos) (tBM X.K "list" (rCntF X.K) ta (tCons te tNil)) := by exact fun pa pe => pe_bm PySem.F.plainAttrs_list PySem.F.slot_list_count PySem.F.type_list_count mt_cntF pa (pa_cons pe pa_nil)) :
    JE X W (.Call (.Attribute a "count" p1) [e] [] pos) (eCnt da de) := by
  obtain ⟨ta, pa, sa⟩ := ha.ex
  obtain ⟨te, pe, se⟩ := he.ex
  refine ⟨_, hb pa pe, fun O H H0 σ δ x q Q so env hx hq g => ?_⟩
  refine sa O H H0 σ δ x _ _ so env hx (fun v O1 H1 d u1 r1 g1 => ?_) g
  unfold lstK at g1
  split at g1
  · rename_i xs
    obtain ⟨b, ys, rfl, qa, za⟩ := r1
    refine ⟨.inl ⟨rfl, _, qa⟩, ?_⟩
    refine se O1 H1 H0 σ δ x _ _ u1.oh (env.up u1) (fun e cls d O' H' u' => hx e cls d O' H' (u1.trans u')) (fun w O2 H2 c u2 r2 g2 => ?_) g1
    unfold blK at g2
    split at g2
    · rename_i c
      cases r2
      obtain ⟨bs, hbs, g3⟩ := optK_iff g2
      have e := bools_of za hbs
      subst e
      refine ⟨b, bs.map V.bl, .bl c, rfl, rfl, u2.h.seq qa, rfl, flat_bools bs, ?_⟩
      rw [cnt_bools]
      exact hq _ O2 H2 (.val (.int _)) (u1.trans u2) (.int _) g3
    · exact g2.elim
  · exact g1.elim
theorem u_sTry {b : ST} {cs : List Cl} {D : DL.Ends} {δ : List S} : sTry b cs D δ = b { D with ex := fun e δ' => hands cs e D δ' } δ := (rfl)
theorem w_hands0 {e : Exc} {D : DL.Ends} {δ : List S} : hands [] e D δ = D.ex e δ := (rfl)
theorem w_hands1 {R : List Str} {T : Str} {i : Option Nat} {s : ST} {r : List Cl} {e : Exc} {D : DL.Ends} {δ : List S} : hands (⟨R, T, i, s⟩ :: r) e D δ = (e.cls ∈ R ∧ if subE e.cls T = true then s (afterE i D) (atE i e δ) else hands r e D δ) := (rfl)
theorem w_atE1 {i : Nat} {e : Exc} {δ : List S} : atE (some i) e δ = put δ i (.val (excD e)) := (rfl)
theorem w_atE0 {e : Exc} {δ : List S} : atE none e δ = δ := (rfl)
theorem w_afterE {o : Option Nat} {D : DL.Ends} : afterE o D = ⟨fun δ => D.nx (goneE o δ), D.rt, fun δ => D.bk (goneE o δ), fun δ => D.ct (goneE o δ), fun _ _ => False, fun _ _ => False⟩ := (rfl)
theorem w_goneE1 {i : Nat} {δ : List S} : goneE (some i) δ = put δ i .no := (rfl)
theorem w_goneE0 {δ : List S} : goneE none δ = δ := (rfl)
theorem w_excD0 {c : Str} : excD ⟨c, none⟩ = .dict [(.str c, .none)] := (rfl)
theorem w_excD1 {c f : Str} {u : D} : excD ⟨c, some (f, u)⟩ = .dict [(.str c, .str f), (.str f, u)] := (rfl)
theorem u_eIsE {R : List Str} {T : Str} {e : ES} {x : XP} {δ : List S} {q : S → Prop} : eIsE R T e x δ q = e x δ fun s => s.fr fun d => excK R d fun c => q (.val (.bool (subE c T))) := (rfl)
theorem w_excK {R : List Str} {c : Str} {u : D} {l : List (D × D)} {q : Str → Prop} : excK R (.dict ((.str c, u) :: l)) q = (c ∈ R ∧ q c) := (rfl)
theorem u_eCnt {a e : EP} {x : XP} {δ : List S} {q : S → Prop} : eCnt a e x δ q = a x δ fun d => lstK d fun xs => e x δ fun c => blK c fun b => optK (bools xs) fun bs => q (.val (.int ((bs.count b : Nat) : Int))) := (rfl)
theorem w_lstK {xs : List D} {k : List D → Prop} : lstK (.list xs) k = k xs := (rfl)
theorem w_blK {b : Bool} {k : Bool → Prop} : blK (.bool b) k = k b := (rfl)
theorem nd_i {i : Int} : noDict (.int i) = true := (rfl)
theorem nd_b {i : Bool} : noDict (.bool i) = true := (rfl)
theorem nd_s {i : Str} : noDict (.str i) = true := (rfl)
theorem nd_l {i : List D} : noDict (.list i) = true := (rfl)
theorem nd_t {i : List D} : noDict (.tuple i) = true := (rfl)
theorem nd_n : noDict .none = true := (rfl)
end
end DL

namespace DL
variable [HotA]
open PySem PySem.Spec PyProof.Rows L2
class HasUn (R : Nat → Around → Prop) : Prop where
  un : ∀ k A, R k A → A.units + 64 < cLine
instance : HasUn Room := ⟨fun _ _ r => r.units⟩
instance : HasUn L2H.RoomH := ⟨fun k A r => by have := r.un; omega⟩
theorem units_ok {R : Nat → Around → Prop} [h : HasUn R] {k : Nat} {A : Around} (r : R k A) : A.units + 64 < cLine := h.un k A r
theorem on_as {X : Cx} {n : Str} (i : Nat) (h1 : X.N[i]? = some n) (h2 : X.env.kindOf n = some .local) : onSlot X (some n) (some i) := ⟨h1, h2⟩
inductive RAll (P : Str → Prop) : List Str → Prop
  | nil : RAll P []
  | cons {c : Str} {r : List Str} : P c → RAll P r → RAll P (c :: r)
theorem RAll.at {P : Str → Prop} : ∀ {R : List Str}, RAll P R → ∀ c ∈ R, P c
  | _, .nil, _, h => by cases h
  | _, .cons h r, c, hc => by
    rcases List.mem_cons.mp hc with e | e
    · rw [e]; exact h
    · exact r.at c e
theorem ClsN.eq {K : PySem.W.Frag} {c : Str} {C C' : Addr} (h : ClsN K c C) (h' : ClsN K c C') : C = C' := by
  have e := h.symm.trans h'
  injection e with e
  injection e with e
  injection e
section
variable {K : PySem.W.Frag} {mg : Str → Option Value} {h : Heap} {p : Prop} {R : List Str} {T c : Str} {C : Addr} {v : Value}
theorem exd_use (X : K.In h) (G : h.Ns mainGlobals mg) (a : PySem.W.nsIn K mainGlobals c = some (some (.ref C))) (x : PySem.W.excIn K C [.type "ValueError", .type "Exception", .type "BaseException", .type "object"] "ValueError.__new__" = true) (k : PySem.W.keepIn K (.ref C) = true)
    (b : PySem.W.subIn K (.ref C) (.type "BaseException") = some true) (t : PySem.W.typeIn K (.ref C) = some (.type "type")) (q : ExD K mg c → p) : p := q ⟨C, a, PySem.W.mg_of X G a, x, k, b, t⟩
theorem ext_use (X : K.In h) (G : h.Ns mainGlobals mg) (a : PySem.W.nsIn K mainGlobals T = some (some (.ref C))) (hb : PySem.W.subIn K (.ref C) (.type "BaseException") = some true) (hd : PySem.W.hasDictIn K C = true) (ty : PySem.W.typeIn K (.ref C) = some (.type "type"))
    (f : RAll (fun c => ∃ C' b, PySem.W.nsIn K mainGlobals c = some (some (.ref C')) ∧ PySem.W.subIn K (.ref C') (.ref C) = some b ∧ subE c T = b) R) (q : ExT K mg R T → p) : p :=
  q ⟨.ref C, .inl (PySem.W.mg_of X G a), fun c hc C' hC' => by
    obtain ⟨C2, b, h1, h2, h3⟩ := f.at c hc
    rw [hC'.eq h1, h3]
    exact PySem.W.exm_ref hb hd ty h2⟩
theorem ist_use (X : K.In h) (G : h.Ns mainGlobals mg) (a : PySem.W.nsIn K mainGlobals T = some (some (.ref C))) (cl : PySem.W.isClsIn K C = true) (ty : PySem.W.typeIn K (.ref C) = some (.type "type")) (ss : PySem.W.subIn K (.ref C) (.ref C) = some true)
    (f : RAll (fun c => ∃ C' b, PySem.W.nsIn K mainGlobals c = some (some (.ref C')) ∧ PySem.W.subIn K (.ref C') (.ref C) = some b ∧ subE c T = b) R) (q : IsT K mg R T → p) : p :=
  q ⟨.ref C, .ref C, .inl ⟨PySem.W.mg_of X G a, rfl⟩, fun u r => r, fun c hc C' hC' => by
    obtain ⟨C2, b, h1, h2, h3⟩ := f.at c hc
    rw [hC'.eq h1, h3]
    unfold PySem.W.kitOne
    split
    · rename_i z
      have z := beq_iff_eq.mp z
      rw [z, ss] at h2
      exact h2
    · unfold PySem.W.kitCls
      have cl' : (PySem.W.clsIn K C).isSome = true := cl
      show (if ((PySem.W.clsIn K C).isSome && PySem.W.typeIn K (.ref C) == some (.type "type")) = true then PySem.W.subIn K (.ref C2) (.ref C) else none) = some b
      rw [if_pos (by rw [cl', ty]; rfl)]
      exact h2⟩
theorem ist_useB {n : String} (X : K.In h) (G : h.Ns mainGlobals mg) (a : PySem.W.nsIn K mainGlobals T = some none) (bb : bootBuiltins T = some (.type n)) (nn : T ≠ "__name__") (km : PySem.W.kitMeta n = true)
    (f : RAll (fun c => ∃ C' b, PySem.W.nsIn K mainGlobals c = some (some (.ref C')) ∧ PySem.W.subIn K (.ref C') (.type n) = some b ∧ subE c T = b) R) (q : IsT K mg R T → p) : p :=
  q ⟨.ty n, .type n, .inr ⟨PySem.W.mg_none_of X G a, bb, rfl, nn⟩, fun u r => r, fun c hc C' hC' => by
    obtain ⟨C2, b, h1, h2, h3⟩ := f.at c hc
    rw [hC'.eq h1, h3]
    unfold PySem.W.kitOne
    rw [if_neg (by simp)]
    show (if PySem.W.kitMeta n = true then PySem.W.subIn K (.ref C2) (.type n) else none) = some b
    rw [if_pos km]
    exact h2⟩
theorem exi_mk (cl : PySem.W.isClsIn K C = true) (ga : PySem.W.findIn K (.ref C) "__getattribute__" = some (some (.builtin "BaseException.__getattribute__"))) (gt : PySem.W.findIn K (.ref C) "__getattr__" = some none) (sb : PySem.W.subIn K (.ref C) (.type "BaseException") = some true)
    (ca : PySem.W.findIn K (.ref C) "__class__" = some (some (.builtin "object.__class__"))) (cn : PySem.W.specialIn K (.builtin "object.__class__") "__get__" = some (some (.builtin "getset_descriptor.__get__"))) (tk : PySem.W.takesIn K (.builtin "object.__class__") = some true)
    (mr : PySem.W.mroIn K C (.type "object") = some true) (hd : PySem.W.hasDictIn K C = true) : ExI K C := ⟨cl, ga, gt, sb, ca, cn, tk, mr, hd⟩
theorem exi_use (X : K.In h) (f : RAll (fun c => ∃ C, PySem.W.nsIn K mainGlobals c = some (some (.ref C)) ∧ ExI K C) R) (q : ExIs K R → p) : p :=
  q ⟨fun c hc C' hC' => by
    obtain ⟨C2, h1, h2⟩ := f.at c hc
    rw [hC'.eq h1]
    exact h2⟩
end
section
variable {X : Cx} {W : WX} {e : Expr} {es : List Expr} {pos p1 p2 : Pos} {ta : TA}
end
end DL

namespace DL
open PySem L2
abbrev Part := Int × Int
def encP (x : Part) : D := .tuple [.int x.1, .int x.2]
theorem parts_inj : ∀ {l r : List Part}, (l.map encP = r.map encP) = (l = r)
  | [], [] => by simp
  | [], _ :: _ => by simp
  | _ :: _, [] => by simp
  | (p, e) :: l, (p', e') :: r => by
    have ih := parts_inj (l := l) (r := r)
    rw [List.map_cons, List.map_cons, List.cons.injEq, List.cons.injEq, ih]
    have : (encP (p, e) = encP (p', e')) = ((p, e) = (p', e')) := by
      show (PyData.tuple [.int p, .int e] = PyData.tuple [.int p', .int e']) = _
      simp
    rw [this]
end DL

namespace DL
open PySem PySem.Spec PyProof.Rows L2
section
variable {K : PySem.W.Frag} {mg : Str → Option Value} {h : Heap} {p : Prop} {c f B qual : Str} {C : Addr}
end
end DL

namespace DL
open PySem L2
theorem shp {d : D} (h1 : PyData.canLay0 d = true) (h2 : d.depth ≤ 64) : shapedB d = true := by
  unfold shapedB SeqAt.shaped
  rw [h1, decide_eq_true h2]
  rfl
theorem cl_i {i : Int} : PyData.canLay0 (.int i) = true := by rw [PyData.canLay0]
theorem cl_b {i : Bool} : PyData.canLay0 (.bool i) = true := by rw [PyData.canLay0]
theorem cl_n : PyData.canLay0 .none = true := by rw [PyData.canLay0]
theorem cl_s {x : Str} (h : PyData.canLay0 (.str x) = true) : PyData.canLay0 (.str x) = true := h
theorem cl_l {xs : List D} (h : PyData.canLayAll0 xs = true) : PyData.canLay0 (.list xs) = true := by rw [PyData.canLay0]; exact h
theorem cl_t {xs : List D} (h : PyData.canLayAll0 xs = true) : PyData.canLay0 (.tuple xs) = true := by rw [PyData.canLay0]; exact h
theorem cl_0 : PyData.canLayAll0 [] = true := by rw [PyData.canLayAll0]
theorem cl_c {x : D} {xs : List D} (h : PyData.canLay0 x = true) (h2 : PyData.canLayAll0 xs = true) : PyData.canLayAll0 (x :: xs) = true := by rw [PyData.canLayAll0, h, h2]; rfl
theorem cl_m {α : Type} {f : α → D} : ∀ {xs : List α}, (∀ x ∈ xs, PyData.canLay0 (f x) = true) → PyData.canLayAll0 (xs.map f) = true
  | [], _ => cl_0
  | x :: xs, h => cl_c (h x List.mem_cons_self) (cl_m fun y hy => h y (List.mem_cons_of_mem _ hy))
theorem dp_m {α : Type} {f : α → D} {k : Nat} : ∀ {xs : List α}, (∀ x ∈ xs, (f x).depth ≤ k) → PyData.depthAll (xs.map f) ≤ k
  | [], _ => by rw [List.map_nil, PyData.depthAll]; exact Nat.zero_le _
  | x :: xs, h => by
    rw [List.map_cons, PyData.depthAll]
    have := h x List.mem_cons_self
    have := dp_m fun y hy => h y (List.mem_cons_of_mem _ hy)
    omega
theorem eqv_b {i j : Bool} : PyData.eqv (.bool i) (.bool j) = decide (i = j) := by rw [PyData.eqv]; cases i <;> cases j <;> rfl
theorem eqv_s {i j : Str} : PyData.eqv (.str i) (.str j) = decide (i = j) := by rw [PyData.eqv]; exact Bool.eq_iff_iff.mpr (by rw [beq_iff_eq, decide_eq_true_eq])
theorem eqv_nn : PyData.eqv .none .none = true := by rw [PyData.eqv]
theorem eqv_cn {x : D} {xs : List D} : PyData.eqvAll (x :: xs) [] = false := by rw [PyData.eqvAll]
theorem eqv_nc {x : D} {xs : List D} : PyData.eqvAll [] (x :: xs) = false := by rw [PyData.eqvAll]
end DL

namespace DL
open PySem L2
def ls (l : List Int) : Int := l.foldr (· + ·) 0
def sg (k : Int) : Int := if k % 2 = 0 then 1 else -1
def half (n : Int) : Nat := (n / 2).toNat
def HL (n : Int) : List Int := rngI 1 (half n)
def big (n y : Int) : Int := if 2 * (y % n) < n then 0 else 1
def cnt (a n : Int) : Int := ls ((HL n).map fun x => big n (a * x))
def G (a n : Int) : Int := sg (cnt a n)
def F (a n : Int) : Int := ls ((HL n).map fun x => a * x / n)
def J (a n : Int) : Int := if Int.gcd a n = 1 then G a n else 0
end DL

namespace DL
open PySem L2
end DL

namespace DL
variable [HotA]
open PySem L2
section
variable {X : Cx}
end
theorem ix_lit {xs : List Int} {k : Int} (h0 : 0 ≤ k) (h1 : k < (xs.length : Int)) : ∃ v, v ∈ xs ∧ atI (xs.map PyData.int) k = some (.int v) := by
  refine ⟨xs.getD k.toNat 0, ?_, ?_⟩
  · rw [List.getD_eq_getElem?_getD, List.getElem?_eq_getElem (by omega)]
    exact List.getElem_mem _
  · have e : k = ((k.toNat : Nat) : Int) := by omega
    rw [e]
    refine atI_nat ?_
    rw [List.getElem?_map, List.getElem?_eq_getElem (by omega), Int.toNat_natCast, List.getD_eq_getElem?_getD, List.getElem?_eq_getElem (by omega)]
    rfl
theorem rng_15 : rngD 0 15 = [.int 0, .int 1, .int 2, .int 3, .int 4, .int 5, .int 6, .int 7, .int 8, .int 9, .int 10, .int 11, .int 12, .int 13, .int 14] := rfl
def eCall0 (p : DSp) : ES := fun _ _ q => @callK p [] (fun _ => False) ⟨q⟩
theorem je_call0 {X : Cx} {W : WX} {pos : Pos} {k : Nat} {f : Addr} {fd : FuncData} {p : DSp} {x : Str} {p1 : Pos} (F : FnOk X.prog X.w X.K X.mg X.base (L2N.CX X.prog X.w) k f fd [] (spD X.K X.mg p)) (hr : Room k X.A) (hm : X.mg x = some (.ref f)) (hk : PySem.W.keepIn X.K (.ref f) = true) (hb : Binds X.K fd [] [])
    (hg : Gl X x := by rfl) (hdb : (x == ("__debug__" : Str)) = false := by decide) : JE X W (.Call (.Name x p1) [] [] pos) (eCall0 p) := by
  refine ⟨_, pe_call0 (E := fun _ _ _ => False) (dvs := []) F hr hg hm hk hb .nil (fun _ _ _ _ _ _ _ h => by obtain ⟨_, _, _, _, _, _, _, _, _, _, _, _, z⟩ := h; exact z.elim) hdb, fun O H H0 σ δ x q Q so env hx hq g => ?_⟩
  exact ⟨O, [], _, q, so, env.tt, .nil, g, fun v O' H' s u r z => hq v O' H' s u r z, fun _ _ _ _ _ _ _ z => z.elim⟩
theorem u_eCall0 {p : DSp} {x : XP} {δ : List S} {q : S → Prop} : eCall0 p x δ q = @callK p [] (fun _ => False) ⟨q⟩ := (rfl)
end DL

namespace DL
variable [HotA]
open PySem PySem.Spec PyProof.Rows L2
section
variable {X : Cx} {W : WX} {e : Expr} {es : List Expr} {pos p1 p2 : Pos} {R : List Str}
end
section
variable {X : Cx} {pos : Pos}
end
section
variable {X : Cx} {W : WX} {pos : Pos}
end
end DL

namespace DL
open PySem L2
def ptF : Nat → Int → Int → Nat × Int
  | 0, _, a => (0, a)
  | n + 1, p, a => if a % p = 0 then ((ptF n p (a / p)).1 + 1, (ptF n p (a / p)).2) else (0, a)
def pt (p a : Int) : Nat × Int := ptF a.natAbs p a
def HO (p : Int) (i : Nat) (u : Int) (j : Nat) (v : Int) : Int := sg ((i : Int) * j * ((p - 1) / 2)) * (if j % 2 = 1 then J u p else 1) * (if i % 2 = 1 then J v p else 1)
def H2 (i : Nat) (u : Int) (j : Nat) (v : Int) : Int := sg ((u - 1) / 2 * ((v - 1) / 2) + i * ((v * v - 1) / 8) + j * ((u * u - 1) / 8))
end DL

namespace DL
open PySem L2
section
variable {X : Cx} {W : WX} {a : Expr} {pos p2 : Pos}
end
theorem shaped_parts {l : List Part} : shapedB (.list (l.map encP)) = true := by
  refine shp (cl_l (cl_m fun x _ => cl_t (cl_c cl_i (cl_c cl_i cl_0)))) ?_
  rw [PyData.depth]
  have : PyData.depthAll (l.map encP) ≤ 10 := dp_m fun x _ => by unfold encP; simp [PyData.depth, PyData.depthAll]
  omega
end DL

namespace DL
open PySem L2
def nz (xs : List Int) : List Int := xs.filter fun x => decide (¬ x = 0)
def wor (a b c d e f x y z : Int) : Int := a * x * x + b * y * y + c * z * z + d * y * z + e * x * z + f * x * y
def cro (a b c d e f x y z u v w : Int) : Int := wor a b c d e f (x + u) (y + v) (z + w) - wor a b c d e f x y z - wor a b c d e f u v w
end DL

namespace DL
variable [HotA]
open PySem L2
section
variable {X : Cx} {W : WX} {e : Expr} {pos p1 : Pos}
end
end DL

namespace DL
open PySem L2
theorem w_ne5 {b : Bool} {d : D} {q : S → Prop} : rNeD (.bool b) d q = (shapedB (.bool b) = true ∧ shapedB d = true ∧ q (.val (.bool (!PyData.eqv (.bool b) d)))) := by cases d <;> rfl
end DL

namespace DL
open PySem L2
abbrev Tri := Int × Int × Int
abbrev t3 (o : Tri) : D := .tuple [.int o.1, .int o.2.1, .int o.2.2]
abbrev t2 (o : Int × Int) : D := .tuple [.int o.1, .int o.2]
section
open PySem.Spec PyProof.Rows
variable {prog : Program} {w : World} {A : Around} {s : Shared}
end
section
open PySem.Spec PyProof.Rows
variable {X : Cx}
end
end DL

namespace DL
open PySem L2
end DL

namespace DL
open PySem L2
section
variable {X : Cx} {W : WX} {pos : Pos}
end
end DL

namespace DL
open PySem L2
def lastP (a b : Int) : Prop := a = 1 ∨ b = 1 ∨ a + b = 0
instance {a b : Int} : Decidable (lastP a b) := by unfold lastP; infer_instance
theorem atI_last {α : Type} {l : List α} {a : α} : atI (l ++ [a]) (-1) = some a := by
  have e : ixN (l ++ [a]).length (-1) = some l.length := by
    unfold ixN
    rw [List.length_append, List.length_singleton]
    simp
    omega
  unfold atI
  rw [e]
  simp
end DL

namespace DL
open PySem L2
end DL

namespace DL
open PySem PySem.Spec PyProof.Rows L2
section
variable {P : Program} {w : World} {A : Around} {E : Value → Shared → Prop} {s : Shared}
end
end DL

namespace DL
open PySem PySem.Spec PyProof.Rows L2
end DL

namespace DL
open PySem L2
end DL

namespace DL
open PySem L2
def S.ob : S → (V → D → List Addr → Prop) → Prop
  | .obj v d fp, k => k v d fp
  | _, _ => False
theorem w_ob {v : V} {d : D} {fp : List Addr} {k : V → D → List Addr → Prop} : (S.obj v d fp).ob k = k v d fp := (rfl)
theorem w_fr3 {v : V} {d : D} {fp : List Addr} {k : D → Prop} : (S.obj v d fp).fr k = (isDct d = false ∧ k d) := (rfl)
theorem w_any3 {v : V} {d : D} {fp : List Addr} {k : S → Prop} : (S.obj v d fp).any k = k (.obj v d fp) := (rfl)
section
variable {X : Cx} {W : WX} {pos : Pos}
end
theorem OwAll.length {K : PySem.W.Frag} {O H : Hp} : ∀ {vs : List V} {ds : List D} {fp : List Addr}, OwAll K O H vs ds fp → vs.length = ds.length
  | _, _, _, .nil => rfl
  | _, _, _, .cons _ a => congrArg (· + 1) a.length
theorem OwAll.at {K : PySem.W.Frag} {O H : Hp} : ∀ {vs : List V} {ds : List D} {fp : List Addr}, OwAll K O H vs ds fp → ∀ {j : Nat} {r : List D}, ds[j]? = some (.list r) → ∃ b ws, vs[j]? = some (.ref b) ∧ H b = some (.lst ws) ∧ ws.length = r.length ∧ b ∈ fp
  | _, _, _, .nil, j, _, e => by simp at e
  | _, _, _, @OwAll.cons _ _ _ v vs d ds f g h a, 0, r, e => by
    simp only [List.getElem?_cons_zero, Option.some.injEq] at e
    subst e
    cases h with
    | dat _ z => unfold noLst at z; cases z
    | lst hb aw => exact ⟨_, _, rfl, hb, aw.length, List.mem_append_left _ List.mem_cons_self⟩
  | _, _, _, @OwAll.cons _ _ _ v vs d ds f g h a, j + 1, r, e => by
    simp only [List.getElem?_cons_succ] at e
    obtain ⟨b, ws, h1, h2, h3, h4⟩ := OwAll.at a e
    exact ⟨b, ws, by simpa using h1, h2, h3, List.mem_append_right _ h4⟩
theorem EnvR.setObj {K : PySem.W.Frag} {H0 O H : Hp} {σ : L2.St} {δ : List S} (r : EnvR K H0 O H σ δ) {i : Nat} {v : V} {d d' : D} {fp : List Addr} {b : Addr} {w : L2.HO} (hi : lk δ i = .obj v d fp) (hb : b ∈ fp) (a : Ow K O (upd H b w) v d' fp) (tb : LamX.Tabs tabT H → LamX.Tabs tabT (upd H b w)) :
    EnvR K H0 O (upd H b w) σ (DL.put δ i (.obj v d' fp)) := by
  obtain ⟨e1, ow, nd, fr⟩ := r.ob.obj i v d fp hi
  have e2 := (r.drop i).mut (p := b) (fun j es hj q => by
    by_cases hji : j = i
    · rw [hji, lk_put_same (lk_lt hi (by intro y; cases y))] at hj; cases hj
    · rw [lk_put_ne hji] at hj
      exact r.ob.oo j i es v d fp b hj hi q hb) (fun j x y gp hj hg => by
    by_cases hji : j = i
    · rw [hji, lk_put_same (lk_lt hi (by intro y; cases y))] at hj; cases hj
    · rw [lk_put_ne hji] at hj
      exact r.ob.pp j i x y gp v d fp hji hj hi b hg hb) w tb
  have e3 := e2.putObj i a nd fr (fun j es p hji hj q hp => by
    rw [lk_put_ne hji] at hj
    exact r.ob.oo j i es v d fp p hj hi q hp) (fun j x y gp hji hj z hz hg => by
    rw [lk_put_ne hji] at hj
    exact r.ob.pp j i x y gp v d fp hji hj hi z hg hz)
  have es : σ.set i (some v) = σ := by
    refine List.ext_getElem? fun j => ?_
    by_cases hj : j = i
    · subst hj
      rw [List.getElem?_set_self (List.getElem?_eq_some_iff.mp e1).1, e1]
    · rw [List.getElem?_set_ne (Ne.symm hj)]
  rw [es, put_put] at e3
  exact e3
section
variable {X : Cx} {W : WX} {pos : Pos}
end
end DL

namespace DL
open PySem L2
theorem w_flatI {n : Int} : isFlat (.int n) = true := (rfl)
theorem w_flatL {ds : List D} : isFlat (.list ds) = false := (rfl)
theorem w_flatT {ds : List D} : isFlat (.tuple ds) = false := (rfl)
section
variable {X : Cx} {W : WX} {pos : Pos}
theorem lk_put_or {δ : List S} {i j : Nat} {s t : S} (h : lk (put δ i s) j = t) (n : t ≠ .no) : (j = i ∧ t = s) ∨ (j ≠ i ∧ lk δ j = t) := by
  by_cases hj : j = i
  · subst hj
    by_cases hl : j < δ.length
    · rw [lk_put_same hl] at h
      exact .inl ⟨rfl, h.symm⟩
    · rw [lk_out (by rw [put_length]; omega)] at h
      exact absurd h.symm n
  · rw [lk_put_ne hj] at h
    exact .inr ⟨hj, h⟩
end
end DL

namespace DL
open PySem L2
abbrev MSp := List S → XP → (S → List S → Prop) → Prop
def parK : List S → List S → List S → Prop
  | [], _, [] => True
  | _ :: ss, _ :: δ, .no :: ts => parK ss δ ts
  | .obj v _ _ :: ss, .obj w d' fp' :: δ, .obj u e gp :: ts => (w = v ∧ u = v ∧ e = d' ∧ gp = fp') ∧ parK ss δ ts
  | _, _, _ => False
theorem parK_at : ∀ {ss δ ts : List S}, parK ss δ ts → ts.length = ss.length ∧ ∀ i, lk ts i = .no ∨ ∃ v d fp d' fp', lk ss i = .obj v d fp ∧ lk δ i = .obj v d' fp' ∧ lk ts i = .obj v d' fp'
  | [], _, [], _ => ⟨rfl, fun _ => .inl rfl⟩
  | s :: ss, t :: δ, .no :: ts, h => by
    have h : parK ss δ ts := by
      unfold parK at h
      exact h
    obtain ⟨h1, h2⟩ := parK_at h
    refine ⟨by simp [h1], fun i => ?_⟩
    cases i with
    | zero => exact .inl rfl
    | succ i => exact h2 i
  | .obj v d fp :: ss, .obj w d' fp' :: δ, .obj u e gp :: ts, h => by
    obtain ⟨⟨rfl, rfl, rfl, rfl⟩, h⟩ := h
    obtain ⟨h1, h2⟩ := parK_at h
    refine ⟨by simp [h1], fun i => ?_⟩
    cases i with
    | zero => exact .inr ⟨_, d, fp, _, _, rfl, rfl, rfl⟩
    | succ i => exact h2 i
def bodyM (n : Nat) (b : ST) : MSp := fun ss x q => b ⟨fun δ' => ∃ ts, parK ss δ' ts ∧ q (.val .none) ts, fun s => q s (ss.map fun _ => S.no), fun _ => False, fun _ => False, fun e _ => x e, fun d δ' => ∃ ts, parK ss δ' ts ∧ q (.val d) ts⟩ (ss ++ List.replicate (n - ss.length) .no)
def spM (K : PySem.W.Frag) (mg : Str → Option Value) (p : MSp) : Sp := fun vs H Q E => ∃ (H0 O : Hp) (ss : List S) (x : XP) (q : S → List S → Prop), Sam H0 H ∧ Same O H ∧ TOk O H0 ∧ EnvR K H0 O H (vs.map some) ss ∧ p ss x q ∧
  (∀ v O' H' s ts, Up O H0 O' H' → SRep K H0 O' H' v s → EnvR K H0 O' H' (vs.map some) ts → q s ts → Q v H') ∧ ∀ e cls d O' H', Up O H0 O' H' → XRep K mg O' H' e cls d → x e → E cls d H'
theorem lk_app : ∀ {δ : List S} {m i : Nat} {t : S}, lk (δ ++ List.replicate m .no) i = t → t ≠ .no → lk δ i = t ∧ i < δ.length
  | [], m, i, t, h, n => by
    exfalso
    refine n ?_
    rw [← h, List.nil_append]
    have : ∀ m i, lk (List.replicate m S.no) i = .no := by
      intro m
      induction m with
      | zero => intro i; rfl
      | succ m ih => intro i; cases i with
        | zero => rfl
        | succ i => exact ih i
    exact this m i
  | s :: δ, m, 0, t, h, n => ⟨h, Nat.zero_lt_succ _⟩
  | s :: δ, m, i + 1, t, h, n => by
    have := lk_app (δ := δ) (m := m) (i := i) h n
    exact ⟨this.1, Nat.succ_lt_succ this.2⟩
theorem EnvR.pad {K : PySem.W.Frag} {H0 O H : Hp} {σ : L2.St} {δ : List S} (r : EnvR K H0 O H σ δ) (m : Nat) : EnvR K H0 O H (σ ++ List.replicate m none) (δ ++ List.replicate m .no) := by
  have at_ : ∀ {i : Nat}, i < δ.length → (σ ++ List.replicate m none)[i]? = σ[i]? := fun {i} h => List.getElem?_append_left (by rw [r.len]; exact h)
  refine ⟨by simp [r.len], fun i d h => ?_, fun i ds h => ?_, fun i j ds es h1 h2 e => ?_, fun i a h => ?_, ⟨fun i v d fp h => ?_, fun i j ds v d fp p h1 h2 e => ?_, fun i j v d fp w e gp n h1 h2 => ?_⟩, r.tt⟩
  · obtain ⟨h, l⟩ := lk_app h (by simp)
    rw [at_ l]
    exact r.val i d h
  · obtain ⟨h, l⟩ := lk_app h (by simp)
    rw [at_ l]
    exact r.own i ds h
  · obtain ⟨h1, l1⟩ := lk_app h1 (by simp)
    obtain ⟨h2, l2⟩ := lk_app h2 (by simp)
    rw [at_ l1, at_ l2] at e
    exact r.inj i j ds es h1 h2 e
  · obtain ⟨h, l⟩ := lk_app h (by simp)
    rw [at_ l]
    exact r.adr i a h
  · obtain ⟨h, l⟩ := lk_app h (by simp)
    rw [at_ l]
    exact r.ob.obj i v d fp h
  · obtain ⟨h1, l1⟩ := lk_app h1 (by simp)
    obtain ⟨h2, l2⟩ := lk_app h2 (by simp)
    rw [at_ l1] at e
    exact r.ob.oo i j ds v d fp p h1 h2 e
  · exact r.ob.pp i j v d fp w e gp n (lk_app h1 (by simp)).1 (lk_app h2 (by simp)).1
theorem EnvR.pick {K : PySem.W.Frag} {H0 O H : Hp} {σ σ' : L2.St} {δ ts : List S} (r : EnvR K H0 O H σ δ) (hl : σ'.length = ts.length) (h : ∀ i, lk ts i = .no ∨ ∃ v d fp, lk δ i = .obj v d fp ∧ lk ts i = .obj v d fp ∧ σ'[i]? = some (some v)) : EnvR K H0 O H σ' ts := by
  have ob : ∀ {i : Nat} {v : V} {d : D} {fp : List Addr}, lk ts i = .obj v d fp → lk δ i = .obj v d fp ∧ σ'[i]? = some (some v) := fun {i v d fp} e => by
    rcases h i with k | ⟨v', d', fp', k1, k2, k3⟩
    · rw [k] at e; cases e
    · rw [k2] at e
      cases e
      exact ⟨k1, k3⟩
  have no : ∀ {i : Nat} {t : S}, lk ts i = t → (∀ v d fp, t ≠ .obj v d fp) → t = .no := fun {i t} e n => by
    rcases h i with k | ⟨v', d', fp', k1, k2, k3⟩
    · rw [← e, k]
    · rw [k2] at e
      exact absurd e.symm (n _ _ _)
  refine ⟨hl, fun i d e => ?_, fun i ds e => ?_, fun i j ds es e => ?_, fun i a e => ?_, ⟨fun i v d fp e => ?_, fun i j ds v d fp p e => ?_, fun i j v d fp w e gp n h1 h2 => ?_⟩, r.tt⟩
  · exact absurd (no e (by simp)) (by simp)
  · exact absurd (no e (by simp)) (by simp)
  · exact absurd (no e (by simp)) (by simp)
  · exact absurd (no e (by simp)) (by simp)
  · obtain ⟨h1, h2⟩ := ob e
    exact ⟨h2, (r.ob.obj i v d fp h1).2⟩
  · exact absurd (no e (by simp)) (by simp)
  · exact r.ob.pp i j v d fp w e gp n (ob h1).1 (ob h2).1
theorem lk_nos {ss : List S} : ∀ i, lk (ss.map fun _ => S.no) i = .no := by
  induction ss with
  | nil => intro i; rfl
  | cons s ss ih => intro i; cases i with
    | zero => rfl
    | succ i => exact ih i
theorem EnvR.vacuous {K : PySem.W.Frag} {H0 O H : Hp} {σ : L2.St} {ts : List S} (hl : σ.length = ts.length) (h : ∀ i, lk ts i = .no) (tt : TOk O H) : EnvR K H0 O H σ ts := by
  refine ⟨hl, fun i d e => ?_, fun i ds e => ?_, fun i j ds es e => ?_, fun i a e => ?_, ⟨fun i v d fp e => ?_, fun i j ds v d fp p e => ?_, fun i j v d fp w e gp n h1 h2 => ?_⟩, tt⟩
  all_goals first
    | (rw [h] at e; cases e)
    | (rw [h] at h1; cases h1)
section
open PyProof.Rows
variable {P : Program} {w : World} {K : PySem.W.Frag} {mg : Str → Option Value} {base : Heap}
theorem fnM {x qual : Str} {st : Stmt} {f : Addr} {fd : FuncData} {N ps : List Str} {k : Nat} {p : MSp} {b : ST} (F : Fun K x qual st f fd) (S : FnScope N ps (defScope st)) (len : ∀ ss x q, p ss x q → ss.length = ps.length)
    (hb : ∀ (cdv : Value) (A : Around) (outer : List Env) (s : Shared) (H : Hp) (E : XK), Room k (A.deeper (envOfC qual (defScope st) s.heap.objs.size f cdv)) →
      JSs (cxOf (L2N.CX P w) P w K mg base N qual (defScope st) f cdv A outer s H E) (WX0 E) (defBody st) b)
    (ok : ∀ ss x q, p ss x q → bodyM N.length b ss x q) : FnOk P w K mg base (L2N.CX P w) (k + 1) f fd ps (spM K mg p) := by
  have hN : ps.length ≤ N.length := by
    have h := congrArg List.length S.pre
    rw [List.length_take] at h
    omega
  obtain ⟨oc, od, kV, doc, pm, an, cdv, ct, osl, rfl, lkf, hcd⟩ := F.ex
  refine fn_of lkf hcd S (fun vs H Q E h => ?_) (fun A outer s H vs Q E hr h => ?_)
  · obtain ⟨H0, O, ss, x, q, _, _, _, env, g, _⟩ := h
    have := env.len
    rw [List.length_map] at this
    rw [this]
    exact len ss x q g
  · obtain ⟨ts, ps', sd⟩ := (hb cdv A outer s H E hr).ex
    refine ⟨ts, ps', ?_⟩
    obtain ⟨H0, O, ss, x, q, h0, so, t0, env, g, h1, h2⟩ := h
    have hl := len ss x q g
    have hv : vs.length = ss.length := by
      have := env.len
      rwa [List.length_map] at this
    have env1 : EnvR K H0 O H (L2.start N vs) (ss ++ List.replicate (N.length - ss.length) .no) := by
      have := env.pad (N.length - ss.length)
      unfold L2.start
      rw [hv]
      exact this
    have u0 : Up O H0 O H := ⟨.refl O, h0, so, fun _ _ z => z⟩
    refine sd O H0 O H (L2.start N vs) _ _ ⟨fun δ' => ∃ ts, parK ss δ' ts ∧ q (.val .none) ts, fun s => q s (ss.map fun _ => DL.S.no), fun _ => False, fun _ => False, fun e _ => x e, fun d δ' => ∃ ts, parK ss δ' ts ∧ q (.val d) ts⟩ u0 env1 ?_ (ok ss x q g)
    refine ⟨fun O' H' σ δ u e z => ?_, fun O' H' v s u z y => ?_, fun _ _ _ _ _ _ z => z.elim, fun _ _ _ _ _ _ z => z.elim, fun e c d O' H' σ δ u _ xr z => h2 e c d O' H' u xr z, fun O' H' v d σ δ u e hf hd z => ?_⟩
    · obtain ⟨ts, hp, hq⟩ := z
      obtain ⟨l1, l2⟩ := parK_at hp
      refine h1 .non O' H' (.val .none) ts u .non (e.pick (by rw [List.length_map, hv, l1]) fun i => ?_) hq
      rcases l2 i with k | ⟨v, d, fp, d', fp', k1, k2, k3⟩
      · exact .inl k
      · exact .inr ⟨v, d', fp', k2, k3, (env.ob.obj i v d fp k1).1⟩
    · exact h1 v O' H' s _ u z (EnvR.vacuous (by simp [hv]) lk_nos (u.tt t0)) y
    · obtain ⟨ts, hp, hq⟩ := z
      obtain ⟨l1, l2⟩ := parK_at hp
      refine h1 v O' H' (.val d) ts u hd (e.pick (by rw [List.length_map, hv, l1]) fun i => ?_) hq
      rcases l2 i with k | ⟨v, d, fp, d', fp', k1, k2, k3⟩
      · exact .inl k
      · exact .inr ⟨v, d', fp', k2, k3, (env.ob.obj i v d fp k1).1⟩
end
end DL

namespace DL
open PySem L2
def subS (δ' δ : List S) : Prop := δ'.length = δ.length ∧ ∀ i, lk δ' i = .no ∨ lk δ' i = lk δ i
theorem subS.refl (δ : List S) : subS δ δ := ⟨rfl, fun _ => .inr rfl⟩
theorem subS.trans {a b c : List S} (h : subS a b) (k : subS b c) : subS a c := ⟨h.1.trans k.1, fun i => by
  rcases h.2 i with z | z
  · exact .inl z
  · rcases k.2 i with y | y
    · exact .inl (z.trans y)
    · exact .inr (z.trans y)⟩
theorem subS.put (δ : List S) (i : Nat) : subS (put δ i .no) δ := ⟨put_length, fun j => by
  by_cases hj : j = i
  · subst hj
    by_cases hl : j < δ.length
    · exact .inl (lk_put_same hl)
    · exact .inl (lk_out (by rw [put_length]; omega))
  · exact .inr (lk_put_ne hj)⟩
theorem subS.get {δ' δ : List S} (h : subS δ' δ) {i : Nat} {t : S} (e : lk δ' i = t) (n : t ≠ .no) : lk δ i = t := by
  rcases h.2 i with z | z
  · exact absurd (e.symm.trans z) n
  · rw [← z]; exact e
theorem EnvR.sub {K : PySem.W.Frag} {H0 O H : Hp} {σ : L2.St} {δ δ' : List S} (r : EnvR K H0 O H σ δ) (h : subS δ' δ) : EnvR K H0 O H σ δ' :=
  ⟨by rw [h.1]; exact r.len, fun i d e => r.val i d (h.get e (by simp)), fun i ds e => r.own i ds (h.get e (by simp)), fun i j ds es e1 e2 q => r.inj i j ds es (h.get e1 (by simp)) (h.get e2 (by simp)) q, fun i a e => r.adr i a (h.get e (by simp)),
    ⟨fun i v d fp e => r.ob.obj i v d fp (h.get e (by simp)), fun i j ds v d fp p e1 e2 q => r.ob.oo i j ds v d fp p (h.get e1 (by simp)) (h.get e2 (by simp)) q, fun i j v d fp w e gp n e1 e2 => r.ob.pp i j v d fp w e gp n (h.get e1 (by simp)) (h.get e2 (by simp))⟩, r.tt⟩
theorem EnvR.consV {K : PySem.W.Frag} {H0 O H : Hp} {σ : L2.St} {δ : List S} (r : EnvR K H0 O H σ δ) {v : V} {d : D} (h : Dp K O v d) : EnvR K H0 O H (some v :: σ) (.val d :: δ) := by
  refine ⟨by simp [r.len], fun i e k => ?_, fun i ds k => ?_, fun i j ds es h1 h2 q => ?_, fun i a k => ?_, ⟨fun i w e fp k => ?_, fun i j ds w e fp p h1 h2 q => ?_, fun i j w e fp w' e' gp n h1 h2 => ?_⟩, r.tt⟩
  · cases i with
    | zero => cases k; exact ⟨v, rfl, h⟩
    | succ i => exact r.val i e k
  · cases i with
    | zero => cases k
    | succ i => exact r.own i ds k
  · cases i with
    | zero => cases h1
    | succ i => cases j with
      | zero => cases h2
      | succ j => exact congrArg _ (r.inj i j ds es h1 h2 (by simpa using q))
  · cases i with
    | zero => cases k
    | succ i => exact r.adr i a k
  · cases i with
    | zero => cases k
    | succ i => exact r.ob.obj i w e fp k
  · cases i with
    | zero => cases h1
    | succ i => cases j with
      | zero => cases h2
      | succ j => exact r.ob.oo i j ds w e fp p h1 h2 (by simpa using q)
  · cases i with
    | zero => cases h1
    | succ i => cases j with
      | zero => cases h2
      | succ j => exact r.ob.pp i j w e fp w' e' gp (fun z => n (congrArg _ z)) h1 h2
theorem EnvR.consO {K : PySem.W.Frag} {H0 O H : Hp} {σ : L2.St} {δ : List S} (r : EnvR K H0 O H σ δ) {v : V} {d : D} {fp : List Addr} (a : Ow K O H v d fp) (nd : fp.Nodup) (fr : ∀ b ∈ fp, H0 b = none ∧ O b = none)
    (n1 : ∀ j es, lk δ j ≠ .own es) (n2 : ∀ j w e gp, lk δ j = .obj w e gp → ∀ b ∈ fp, b ∉ gp) : EnvR K H0 O H (some v :: σ) (.obj v d fp :: δ) := by
  refine ⟨by simp [r.len], fun i e k => ?_, fun i ds k => ?_, fun i j ds es h1 h2 q => ?_, fun i b k => ?_, ⟨fun i w e gp k => ?_, fun i j ds w e gp p h1 h2 q => ?_, fun i j w e gp w' e' gp' n h1 h2 => ?_⟩, r.tt⟩
  · cases i with
    | zero => cases k
    | succ i => exact r.val i e k
  · cases i with
    | zero => cases k
    | succ i => exact r.own i ds k
  · cases i with
    | zero => cases h1
    | succ i => exact absurd h1 (n1 i ds)
  · cases i with
    | zero => cases k
    | succ i => exact r.adr i b k
  · cases i with
    | zero => cases k; exact ⟨rfl, a, nd, fr⟩
    | succ i => exact r.ob.obj i w e gp k
  · cases i with
    | zero => cases h1
    | succ i => exact absurd h1 (n1 i ds)
  · cases i with
    | zero =>
      cases h1
      cases j with
      | zero => exact absurd rfl n
      | succ j => exact n2 j w' e' gp' h2
    | succ i => cases j with
      | zero =>
        cases h2
        exact fun b hb hg => n2 i w e gp h1 b hg hb
      | succ j => exact r.ob.pp i j w e gp w' e' gp' (fun z => n (congrArg _ z)) h1 h2
abbrev MA := List (Nat ⊕ ES)
def amK : MA → XP → List S → (List S → List S → Prop) → Prop
  | [], _, δ, k => k [] δ
  | .inl i :: r, x, δ, k => (lk δ i).ob fun v d fp => amK r x (put δ i .no) fun ss δ' => k (.obj v d fp :: ss) δ'
  | .inr e :: r, x, δ, k => e x δ fun s => s.fr fun d => amK r x δ fun ss δ' => k (.val d :: ss) δ'
theorem w_am0 {x : XP} {δ : List S} {k : List S → List S → Prop} : amK [] x δ k = k [] δ := (rfl)
theorem w_am1 {i : Nat} {r : MA} {x : XP} {δ : List S} {k : List S → List S → Prop} : amK (.inl i :: r) x δ k = (lk δ i).ob fun v d fp => amK r x (put δ i .no) fun ss δ' => k (.obj v d fp :: ss) δ' := (rfl)
theorem w_am2 {e : ES} {r : MA} {x : XP} {δ : List S} {k : List S → List S → Prop} : amK (.inr e :: r) x δ k = e x δ fun s => s.fr fun d => amK r x δ fun ss δ' => k (.val d :: ss) δ' := (rfl)
def ArgAt (σ : L2.St) : MA → List V → Prop
  | [], [] => True
  | .inl i :: r, v :: vs => σ[i]? = some (some v) ∧ ArgAt σ r vs
  | .inr _ :: r, _ :: vs => ArgAt σ r vs
  | _, _ => False
structure Mvd (K : PySem.W.Frag) (H0 O H : Hp) (σ : L2.St) (δ : List S) (as : MA) (vs : List V) (ss δ' : List S) : Prop where
  env : EnvR K H0 O H σ δ
  sub : subS δ' δ
  arg : EnvR K H0 O H (vs.map some) ss
  no : ∀ j es, lk ss j ≠ .own es
  own : ∀ j v d fp, lk ss j = .obj v d fp → ∃ i, lk δ i = .obj v d fp ∧ lk δ' i = .no
  at_ : ArgAt σ as vs
structure JAM (X : Cx) (W : WX) (es : List Expr) (as : MA) : Prop where
  ex : ∃ ta, PA X es ta ∧ ∀ (O H H0 : Hp) (σ : L2.St) (δ : List S) (x : XP) (k : List S → List S → Prop) (Q : List V → Hp → Prop), Same O H → EnvR X.K H0 O H σ δ → (∀ e cls d O' H', Up O H O' H' → XRep X.K X.mg O' H' e cls d → x e → W cls d σ H') →
    (∀ vs O' H' ss δ', Up O H O' H' → Mvd X.K H0 O' H' σ δ as vs ss δ' → k ss δ' → Q vs H') → amK as x δ k → ta σ H Q
section
variable {X : Cx} {W : WX} {pos : Pos}
theorem jam_nil : JAM X W [] [] := ⟨_, pa_nil, fun O H H0 σ δ x k Q so env hx hq g => hq [] O H [] δ (.refl so) ⟨env, .refl δ, EnvR.vacuous rfl (fun _ => rfl) env.tt, fun j es z => (by cases z), fun j v d fp z => (by cases z), trivial⟩ g⟩
theorem jam_var (i : Nat) {x : Str} {p : Pos} {es : List Expr} {as : MA} (hr : JAM X W es as) (hN : X.N[i]? = some x := by rfl) (hv : Vis X.env.scope x := by first | exact Or.inl rfl | exact Or.inr (Or.inl rfl) | exact Or.inr (Or.inr rfl)) (hd : (x == ("__debug__" : Str)) = false := by decide)
    (hcd : (x == ("__classdict__" : Str)) = false := by decide) (hs : starEach (.Name x p :: es) X.env = (false, eval (.Name x p) X.env) :: starEach es X.env := by rfl) : JAM X W (.Name x p :: es) (.inl i :: as) := by
  obtain ⟨tr, pr, sr⟩ := hr.ex
  refine ⟨_, pa_cons (pe_var hN hv hd hcd) pr hs, fun O H H0 σ δ xx k Q so env hx hq g => ?_⟩
  rw [w_am1] at g
  unfold S.ob at g
  split at g
  case h_2 => exact g.elim
  rename_i v d fp hi
  refine ⟨v, (env.ob.obj i v d fp hi).1, ?_⟩
  refine sr O H H0 σ (put δ i .no) xx _ _ so (env.drop i) hx (fun vs O' H' ss δ' u m kk => ?_) g
  have env' := env.up u
  obtain ⟨e1, ow, nd, fr⟩ := env'.ob.obj i v d fp hi
  have hl := lk_lt hi (by simp)
  have back : ∀ {j : Nat} {w : V} {e : D} {gp : List Addr}, lk ss j = .obj w e gp → ∃ i', i' ≠ i ∧ lk δ i' = .obj w e gp ∧ lk δ' i' = .no := fun {j w e gp} h => by
    obtain ⟨i', h1, h2⟩ := m.own j w e gp h
    rcases lk_put_or h1 (by simp) with ⟨_, z⟩ | ⟨n, h3⟩
    · cases z
    · exact ⟨i', n, h3, h2⟩
  refine hq (v :: vs) O' H' (.obj v d fp :: ss) δ' u ⟨env', m.sub.trans (subS.put δ i), m.arg.consO ow nd fr m.no (fun j w e gp h => ?_), fun j es z => ?_, fun j w e gp z => ?_, ⟨e1, m.at_⟩⟩ kk
  · obtain ⟨i', n, h3, _⟩ := back h
    exact env'.ob.pp i i' v d fp w e gp (Ne.symm n) hi h3
  · cases j with
    | zero => cases z
    | succ j => exact m.no j es z
  · cases j with
    | zero =>
      cases z
      refine ⟨i, hi, ?_⟩
      rcases m.sub.2 i with z | z
      · exact z
      · rw [z]; exact lk_put_same hl
    | succ j =>
      obtain ⟨i', _, h3, h4⟩ := back (j := j) z
      exact ⟨i', h3, h4⟩
theorem jam_exp {e : Expr} {de : ES} {es : List Expr} {as : MA} (h : JE X W e de) (hr : JAM X W es as) (hs : starEach (e :: es) X.env = (false, eval e X.env) :: starEach es X.env := by rfl) : JAM X W (e :: es) (.inr de :: as) := by
  obtain ⟨te, pe, se⟩ := h.ex
  obtain ⟨tr, pr, sr⟩ := hr.ex
  refine ⟨_, pa_cons pe pr hs, fun O H H0 σ δ xx k Q so env hx hq g => ?_⟩
  rw [w_am2] at g
  refine se O H H0 σ δ xx _ _ so env hx (fun v O1 H1 s u1 r1 g1 => ?_) g
  obtain ⟨O2, d, u2, r2, g2⟩ := r1.fr u1 g1
  refine sr O2 H1 H0 σ δ xx _ _ u2.oh (env.up u2) (fun e cls d O' H' u' => hx e cls d O' H' (u2.trans u')) (fun vs O' H' ss δ' u m kk => ?_) g2
  refine hq (v :: vs) O' H' (.val d :: ss) δ' (u2.trans u) ⟨m.env, m.sub, m.arg.consV (dp_mono u.o r2), fun j es z => ?_, fun j w e gp z => ?_, m.at_⟩ kk
  · cases j with
    | zero => cases z
    | succ j => exact m.no j es z
  · cases j with
    | zero => cases z
    | succ j => exact m.own j w e gp z
end
noncomputable def lessH (H : Hp) (ss : List S) : Hp := fun b => open Classical in if ∃ j v d fp, lk ss j = .obj v d fp ∧ b ∈ fp then none else H b
theorem less_same {H : Hp} {ss : List S} : Same (lessH H ss) H := fun b x e => by
  unfold lessH at e
  split at e
  · cases e
  · exact e
theorem less_out {H : Hp} {ss : List S} {b : Addr} (h : ∀ j v d fp, lk ss j = .obj v d fp → b ∉ fp) : lessH H ss b = H b := by
  unfold lessH
  exact if_neg fun ⟨j, v, d, fp, e, hb⟩ => h j v d fp e hb
theorem less_in {H : Hp} {ss : List S} {j : Nat} {v : V} {d : D} {fp : List Addr} {b : Addr} (e : lk ss j = .obj v d fp) (hb : b ∈ fp) : lessH H ss b = none := by
  unfold lessH
  exact if_pos ⟨j, v, d, fp, e, hb⟩
def backM : MA → List S → List S → List S
  | .inl i :: r, t :: ts, δ => backM r ts (put δ i t)
  | .inr _ :: r, _ :: ts, δ => backM r ts δ
  | _, _, δ => δ
theorem w_back0 {ts δ : List S} : backM [] ts δ = δ := by cases ts <;> rfl
theorem w_back1 {i : Nat} {r : MA} {t : S} {ts δ : List S} : backM (.inl i :: r) (t :: ts) δ = backM r ts (put δ i t) := (rfl)
theorem w_back2 {e : ES} {r : MA} {t : S} {ts δ : List S} : backM (.inr e :: r) (t :: ts) δ = backM r ts δ := (rfl)
theorem tabs_less {K : PySem.W.Frag} {H0 O H : Hp} {σ : L2.St} {ss : List S} (r : EnvR K H0 O H σ ss) {T : List (Addr × Str)} (t : LamX.Tabs T H) : LamX.Tabs T (lessH H ss) := fun x hx => by
  obtain ⟨ps, a1, a2, a3⟩ := t x hx
  have key : ∀ {b : Addr} {o : L2.HO}, H b = some o → ((∃ ps, o = .tbl ps) ∨ ∃ c q, o = LamX.CodeO c q) → lessH H ss b = some o := fun {b o} h w => by
    rw [less_out fun j v d fp e hb => ?_]
    · exact h
    · obtain ⟨o', h', n1, n2⟩ := (r.ob.obj j v d fp e).2.1.kd b hb
      rw [h] at h'
      cases h'
      rcases w with ⟨ps, w⟩ | ⟨c, q, w⟩
      · exact n1 ps w
      · exact n2 c q w
  refine ⟨ps, key a1 (.inl ⟨_, rfl⟩), a2, fun pos cv hc => ?_⟩
  obtain ⟨c, e1, e2⟩ := a3 pos cv hc
  exact ⟨c, e1, key e2 (.inr ⟨_, _, rfl⟩)⟩
theorem less_tt {K : PySem.W.Frag} {H0 O H : Hp} {σ : L2.St} {ss : List S} (r : EnvR K H0 O H σ ss) : TOk O (lessH H ss) := ⟨tabs_less r r.tt.t, r.tt.n, r.tt.x⟩
theorem EnvR.skip {K : PySem.W.Frag} {H0 O H O' H' : Hp} {σ : L2.St} {δ : List S} (r : EnvR K H0 O H σ δ) (so : Same O O') (h1 : ∀ j es p, lk δ j = .own es → σ[j]? = some (some (.ref p)) → O' p = none ∧ ∀ x, H p = some x → (∀ ps, x ≠ .tbl ps) → H' p = some x)
    (h2 : ∀ j v d fp, lk δ j = .obj v d fp → ∀ b ∈ fp, O' b = none ∧ ∀ x, H b = some x → (∀ ps, x ≠ .tbl ps) → H' b = some x) (tt : TOk O' H') : EnvR K H0 O' H' σ δ :=
  ⟨r.len, fun j d h => let ⟨v, e, q⟩ := r.val j d h; ⟨v, e, dp_mono so q⟩, fun j ds h => let ⟨p, vs, e, n, _, z, a⟩ := r.own j ds h; ⟨p, vs, e, n, (h1 j ds p h e).1, (h1 j ds p h e).2 _ z (by intro _ z; cases z), dpAll_mono so a⟩, r.inj, r.adr,
    ⟨fun j v d fp h => let ⟨e, a, nd, fr⟩ := r.ob.obj j v d fp h; ⟨e, a.keepS so fun b hb x q n => (h2 j v d fp h b hb).2 x q n, nd, fun b hb => ⟨(fr b hb).1, (h2 j v d fp h b hb).1⟩⟩, r.ob.oo, r.ob.pp⟩, tt⟩
theorem back_env {K : PySem.W.Frag} {H0 O H : Hp} {σ : L2.St} : ∀ {as : MA} {vs : List V} {ts δ : List S}, EnvR K H0 O H σ δ → ArgAt σ as vs → EnvR K H0 O H (vs.map some) ts → (∀ j t, lk ts j = t → t = .no ∨ ∃ v d fp, t = .obj v d fp) →
    (∀ j es p, lk δ j = .own es → σ[j]? = some (some (.ref p)) → ∀ k v d fp, lk ts k = .obj v d fp → p ∉ fp) → (∀ j w e gp, lk δ j = .obj w e gp → ∀ k v d fp, lk ts k = .obj v d fp → ∀ b ∈ fp, b ∉ gp) → EnvR K H0 O H σ (backM as ts δ) := by
  intro as
  induction as with
  | nil => intro vs ts δ env _ _ _ _ _; rw [w_back0]; exact env
  | cons a as ih =>
    intro vs ts δ env ha et ht n1 n2
    cases vs with
    | nil => cases a <;> exact ha.elim
    | cons v vs =>
      cases ts with
      | nil => have := et.len; simp at this
      | cons t ts =>
        have et' : EnvR K H0 O H (vs.map some) ts := by
          refine ⟨by have := et.len; simpa using this, fun i d e => et.val (i + 1) d e, fun i ds e => et.own (i + 1) ds e, fun i j ds es h1 h2 q => by have := et.inj (i + 1) (j + 1) ds es h1 h2 (by simpa using q); omega, fun i b e => et.adr (i + 1) b e,
            ⟨fun i w d fp e => et.ob.obj (i + 1) w d fp e, fun i j ds w d fp p h1 h2 q => et.ob.oo (i + 1) (j + 1) ds w d fp p h1 h2 (by simpa using q), fun i j w d fp w' d' gp n h1 h2 => et.ob.pp (i + 1) (j + 1) w d fp w' d' gp (by omega) h1 h2⟩, et.tt⟩
        cases a with
        | inr e =>
          rw [w_back2]
          exact ih env ha et' (fun j t e => ht (j + 1) t e) (fun j es p h q k w d fp e => n1 j es p h q (k + 1) w d fp e) (fun j w e gp h k w' d fp e' => n2 j w e gp h (k + 1) w' d fp e')
        | inl i =>
          obtain ⟨hi, ha⟩ := ha
          rw [w_back1]
          have es : σ.set i (some v) = σ := by
            refine List.ext_getElem? fun j => ?_
            by_cases hj : j = i
            · subst hj
              rw [List.getElem?_set_self (List.getElem?_eq_some_iff.mp hi).1, hi]
            · rw [List.getElem?_set_ne (Ne.symm hj)]
          have key : EnvR K H0 O H σ (put δ i t) := by
            rcases ht 0 t rfl with rfl | ⟨w, d, fp, rfl⟩
            · exact env.drop i
            · obtain ⟨e1, ow, nd, fr⟩ := et.ob.obj 0 w d fp rfl
              have : w = v := by
                simp at e1
                exact e1.symm
              subst this
              have := env.putObj i ow nd fr (fun j es p _ h q => n1 j es p h q 0 w d fp rfl) (fun j w' e gp _ h => n2 j w' e gp h 0 w d fp rfl)
              rwa [es] at this
          refine ih key ha et' (fun j t e => ht (j + 1) t e) (fun j es p h q k w d fp e => ?_) (fun j w e gp h k w' d fp e' => ?_)
          · rcases lk_put_or h (by simp) with ⟨_, z⟩ | ⟨_, h'⟩
            · rcases ht 0 t rfl with rfl | ⟨w, d, fp, rfl⟩ <;> cases z
            · exact n1 j es p h' q (k + 1) w d fp e
          · rcases lk_put_or h (by simp) with ⟨_, z⟩ | ⟨_, h'⟩
            · exact et.ob.pp (k + 1) 0 w' d fp w e gp (by omega) e' z.symm
            · exact n2 j w e gp h' (k + 1) w' d fp e'
end DL

namespace DL
open PySem L2
def objS : List S → Prop
  | [] => True
  | .no :: r => objS r
  | .obj _ _ _ :: r => objS r
  | _ => False
theorem objS_at : ∀ {ts : List S}, objS ts → ∀ j t, lk ts j = t → t = .no ∨ ∃ v d fp, t = .obj v d fp
  | [], _, j, t, e => .inl e.symm
  | .no :: r, h, 0, t, e => .inl e.symm
  | .no :: r, h, j + 1, t, e => objS_at (ts := r) h j t e
  | .obj v d fp :: r, h, 0, t, e => .inr ⟨v, d, fp, e.symm⟩
  | .obj v d fp :: r, h, j + 1, t, e => objS_at (ts := r) h j t e
theorem w_objS0 : objS [] = True := (rfl)
theorem w_objS1 {r : List S} : objS (.no :: r) = objS r := (rfl)
theorem w_objS2 {v : V} {d : D} {fp : List Addr} {r : List S} : objS (.obj v d fp :: r) = objS r := (rfl)
theorem Mvd.h0 {K : PySem.W.Frag} {H0 O H : Hp} {σ : L2.St} {δ : List S} {as : MA} {vs : List V} {ss δ' : List S} (m : Mvd K H0 O H σ δ as vs ss δ') : EnvR K (lessH H ss) O H (vs.map some) ss :=
  ⟨m.arg.len, m.arg.val, fun j es h => absurd h (m.no j es), m.arg.inj, m.arg.adr, ⟨fun j v d fp h => let ⟨e, a, nd, fr⟩ := m.arg.ob.obj j v d fp h; ⟨e, a, nd, fun b hb => ⟨less_in h hb, (fr b hb).2⟩⟩, m.arg.ob.oo, m.arg.ob.pp⟩, m.arg.tt⟩
theorem Mvd.keep {K : PySem.W.Frag} {H0 O H : Hp} {σ : L2.St} {δ : List S} {as : MA} {vs : List V} {ss δ' : List S} (m : Mvd K H0 O H σ δ as vs ss δ') {b : Addr} (h : H0 b ≠ none) : lessH H ss b = H b :=
  less_out fun j v d fp e hb => h ((m.arg.ob.obj j v d fp e).2.2.2 b hb).1
theorem Mvd.up {K : PySem.W.Frag} {O0 H0 O H O2 H2 : Hp} {σ : L2.St} {δ : List S} {as : MA} {vs : List V} {ss δ' : List S} (m : Mvd K H0 O H σ δ as vs ss δ') (u : Up O0 H0 O H) (uc : Up O (lessH H ss) O2 H2) : Up O0 H0 O2 H2 :=
  ⟨u.o.trans uc.o, ⟨fun b x e n => uc.h.k b x (by rw [m.keep (by rw [e]; simp)]; exact u.h.k b x e n) n, fun b hb => uc.h.d b (by rw [m.keep hb]; exact u.h.d b hb), fun t => uc.h.t (tabs_less m.arg (u.h.t t))⟩, uc.oh, fun b hb hn => uc.nn b (by
    rw [m.keep hb]
    exact u.h.d b hb) (u.nn b hb hn)⟩
theorem Mvd.out {K : PySem.W.Frag} {H0 O H : Hp} {σ : L2.St} {δ : List S} {as : MA} {vs : List V} {ss δ' : List S} (m : Mvd K H0 O H σ δ as vs ss δ') {b : Addr} (h : (∃ j es, lk δ' j = .own es ∧ σ[j]? = some (some (.ref b))) ∨ ∃ j v d fp, lk δ' j = .obj v d fp ∧ b ∈ fp) :
    lessH H ss b = H b ∧ H b ≠ none ∧ O b = none := by
  rcases h with ⟨j, es, hj, e⟩ | ⟨j, v, d, fp, hj, hb⟩
  · have hj' := m.sub.get hj (by simp)
    obtain ⟨p, vs', e', n0, no, hp, _⟩ := m.env.own j es hj'
    rw [e] at e'
    cases e'
    refine ⟨less_out fun k v d fp hk hb => ?_, by rw [hp]; simp, no⟩
    obtain ⟨i, h1, _⟩ := m.own k v d fp hk
    exact m.env.ob.oo j i es v d fp b hj' h1 e hb
  · have hj' := m.sub.get hj (by simp)
    obtain ⟨e, a, nd, fr⟩ := m.env.ob.obj j v d fp hj'
    refine ⟨less_out fun k w e gp hk hg => ?_, a.there b hb, (fr b hb).2⟩
    obtain ⟨i, h1, h2⟩ := m.own k w e gp hk
    have : j ≠ i := fun z => by rw [z, h2] at hj; cases hj
    exact m.env.ob.pp j i v d fp w e gp this hj' h1 b hb hg
theorem Mvd.after {K : PySem.W.Frag} {H0 O H O2 H2 : Hp} {σ : L2.St} {δ : List S} {as : MA} {vs : List V} {ss δ' : List S} (m : Mvd K H0 O H σ δ as vs ss δ') (uc : Up O (lessH H ss) O2 H2) : EnvR K H0 O2 H2 σ δ' :=
  (m.env.sub m.sub).skip uc.o (fun j es p h e => by
    obtain ⟨h1, h2, h3⟩ := m.out (b := p) (.inl ⟨j, es, h, e⟩)
    exact ⟨uc.nn p (by rw [h1]; exact h2) h3, fun x q n => uc.h.k p x (by rw [h1]; exact q) n⟩) (fun j v d fp h b hb => by
    obtain ⟨h1, h2, h3⟩ := m.out (b := b) (.inr ⟨j, v, d, fp, h, hb⟩)
    exact ⟨uc.nn b (by rw [h1]; exact h2) h3, fun x q n => uc.h.k b x (by rw [h1]; exact q) n⟩) (uc.tt (less_tt m.arg))
theorem Mvd.fresh {K : PySem.W.Frag} {H0 O H : Hp} {σ : L2.St} {δ : List S} {as : MA} {vs : List V} {ss δ' : List S} (m : Mvd K H0 O H σ δ as vs ss δ') (h0 : Sam H0 H) {b : Addr} (h : lessH H ss b = none) : H0 b = none := by
  refine Classical.byContradiction fun n => ?_
  rw [m.keep n] at h
  exact h0.d b n h
theorem Mvd.back {K : PySem.W.Frag} {H0 O H O2 H2 : Hp} {σ : L2.St} {δ : List S} {as : MA} {vs : List V} {ss δ' ts : List S} (m : Mvd K H0 O H σ δ as vs ss δ') (h0 : Sam H0 H) (uc : Up O (lessH H ss) O2 H2) (et : EnvR K (lessH H ss) O2 H2 (vs.map some) ts) (ho : objS ts) : EnvR K H0 O2 H2 σ (backM as ts δ') := by
  have ht := objS_at ho
  have et' : EnvR K H0 O2 H2 (vs.map some) ts := ⟨et.len, et.val, fun j es h => (by rcases ht j _ h with z | ⟨_, _, _, z⟩ <;> cases z), et.inj, et.adr, ⟨fun j v d fp h => let ⟨e, a, nd, fr⟩ := et.ob.obj j v d fp h; ⟨e, a, nd, fun b hb => ⟨m.fresh h0 (fr b hb).1, (fr b hb).2⟩⟩, et.ob.oo, et.ob.pp⟩, et.tt⟩
  have free : ∀ {b : Addr}, ((∃ j es, lk δ' j = .own es ∧ σ[j]? = some (some (.ref b))) ∨ ∃ j v d fp, lk δ' j = .obj v d fp ∧ b ∈ fp) → ∀ k v d fp, lk ts k = .obj v d fp → b ∉ fp := fun {b} h k v d fp e hb => by
    obtain ⟨h1, h2, _⟩ := m.out h
    exact h2 (h1 ▸ ((et.ob.obj k v d fp e).2.2.2 b hb).1)
  exact back_env (m.after uc) m.at_ et' ht (fun j es p h q => free (.inl ⟨j, es, h, q⟩)) (fun j w e gp h k v d fp e' b hb hg => free (.inr ⟨j, w, e, gp, h, hg⟩) k v d fp e' hb)
def sCallM (p : MSp) (as : MA) : ST := fun D δ => amK as (fun x => D.ex x δ) δ fun ss δ' => p ss (fun e => D.ex e δ') fun _ ts => objS ts ∧ D.nx (backM as ts δ')
theorem u_sCallM {p : MSp} {as : MA} {D : DL.Ends} {δ : List S} : sCallM p as D δ = amK as (fun x => D.ex x δ) δ fun ss δ' => p ss (fun e => D.ex e δ') fun _ ts => objS ts ∧ D.nx (backM as ts δ') := (rfl)
section
variable {X : Cx} {W : WX} {pos pos2 : Pos} {k : Nat} {f : Addr} {fd : FuncData} {ps : List Str} {p : MSp} {x : Str} {p1 : Pos} {e : Expr} {es : List Expr}
theorem js_callM {as : MA} (F : FnOk X.prog X.w X.K X.mg X.base (L2N.CX X.prog X.w) k f fd ps (spM X.K X.mg p)) (hr : Room k X.A) (tk : L2N.Takes X W) (hm : X.mg x = some (.ref f)) (hk : PySem.W.keepIn X.K (.ref f) = true) (hb : Binds X.K fd ps [])
    (ha : JAM X W (e :: es) as) (hg : Gl X x := by rfl) (hdb : (x == ("__debug__" : Str)) = false := by decide) (he : starEach (e :: es) X.env = (false, eval e X.env) :: starEach es X.env := by rfl) (hpl : (backTo pos2 (starEach es X.env)).any (·.1) = false := by rfl)
    (hs : swapsWith (.Call (.Name x p1) (e :: es) [] pos2) none pos.line X.env = pure false := by rfl) : JS X W (.Expr (.Call (.Name x p1) (e :: es) [] pos2) pos) (sCallM p as) := by
  obtain ⟨ta, pa, sa⟩ := ha.ex
  refine ⟨_, ps_expr (pe_callS F hr hg hm hk hb (fun σ => L2N.passAt tk σ) pa hdb he hpl) hs, fun O0 H0 O H σ δ D Dd u env er g => ?_⟩
  refine sa O H H0 σ δ _ _ _ u.oh env (er.xe u env) (fun vs O1 H1 ss δ' u1 m g1 => ?_) g
  have u01 := u.trans u1
  refine ⟨lessH H1 ss, O1, ss, _, _, .of less_same, u1.oh, less_tt m.arg, m.h0, g1, fun v O2 H2 s ts uc _ et z => ?_, fun e cls d O2 H2 uc xr z => ?_⟩
  · exact er.nx O2 H2 σ _ (m.up u01 uc) (m.back u01.h uc et z.1) z.2
  · exact er.ex e cls d O2 H2 σ δ' (m.up u01 uc) (m.after uc) xr z
end
end DL

namespace DL
open PySem L2
section
variable {X : Cx} {W : WX} {pos : Pos}
end
end DL

namespace DL
open PySem PySem.Spec PyProof.Rows L2
section
variable {prog : Program} {w : World} {A : Around} {E : Value → Shared → Prop} {s : Shared} {l : Addr} {its : Array Value}
end
section
variable {X : Cx}
end
section
variable {X : Cx}
end
end DL

namespace DL
open PySem L2
def Fit1 (a b c x y z : Int) : Prop := (x = 1 ∨ y = 1 ∨ z = 1) ∧ (a * x + b * y + c * z) % 8 = 0
def Fit8 (a b c : Int) : Prop := ∃ x ∈ [0, 1, 4], ∃ y ∈ [0, 1, 4], ∃ z ∈ [0, 1, 4], Fit1 a b c x y z
theorem Fit8.turn {a b c : Int} (h : Fit8 a b c) : Fit8 b c a := by
  obtain ⟨x, hx, y, hy, z, hz, k1, k2⟩ := h
  exact ⟨y, hy, z, hz, x, hx, by omega, by omega⟩
theorem Fit8.neg {a b c : Int} (h : Fit8 a b c) : Fit8 (0 - a) (0 - b) (0 - c) := by
  obtain ⟨x, hx, y, hy, z, hz, k1, k2⟩ := h
  refine ⟨x, hx, y, hy, z, hz, k1, ?_⟩
  have : (0 - a) * x + (0 - b) * y + (0 - c) * z = 0 - (a * x + b * y + c * z) := by grind
  omega
end DL

namespace DL
open PySem L2
theorem ob_iff {s : S} {k : V → D → List Addr → Prop} (h : s.ob k) : ∃ v d fp, s = .obj v d fp ∧ k v d fp := by
  unfold S.ob at h
  split at h
  · exact ⟨_, _, _, rfl, h⟩
  · exact h.elim
theorem nm_iff {s : S} {k : Int → Prop} (h : s.nm k) : ∃ n, s = .val (.int n) ∧ k n := by
  unfold S.nm at h
  split at h
  · exact ⟨_, rfl, h⟩
  · exact h.elim
section
variable {X : Cx} {W : WX} {pos : Pos}
end
end DL

namespace DL
open PySem L2
theorem EnvR.base {K : PySem.W.Frag} {H H1 O' H' : Hp} {σ : L2.St} {δ : List S} (e : Sam H H1) (r : EnvR K H1 O' H' σ δ) : EnvR K H O' H' σ δ :=
  ⟨r.len, r.val, fun i ds h => let ⟨p, vs, a, n, z⟩ := r.own i ds h; ⟨p, vs, a, e.free n, z⟩, r.inj, r.adr, ⟨fun i v d fp h => let ⟨a, b, c, f⟩ := r.ob.obj i v d fp h; ⟨a, b, c, fun x hx => ⟨e.free (f x hx).1, (f x hx).2⟩⟩, r.ob.oo, r.ob.pp⟩, r.tt⟩
section
variable {X : Cx} {W : WX} {pos : Pos} {k : Nat} {f : Addr} {fd : FuncData} {ps : List Str} {p : MSp} {x : Str} {p1 : Pos} {e : Expr} {es : List Expr}
end
end DL

namespace DL
open PySem L2
theorem if_pn {c : Prop} [Decidable c] {P Q : Prop} (h1 : c → P) (h2 : ¬ c → Q) : if c then P else Q := by
  split
  · exact h1 ‹_›
  · exact h2 ‹_›
theorem atI_m1 {a b c : D} : atI [a, b, c] (-1) = some c := (rfl)
theorem atI_m2 {a b c : D} : atI [a, b, c] (-2) = some b := (rfl)
end DL

namespace DL
open PySem L2
end DL

namespace DL
open PySem L2
end DL

namespace DL
open PySem L2
end DL

namespace DL
open PySem L2
section
variable {X : Cx} {W : WX} {pos : Pos}
end
end DL

namespace DL
open PySem L2
instance {a b c x y z : Int} : Decidable (Fit1 a b c x y z) := by unfold Fit1; infer_instance
instance {a b c : Int} : Decidable (Fit8 a b c) := by unfold Fit8; infer_instance
def hi2 (P : Nat) : Nat := cond (P % 2 == 1) 0 1
end DL

namespace DL
open PySem PySem.Spec PyProof.Rows L2
end DL
namespace DL
open PySem L2
section
variable {X : Cx} {W : WX} {pos : Pos}
end
end DL

namespace DL
open PySem L2
end DL

namespace DL
open PySem L2
end DL

namespace DL
open PySem L2
end DL

namespace DL
open PySem L2 LamX
section
variable {X : Cx} {pins : List (Addr × Obj)} {σ : L2.St} {H : Hp} {s : Shared}
end
end DL

namespace DL
open PySem L2 LamX PySem.Spec PyProof.Rows
section
variable {X : Cx} {pins : List (Addr × Obj)} {σ : L2.St} {H : Hp} {s : Shared}
end
end DL

namespace DL
open PySem L2 LamX PySem.Spec PyProof.Rows
section
variable {X : Cx} {pins : List (Addr × Obj)} {σ : L2.St} {H : Hp} {s : Shared}
end
section
variable {X : Cx} {W : WX} {pos p lpos kpos : Pos}
end
section
variable {X : Cx} {W : WX} {pos p lpos kpos : Pos}
end
end DL

namespace DL
open PySem L2 LamX PySem.W PySem.Spec PyProof.Rows
section
variable {X : Cx} {W : WX} {pos : Pos}
end
end DL

namespace DL
open PySem L2
section
variable {X : Cx} {W : WX} {pos : Pos}
end
section
variable {X : Cx} {W : WX}
end
end DL

namespace DL
open PySem L2
abbrev cv (a b c d e f : Int) (o p : Tri) : Int := cro a b c d e f o.1 o.2.1 o.2.2 p.1 p.2.1 p.2.2
end DL

namespace DL
open PySem L2
end DL

namespace DL
open PySem L2
end DL

namespace DL
open PySem L2
end DL

namespace DL
open PySem L2
end DL

namespace DL
open PySem L2
end DL

namespace DL
open PySem L2
end DL

namespace DL
open PySem L2
end DL

namespace DL
open PySem L2
end DL

namespace DL
open PySem PySem.Spec PyProof.Rows L2 HotX L2H
section
variable {prog : Program} {w : World} {A : Around} {E : Value → Shared → Prop} {s : Shared}
end
end DL

namespace DL
open PySem PySem.Spec PyProof.Rows L2 HotX L2H
section
variable {prog : Program} {w : World} {A : Around} {E : Value → Shared → Prop} {s : Shared}
end
section
end
end DL

namespace DL
open PySem PySem.Spec PyProof.Rows L2 HotX
variable [HotA]
section
variable {P : Program} {w : World} {K : PySem.W.Frag} {A : Around} {tg : Expr}
omit [HotA]
end
section
variable {X : Cx} {tg : Expr}
omit [HotA]
end
end DL

namespace DL
open PySem PySem.Spec PyProof.Rows L2
variable [HotA]
section
variable {X : Cx} {W : WX} {tg : Expr} {pos : Pos}
end
end DL

namespace DL
open PySem PySem.Spec PyProof.Rows L2 HotX
variable [HotA]
section
variable {X : Cx} {W : WX} {pos : Pos} {e : Expr} {es : List Expr} {x : Str} {p1 : Pos}
end
end DL

namespace DL
open PySem PySem.Spec PyProof.Rows L2 HotX
variable [HotA]
section
omit [HotA]
variable {X : Cx} {W : WX} {pos : Pos}
end
section
variable {X : Cx} {W : WX} {pos : Pos}
end
end DL

namespace DL
open PySem L2
variable [HotA]
section
variable [HotA]
variable {X : Cx} {W : WX}
end
end DL

namespace DL
open PySem L2
section
variable {X : Cx} {W : WX} {pos : Pos}
end
end DL

namespace DL
open PySem L2
section
variable {X : Cx} {W : WX} {pos : Pos}
end
end DL

namespace DL
open PySem L2
end DL

namespace DL
open PySem PySem.Spec PyProof.Rows L2
variable [HotA]
section
variable {X : Cx} {W : WX} {tg : Expr} {pos : Pos}
end
end DL

namespace DL
open PySem L2
section
variable {X : Cx} {W : WX} {a b : Expr} {pos : Pos}
end
end DL

namespace DL
variable [HotA]
open PySem L2
end DL

namespace DL
open PySem L2
end DL

namespace DL
open PySem L2
section
variable {X : Cx}
end
end DL

namespace DL
open PySem L2
def strK : D → (Str → Prop) → Prop
  | .str z, k => k z
  | _, _ => False
def txtD : List D → Option (List Str)
  | [] => some []
  | .str b :: r => (txtD r).map (b :: ·)
  | _ :: _ => none
theorem txt_map : ∀ ys : List Str, txtD (ys.map PyData.str) = some ys
  | [] => rfl
  | y :: ys => by rw [List.map_cons]; show (txtD (ys.map PyData.str)).map (y :: ·) = _; rw [txt_map ys]; rfl
theorem txt_of {K : PySem.W.Frag} {O : Hp} : ∀ {vs : List V} {ds : List D} {bs : List Str}, DpAll K O vs ds → txtD ds = some bs → vs = bs.map V.str
  | _, _, _, .nil, e => by cases e; rfl
  | _, _, _, .cons h a, e => by
    cases h with
    | str b =>
      unfold txtD at e
      cases q : txtD _ with
      | none => rw [q] at e; cases e
      | some cs =>
        rw [q] at e
        cases e
        rw [List.map_cons, txt_of a q]
    | _ => cases e
theorem dpl_strs {K : PySem.W.Frag} (O : Hp) : ∀ l : List Str, DpAll K O (l.map V.str) (l.map PyData.str)
  | [] => .nil
  | x :: l => .cons (.str x) (dpl_strs O l)
def eM1 (c : Str → Str → (S → Prop) → Prop) (a e : EP) : ES := fun x δ q => a x δ fun d => strK d fun z => e x δ fun b => strK b fun y => c z y q
def cEnds (z y : Str) (q : S → Prop) : Prop := q (.val (.bool (Txt.endswith z y)))
def cFind (z y : Str) (q : S → Prop) : Prop := q (.val (.int (Txt.find z y)))
def cSplit (z y : Str) (q : S → Prop) : Prop := (y.length == 0) = false ∧ z.length + 2 ≤ sizeLine ∧ q (.own ((Txt.split z y).map PyData.str))
theorem u_eM1 {c : Str → Str → (S → Prop) → Prop} {a e : EP} {x : XP} {δ : List S} {q : S → Prop} : eM1 c a e x δ q = a x δ fun d => strK d fun z => e x δ fun b => strK b fun y => c z y q := (rfl)
theorem w_strK {z : Str} {k : Str → Prop} : strK (.str z) k = k z := (rfl)
theorem u_cEnds {z y : Str} {q : S → Prop} : cEnds z y q = q (.val (.bool (Txt.endswith z y))) := (rfl)
theorem u_cFind {z y : Str} {q : S → Prop} : cFind z y q = q (.val (.int (Txt.find z y))) := (rfl)
theorem u_cSplit {z y : Str} {q : S → Prop} : cSplit z y q = ((y.length == 0) = false ∧ z.length + 2 ≤ sizeLine ∧ q (.own ((Txt.split z y).map PyData.str))) := (rfl)
section
variable {X : Cx} {W : WX} {pos : Pos}
theorem je_m1 {o e : Expr} {f : Expr} {c : Str → Str → (S → Prop) → Prop} {r : V → List V → Hp → VK → Prop} {da de : EP} (ha : JP X W o da) (he : JP X W e de)
    (hb : ∀ {ta te : TE}, PE X o ta → PE X e te → PE X f (tM1 r ta te))
    (hc : ∀ {z y : Str} {O H : Hp} {q : S → Prop} {Q : VK}, Same O H → c z y q → (∀ v O' H' s, Up O H O' H' → SRep X.K H O' H' v s → q s → Q v H') → r (.str z) [.str y] H Q) : JE X W f (eM1 c da de) := by
  obtain ⟨ta, pa, sa⟩ := ha.ex
  obtain ⟨te, pe, se⟩ := he.ex
  refine ⟨_, hb pa pe, fun O H H0 σ δ x q Q so env hx hq g => ?_⟩
  refine sa O H H0 σ δ x _ _ so env hx (fun v O1 H1 d u1 r1 g1 => ?_) g
  unfold strK at g1
  split at g1
  · rename_i z
    cases r1
    refine ⟨⟨z, rfl⟩, ?_⟩
    refine se O1 H1 H0 σ δ x _ _ u1.oh (env.up u1) (fun e cls d O' H' u' => hx e cls d O' H' (u1.trans u')) (fun w O2 H2 c2 u2 r2 g2 => ?_) g1
    unfold strK at g2
    split at g2
    · rename_i y
      cases r2
      exact hc u2.oh g2 fun v O' H' s u' rs qs => hq v O' H' s ((u1.trans u2).trans u') (rs.back (u1.trans u2).h) qs
    · exact g2.elim
  · exact g1.elim
end
end DL

namespace DL
open PySem L2
section
variable {X : Cx} {W : WX} {pos : Pos}
theorem je_ends {o e : Expr} {da de : EP} {p1 : Pos} (ha : JP X W o da) (he : JP X W e de)
    (hb : ∀ {ta te : TE}, PE X o ta → PE X e te → PE X (.Call (.Attribute o "endswith" p1) [e] [] pos) (tM1 (fun x xs H Q => ∃ a b, x = .str a ∧ xs = [.str b] ∧ Q (.bl (Txt.endswith a b)) H) ta te) := by exact fun pa pe => pe_m1 PySem.F.slot_str_endswith PySem.F.type_str_endswith mt_endswith pa pe) :
    JE X W (.Call (.Attribute o "endswith" p1) [e] [] pos) (eM1 cEnds da de) :=
  je_m1 ha he hb fun so g hq => ⟨_, _, rfl, rfl, hq _ _ _ (.val (.bool _)) (.refl so) (.bl _) g⟩
theorem je_find {o e : Expr} {da de : EP} {p1 : Pos} (ha : JP X W o da) (he : JP X W e de)
    (hb : ∀ {ta te : TE}, PE X o ta → PE X e te → PE X (.Call (.Attribute o "find" p1) [e] [] pos) (tM1 (fun x xs H Q => ∃ a b, x = .str a ∧ xs = [.str b] ∧ Q (.int (Txt.find a b)) H) ta te) := by exact fun pa pe => pe_m1 PySem.F.slot_str_find PySem.F.type_str_find mt_find pa pe) :
    JE X W (.Call (.Attribute o "find" p1) [e] [] pos) (eM1 cFind da de) :=
  je_m1 ha he hb fun so g hq => ⟨_, _, rfl, rfl, hq _ _ _ (.val (.int _)) (.refl so) (.int _) g⟩
theorem je_split {o e : Expr} {da de : EP} {p1 : Pos} (ha : JP X W o da) (he : JP X W e de)
    (hb : ∀ {ta te : TE}, PE X o ta → PE X e te → PE X (.Call (.Attribute o "split" p1) [e] [] pos) (tM1 (fun x xs H Q => ∃ a b, x = .str a ∧ xs = [.str b] ∧ (b.length == 0) = false ∧ a.length + 2 ≤ sizeLine ∧ rNewStrs (Txt.split a b) H Q) ta te) := by exact fun pa pe => pe_split pa pe) :
    JE X W (.Call (.Attribute o "split" p1) [e] [] pos) (eM1 cSplit da de) :=
  je_m1 ha he hb fun {z y O H q Q} so g hq => ⟨_, _, rfl, rfl, g.1, g.2.1, fun p hp => by
    have u := Up.own so hp (.lst ((Txt.split z y).map V.str))
    exact hq _ _ _ (.own ((Txt.split z y).map PyData.str)) u ⟨p, _, rfl, hp, so.free hp, upd_same, dpl_strs _ _⟩ g.2.2⟩
def rIntTD : RD
  | [.int i], q => q (.val (.int i))
  | [.bool b], q => q (.val (.int (if b then 1 else 0)))
  | [.str z], q => optK (PySem.intText? z) fun n => z.length ≤ 640 ∧ q (.val (.int n))
  | _, _ => False
theorem cs_intT : CallS X (.type "int") rIntTD := by
  refine ⟨fun vs H Q => ((∃ i, vs = [.int i] ∧ Q (.int i) H) ∨ ∃ k, vs = [.bl k] ∧ Q (.int (if k then 1 else 0)) H) ∨ ∃ a n, vs = [.str a] ∧ PySem.intText? a = some n ∧ a.length ≤ 640 ∧ Q (.int n) H, fun pins s σ H vs us Q I r h => h.elim (call_int1 pins s σ H vs us Q I r) (call_int_str pins s σ H vs us Q I r), fun O H vs ds q Q so ra hq g1 => ?_⟩
  unfold rIntTD at g1
  split at g1
  · rename_i i
    obtain ⟨v, rfl, r⟩ := pall1 ra
    cases r
    exact .inl (.inl ⟨i, rfl, hq _ O H (.val (.int _)) (.refl so) (.int _) g1⟩)
  · rename_i b
    obtain ⟨v, rfl, r⟩ := pall1 ra
    cases r
    exact .inl (.inr ⟨b, rfl, hq _ O H (.val (.int _)) (.refl so) (.int _) g1⟩)
  · rename_i z
    obtain ⟨v, rfl, r⟩ := pall1 ra
    cases r
    obtain ⟨n, hn, g⟩ := optK_iff g1
    exact .inr ⟨z, n, rfl, hn, g.1, hq _ O H (.val (.int _)) (.refl so) (.int _) g.2⟩
  · exact g1.elim
def inTK (x : Str) : D → (Bool → Prop) → Prop
  | .list xs, k => optK (txtD xs) fun ys => k (decide (x ∈ ys))
  | .tuple xs, k => optK (txtD xs) fun ys => k (decide (x ∈ ys))
  | .str z, k => ∃ c, x = ⟨#[c]⟩ ∧ k (decide (c ∈ z.cps.toList))
  | _, _ => False
def rNotInTD : R2D
  | .str x, d, q => inTK x d fun b => q (.val (.bool (!b)))
  | _, _, _ => False
theorem flat_txt : ∀ ns : List Str, (ns.map V.str).all flatV = true
  | [] => rfl
  | _ :: ns => by rw [List.map_cons, List.all_cons, flat_txt ns]; rfl
theorem in_txt (i : Str) : ∀ ns : List Str, inV (.str i) (ns.map V.str) = decide (i ∈ ns)
  | [] => rfl
  | n :: ns => by
    unfold inV
    rw [List.map_cons, List.any_cons]
    have ih := in_txt i ns
    unfold inV at ih
    rw [ih]
    have : eqV (.str n) (.str i) = decide (i = n) := by
      show (n == i) = _
      exact Bool.eq_iff_iff.mpr (by rw [beq_iff_eq, decide_eq_true_eq]; exact eq_comm)
    rw [this]
    exact Bool.eq_iff_iff.mpr (by simp)
theorem in_tk {K : PySem.W.Frag} {O H : Hp} {w : V} {d : D} {x : Str} {k : Bool → Prop} (r : PRep K O H w d) (h : inTK x d k) : (∃ (p : Addr) (ns : List Str), w = .ref p ∧ (SqL K H p (ns.map V.str) ∨ SqT K H p (ns.map V.str)) ∧ k (decide (x ∈ ns))) ∨ ∃ (c : Nat) (z : Str), x = ⟨#[c]⟩ ∧ w = .str z ∧ k (decide (c ∈ z.cps.toList)) := by
  unfold inTK at h
  split at h
  · obtain ⟨ns, hn, h⟩ := optK_iff h
    obtain ⟨p, vs, rfl, qa, za⟩ := r
    have e := txt_of za hn
    subst e
    exact .inl ⟨p, ns, rfl, .inl qa, h⟩
  · obtain ⟨ns, hn, h⟩ := optK_iff h
    obtain ⟨p, vs, rfl, qa, za⟩ := r
    have e := txt_of za hn
    subst e
    exact .inl ⟨p, ns, rfl, .inr qa, h⟩
  · obtain ⟨c, e, h⟩ := h
    cases r
    exact .inr ⟨c, _, e, rfl, h⟩
  · exact h.elim
theorem os_notinT : OpS X (compareOp .NotIn) rNotInTD := by
  refine ⟨fun x y H Q => rIn X.K true x y H Q ∨ ∃ (c : Nat) (z : Str), x = .str ⟨#[c]⟩ ∧ y = .str z ∧ Q (.bl (!decide (c ∈ z.cps.toList))) H, fun pins s σ H x y v u Q I rx ry h => h.elim (op_notIn_seq pins s σ H x y v u Q I rx ry) (op_notIn_sign pins s σ H x y v u Q I rx ry), fun O H v w c d q Q so rc rd hq g1 => ?_⟩
  unfold rNotInTD at g1
  split at g1
  · rename_i x
    cases rc
    rcases in_tk rd g1 with ⟨p, ns, rfl, hs, g⟩ | ⟨c, z, rfl, rfl, g⟩
    · refine .inl ⟨p, ns.map V.str, rfl, hs, rfl, flat_txt ns, ?_⟩
      show Q (.bl (!inV _ _)) H
      rw [in_txt]
      exact hq _ O H (.val (.bool _)) (.refl so) (.bl _) g
    · exact .inr ⟨c, z, rfl, rfl, hq _ O H (.val (.bool _)) (.refl so) (.bl _) g⟩
  · exact g1.elim
def signD (z : Str) : List D := z.cps.toList.map fun c => .str ⟨#[c]⟩
def iStrD (e : ES) : EI := fun x δ q => e x δ fun s => s.fr fun d => strK d fun z => q (signD z)
theorem walks_str {K : PySem.W.Frag} {O : Hp} {z : Str} : Walks K (Its z) O (signD z) where
  go := fun i H2 so hi => by
    show i < z.cps.size
    unfold signD at hi
    rw [List.length_map] at hi
    simpa using hi
  yld := fun i O2 H2 x H' d o1 o2 hd hy => by
    obtain ⟨rfl, c, hc, rfl⟩ := hy
    unfold signD at hd
    rw [List.getElem?_map, Array.getElem?_toList, hc] at hd
    cases hd
    exact ⟨O2, .refl o2, .str _⟩
  stop := fun i H2 so hi => by
    show z.cps.size ≤ i
    unfold signD at hi
    rw [List.length_map] at hi
    simpa using hi
theorem ji_str {tg l : Expr} {de : ES} (h : JE X W l de) : JI X W tg l (iStrD de) := by
  obtain ⟨te, p, s⟩ := h.ex
  refine ⟨_, pi_str p, fun O H H0 σ δ x q R so env hx hq g => ?_⟩
  refine s O H H0 σ δ x _ _ so env hx (fun v O1 H1 c u1 r1 g1 => ?_) g
  obtain ⟨O2, d, u2, r2, k⟩ := r1.fr u1 g1
  unfold strK at k
  split at k
  · rename_i z
    cases r2
    exact ⟨z, rfl, hq _ O2 H1 _ u2 walks_str k⟩
  · exact k.elim
end
theorem w_intT1 {i : Int} {q : S → Prop} : rIntTD [.int i] q = q (.val (.int i)) := (rfl)
theorem w_intT2 {b : Bool} {q : S → Prop} : rIntTD [.bool b] q = q (.val (.int (if b then 1 else 0))) := (rfl)
theorem w_intT3 {z : Str} {q : S → Prop} : rIntTD [.str z] q = optK (PySem.intText? z) fun n => z.length ≤ 640 ∧ q (.val (.int n)) := (rfl)
theorem w_notinT {x : Str} {d : D} {q : S → Prop} : rNotInTD (.str x) d q = inTK x d fun b => q (.val (.bool (!b))) := (rfl)
theorem w_inTK1 {x : Str} {xs : List D} {k : Bool → Prop} : inTK x (.list xs) k = optK (txtD xs) fun ys => k (decide (x ∈ ys)) := (rfl)
theorem w_inTK2 {x : Str} {xs : List D} {k : Bool → Prop} : inTK x (.tuple xs) k = optK (txtD xs) fun ys => k (decide (x ∈ ys)) := (rfl)
theorem w_inTK3 {x z : Str} {k : Bool → Prop} : inTK x (.str z) k = ∃ c, x = ⟨#[c]⟩ ∧ k (decide (c ∈ z.cps.toList)) := (rfl)
theorem u_iStrD {e : ES} {x : XP} {δ : List S} {q : List D → Prop} : iStrD e x δ q = e x δ fun s => s.fr fun d => strK d fun z => q (signD z) := (rfl)
theorem w_txtN {k : List Str → Prop} : optK (txtD []) k = k [] := (rfl)
theorem w_txtC {b : Str} {r : List D} {k : List Str → Prop} : optK (txtD (.str b :: r)) k = optK (txtD r) fun ys => k (b :: ys) := by
  show optK ((txtD r).map (b :: ·)) k = _
  cases txtD r <;> rfl
theorem w_txtM {ys : List Str} {k : List Str → Prop} : optK (txtD (ys.map PyData.str)) k = k ys := by rw [txt_map]; rfl
end DL

namespace DL
open PySem L2
def S.tx : S → (Str → Prop) → Prop
  | .val (.str z), k => k z
  | _, _ => False
theorem w_tx {z : Str} {k : Str → Prop} : S.tx (.val (.str z)) k = k z := (rfl)
theorem tx_iff {s : S} {k : Str → Prop} (h : s.tx k) : ∃ n, s = .val (.str n) ∧ k n := by
  unfold S.tx at h
  split at h
  · exact ⟨_, rfl, h⟩
  · exact h.elim
abbrev DctT := List (Str × D)
def encLT (m : DctT) : List (D × D) := m.map fun p => (.str p.1, p.2)
def encDT (m : DctT) : D := .dict (encLT m)
theorem encLT_inj : ∀ {m n : DctT}, encLT m = encLT n → m = n
  | [], [], _ => rfl
  | [], _ :: _, e => nomatch e
  | _ :: _, [], e => nomatch e
  | (i, d) :: m, (j, c) :: n, e => by
    unfold encLT at e
    rw [List.map_cons, List.map_cons] at e
    injection e with e1 e2
    injection e1 with e3 e4
    injection e3 with e5
    have := encLT_inj (m := m) (n := n) e2
    cases e5; cases e4; rw [this]
def mgetT (m : DctT) (k : Str) : Option D := (m.find? fun p => decide (p.1 = k)).map (·.2)
def mputT (m : DctT) (k : Str) (d : D) : DctT := if (m.any fun p => decide (p.1 = k)) = true then m.map (fun p => if p.1 = k then (p.1, d) else p) else m ++ [(k, d)]
theorem mget_posT {p : Str × D} {r : DctT} {k : Str} (e : p.1 = k) : mgetT (p :: r) k = some p.2 := by simp [mgetT, List.find?_cons, e]
theorem mget_negT {p : Str × D} {r : DctT} {k : Str} (e : ¬ p.1 = k) : mgetT (p :: r) k = mgetT r k := by simp [mgetT, List.find?_cons, e]
theorem mget_anyT (k : Str) : ∀ m : DctT, (m.any fun p => decide (p.1 = k)) = (mgetT m k).isSome
  | [] => rfl
  | p :: r => by
    rw [List.any_cons]
    by_cases e : p.1 = k
    · rw [mget_posT e]; simp [e]
    · rw [mget_negT e, ← mget_anyT k r]; simp [e]
theorem dct_lenT {K : PySem.W.Frag} {O : Hp} : ∀ {kvs : List (L2.Key × V)} {m : DctT}, DctAll K O kvs (encLT m) → kvs.length = m.length
  | [], [], _ => rfl
  | [], _ :: _, h => nomatch h
  | _ :: _, [], h => nomatch h
  | p :: kvs, q :: m, h => by
    unfold encLT at h
    rw [List.map_cons] at h
    generalize he : (PyData.str q.1, q.2) = e at h
    cases h with
    | cons _ a => rw [List.length_cons, List.length_cons, dct_lenT (m := m) a]
theorem dct_consT {K : PySem.W.Frag} {O : Hp} {p : L2.Key × V} {kvs : List (L2.Key × V)} {q : Str × D} {m : DctT} (h : DctAll K O (p :: kvs) (encLT (q :: m))) : p.1 = .inr q.1 ∧ Dp K O p.2 q.2 ∧ DctAll K O kvs (encLT m) := by
  unfold encLT at h
  rw [List.map_cons] at h
  generalize he : (PyData.str q.1, q.2) = e at h
  cases h with
  | @cons k v d kvs ds hd a =>
    injection he with e1 e2
    subst e2
    refine ⟨?_, hd, a⟩
    cases k with
    | inl i => cases e1
    | inr x => injection e1 with e1; rw [e1]
theorem dct_mkT {K : PySem.W.Frag} {O : Hp} {v : V} {kvs : List (L2.Key × V)} {k : Str} {d : D} {m : DctT} (h : Dp K O v d) (a : DctAll K O kvs (encLT m)) : DctAll K O ((.inr k, v) :: kvs) (encLT ((k, d) :: m)) := DctAll.cons (k := .inr k) h a
theorem dct_getT {K : PySem.W.Frag} {O : Hp} {k : Str} : ∀ {kvs : List (L2.Key × V)} {m : DctT}, DctAll K O kvs (encLT m) → (valV kvs (.inr k) = none ∧ mgetT m k = none) ∨ ∃ v d, valV kvs (.inr k) = some v ∧ mgetT m k = some d ∧ Dp K O v d
  | [], [], _ => .inl ⟨rfl, rfl⟩
  | [], _ :: _, h => nomatch h
  | _ :: _, [], h => nomatch h
  | p :: kvs, q :: m, h => by
    obtain ⟨e, hd, a⟩ := dct_consT h
    by_cases c : q.1 = k
    · exact .inr ⟨p.2, q.2, valV_pos (by rw [e, c]), mget_posT c, hd⟩
    · rw [valV_neg (by rw [e]; exact fun z => c (by injection z)), mget_negT c]
      exact dct_getT a
theorem dct_anyT {K : PySem.W.Frag} {O : Hp} {k : Str} : ∀ {kvs : List (L2.Key × V)} {m : DctT}, DctAll K O kvs (encLT m) → (kvs.any fun p => decide (p.1 = .inr k)) = m.any fun p => decide (p.1 = k)
  | [], [], _ => rfl
  | [], _ :: _, h => nomatch h
  | _ :: _, [], h => nomatch h
  | p :: kvs, q :: m, h => by
    obtain ⟨e, _, a⟩ := dct_consT h
    rw [List.any_cons, List.any_cons, dct_anyT a, e]
    congr 1
    by_cases c : q.1 = k
    · rw [c]; simp
    · rw [decide_eq_false c, decide_eq_false fun z => c (by injection z)]
theorem dct_mapT {K : PySem.W.Frag} {O : Hp} {k : Str} {v : V} {d : D} (hd : Dp K O v d) : ∀ {kvs : List (L2.Key × V)} {m : DctT}, DctAll K O kvs (encLT m) → DctAll K O (kvs.map fun p => if p.1 = .inr k then (p.1, v) else p) (encLT (m.map fun p => if p.1 = k then (p.1, d) else p))
  | [], [], _ => .nil
  | [], _ :: _, h => nomatch h
  | _ :: _, [], h => nomatch h
  | (p, w) :: kvs, (q, c) :: m, h => by
    obtain ⟨e, hw, a⟩ := dct_consT h
    have e : p = .inr q := e
    subst e
    rw [List.map_cons, List.map_cons]
    by_cases c : q = k
    · subst c
      rw [if_pos rfl, if_pos rfl]
      exact dct_mkT hd (dct_mapT hd a)
    · rw [if_neg (fun z => c (by injection z)), if_neg c]
      exact dct_mkT hw (dct_mapT hd a)
theorem dct_snocT {K : PySem.W.Frag} {O : Hp} {k : Str} {v : V} {d : D} (hd : Dp K O v d) : ∀ {kvs : List (L2.Key × V)} {m : DctT}, DctAll K O kvs (encLT m) → DctAll K O (kvs ++ [(.inr k, v)]) (encLT (m ++ [(k, d)]))
  | [], [], _ => dct_mkT hd .nil
  | [], _ :: _, h => nomatch h
  | _ :: _, [], h => nomatch h
  | (p, w) :: kvs, (q, c) :: m, h => by
    obtain ⟨e, hw, a⟩ := dct_consT h
    have e : p = .inr q := e
    subst e
    exact dct_mkT hw (dct_snocT hd a)
theorem dct_putT {K : PySem.W.Frag} {O : Hp} {k : Str} {v : V} {d : D} {kvs : List (L2.Key × V)} {m : DctT} (hd : Dp K O v d) (a : DctAll K O kvs (encLT m)) : DctAll K O (putK kvs (.inr k) v) (encLT (mputT m k d)) := by
  unfold putK mputT
  rw [dct_anyT a]
  split
  · exact dct_mapT hd a
  · exact dct_snocT hd a
def dctKT (d : D) (k : DctT → Prop) : Prop := ∃ m, d = encDT m ∧ k m
theorem w_dctKT {m : DctT} {k : DctT → Prop} : dctKT (encDT m) k = k m := propext ⟨fun ⟨n, e, h⟩ => by
  have : m = n := encLT_inj (by injection e)
  rw [this]; exact h, fun h => ⟨m, rfl, h⟩⟩
theorem ow_dctT {K : PySem.W.Frag} {O H : Hp} {v : V} {m : DctT} {fp : List Addr} (h : Ow K O H v (encDT m) fp) : ∃ a kvs, v = .ref a ∧ fp = [a] ∧ H a = some (.dK kvs) ∧ DctAll K O kvs (encLT m) := by
  generalize he : encDT m = d at h
  cases h with
  | dat _ z => subst he; unfold encDT noLst at z; cases z
  | tup _ _ => cases he
  | lst _ _ => cases he
  | @dct a kvs ds h1 h2 =>
    unfold encDT at he
    injection he with he
    subst he
    exact ⟨a, kvs, rfl, rfl, h1, h2⟩
  | ins _ _ _ _ _ =>
    exfalso
    unfold encDT insD at he
    injection he with he
    cases m with
    | nil => cases he
    | cons p r =>
      unfold encLT at he
      rw [List.map_cons] at he
      injection he with e1 _
      injection e1 with e2 _
      cases e2
def eDnewT : ES := fun _ _ q => ∀ v fp, q (.obj v (encDT []) fp)
theorem u_eDnewT {x : XP} {δ : List S} {q : S → Prop} : eDnewT x δ q = ∀ v fp, q (.obj v (encDT []) fp) := (rfl)
def sPutT (i : Nat) (k e : ES) : ST := fun D δ => (lk δ i).ob fun v d fp => dctKT d fun m => e (fun x => D.ex x δ) δ fun s => s.fr fun c => k (fun x => D.ex x δ) δ fun t => t.tx fun n => m.length < sizeLine ∧ D.nx (put δ i (.obj v (encDT (mputT m n c)) fp))
theorem u_sPutT {i : Nat} {k e : ES} {D : DL.Ends} {δ : List S} : sPutT i k e D δ = (lk δ i).ob fun v d fp => dctKT d fun m => e (fun x => D.ex x δ) δ fun s => s.fr fun c => k (fun x => D.ex x δ) δ fun t => t.tx fun n => m.length < sizeLine ∧ D.nx (put δ i (.obj v (encDT (mputT m n c)) fp)) := (rfl)
def eGetT (i : Nat) (k e : ES) : ES := fun x δ q => (lk δ i).ob fun v d fp => dctKT d fun m => k x δ fun t => t.tx fun n => e x δ fun s => s.fr fun c => q (.val ((mgetT m n).getD c))
theorem u_eGetT {i : Nat} {k e : ES} {x : XP} {δ : List S} {q : S → Prop} : eGetT i k e x δ q = (lk δ i).ob fun v d fp => dctKT d fun m => k x δ fun t => t.tx fun n => e x δ fun s => s.fr fun c => q (.val ((mgetT m n).getD c)) := (rfl)
def eInT (i : Nat) (k : ES) : ES := fun x δ q => (lk δ i).ob fun v d fp => dctKT d fun m => k x δ fun t => t.tx fun n => q (.val (.bool (mgetT m n).isSome))
theorem u_eInT {i : Nat} {k : ES} {x : XP} {δ : List S} {q : S → Prop} : eInT i k x δ q = (lk δ i).ob fun v d fp => dctKT d fun m => k x δ fun t => t.tx fun n => q (.val (.bool (mgetT m n).isSome)) := (rfl)
section
variable {X : Cx} {W : WX} {pos : Pos}
theorem je_dnewT : JE X W (.Dict [] [] pos) eDnewT := by
  refine ⟨_, pe_dnewK, fun O H H0 σ δ x q Q so env hx hq g => ?_⟩
  intro p hp
  have u2 := Up.own so hp (.dK [])
  exact hq (.ref p) O _ (.obj (.ref p) (encDT []) [p]) u2 ⟨rfl, .dct upd_same .nil, by simp, fun b hb => by rw [List.mem_singleton.mp hb]; exact ⟨hp, so.free hp⟩⟩ (g _ _)
theorem js_putT (i : Nat) {x : Str} {e k : Expr} {de : ES} {dk : ES} {p1 p2 : Pos} (hu : X.A.units + 64 < cLine) (h : JE X W e de) (hk : JE X W k dk) (hN : X.N[i]? = some x := by rfl) (hv : Vis X.env.scope x := by first | exact Or.inl rfl | exact Or.inr (Or.inl rfl) | exact Or.inr (Or.inr rfl)) (hd : (x == ("__debug__" : Str)) = false := by decide)
    (hcd : (x == ("__classdict__" : Str)) = false := by decide) (hs : swapsWith e (some (.Subscript (.Name x p1) k p2)) pos.line X.env = pure false := by rfl) : JS X W (.Assign [.Subscript (.Name x p1) k p2] e pos) (sPutT i dk de) := by
  obtain ⟨te, pe, s⟩ := h.ex
  obtain ⟨tk, pk, sk⟩ := hk.ex
  refine ⟨_, ps_dput (by omega) (pe_var hN hv hd hcd) pk pe hs, fun O0 H0 O H σ δ D Dd u env er g => ?_⟩
  obtain ⟨v, d, fp, hi, m, rfl, g⟩ := ob_iff g
  refine s O H H0 σ δ _ _ _ u.oh env (er.xe u env) (fun y O1 H1 t u1 r1 g1 => ?_) g
  obtain ⟨O2, c, u2, r2, g2⟩ := r1.fr u1 g1
  have env2 := env.up u2
  refine ⟨v, (env2.ob.obj i v _ fp hi).1, ?_⟩
  refine sk O2 H1 H0 σ δ _ _ _ u2.oh env2 (er.xe (u.trans u2) env2) (fun w O3 H3 t3 u3 r3 g3 => ?_) g2
  obtain ⟨n, rfl, hl, g4⟩ := tx_iff g3
  cases r3
  have env3 := env2.up u3
  obtain ⟨_, ow, nd, fr⟩ := env3.ob.obj i v _ fp hi
  obtain ⟨a, kvs, rfl, rfl, ha, all⟩ := ow_dctT ow
  have hb := fr a List.mem_cons_self
  refine ⟨a, _, rfl, DPut.k (k := Sum.inr n) ha (by rw [dct_lenT all]; exact hl), ?_⟩
  exact er.nx O3 _ σ _ (((u.trans u2).trans u3).mut hb.1 hb.2 _ (fun t => tabs_upd t _ ha)) (env3.setObj hi List.mem_cons_self (.dct upd_same (dct_putT (dp_mono u3.o r2) all)) (fun t => tabs_upd t _ ha)) g4
theorem je_getT (i : Nat) {x : Str} {k e : Expr} {dk de : ES} {p1 p2 : Pos} (hu : X.A.units + 64 < cLine) (hk : JE X W k dk) (h : JE X W e de) (hm : M2 X (.Name x p1) "get" p2 k e pos := by exact ⟨rfl, rfl, rfl, rfl⟩) (hN : X.N[i]? = some x := by rfl) (hv : Vis X.env.scope x := by first | exact Or.inl rfl | exact Or.inr (Or.inl rfl) | exact Or.inr (Or.inr rfl)) (hd : (x == ("__debug__" : Str)) = false := by decide)
    (hcd : (x == ("__classdict__" : Str)) = false := by decide) : JE X W (.Call (.Attribute (.Name x p1) "get" p2) [k, e] [] pos) (eGetT i dk de) := by
  obtain ⟨te, pe, se⟩ := h.ex
  obtain ⟨tk, pk, sk⟩ := hk.ex
  refine ⟨_, pe_dget2 (by omega) (pe_var hN hv hd hcd) pk pe hm, fun O H H0 σ δ xx q Q so env hx hq g => ?_⟩
  obtain ⟨v, d, fp, hi, m, rfl, g⟩ := ob_iff g
  obtain ⟨_, ow0, _, _⟩ := env.ob.obj i v _ fp hi
  obtain ⟨a, kvs, rfl, rfl, ha, all⟩ := ow_dctT ow0
  refine ⟨.ref a, (env.ob.obj i _ _ _ hi).1, a, rfl, .inl ⟨kvs, .of ha⟩, ?_⟩
  refine sk O H H0 σ δ xx _ _ so env hx (fun w O1 H1 t u1 r1 g1 => ?_) g
  obtain ⟨n, rfl, g1⟩ := tx_iff g1
  cases r1
  refine se O1 H1 H0 σ δ xx _ _ u1.oh (env.up u1) (fun e cls d O' H' u' => hx e cls d O' H' (u1.trans u')) (fun z O2 H2 s u2 r2 g2 => ?_) g1
  obtain ⟨O3, c, u3, r3, g3⟩ := r2.fr u2 g2
  have ha3 := u3.h.at (u1.h.at ha)
  have all3 := dct_mono (u1.o.trans u3.o) all
  refine ⟨_, DGet.k (k := Sum.inr n) ha3, ?_⟩
  have u13 := u1.trans u3
  rcases dct_getT (k := n) all3 with ⟨e1, e2⟩ | ⟨y, c', e1, e2, hy⟩
  · rw [e1]
    rw [e2] at g3
    exact hq _ O3 H2 (.val c) u13 r3 g3
  · rw [e1]
    rw [e2] at g3
    exact hq _ O3 H2 (.val c') u13 hy g3
theorem snd_inT (i : Nat) {tk : TE} {dk : ES} (sk : Snd X.K X.mg W (RE X.K) tk dk) : Snd X.K X.mg W (RE X.K) (tDIn tk (tVar i)) (eInT i dk) := by
  intro O H H0 σ δ xx q Q so env hx hq g
  obtain ⟨v, d, fp, hi, m, rfl, g⟩ := ob_iff g
  refine sk O H H0 σ δ xx _ _ so env hx (fun w O1 H1 t u1 r1 g1 => ?_) g
  obtain ⟨n, rfl, g1⟩ := tx_iff g1
  cases r1
  obtain ⟨hs, ow, _, _⟩ := (env.up u1).ob.obj i v _ fp hi
  obtain ⟨a, kvs, rfl, rfl, ha, all⟩ := ow_dctT ow
  refine ⟨.ref a, hs, a, _, rfl, DGet.k (k := Sum.inr n) ha, ?_⟩
  have e : (valV kvs (Sum.inr n)).isSome = (mgetT m n).isSome := by
    rcases dct_getT (k := n) all with ⟨e1, e2⟩ | ⟨y, c', e1, e2, hy⟩ <;> rw [e1, e2] <;> rfl
  rw [e]
  exact hq _ O1 H1 (.val (.bool _)) u1 (.bl _) g1
theorem jt_inT (i : Nat) {x : Str} {k : Expr} {dk : ES} {p1 : Pos} (hu : X.A.units + 64 < cLine) (hk : JE X W k dk) (hN : X.N[i]? = some x := by rfl) (hv : Vis X.env.scope x := by first | exact Or.inl rfl | exact Or.inr (Or.inl rfl) | exact Or.inr (Or.inr rfl)) (hd : (x == ("__debug__" : Str)) = false := by decide)
    (hcd : (x == ("__classdict__" : Str)) = false := by decide) : JT X W (.Compare k [.In] [.Name x p1] pos) (tV (eInT i dk)) :=
  ⟨_, pt_cmp (pc_din (by omega) (Classical.choose_spec hk.ex).1 (pe_var hN hv hd hcd)), snd_test (snd_inT i (Classical.choose_spec hk.ex).2)⟩
end
end DL

namespace DL
open PySem L2
def sAppPop (i j : Nat) (e : ES) : ST := fun D δ => (lk δ i).ow fun ds => (lk δ j).ow fun es => e (fun x => D.ex x δ) δ fun s => s.nm fun n => (0 ≤ n ∧ n < es.length ∧ es.length ≤ sizeLine) ∧ ds.length < sizeLine ∧ ∃ d, es[n.toNat]? = some d ∧ D.nx (put (put δ j (.own (es.eraseIdx n.toNat))) i (.own (ds ++ [d])))
theorem u_sAppPop {i j : Nat} {e : ES} {D : DL.Ends} {δ : List S} : sAppPop i j e D δ = (lk δ i).ow fun ds => (lk δ j).ow fun es => e (fun x => D.ex x δ) δ fun s => s.nm fun n => (0 ≤ n ∧ n < es.length ∧ es.length ≤ sizeLine) ∧ ds.length < sizeLine ∧ ∃ d, es[n.toNat]? = some d ∧ D.nx (put (put δ j (.own (es.eraseIdx n.toNat))) i (.own (ds ++ [d]))) := (rfl)
theorem dpl_erase {K : PySem.W.Frag} {O : Hp} : ∀ {vs : List V} {ds : List D} {k : Nat}, DpAll K O vs ds → DpAll K O (vs.eraseIdx k) (ds.eraseIdx k)
  | _, _, _, .nil => .nil
  | _, _, 0, .cons h a => a
  | _, _, k + 1, .cons h a => .cons h (dpl_erase a)
section
variable {X : Cx} {W : WX} {pos : Pos}
theorem js_appPop (i j : Nat) (hij : i ≠ j) {x y : Str} {e : Expr} {de : ES} {p1 p2 p3 p4 p5 p6 : Pos} (h : JE X W e de) (hsz : sizeLine < 2 ^ 62)
    (hs : swapsWith (.Call (.Attribute (.Name x p1) "append" p2) [.Call (.Attribute (.Name y p3) "pop" p4) [e] [] p5] [] p6) none pos.line X.env = pure false := by rfl)
    (hb : ∀ {te : TE}, PE X e te → PE X (.Call (.Attribute (.Name x p1) "append" p2) [.Call (.Attribute (.Name y p3) "pop" p4) [e] [] p5] [] p6) (tBM X.K "list" rAppend (tVar i) (tCons (tBM X.K "list" rPopAt (tVar j) (tCons te tNil)) tNil)) := by exact fun pe => pe_bm PySem.F.plainAttrs_list PySem.F.slot_list_append PySem.F.type_list_append mt_append (pv _) (pa_cons (pe_bm PySem.F.plainAttrs_list PySem.F.slot_list_pop PySem.F.type_list_pop mt_popAt (pv _) (pa_cons pe pa_nil)) pa_nil)) :
    JS X W (.Expr (.Call (.Attribute (.Name x p1) "append" p2) [.Call (.Attribute (.Name y p3) "pop" p4) [e] [] p5] [] p6) pos) (sAppPop i j de) := by
  obtain ⟨te, pe, s⟩ := h.ex
  refine ⟨_, ps_expr (hb pe) hs, fun O0 H0 O H σ δ D Dd u env er k => ?_⟩
  unfold sAppPop S.ow at k
  split at k
  · rename_i ds hi
    split at k
    · rename_i es hj
      obtain ⟨p, vs, e1, n, o, z, r⟩ := env.own i ds hi
      obtain ⟨p', ws, e1', n', o', z', r'⟩ := env.own j es hj
      have pp : p ≠ p' := fun q => hij (env.inj i j ds es hi hj (by rw [e1, e1', q]))
      refine ⟨.ref p, e1, .inl ⟨rfl, _, SqL.of z⟩, ?_⟩
      refine ⟨.ref p', e1', .inl ⟨rfl, _, SqL.of z'⟩, ?_⟩
      refine s O H H0 σ δ _ _ _ u.oh env (er.xe u env) (fun v O1 H1 t u1 r1 g1 => ?_) k
      unfold S.nm at g1
      split at g1
      · rename_i m
        cases r1
        obtain ⟨⟨m0, m1, esz⟩, dl, d, hd, g⟩ := g1
        have env1 := env.up u1
        obtain ⟨_, _, f1, n1, o1, z1, r1⟩ := env1.own i ds hi
        rw [e1] at f1
        cases f1
        obtain ⟨_, _, f1', n1', o1', z1', r1'⟩ := env1.own j es hj
        rw [e1'] at f1'
        cases f1'
        obtain ⟨w, hw, dw⟩ := dpl_at r1' hd
        have lw := dpl_length r1'
        rename_i vs1 ws1
        refine ⟨p', ws1, m, m.toNat, w, rfl, rfl, z1', by omega, by omega, by rw [PySem.StrLaws.seqIndex_nonneg m0 (by omega)], hw, ?_⟩
        have u2 := (u.trans u1).mut n1' o1' (.lst (ws1.eraseIdx m.toNat)) (fun t => tabs_upd t _ z1')
        have env2 := env1.setOwn hj e1' (dpl_erase (k := m.toNat) r1')
        have hi2 : lk (put δ j (.own (es.eraseIdx m.toNat))) i = .own ds := by rw [lk_put_ne hij]; exact hi
        obtain ⟨_, _, f2, n2, o2, z2, r2⟩ := env2.own i ds hi2
        rw [e1] at f2
        cases f2
        refine ⟨p, _, w, rfl, rfl, z2, by rw [dpl_length r2]; exact dl, ?_⟩
        exact er.nx O1 _ σ _ (u2.mut n2 o2 _ (fun t => tabs_upd t _ z2)) (env2.setOwn hi2 e1 (dpl_append r2 (.cons dw .nil))) g
      · exact g1.elim
    all_goals exact k.elim
  all_goals exact k.elim
end
end DL

namespace DL
open PySem L2
abbrev FT := List (Str × Int)
def fget (m : FT) (k : Str) : Option Int := (m.find? fun p => decide (p.1 = k)).map (·.2)
def encF (m : FT) : DctT := m.map fun p => (p.1, .int p.2)
theorem mgetT_enc (k : Str) : ∀ m : FT, mgetT (encF m) k = (fget m k).map PyData.int
  | [] => rfl
  | (j, n) :: m => by
    have ih := mgetT_enc k m
    show mgetT ((j, .int n) :: encF m) k = _
    by_cases e : j = k
    · rw [mget_posT e]; unfold fget; rw [List.find?_cons_of_pos (by simpa using e)]; rfl
    · rw [mget_negT e, ih]; unfold fget; rw [List.find?_cons_of_neg (by simpa using e)]
theorem mputT_enc {m : FT} {k : Str} {n : Int} (h : fget m k = none) : mputT (encF m) k (.int n) = encF (m ++ [(k, n)]) := by
  unfold mputT
  rw [mget_anyT, mgetT_enc, h]
  rw [if_neg (by simp)]
  unfold encF
  rw [List.map_append]
  rfl
def letL : List Str := ["xx", "yy", "zz", "yz", "xz", "xy"]
def digC (c : Nat) : Bool := decide (48 ≤ c ∧ c ≤ 57)
theorem dig_in {c : Nat} : decide (c ∈ ("0123456789" : Str).cps.toList) = digC c := by
  have e : ("0123456789" : Str).cps.toList = [48, 49, 50, 51, 52, 53, 54, 55, 56, 57] := by decide +kernel
  rw [e]
  unfold digC
  refine Bool.eq_iff_iff.mpr ?_
  simp only [decide_eq_true_eq, List.mem_cons, List.not_mem_nil, or_false]
  omega
def numW (w : Str) : Option Int := if w = "" ∨ w = "1" ∨ w.cps.toList.head? = some 48 ∨ 6 < w.length ∨ w.cps.toList.all digC = false then none else some (NumText.digitsVal w.cps.toList)
theorem dig_all {l : List Nat} (h : l.all digC = true) : NumText.AllDigits l := fun c hc => by
  have := List.all_eq_true.mp h c hc
  unfold digC at this
  have := of_decide_eq_true this
  omega
theorem numW_int {w : Str} {n : Int} (h : numW w = some n) : PySem.intText? w = some n ∧ w.length ≤ 6 := by
  unfold numW at h
  split at h
  · cases h
  · rename_i c
    injection h with h
    have ne : w.cps.toList ≠ [] := fun e => c (.inl (TL.ext_tl (by show w.cps.toList = _; rw [e]; rfl)))
    have l6 : w.length ≤ 6 := by
      refine Classical.byContradiction fun k => c (.inr (.inr (.inr (.inl (by omega)))))
    have al : w.cps.toList.all digC = true := by
      cases e : w.cps.toList.all digC
      · exact absurd (.inr (.inr (.inr (.inr e)))) c
      · rfl
    have := intText_digits (x := w) (dig_all al) ne (by omega)
    rw [this, h]
    exact ⟨rfl, l6⟩
theorem val_bd : ∀ (l : List Nat), l.all digC = true → NumText.digitsVal l < 10 ^ l.length := fun l => by
  suffices key : ∀ (l : List Nat) (a : Nat), l.all digC = true → l.foldl (fun acc c => acc * 10 + (c - 48)) a < (a + 1) * 10 ^ l.length by
    intro h
    have := key l 0 h
    unfold NumText.digitsVal
    omega
  intro l
  induction l with
  | nil => intro a _; simp
  | cons c r ih =>
    intro a h
    rw [List.all_cons, Bool.and_eq_true] at h
    have hc := of_decide_eq_true (show decide (48 ≤ c ∧ c ≤ 57) = true from h.1)
    have := ih (a * 10 + (c - 48)) h.2
    rw [List.foldl_cons, List.length_cons, Nat.pow_succ]
    have e : (a + 1) * (10 ^ r.length * 10) = (a * 10 + 10) * 10 ^ r.length := by grind
    have : (a * 10 + (c - 48) + 1) * 10 ^ r.length ≤ (a * 10 + 10) * 10 ^ r.length := Nat.mul_le_mul_right _ (by omega)
    omega
theorem numW_bd {w : Str} {n : Int} (h : numW w = some n) : 0 ≤ n ∧ n < 1000000 := by
  have h0 := numW_int h
  unfold numW at h
  split at h
  · cases h
  · rename_i c
    injection h with h
    have al : w.cps.toList.all digC = true := by
      cases e : w.cps.toList.all digC
      · exact absurd (.inr (.inr (.inr (.inr e)))) c
      · rfl
    have b := val_bd _ al
    have l : w.cps.toList.length ≤ 6 := by have := h0.2; rw [TL.len_tl] at this; exact this
    have := Nat.pow_le_pow_right (n := 10) (by decide) l
    omega
def termW (m : FT) (s : Int) : List Str → Option FT
  | [l] => if l ∈ letL ∧ fget m l = none then some (m ++ [(l, s * 1)]) else none
  | [w, l] => (numW w).bind fun k => if l ∈ letL ∧ fget m l = none then some (m ++ [(l, s * k)]) else none
  | _ => none
def runW (m : FT) (s : Int) (ws : List Str) : List Str → Option FT
  | [] => termW m s ws
  | w :: r => if w = "+" ∨ w = "-" then (termW m s ws).bind fun m' => runW m' (if w = "-" then -1 else 1) [] r else runW m s (ws ++ [w]) r
def sixW (m : FT) : List Int := letL.map fun l => (fget m l).getD 0
def bodyT (z : Str) : Str := cutS z none (some ((z.length : Int) - 4))
def readT (z : Str) : Option (List Int) :=
  if Txt.endswith z " = 0" = false then none
  else if bodyT z = "0" then some [0, 0, 0, 0, 0, 0]
  else if cutS (bodyT z) none (some 1) = "-" then (runW [] (-1) [] (Txt.split (cutS (bodyT z) (some 1) none) " ")).map sixW
  else (runW [] 1 [] (Txt.split (bodyT z) " ")).map sixW
end DL

namespace DL
open PySem L2
def rStrCD : RD
  | [.int i], q => i.natAbs.log2 < 1920 ∧ q (.val (.str (Str.ofString (toString i))))
  | _, _ => False
theorem w_strC {i : Int} {q : S → Prop} : rStrCD [.int i] q = (i.natAbs.log2 < 1920 ∧ q (.val (.str (Str.ofString (toString i))))) := (rfl)
theorem Sz.log2 {i : Int} {k : Nat} (h : Sz k i) (hk : k ≤ 1920) : i.natAbs.log2 < 1920 := by
  have hb : i.natAbs < 2 ^ k := intBits_le_iff.mp h
  by_cases h0 : i.natAbs = 0
  · rw [h0]; decide
  · exact (Nat.log2_lt h0).mpr (Nat.lt_of_lt_of_le hb (Nat.pow_le_pow_right (by decide) hk))
section
variable {X : Cx} {W : WX} {pos : Pos}
theorem cs_str : CallS X (.type "str") rStrCD := by
  refine ⟨_, call_str_int, fun O H vs ds q Q so ra hq g1 => ?_⟩
  unfold rStrCD at g1
  split at g1
  · rename_i i
    obtain ⟨v, rfl, r⟩ := pall1 ra
    cases r
    exact ⟨i, rfl, g1.1, hq _ O H (.val (.str _)) (.refl so) (.str _) g1.2⟩
  · exact g1.elim
end
end DL

namespace DL
open PySem L2
abbrev tl := TL.tl
theorem cut_to {a : List Nat} {i : Int} (h : 0 ≤ i) : cutS (SX.S a) none (some i) = SX.S (a.take i.toNat) := (C8.cutS_slice _ _ _).trans (SX.slice_to h)
theorem cut_from {a : List Nat} {i : Int} (h : 0 ≤ i) : cutS (SX.S a) (some i) none = SX.S (a.drop i.toNat) := (C8.cutS_slice _ _ _).trans (SX.slice_from h)
theorem S_of (x : Str) : x = SX.S (TL.tl x) := (SX.S_tl x).symm
theorem ends_app {a b : List Nat} : Txt.endswith (SX.S (a ++ b)) (SX.S b) = true := by
  unfold Txt.endswith Builtin.Str.subAt
  rw [SX.S_len, SX.S_len, List.length_append, Nat.add_sub_cancel, Bool.and_eq_true]
  refine ⟨by simp, ?_⟩
  rw [beq_iff_eq]
  refine Array.toList_inj.mp ?_
  simp
def termT (n : Int) (l : Str) : Str := if n.natAbs = 1 then l else Str.ofString (toString (n.natAbs : Int)) ++ (" " : Str) ++ l
def sgT (s : Str) (n : Int) : Str := if s = "" then (if n < 0 then "-" else "") else if n < 0 then " - " else " + "
def addT (s : Str) (t : Int × Str) : Str := s ++ sgT s t.1 ++ termT t.1 t.2
def sumT (its : List (Int × Str)) : Str := its.foldl addT (Str.ofString "")
def showT (its : List (Int × Str)) : Str := (if sumT its = "" then ("0" : Str) else sumT its) ++ (" = 0" : Str)
def nzT (its : List (Int × Str)) : List (Int × Str) := its.filter fun t => decide (t.1 ≠ 0)
structure OkI (its : List (Int × Str)) : Prop where
  nz : ∀ t ∈ its, t.1 ≠ 0 ∧ t.1.natAbs < 1000000 ∧ t.2 ∈ letL
  nd : (its.map (·.2)).Nodup
theorem let_facts : ∀ l ∈ letL, (∃ a b, TL.tl l = [a, b] ∧ 120 ≤ a ∧ a ≤ 122 ∧ 120 ≤ b ∧ b ≤ 122) := by
  intro l hl
  unfold letL at hl
  simp only [List.mem_cons, List.not_mem_nil, or_false] at hl
  rcases hl with rfl | rfl | rfl | rfl | rfl | rfl
  · exact ⟨120, 120, by decide +kernel, by decide, by decide, by decide, by decide⟩
  · exact ⟨121, 121, by decide +kernel, by decide, by decide, by decide, by decide⟩
  · exact ⟨122, 122, by decide +kernel, by decide, by decide, by decide, by decide⟩
  · exact ⟨121, 122, by decide +kernel, by decide, by decide, by decide, by decide⟩
  · exact ⟨120, 122, by decide +kernel, by decide, by decide, by decide, by decide⟩
  · exact ⟨120, 121, by decide +kernel, by decide, by decide, by decide, by decide⟩
theorem eq0 : (" = 0" : Str) = SX.S [32, 61, 32, 48] := TL.ext_tl (by decide +kernel)
theorem read_body {B : List Nat} : Txt.endswith (SX.S (B ++ [32, 61, 32, 48])) " = 0" = true ∧ bodyT (SX.S (B ++ [32, 61, 32, 48])) = SX.S B := by
  rw [eq0]
  refine ⟨ends_app, ?_⟩
  unfold bodyT
  rw [SX.S_len, List.length_append]
  have e : ((B.length + [32, 61, 32, 48].length : Nat) : Int) - 4 = (B.length : Int) := by simp
  rw [e, cut_to (by omega)]
  simp
end DL

namespace DL
open PySem L2
def itemT (ns : List Int) (k : Int) : Int × Str := (ns.getD k.toNat 0, letL.getD k.toNat "")
theorem let_at {k : Int} (h : 0 ≤ k ∧ k < 6) : letL.getD k.toNat "" ∈ letL := by
  rcases (show k = 0 ∨ k = 1 ∨ k = 2 ∨ k = 3 ∨ k = 4 ∨ k = 5 by omega) with rfl | rfl | rfl | rfl | rfl | rfl <;> simp [letL]
theorem let_inj {j k : Int} (hj : 0 ≤ j ∧ j < 6) (hk : 0 ≤ k ∧ k < 6) (e : letL.getD j.toNat "" = letL.getD k.toNat "") : j = k := by
  have key : ∀ j ∈ ([0, 1, 2, 3, 4, 5] : List Int), ∀ k ∈ ([0, 1, 2, 3, 4, 5] : List Int), letL.getD j.toNat "" = letL.getD k.toNat "" → j = k := by decide +kernel
  refine key j ?_ k ?_ e
  · rcases (show j = 0 ∨ j = 1 ∨ j = 2 ∨ j = 3 ∨ j = 4 ∨ j = 5 by omega) with rfl | rfl | rfl | rfl | rfl | rfl <;> decide
  · rcases (show k = 0 ∨ k = 1 ∨ k = 2 ∨ k = 3 ∨ k = 4 ∨ k = 5 by omega) with rfl | rfl | rfl | rfl | rfl | rfl <;> decide
theorem ok_items {ns os : List Int} (hb : ∀ n ∈ ns, n.natAbs < 1000000) (hp : os.Perm [0, 1, 2, 3, 4, 5]) : OkI (nzT (os.map (itemT ns))) := by
  have ho : ∀ k ∈ os, 0 ≤ k ∧ k < 6 := fun k hk => by
    have := hp.mem_iff.mp hk
    simp only [List.mem_cons, List.not_mem_nil, or_false] at this
    omega
  refine ⟨fun t ht => ?_, ?_⟩
  · obtain ⟨h1, h2⟩ := List.mem_filter.mp ht
    obtain ⟨k, hk, rfl⟩ := List.mem_map.mp h1
    have nz : ns.getD k.toNat 0 ≠ 0 := by simpa [itemT] using h2
    refine ⟨nz, ?_, let_at (ho k hk)⟩
    show (ns.getD k.toNat 0).natAbs < 1000000
    rw [List.getD_eq_getElem?_getD]
    cases e : ns[k.toNat]? with
    | none => decide
    | some v => exact hb v (List.mem_of_getElem? e)
  · have h1 : ((os.map (itemT ns)).map (·.2)).Nodup := by
      rw [List.map_map]
      have nd : os.Nodup := hp.nodup_iff.mpr (by decide)
      exact (List.pairwise_map.mpr (nd.imp_of_mem fun {a b} ha hb ne => fun e => ne (let_inj (ho a ha) (ho b hb) e)))
    exact h1.sublist (List.Sublist.map _ (List.filter_sublist ..))
theorem term_len {n : Int} {l : Str} (hn : n.natAbs < 10 ^ 60) (hl : l.length ≤ 100) : (termT n l).length ≤ 161 := by
  unfold termT
  split
  · omega
  · have h1 := TL.numL_len (n := n.natAbs) (k := 60) (by decide) hn
    rw [TL.len_tl, TL.tl_append, TL.tl_append, TL.tl_num, List.length_append, List.length_append]
    have h2 : (TL.tl l).length = l.length := (TL.len_tl l).symm
    have h3 : (TL.tl (" " : Str)).length = 1 := by decide +kernel
    omega
theorem sg_len {s : Str} {n : Int} : (sgT s n).length ≤ 3 := by
  unfold sgT
  split <;> split <;> decide +kernel
theorem add_len {s : Str} {t : Int × Str} (hn : t.1.natAbs < 10 ^ 60) (hl : t.2.length ≤ 100) : (addT s t).length ≤ s.length + 164 := by
  unfold addT
  have h1 := term_len hn hl
  have h2 := sg_len (s := s) (n := t.1)
  rw [TL.len_tl, TL.tl_append, TL.tl_append, List.length_append, List.length_append, ← TL.len_tl, ← TL.len_tl, ← TL.len_tl]
  omega
theorem len_app (x y : Str) : (x ++ y).length = x.length + y.length := by
  rw [TL.len_tl, TL.tl_append, List.length_append, ← TL.len_tl, ← TL.len_tl]
end DL

namespace DL
open PySem L2 Builtin Builtin.Str
def replN (x y z : Str) (n : Nat) : Str :=
  if ((occurrences x y 0 x.length n).isEmpty || (y.length == 0 && z.length == 0)) = true then x
  else glued z (partsBetween x (occurrences x y 0 x.length n) y.length)
theorem glued_len {x z : Str} (y : Str) (n : Nat) : (glued z (partsBetween x (occurrences x y 0 x.length n) y.length)).length ≤ x.length + n * z.length := by
  have h1 := StrLaws.occ_length_le x y 0 x.length n
  have hy : (glued y (partsBetween x (occurrences x y 0 x.length n) y.length)).length = x.length := by rw [StrLaws.glued_between_self]
  rw [size_glued, length_partsBetween, Nat.add_sub_cancel] at hy
  rw [size_glued, length_partsBetween, Nat.add_sub_cancel]
  have h2 : (occurrences x y 0 x.length n).length * z.length ≤ n * z.length := Nat.mul_le_mul_right _ h1
  omega
theorem replN_len (x y z : Str) (n : Nat) : (replN x y z n).length ≤ x.length + n * z.length := by
  unfold replN
  split
  · exact Nat.le_add_right _ _
  · exact glued_len y n
theorem gives_replN (x y z : Str) (t u v k : Tok) (n : Nat) (hn : (n : Int) < 2 ^ 62)
    (h0 : (u == 0 || v == 0) = false) (huv : (u == v) = false) (hyz : (y == z) = false) (hl : tooLong (x.length + (occurrences x y 0 x.length n).length * z.length) = false) :
    Gives («str.replace» ⟨[.str x t, .str y u, .str z v, .int n k], []⟩) (if ((occurrences x y 0 x.length n).isEmpty || (y.length == 0 && z.length == 0)) = true then .val (.str x t) else .str (glued z (partsBetween x (occurrences x y 0 x.length n) y.length))) := by
  have e : (if (n : Int) < 0 then x.length + 1 else (n : Int).toNat) = n := by rw [if_neg (by omega)]; rfl
  have hL : countLimit "str.replace" (some (.int n k)) (x.length + 1) = pure n := by
    show (do let i ← asSsize "str.replace" (.int n k); pure (if i < 0 then x.length + 1 else i.toNat) : Sem Nat) = pure n
    rw [asSsize_int _ _ _ (by rw [Bool.or_eq_false_iff]; exact ⟨decide_eq_false (by omega), decide_eq_false (by omega)⟩)]
    show (pure (if (n : Int) < 0 then x.length + 1 else (n : Int).toNat) : Sem Nat) = pure n
    rw [e]
  show Gives (do
          let limit ← countLimit "str.replace" (some (.int n k)) (x.length + 1)
          if ((occurrences x y 0 x.length limit).isEmpty || (y.length == 0 && z.length == 0)) = true then (do rule "str.replace.nothing"; ret (.str x t)) else
          (do let same ← isSame (.str y u) (.str z v)
              if same = true then (do rule "str.replace.old-is-new"; ret (.str x t)) else
              if tooLong (x.length + (occurrences x y 0 x.length limit).length * z.length) = true then unsupported "str.replace:memory" else
              retStr (glued z (partsBetween x (occurrences x y 0 x.length limit) y.length)))) _
  rw [hL]
  show Gives (if ((occurrences x y 0 x.length n).isEmpty || (y.length == 0 && z.length == 0)) = true then (do rule "str.replace.nothing"; ret (.str x t)) else
          (do let same ← isSame (.str y u) (.str z v)
              if same = true then (do rule "str.replace.old-is-new"; ret (.str x t)) else
              if tooLong (x.length + (occurrences x y 0 x.length n).length * z.length) = true then unsupported "str.replace:memory" else
              retStr (glued z (partsBetween x (occurrences x y 0 x.length n) y.length)))) _
  cases hc : ((occurrences x y 0 x.length n).isEmpty || (y.length == 0 && z.length == 0))
  · rw [isSame_str_other y z u v h0 huv hyz, hl]
    exact .of_eq rfl
  · exact .rule (.of_eq rfl)
theorem sc_replN {prog : Program} {w : World} {A : Around} {E : Value → Shared → Prop} {s : Shared} {x y z : Str} {t u v k : Tok} {n : Nat} {Q : Value → Shared → Prop} (hn : (n : Int) < 2 ^ 62) (hu : u ≠ 0) (hv : v ≠ 0) (huv : u ≠ v) (hyz : (y == z) = false) (hb : x.length + n * z.length ≤ 16777216)
    (hq : ∀ t' k, Q (.str (replN x y z n) t') { s with toks := k }) : wpAny (model prog w) A (call (.builtin "str.replace") [.str x t, .str y u, .str z v, .int n k]) Q E s := by
  have hl : tooLong (x.length + (occurrences x y 0 x.length n).length * z.length) = false := by
    have h1 := StrLaws.occ_length_le x y 0 x.length n
    have h2 : (occurrences x y 0 x.length n).length * z.length ≤ n * z.length := Nat.mul_le_mul_right _ h1
    unfold tooLong sizeLine
    exact decide_eq_false (by omega)
  refine call_gives F.slot_str_replace (typeIs_str _ _ _) F.entry_str_replace (F.args_str_replace_4 _ _ _ _)
    (gives_replN x y z t u v k n hn (by simp [hu, hv]) (by simp [huv]) hyz hl) ?_
  have hq' := hq
  unfold replN at hq'
  cases hc : ((occurrences x y 0 x.length n).isEmpty || (y.length == 0 && z.length == 0))
  · rw [hc] at hq'
    simp only [Bool.false_eq_true, if_false] at hq' ⊢
    exact ⟨by have := glued_len (x := x) (z := z) y n; rw [sizeLine_eq]; omega, hq' _ _⟩
  · rw [hc] at hq'
    simp only [if_true] at hq' ⊢
    exact hq' t s.toks
inductive StrsE : List Expr → List Str → Prop
  | nil : StrsE [] []
  | cons {y : Str} {j : Nat} {p : Pos} {es : List Expr} {ys : List Str} : StrsE es ys → StrsE (.Constant (.str y) j p :: es) (y :: ys)
def strsAt : Nat → List Str → List Value
  | _, [] => []
  | t, y :: ys => .str y t :: strsAt (t + 1) ys
theorem strsAt_rel : ∀ (t : Nat) (ys : List Str), Vals (ys.map V.str) (strsAt t ys)
  | _, [] => .nil
  | t, y :: ys => .cons ⟨t, rfl⟩ (strsAt_rel (t + 1) ys)
theorem strsAt_at : ∀ {t : Nat} {ys : List Str} {k : Nat} {y : Str}, ys[k]? = some y → (strsAt t ys)[k]? = some (.str y (t + k))
  | _, [], _, _, h => by simp at h
  | t, z :: ys, 0, y, h => by simp at h; subst h; rfl
  | t, z :: ys, k + 1, y, h => by
    simp at h
    have := strsAt_at (t := t + 1) h
    rw [show t + (k + 1) = t + 1 + k by omega]
    exact this
section
variable {X : Cx} {pos : Pos}
theorem star_const {y : Str} {j : Nat} {p : Pos} {es : List Expr} {env : Env} : starEach (.Constant (.str y) j p :: es) env = (false, eval (.Constant (.str y) j p) env) :: starEach es env := by rfl
theorem back_cons {pos : Pos} {t : Sem Value} {l : List (Bool × Sem Value)} : backTo pos ((false, t) :: l) = (false, t) :: backTo pos l := rfl
theorem spl_strs {M : Model} {A : Around} {E : Value → Shared → Prop} : ∀ (es : List Expr) {ys : List Str} {s : Shared} {Q : List Value → Shared → Prop}, StrsE es ys → Q (strsAt s.toks ys) { s with toks := s.toks + ys.length } → wpAny M A (spliced (backTo pos (starEach es X.env))) Q E s := by
  intro es
  induction es with
  | nil =>
    intro ys s Q h q
    cases h
    exact Calls.spliced_nil q
  | cons e es ih =>
    intro ys s Q h q
    cases h with
    | @cons y j p _ zs h =>
    rw [star_const, back_cons]
    refine Calls.spliced_cons (Calls.Constant_str ?_)
    refine ih (s := { s with toks := s.toks + 1 }) h ?_
    show Q (.str y s.toks :: strsAt (s.toks + 1) zs) { s with toks := s.toks + 1 + zs.length }
    rw [show s.toks + 1 + zs.length = s.toks + (zs.length + 1) by omega]
    exact q
theorem strsAt_len : ∀ (t : Nat) (ys : List Str), (strsAt t ys).length = ys.length
  | _, [] => rfl
  | t, _ :: ys => congrArg (· + 1) (strsAt_len (t + 1) ys)
theorem raw_item {es : List Expr} {ys : List Str} {i : Expr} {ti : TE} {p1 p2 : Pos} {pins : List (Addr × Obj)} {s : Shared} {σ : L2.St} {H : Hp} {Q : Value → Shared → Prop} {R : Str → Hp → Prop} (hs : StrsE es ys) (hl : ys.length ≤ 1000) (hi : PE X i ti) (pi : PlainIx i) (I : Inv X pins σ H s)
    (h : ∀ a o, H a = none → ti σ (upd H a (.frz o (.lst (ys.map V.str)))) fun v H' => ∃ (k : Nat) (y : Str), v = .int k ∧ H' a = some (.frz o (.lst (ys.map V.str))) ∧ ys[k]? = some y ∧ R y H')
    (hq : ∀ y tk H' s', s.toks ≤ tk → tk < s.toks + ys.length → s.toks + ys.length ≤ s'.toks → Inv X pins σ H' s' → R y H' → Q (.str y tk) s') :
    wpAny (model X.prog X.w) X.A (eval (.Subscript (.List es p1) i p2) X.env) Q X.xe s := by
  refine PyProof.Rows.Subscript_ (wpAny_List_spliced (spl_strs es hs ?_))
  have h2 : (strsAt s.toks ys).length ≤ sizeLine := by rw [strsAt_len, sizeLine_eq]; omega
  refine ⟨h2, ?_⟩
  have hf : H s.heap.objs.size = none := I.hok.fresh (Nat.le_refl _)
  let o : Obj := { cls := .type "list", data := .seq (strsAt s.toks ys).toArray 0 }
  have I2 : Inv X pins σ (upd H s.heap.objs.size (.frz o (.lst (ys.map V.str)))) { s with heap := s.heap.push o, toks := s.toks + ys.length } :=
    I.laid (t' := s.toks + ys.length) (fun b u e => Heap.get?_push_of_some _ e) (Nat.le_refl _) ⟨Heap.get?_push_size _ rfl, by rw [List.length_map]; rw [strsAt_len] at h2; exact h2, strsAt s.toks ys, 0, strsAt_rel _ _, Heap.get?_push_size _ rfl⟩
  refine wpAny_mono (PySem.wpAny_toks (hi.run pins _ σ _ _ I2 (h _ o hf))) (fun v s3 q => ?_) fun _ _ z => z.2
  obtain ⟨hk, w, H3, I3, rw_, k, y, e, ha, hy, r⟩ := q
  subst e
  obtain ⟨tv, e⟩ := rw_
  subst e
  have hlt : k < ys.length := (List.getElem?_eq_some_iff.mp hy).1
  have hk : s.toks + ys.length ≤ s3.toks := hk
  have g := (I3.hok _ _ ha).1
  have hL : s3.heap.IsList s.heap.objs.size (strsAt s.toks ys).toArray := ⟨o, g, rfl, 0, rfl⟩
  refine PyProof.Rows.item_listR (k := (k : Int)) hL (by omega) (by omega) (by rw [Int.toNat_natCast, List.getElem?_toArray]; exact strsAt_at hy) ?_ (pi _ _)
  exact hq y _ H3 s3 (by omega) (by omega) hk I3 r
def tRepl (to : TE) (ys zs : List Str) (ti tj tn : TE) : TE := fun σ H Q => to σ H fun v H1 => ∃ x, v = .str x ∧ ∀ a o, H1 a = none → ti σ (upd H1 a (.frz o (.lst (ys.map V.str)))) fun v H2 => ∃ (k : Nat) (y : Str), v = .int k ∧ H2 a = some (.frz o (.lst (ys.map V.str))) ∧ ys[k]? = some y ∧
  ∀ b o', H2 b = none → tj σ (upd H2 b (.frz o' (.lst (zs.map V.str)))) fun v H3 => ∃ (k : Nat) (z : Str), v = .int k ∧ H3 b = some (.frz o' (.lst (zs.map V.str))) ∧ zs[k]? = some z ∧
  tn σ H3 fun v H4 => ∃ n : Nat, v = .int n ∧ (n : Int) < 2 ^ 62 ∧ (y == z) = false ∧ x.length + n * z.length ≤ 16777216 ∧ Q (.str (replN x y z n)) H4
theorem pet_repl {o i j n : Expr} {es fs : List Expr} {ys zs : List Str} {to ti tj tn : TE} {p1 p2 p3 p4 apos : Pos} (ho : PE X o to) (hs : StrsE es ys) (hl : ys.length ≤ 1000) (hi : PE X i ti) (pi : PlainIx i) (hs2 : StrsE fs zs) (hl2 : zs.length ≤ 1000) (hj : PE X j tj) (pj : PlainIx j) (hn : PE X n tn)
    (hst : starEach [.Subscript (.List es p1) i p2, .Subscript (.List fs p3) j p4, n] X.env = [(false, eval (.Subscript (.List es p1) i p2) X.env), (false, eval (.Subscript (.List fs p3) j p4) X.env), (false, eval n X.env)])
    (hbase : attributeBase o "replace" X.env (eval o X.env) = eval o X.env) (hline : (apos.endLine == pos.line) = true) :
    PET X (.Call (.Attribute o "replace" apos) [.Subscript (.List es p1) i p2, .Subscript (.List fs p3) j p4, n] [] pos) (tRepl to ys zs ti tj tn) := by
  intro pins s σ H Q h0 I h
  refine wpAny_Call_method_lateS hbase (by rw [hst]; rfl) hline ?_
  rw [hst]
  refine wpAny_mono (PySem.wpAny_toks (ho.run pins s σ H _ I h)) (fun v s1 q => ?_) fun _ _ z => z.2
  obtain ⟨hk, v', H1, I1, r1, x, e1, q⟩ := q
  subst e1
  obtain ⟨tx, e2⟩ := r1
  subst e2
  refine ⟨"str", _, PySem.F.plainAttrs_str, PySem.F.slot_str_replace, PySem.F.type_str_replace, typeIs_str _ _ _, (fun _ e => nomatch e), Calls.callWith_builtin rfl (Calls.evalArgs_plain (Calls.spliced_cons ?_))⟩
  refine raw_item hs hl hi pi I1 q fun y tk H2 s2 k1 k2 k3 I2 q2 => ?_
  refine Calls.spliced_cons (raw_item hs2 hl2 hj pj I2 q2 fun z tk2 H3 s3 l1 l2 l3 I3 q3 => ?_)
  refine Calls.spliced_cons (thn (hn.run pins s3 σ H3 _ I3 q3) fun w s4 ⟨vn, H4, I4, r4, m, e, hm, hyz, hb, q4⟩ => ?_)
  subst e
  obtain ⟨tm, e⟩ := r4
  subst e
  refine Calls.spliced_nil ?_
  have n1 : tk ≠ 0 := by omega
  have n2 : tk2 ≠ 0 := by omega
  have n3 : tk ≠ tk2 := by omega
  exact sc_replN hm n1 n2 n3 hyz hb fun t' k => ⟨.str (replN x y z m), H4, I4.tok k, ⟨t', rfl⟩, q4⟩
theorem pt_tok {a : Expr} {op : CmpOp} {c : Int} {j : Nat} {p : Pos} {r : R2} {ta : TE} (ho : OpR X (compareOp op) r) (ha : PE X a ta) (hm : behindInMarks op (.Constant (.int c) j p) = false) {pins : List (Addr × Obj)} {s : Shared} {σ : L2.St} {H : Hp} {Q : Bool → Hp → Prop} (I : Inv X pins σ H s)
    (h : tTest (tOp r ta (tC (.int c))) σ H Q) : wpAny (model X.prog X.w) X.A (isTrue (.Compare a [op] [.Constant (.int c) j p] pos) X.env (eval (.Compare a [op] [.Constant (.int c) j p] pos) X.env)) (fun b s1 => 1 ≤ s1.toks ∧ TP X pins σ Q b s1) X.xe s := by
  refine wpAny_isTrue_Compare1 (thn (ha.run pins s σ H _ I h) fun v s1 ⟨x, H1, I1, r1, q1⟩ => wpAny_Constant_int ?_) hm
  refine wpAny_mono (PySem.wpAny_toks (ho pins _ σ H1 x (.int c) v _ _ (I1.tok (s1.toks + 1)) r1 ⟨_, rfl⟩ q1)) (fun d s3 q => ?_) fun _ _ z => z.2
  obtain ⟨hk, z, H3, I3, r3, k, e, q3⟩ := q
  subst e
  cases r3
  exact wpAny_truthy_bool ⟨Nat.le_trans (Nat.le_add_left 1 _) hk, H3, I3, q3⟩
theorem ps_ifRet {a e : Expr} {op : CmpOp} {c : Int} {j : Nat} {p p2 p3 : Pos} {r : R2} {ta te : TE} (ho : OpR X (compareOp op) r) (ha : PE X a ta) (hm : behindInMarks op (.Constant (.int c) j p) = false) (he : PET X e te) :
    PS X (.If (.Compare a [op] [.Constant (.int c) j p] p2) [.Return (some e) p3] [] pos) (tIfS (tTest (tOp r ta (tC (.int c)))) (tSeq (tRet te) tNext) tNext) := by
  refine ⟨fun pins s σ H D I h => ?_⟩
  refine wpAny_If (thn (pt_tok ho ha hm I h) fun d s1 ⟨hk, H1, I1, q1⟩ => ?_)
  cases d with
  | true => exact CwR.psst_one (CwR.pst_ret he) pins s1 σ H1 D hk I1 q1
  | false => exact pss_nil.run pins s1 σ H1 D I1 q1
end
def eRepT (a : EP) (ys zs : List Str) (da db dn : ES) : ES := fun x δ q => a x δ fun d => strK d fun w => da x δ fun s => s.nm fun i => 0 ≤ i ∧ optK (ys[i.toNat]?) fun y => db x δ fun t => t.nm fun j => 0 ≤ j ∧ optK (zs[j.toNat]?) fun z => dn x δ fun r => r.nm fun n =>
  (0 ≤ n ∧ n ≤ 1000000) ∧ y ≠ z ∧ w.length + n.toNat * z.length ≤ 16777216 ∧ q (.val (.str (replN w y z n.toNat)))
variable [HotA]
structure JET (X : Cx) (W : WX) (e : Expr) (de : ES) : Prop where
  ex : ∃ te, PET X e te ∧ Snd X.K X.mg W (RE X.K) te de
section
variable {X : Cx} {W : WX} {pos : Pos}
theorem jet_rep {o i j n : Expr} {es fs : List Expr} {ys zs : List Str} {da : EP} {di dj dn : ES} {p1 p2 p3 p4 apos : Pos} (ha : JP X W o da) (hi : JE X W i di) (hj : JE X W j dj) (hn : JE X W n dn)
    (hs : StrsE es ys := by exact .cons (.cons (.cons (.cons (.cons .nil))))) (hs2 : StrsE fs zs := by exact .cons (.cons (.cons (.cons (.cons .nil))))) (hl : ys.length ≤ 1000 := by decide) (hl2 : zs.length ≤ 1000 := by decide) (pi : PlainIx i := by exact fun _ _ => rfl) (pj : PlainIx j := by exact fun _ _ => rfl)
    (hst : starEach [.Subscript (.List es p1) i p2, .Subscript (.List fs p3) j p4, n] X.env = [(false, eval (.Subscript (.List es p1) i p2) X.env), (false, eval (.Subscript (.List fs p3) j p4) X.env), (false, eval n X.env)] := by rfl)
    (hbase : attributeBase o "replace" X.env (eval o X.env) = eval o X.env := by rfl) (hline : (apos.endLine == pos.line) = true := by rfl) :
    JET X W (.Call (.Attribute o "replace" apos) [.Subscript (.List es p1) i p2, .Subscript (.List fs p3) j p4, n] [] pos) (eRepT da ys zs di dj dn) := by
  obtain ⟨ta, pa, sa⟩ := ha.ex
  obtain ⟨ti, pi', si⟩ := hi.ex
  obtain ⟨tj, pj', sj⟩ := hj.ex
  obtain ⟨tn, pn, sn⟩ := hn.ex
  refine ⟨_, pet_repl pa hs hl pi' pi hs2 hl2 pj' pj pn hst hbase hline, fun O H H0 σ δ x q Q so env hx hq g => ?_⟩
  refine sa O H H0 σ δ x _ _ so env hx (fun v O1 H1 d u1 r1 g1 => ?_) g
  unfold strK at g1
  split at g1
  · rename_i w
    cases r1
    refine ⟨w, rfl, fun a o hf => ?_⟩
    have u1 := u1.trans (.own u1.oh hf (.frz o (.lst (ys.map V.str))))
    refine si O1 _ H0 σ δ x _ _ u1.oh (env.up u1) (fun e cls d O' H' u' => hx e cls d O' H' (u1.trans u')) (fun v O2 H2 s u2 r2 g2 => ?_) g1
    obtain ⟨i, rfl, i0, g2⟩ := nm_iff g2
    obtain ⟨y, hy, g2⟩ := optK_iff g2
    cases r2
    refine ⟨i.toNat, y, by rw [Int.toNat_of_nonneg i0], u2.h.at upd_same, hy, fun b o' hf => ?_⟩
    have u2 := (u1.trans u2).trans (.own u2.oh hf (.frz o' (.lst (zs.map V.str))))
    refine sj O2 _ H0 σ δ x _ _ u2.oh (env.up u2) (fun e cls d O' H' u' => hx e cls d O' H' (u2.trans u')) (fun v O3 H3 s u3 r3 g3 => ?_) g2
    obtain ⟨j, rfl, j0, g3⟩ := nm_iff g3
    obtain ⟨z, hz, g3⟩ := optK_iff g3
    cases r3
    refine ⟨j.toNat, z, by rw [Int.toNat_of_nonneg j0], u3.h.at upd_same, hz, ?_⟩
    have u3 := u2.trans u3
    refine sn O3 H3 H0 σ δ x _ _ u3.oh (env.up u3) (fun e cls d O' H' u' => hx e cls d O' H' (u3.trans u')) (fun v O4 H4 s u4 r4 g4 => ?_) g3
    obtain ⟨n, rfl, n0, hyz, hb, g4⟩ := nm_iff g4
    cases r4
    exact ⟨n.toNat, by rw [Int.toNat_of_nonneg n0.1], by omega, by simpa using hyz, hb, hq _ O4 H4 (.val (.str _)) (u3.trans u4) (.str _) g4⟩
  · exact g1.elim
theorem js_ifRep {a e : Expr} {op : CmpOp} {c : Int} {j : Nat} {p p2 p3 : Pos} {rd : R2D} {da : EP} {de : ES} (ho : OpS X (compareOp op) rd) (ha : JP X W a da) (he : JET X W e de) (hm : behindInMarks op (.Constant (.int c) j p) = false) :
    JS X W (.If (.Compare a [op] [.Constant (.int c) j p] p2) [.Return (some e) p3] [] pos) (sIf (tV (eOp rd da (pE (eC (.int c))))) (sRet de) sNext) := by
  obtain ⟨r, hr, hs⟩ := ho
  obtain ⟨ta, pa, sa⟩ := ha.ex
  obtain ⟨te, pe, se⟩ := he.ex
  have hb : Snd X.K X.mg W (RP X.K) (tC (.int c)) (pE (eC (.int c))) := fun O H _ _ _ _ _ _ so _ _ hq h => hq (.int c) O H (.int c) (.refl so) (.int c) h
  refine ⟨_, ps_ifRet hr pa hm pe, fun O0 H0 O H σ δ D Dd u env er g => ?_⟩
  refine snd_test (snd_two sa hb (R := RE X.K) (r := r) (fun _ _ _ _ _ _ e => SRep.back e) hs) O H H0 σ δ _ _ _ u.oh env (er.xe u env) (fun b O1 H1 b' u1 rb g1 => ?_) g
  have rb : b = b' := rb
  subst rb
  cases b with
  | true =>
    refine se O1 H1 H0 σ δ _ _ _ u1.oh (env.up u1) (fun e cls d O' H' u' xr z => er.xe u env e cls d O' H' (u1.trans u') xr z) (fun v O2 H2 s u2 r2 g2 => ?_) g1
    exact er.rt O2 H2 v s ((u.trans u1).trans u2) (r2.back ((u.trans u1).h)) g2
  | false => exact er.nx O1 H1 σ δ (u.trans u1) (env.up u1) g1
end
theorem u_eRepT {a : EP} {ys zs : List Str} {da db dn : ES} {x : XP} {δ : List S} {q : S → Prop} : eRepT a ys zs da db dn x δ q = a x δ fun d => strK d fun w => da x δ fun s => s.nm fun i => 0 ≤ i ∧ optK (ys[i.toNat]?) fun y => db x δ fun t => t.nm fun j => 0 ≤ j ∧ optK (zs[j.toNat]?) fun z => dn x δ fun r => r.nm fun n =>
  (0 ≤ n ∧ n ≤ 1000000) ∧ y ≠ z ∧ w.length + n.toNat * z.length ≤ 16777216 ∧ q (.val (.str (replN w y z n.toNat))) := (rfl)
end DL

namespace DL
open PySem L2
def dlD := And.intro @w_strC (And.intro @u_eM1 (And.intro @w_strK (And.intro @u_cEnds (And.intro @u_cFind (And.intro @u_cSplit (And.intro @w_intT1 (And.intro @w_intT2 (And.intro @w_intT3 (And.intro @w_notinT (And.intro @w_inTK1 (And.intro @w_inTK2 (And.intro @w_inTK3 (And.intro @w_txtN (And.intro @w_txtC (And.intro @w_txtM (And.intro @u_iStrD (And.intro @u_eRepT (And.intro @w_tx (And.intro @u_eDnewT (And.intro @u_sPutT (And.intro @u_eGetT (And.intro @u_eInT (And.intro @w_dctKT (And.intro @u_sAppPop (And.intro @u_eCall0 (And.intro @u_sTry (And.intro @w_hands0 (And.intro @w_hands1 (And.intro @w_atE1 (And.intro @w_atE0 (And.intro @w_afterE (And.intro @w_goneE1 (And.intro @w_goneE0 (And.intro @u_eIsE (And.intro @w_excK (And.intro @u_eCnt (And.intro @w_lstK (And.intro @w_blK (And.intro @u_eVar (And.intro @u_pVar (And.intro @u_pE (And.intro @u_eC (And.intro @u_eOp (And.intro @u_eUn (And.intro @u_tV (And.intro @u_tAnd (And.intro @u_tOr (And.intro @u_tNot (And.intro @u_eAnd (And.intro @u_eNot (And.intro @u_aNil (And.intro @u_aCons (And.intro @u_apNil (And.intro @u_apCons (And.intro @u_eTup (And.intro @u_eLst (And.intro @u_eCall (And.intro @u_eB (And.intro @u_sNext (And.intro @u_sSeq (And.intro @u_gVar (And.intro @u_gVal (And.intro @u_sAsg (And.intro @u_sDrop (And.intro @u_sRet (And.intro @u_sRetOwn (And.intro @u_sIf (And.intro @u_sRaise (And.intro @u_sFrz (And.intro @u_sApp (And.intro @u_sSet (And.intro @u_iVal (And.intro @u_iRng1 (And.intro @u_eIsi (And.intro @u_tYesD (And.intro @u_body (And.intro @u_sFor (And.intro @u_sWhile (And.intro @u_sCut (And.intro @u_oNo (And.intro @u_oSome (And.intro @u_eSlice (And.intro @w_cut1 (And.intro @w_cut2 (And.intro @w_cut3 (And.intro @u_sCallM (And.intro @w_ob (And.intro @w_fr3 (And.intro @w_any3 (And.intro @w_am0 (And.intro @w_am1 (And.intro @w_am2 (And.intro @w_back0 (And.intro @w_back1 (And.intro @w_back2 (And.intro @u_eComp (And.intro @w_fr1 (And.intro @w_fr2 (And.intro @w_pk1 (And.intro @w_pk2 (And.intro @w_var (And.intro @w_bl (And.intro @w_nm (And.intro @w_ow (And.intro @w_any1 (And.intro @w_any2 (And.intro @w_seq1 (And.intro @w_seq2 (And.intro @w_num (And.intro @w_opt (And.intro @w_int (And.intro @w_int0 (And.intro @w_add1 (And.intro @w_add2 (And.intro @w_add3 (And.intro @w_add4 (And.intro @w_eq1 (And.intro @w_eq2 (And.intro @w_eq3 (And.intro @w_eq4 (And.intro @w_eq5 (And.intro @w_eq6 (And.intro @w_ne1 (And.intro @w_ne2 (And.intro @w_ne3 (And.intro @w_ne4 (And.intro @w_ne5 (And.intro @w_isN (And.intro @w_ix1 (And.intro @w_ix2 (And.intro @w_ix3 (And.intro @w_len1 (And.intro @w_len2 (And.intro @w_len3 (And.intro @w_abs (And.intro @w_all (And.intro @w_tuple (And.intro @w_neg (And.intro @w_flat1 (And.intro @w_flat2 (And.intro @w_flat3 (And.intro @w_flat4 (And.intro @w_lk0 (And.intro @w_lks (And.intro @w_put0 (And.intro @w_puts (And.intro @w_wipe0 (And.intro @w_wipe1 (And.intro @w_all2a (And.intro @w_all2b (And.intro @u_elK (And.intro @w_fmod (@w_fdiv)))))))))))))))))))))))))))))))))))))))))))))))))))))))))))))))))))))))))))))))))))))))))))))))))))))))))))))))))))))))))))))))))))))))))))))))))))))))))
def dlP := And.intro @rng_15 (And.intro @eqv_b (And.intro @eqv_s (And.intro @eqv_nn (And.intro @eqv_cn (And.intro @eqv_nc (And.intro @w_excD0 (And.intro @w_excD1 (And.intro @nd_i (And.intro @nd_b (And.intro @nd_s (And.intro @nd_l (And.intro @nd_t (And.intro @nd_n (And.intro @w_ixS (And.intro @rng_4 (And.intro @rng_5 (And.intro @rng_9 (And.intro @w_flatI (And.intro @w_flatL (And.intro @w_flatT (And.intro @atI_m1 (And.intro @atI_m2 (And.intro @w_objS0 (And.intro @w_objS1 (And.intro @w_objS2 (And.intro @atI_0 (And.intro @atI_1 (And.intro @atI_2 (And.intro @atI_3 (And.intro @atI_4 (And.intro @atI_5 (And.intro @setK_0 (And.intro @setK_1 (And.intro @setK_2 (And.intro @eqv_i (And.intro @eqv_l (And.intro @eqv_t (And.intro @eqv_c (And.intro @eqv_n (And.intro @eqvAll_ints_iff (And.intro @w_bools1 (And.intro @w_bools2 (And.intro @rng_0 (And.intro @rng_1 (And.intro @rng_2 (And.intro @rng_3 (And.intro @rng_6 (And.intro @w_id1 (And.intro @w_id2 (And.intro @w_id3 (And.intro @rng3 (And.intro @isD_int (And.intro @isD_int_bool (And.intro @isD_tuple (And.intro @isD_list (@isD_str))))))))))))))))))))))))))))))))))))))))))))))))))))))))
local macro_rules | `(tactic| walk_at "dl") => `(tactic| (simp (maxSteps := 10000000) (disch := omega) only [↓dlD, dlP, List.mem_cons, List.not_mem_nil, or_false, sizeLine_eq, Nat.reduceLeDiff, startD, isNon, Bool.and_true, Bool.and_eq_true, List.all_cons, List.all_nil, List.any_cons, List.any_nil, id_eq, Bool.and_self, Bool.or_false, Bool.or_true, decide_true, decide_false, Option.map_some, Option.some.injEq, List.map, List.length, List.replicate, List.append, List.cons_append, List.nil_append, Nat.sub_self, Nat.reduceSub, Nat.reduceAdd, reduceCtorEq, PyData.int.injEq, decide_eq_true_eq, Bool.not_eq_true', decide_eq_false_iff_not, Bool.not_true, Bool.not_false, if_true, if_false, Bool.false_eq_true, ne_eq, Int.reduceLE, Int.reduceLT, Int.reduceEq, Nat.reduceLT, Int.cast_ofNat_Int, Int.reducePow, Int.reduceToNat, Int.reduceMul, Int.reduceAdd, Int.reduceSub, Int.reduceNeg, Int.reduceMod, Int.reduceDiv, Int.reduceGT, Int.reduceGE, Int.reduceNe, not_false_eq_true, not_true_eq_false, forall_eq', exists_eq_left', eq_self, true_and, and_true]; try simp only [List.cons.injEq, S.val.injEq, PyData.int.injEq, w_ex1, w_ex2, w_ex3, true_and, and_true]))
local macro_rules | `(tactic| walk_at "szx") => `(tactic| first | with_reducible assumption | (with_reducible refine (?_ : Sz 3 _); decide +kernel) | (with_reducible refine (?_ : Sz 8 _); decide +kernel) | (with_reducible refine (?_ : Sz 16 _); decide +kernel) | (with_reducible refine (?_ : Sz 32 _); decide +kernel) | (with_reducible refine (?_ : Sz 64 _); decide +kernel) | (with_reducible refine (?_ : Sz 128 _); decide +kernel) | (with_reducible refine (?_ : Sz 202 _); decide +kernel) | (with_reducible refine (?_ : Sz 256 _); decide +kernel) | (with_reducible refine (?_ : Sz 340 _); decide +kernel) | (with_reducible refine (?_ : Sz 512 _); decide +kernel) | (with_reducible refine (?_ : Sz 1024 _); decide +kernel) | (with_reducible refine (?_ : Sz 4096 _); decide +kernel) | (with_reducible show Sz _ (_ * _); with_reducible exact Sz.mul (by walk_at "szx") (by walk_at "szx")) | (with_reducible show Sz _ (_ + _); with_reducible exact Sz.add (by walk_at "szx") (by walk_at "szx")) | (with_reducible show Sz _ (_ - _); with_reducible exact Sz.sub (by walk_at "szx") (by walk_at "szx")) | (with_reducible show Sz _ (- _); with_reducible exact Sz.neg (by walk_at "szx")) | (with_reducible show Sz _ (_ % _); with_reducible exact Sz.emod (by first | decide +kernel | omega) (by walk_at "szx")) | (with_reducible show Sz _ (_ / _); with_reducible exact Sz.ediv (by walk_at "szx")) | (with_reducible show Sz _ (Int.fdiv _ _); with_reducible exact Sz.fdiv (by walk_at "szx")) | (with_reducible show Sz _ (Int.fmod _ _); with_reducible exact Sz.fmod (by walk_at "szx") (by walk_at "szx")) | (with_reducible show Sz _ (if _ then _ else _); with_reducible exact Sz.ite (by walk_at "szx") (by walk_at "szx")))
local macro_rules | `(tactic| walk_at "sz") => `(tactic| first | omega | decide +kernel | exact CPow.of (by decide) (by decide +kernel) | exact DivOk.of (n := 64) (by decide) (by decide +kernel) (by decide) | exact IntMulOk.of_left (by decide +kernel) | exact IntMulOk.of_right (by decide +kernel) | exact IntMulOk.of_le (by walk_at "szx") (by walk_at "szx") (by first | omega | decide +kernel) | exact Sz.mono (by walk_at "szx") (by first | omega | decide +kernel) | exact DivOk.of (by omega) (by walk_at "szx") (by first | omega | decide +kernel) | assumption | exact shaped_ints | exact shaped_intsT | exact shaped_parts | (show shapedB _ = true; rfl) | walk_at "shp" | (have z := sizeLine_eq; omega))
local macro_rules | `(tactic| walk_at "szs") => `(tactic| repeat ((with_reducible refine And.intro ?_ ?_); (· walk_at "sz")))
local macro_rules | `(tactic| walk_at "szd") => `(tactic| ((repeat' (with_reducible apply And.intro)) <;> walk_at "sz"))
local macro_rules | `(tactic| walk_at "cl") => `(tactic| repeat' (first | exact cl_0 | refine cl_c ?_ ?_ | exact cl_i | exact cl_b | exact cl_n | refine cl_l ?_ | refine cl_t ?_ | (refine cl_m fun _ _ => ?_) | exact cl_s (by decide +kernel)))
local macro_rules | `(tactic| walk_at "shp") => `(tactic| (with_reducible refine shp ?_ ?_; (· walk_at "cl"); (· simp [PyData.depth, PyData.depthAll])))
local macro_rules | `(tactic| walk_at "chk") => `(tactic| repeat ((with_reducible refine And.intro ?_ ?_); (· first | assumption | ((with_reducible refine And.intro ?_ ?_) <;> walk_at "sz") | walk_at "sz")))

theorem mem_NoText : (("NoText" : Str) ∈ (["NoText"] : List Str)) = True := eq_true (by decide)
theorem sub_NoText_CurveError : subE "NoText" "CurveError" = true := (by decide)
theorem sub_NoText_NoNumber : subE "NoText" "NoNumber" = false := (by decide)
theorem sub_NoText_NoBack : subE "NoText" "NoBack" = false := (by decide)
theorem sub_NoText_NoJoin : subE "NoText" "NoJoin" = false := (by decide)
theorem sub_NoText_NoSign : subE "NoText" "NoSign" = false := (by decide)
theorem sub_NoText_NotPlain : subE "NoText" "NotPlain" = false := (by decide)
theorem sub_NoText_NoPlace : subE "NoText" "NoPlace" = false := (by decide)
theorem sub_NoText_BadPlace : subE "NoText" "BadPlace" = false := (by decide)
theorem sub_NoText_NoVertex : subE "NoText" "NoVertex" = false := (by decide)
theorem sub_NoText_Flat : subE "NoText" "Flat" = false := (by decide)
theorem sub_NoText_OffCurve : subE "NoText" "OffCurve" = false := (by decide)
theorem sub_NoText_NoPair : subE "NoText" "NoPair" = false := (by decide)
theorem sub_NoText_NoLine : subE "NoText" "NoLine" = false := (by decide)
theorem sub_NoText_NoText : subE "NoText" "NoText" = true := (by decide)
theorem sub_NoText_NoRow : subE "NoText" "NoRow" = false := (by decide)
theorem sub_NoText_NoName : subE "NoText" "NoName" = false := (by decide)
theorem sub_NoText_ValueError : subE "NoText" "ValueError" = true := (by decide)
def dlE0 := And.intro @mem_NoText (And.intro @sub_NoText_CurveError (And.intro @sub_NoText_NoNumber (And.intro @sub_NoText_NoBack (And.intro @sub_NoText_NoJoin (And.intro @sub_NoText_NoSign (And.intro @sub_NoText_NotPlain (And.intro @sub_NoText_NoPlace (And.intro @sub_NoText_BadPlace (And.intro @sub_NoText_NoVertex (And.intro @sub_NoText_Flat (And.intro @sub_NoText_OffCurve (And.intro @sub_NoText_NoPair (And.intro @sub_NoText_NoLine (And.intro @sub_NoText_NoText (And.intro @sub_NoText_NoRow (And.intro @sub_NoText_NoName (@sub_NoText_ValueError)))))))))))))))))
local macro_rules | `(tactic| walk_at "dl") => `(tactic| (simp (maxSteps := 10000000) (disch := omega) only [↓dlD, dlP, List.mem_cons, List.not_mem_nil, or_false, sizeLine_eq, Nat.reduceLeDiff, startD, isNon, Bool.and_true, Bool.and_eq_true, List.all_cons, List.all_nil, List.any_cons, List.any_nil, id_eq, Bool.and_self, Bool.or_false, Bool.or_true, decide_true, decide_false, Option.map_some, Option.some.injEq, List.map, List.length, List.replicate, List.append, List.cons_append, List.nil_append, Nat.sub_self, Nat.reduceSub, Nat.reduceAdd, reduceCtorEq, PyData.int.injEq, decide_eq_true_eq, Bool.not_eq_true', decide_eq_false_iff_not, Bool.not_true, Bool.not_false, if_true, if_false, Bool.false_eq_true, ne_eq, Int.reduceLE, Int.reduceLT, Int.reduceEq, Nat.reduceLT, Int.cast_ofNat_Int, Int.reducePow, Int.reduceToNat, Int.reduceMul, Int.reduceAdd, Int.reduceSub, Int.reduceNeg, Int.reduceMod, Int.reduceDiv, Int.reduceGT, Int.reduceGE, Int.reduceNe, not_false_eq_true, not_true_eq_false, forall_eq', exists_eq_left', eq_self, true_and, and_true, dlE0]; try simp only [List.cons.injEq, S.val.injEq, PyData.int.injEq, w_ex1, w_ex2, w_ex3, true_and, and_true]))
noncomputable def b_read_figures : ST := (sSeq (sIf (tOr (tV (eOp rEqD (pVar 0) (pE (eC (.str ""))))) (tOr (tV (eOp rEqD (pVar 0) (pE (eC (.str "1"))))) (tOr (tV (eOp rEqD (pE (eOp rIxD (pVar 0) (pE (eC (.int 0))))) (pE (eC (.str "0"))))) (tV (eOp rGtD (pE (eB rLenD (apCons (pVar 0) apNil))) (pE (eC (.int 6)))))))) (sRaise "NoText") sNext) (sSeq (sFor (iStrD (eVar 0)) (gVal 1) (sIf (tV (eOp rNotInTD (pVar 1) (pE (eC (.str "0123456789"))))) (sRaise "NoText") sNext)) (sRet (eB rIntTD (apCons (pVar 0) apNil)))))
/-! read_figures: slots word sign -/
def p_read_figures : DSp := fun ds x q => ∃ (w : Str), ds = [.str w] ∧ (w.length ≤ 16777216 ∧ (numW w = none → x ⟨"NoText", none⟩) ∧ (∀ n, numW w = some n → q (.val (.int n))))
theorem len_read_figures : ∀ ds x q, p_read_figures ds x q → ds.length = 1 := by
  rintro ds x q ⟨w, rfl, _⟩
  rfl
theorem w_read_figures {w : Str} {x : XP} {q : S → Prop} : @callK p_read_figures [.str w] x ⟨q⟩ = (w.length ≤ 16777216 ∧ (numW w = none → x ⟨"NoText", none⟩) ∧ (∀ n, numW w = some n → q (.val (.int n)))) := propext ⟨fun h => by
  obtain ⟨w', e, h⟩ := h
  simp only [List.cons.injEq, PyData.list.injEq, PyData.tuple.injEq, PyData.int.injEq, PyData.str.injEq, PyData.bool.injEq, ints_inj, parts_inj, and_true, and_assoc] at e
  obtain ⟨rfl⟩ := e
  exact h, fun h => ⟨_, rfl, h⟩⟩
--simp w_read_figures
theorem spec_read_figures : ∀ ds x q, p_read_figures ds x q → bodyD 2 b_read_figures ds x q := by
  rintro ds x q ⟨w, rfl, hl, hx, h⟩
  unfold b_read_figures
  walk_at "dl"
  have none : (w = "" ∨ w = "1" ∨ w.cps.toList.head? = some 48 ∨ 6 < w.length ∨ w.cps.toList.all digC = false) → numW w = none := fun k => by unfold numW; rw [if_pos k]
  refine if_pn (fun k => hx (none (.inl k))) fun n1 => if_pn (fun k => hx (none (.inr (.inl k)))) fun n2 => ⟨hl, ?_⟩
  obtain ⟨c, r, e⟩ : ∃ c r, w.cps.toList = c :: r := by
    cases e : w.cps.toList with
    | nil => exact absurd (TL.ext_tl (by show w.cps.toList = _; rw [e]; rfl)) n1
    | cons c r => exact ⟨c, r, rfl⟩
  rw [e]
  walk_at "dl"
  refine if_pn (fun k => hx (none (.inr (.inr (.inl (by
    rw [e]
    have := congrArg TL.tl k
    have e0 : TL.tl ("0" : Str) = [48] := by decide +kernel
    rw [e0] at this
    injection this with this
    rw [this]
    rfl)))))) fun n3 => ⟨hl, if_pn (fun k => hx (none (.inr (.inr (.inr (.inl (by omega))))))) fun n4 => ?_⟩
  refine for_maps (as := w.cps.toList) (en := fun c => .str ⟨#[c]⟩) (fun done rest δ' => ∃ s1 : S, δ' = [.val (.str w), s1] ∧ w.cps.toList = done ++ rest ∧ done.all digC = true) ⟨_, rfl, rfl, rfl⟩ (fun done t rest δ' ha w' => ?_) fun δ' w' => ?_
  · obtain ⟨s1, rfl, _, hd⟩ := w'
    walk_at "dl"
    refine ⟨t, rfl, ?_⟩
    have di := dig_in (c := t)
    by_cases dt : t ∈ ("0123456789" : Str).cps.toList
    · rw [decide_eq_true dt] at di
      rw [if_neg (fun k => k dt)]
      exact ⟨_, rfl, by rw [ha]; simp, by rw [List.all_append, hd]; simp [← di]⟩
    · rw [decide_eq_false dt] at di
      rw [if_pos dt]
      exact hx (none (.inr (.inr (.inr (.inr (by rw [ha, List.all_append, List.all_cons, ← di]; simp))))))
  · obtain ⟨s1, rfl, ed, hd⟩ := w'
    walk_at "dl"
    have hs : ∃ n, numW w = some n := by
      unfold numW
      rw [if_neg]
      · exact ⟨_, rfl⟩
      rintro (k | k | k | k | k)
      · exact n1 k
      · exact n2 k
      · rw [e] at k
        injection k with k
        subst k
        exact n3 (TL.ext_tl (by decide +kernel))
      · omega
      · rw [hd] at k; cases k
    obtain ⟨n, hn⟩ := hs
    obtain ⟨i1, i2⟩ := numW_int hn
    rw [i1]
    walk_at "dl"
    exact ⟨by omega, h n hn⟩

local macro_rules | `(tactic| walk_at "dl") => `(tactic| (simp (maxSteps := 10000000) (disch := omega) only [↓dlD, dlP, List.mem_cons, List.not_mem_nil, or_false, sizeLine_eq, Nat.reduceLeDiff, startD, isNon, Bool.and_true, Bool.and_eq_true, List.all_cons, List.all_nil, List.any_cons, List.any_nil, id_eq, Bool.and_self, Bool.or_false, Bool.or_true, decide_true, decide_false, Option.map_some, Option.some.injEq, List.map, List.length, List.replicate, List.append, List.cons_append, List.nil_append, Nat.sub_self, Nat.reduceSub, Nat.reduceAdd, reduceCtorEq, PyData.int.injEq, decide_eq_true_eq, Bool.not_eq_true', decide_eq_false_iff_not, Bool.not_true, Bool.not_false, if_true, if_false, Bool.false_eq_true, ne_eq, Int.reduceLE, Int.reduceLT, Int.reduceEq, Nat.reduceLT, Int.cast_ofNat_Int, Int.reducePow, Int.reduceToNat, Int.reduceMul, Int.reduceAdd, Int.reduceSub, Int.reduceNeg, Int.reduceMod, Int.reduceDiv, Int.reduceGT, Int.reduceGE, Int.reduceNe, not_false_eq_true, not_true_eq_false, forall_eq', exists_eq_left', eq_self, true_and, and_true, dlE0, w_read_figures]; try simp only [List.cons.injEq, S.val.injEq, PyData.int.injEq, w_ex1, w_ex2, w_ex3, true_and, and_true]))
noncomputable def b_put_term : ST := (sSeq (sAsg (eC (.int 1)) (gVal 3)) (sCut (sIf (tV (eOp rEqD (pE (eB rLenD (apCons (pVar 2) apNil))) (pE (eC (.int 2))))) (sAsg (eCall p_read_figures (aCons (eOp rIxD (pVar 2) (pE (eC (.int 0)))) aNil)) (gVal 3)) sNext) (sSeq (sIf (tOr (tV (eOp rNotInTD (pE (eOp rIxD (pVar 2) (pE (eUn rNegD (pE (eC (.int 1))))))) (pE (eC (.tuple [(.str "xx"), (.str "yy"), (.str "zz"), (.str "yz"), (.str "xz"), (.str "xy")]))))) (tV (eInT 0 (eOp rIxD (pVar 2) (pE (eUn rNegD (pE (eC (.int 1))))))))) (sRaise "NoText") sNext) (sPutT 0 (eOp rIxD (pVar 2) (pE (eUn rNegD (pE (eC (.int 1)))))) (eOp rMulD (pVar 1) (pVar 3))))))
/-! put_term: slots found sign words number -/
theorem encF_inj : ∀ {m n : FT}, encF m = encF n → m = n
  | [], [], _ => rfl
  | [], _ :: _, e => nomatch e
  | _ :: _, [], e => nomatch e
  | (i, d) :: m, (j, c) :: n, e => by
    unfold encF at e
    rw [List.map_cons, List.map_cons] at e
    injection e with e1 e2
    injection e1 with e3 e4
    injection e4 with e4
    have e3 : i = j := e3
    have e4 : d = c := e4
    rw [e3, e4, encF_inj (m := m) (n := n) e2]
theorem txts_inj : ∀ {m n : List Str}, m.map PyData.str = n.map PyData.str → m = n
  | [], [], _ => rfl
  | [], _ :: _, e => nomatch e
  | _ :: _, [], e => nomatch e
  | i :: m, j :: n, e => by
    rw [List.map_cons, List.map_cons] at e
    injection e with e1 e2
    injection e1 with e1
    rw [e1, txts_inj e2]
def p_put_term : MSp := fun ss x q => ∃ (v : V) (fp : List Addr) (m : FT) (s : Int) (ws : List Str), ss = [.obj v (encDT (encF m)) fp, .val (.int s), .val (.list (ws.map PyData.str))] ∧ (s = 1 ∨ s = -1) ∧ (ws.length = 1 ∨ ws.length = 2) ∧ (m.length ≤ 1000000 ∧ ∀ w ∈ ws, w.length ≤ 16777216) ∧ (termW m s ws = none → x ⟨"NoText", none⟩) ∧ (∀ m', termW m s ws = some m' → q (.val .none) [.obj v (encDT (encF m')) fp, .no, .no])
theorem len_put_term : ∀ ss x q, p_put_term ss x q → ss.length = 3 := by
  rintro ss x q ⟨_, _, _, _, _, rfl, _⟩
  rfl
theorem spec_put_term : ∀ ss x q, p_put_term ss x q → bodyM 4 b_put_term ss x q := by
  rintro ss x q ⟨v, fp, m, s, ws, rfl, hs, hw, ⟨hm, hl⟩, hx, h⟩
  unfold bodyM b_put_term
  have inl : ∀ l : Str, (l = Str.ofString "xx" ∨ l = Str.ofString "yy" ∨ l = Str.ofString "zz" ∨ l = Str.ofString "yz" ∨ l = Str.ofString "xz" ∨ l = Str.ofString "xy") ↔ l ∈ letL := fun l => by unfold letL; simp
  have zs : Sz 1 s := by rcases hs with rfl | rfl <;> decide +kernel
  have el : (encF m).length = m.length := List.length_map _
  have fin : ∀ (n : Int) (l : Str) (d : D), n < 1000000 → 0 ≤ n → (¬ (l ∈ letL ∧ fget m l = none) → x ⟨"NoText", none⟩) → ((l ∈ letL ∧ fget m l = none) → q (.val .none) [.obj v (encDT (encF (m ++ [(l, s * n)]))) fp, .no, .no]) →
      if ¬ (l = Str.ofString "xx" ∨ l = Str.ofString "yy" ∨ l = Str.ofString "zz" ∨ l = Str.ofString "yz" ∨ l = Str.ofString "xz" ∨ l = Str.ofString "xy") then x ⟨"NoText", none⟩
      else if (mgetT (encF m) l).isSome = true then x ⟨"NoText", none⟩
      else IntMulOk s n ∧ (encF m).length < 16777216 ∧ ∃ ts, parK [.obj v (encDT (encF m)) fp, .val (.int s), .val d] [.obj v (encDT (mputT (encF m) l (.int (s * n)))) fp, .val (.int s), .val d, .val (.int n)] ts ∧ q (.val .none) ts := fun n l d n1 n0 h1 h2 => by
    refine if_pn (fun k => h1 fun z => k ((inl l).mpr z.1)) fun k => if_pn (fun k2 => h1 fun z => ?_) fun k2 => ?_
    · rw [mgetT_enc, z.2] at k2
      cases k2
    · have kl : l ∈ letL := (inl l).mp (Classical.byContradiction k)
      have kg : fget m l = none := by
        cases e : fget m l with
        | none => rfl
        | some y => rw [mgetT_enc, e] at k2; exact absurd rfl k2
      have zn : Sz 20 n := Sz.of_le (j := 1000000) (by omega) (by decide +kernel)
      refine ⟨IntMulOk.of_le zs zn (by decide), by omega, _, ?_, h2 ⟨kl, kg⟩⟩
      rw [mputT_enc kg]
      exact ⟨⟨rfl, rfl, rfl, rfl⟩, trivial⟩
  match ws, hw with
  | [l], _ =>
    refine cut_ (fun δ' => δ' = [.obj v (encDT (encF m)) fp, .val (.int s), .val (.list [.str l]), .val (.int 1)]) ?_ fun δ' w => ?_
    · walk_at "dl"
    · subst w
      walk_at "dl"
      rw [show atI [PyData.str l] (-1) = some (.str l) from rfl]
      walk_at "dl"
      refine fin 1 l _ (by decide) (by decide) (fun z => hx (if_neg z)) fun z => h _ (if_pos z)
  | [w, l], _ =>
    refine cut_ (fun δ' => ∃ n : Int, numW w = some n ∧ δ' = [.obj v (encDT (encF m)) fp, .val (.int s), .val (.list [.str w, .str l]), .val (.int n)]) ?_ fun δ' w' => ?_
    · walk_at "dl"
      exact ⟨hl w (by simp), fun k => hx (by show (numW w).bind _ = none; rw [k]; rfl), fun n hn => hn⟩
    · obtain ⟨n, hn, rfl⟩ := w'
      walk_at "dl"
      rw [show atI [PyData.str w, PyData.str l] (-1) = some (.str l) from rfl]
      walk_at "dl"
      have e0 : termW m s [w, l] = if l ∈ letL ∧ fget m l = none then some (m ++ [(l, s * n)]) else none := by
        show (numW w).bind _ = _
        rw [hn]
        rfl
      have b := numW_bd hn
      rw [e0] at h hx
      refine fin n l _ b.2 b.1 (fun z => hx (if_neg z)) fun z => h _ (if_pos z)
theorem w_put_term {v : V} {fp : List Addr} {m : FT} {s : Int} {ws : List Str} {x : XP} {q : S → List S → Prop} : p_put_term [.obj v (encDT (encF m)) fp, .val (.int s), .val (.list (ws.map PyData.str))] x q = ((s = 1 ∨ s = -1) ∧ (ws.length = 1 ∨ ws.length = 2) ∧ (m.length ≤ 1000000 ∧ ∀ w ∈ ws, w.length ≤ 16777216) ∧ (termW m s ws = none → x ⟨"NoText", none⟩) ∧ (∀ m', termW m s ws = some m' → q (.val .none) [.obj v (encDT (encF m')) fp, .no, .no])) := propext ⟨fun h => by
  obtain ⟨v', fp', m', s', ws', e, h⟩ := h
  injection e with e1 e2
  injection e1 with e3 e4 e5
  injection e2 with e6 e7
  injection e6 with e6
  injection e6 with e6
  injection e7 with e8 e9
  injection e8 with e8
  injection e8 with e8
  have em := encLT_inj (by injection e4 : encLT (encF m) = encLT (encF m'))
  have em := encF_inj em
  have ew := txts_inj e8
  subst e3; subst e5; subst e6; subst em; subst ew
  exact h, fun h => ⟨_, _, _, _, _, rfl, h⟩⟩
--simp w_put_term

local macro_rules | `(tactic| walk_at "dl") => `(tactic| (simp (maxSteps := 10000000) (disch := omega) only [↓dlD, dlP, List.mem_cons, List.not_mem_nil, or_false, sizeLine_eq, Nat.reduceLeDiff, startD, isNon, Bool.and_true, Bool.and_eq_true, List.all_cons, List.all_nil, List.any_cons, List.any_nil, id_eq, Bool.and_self, Bool.or_false, Bool.or_true, decide_true, decide_false, Option.map_some, Option.some.injEq, List.map, List.length, List.replicate, List.append, List.cons_append, List.nil_append, Nat.sub_self, Nat.reduceSub, Nat.reduceAdd, reduceCtorEq, PyData.int.injEq, decide_eq_true_eq, Bool.not_eq_true', decide_eq_false_iff_not, Bool.not_true, Bool.not_false, if_true, if_false, Bool.false_eq_true, ne_eq, Int.reduceLE, Int.reduceLT, Int.reduceEq, Nat.reduceLT, Int.cast_ofNat_Int, Int.reducePow, Int.reduceToNat, Int.reduceMul, Int.reduceAdd, Int.reduceSub, Int.reduceNeg, Int.reduceMod, Int.reduceDiv, Int.reduceGT, Int.reduceGE, Int.reduceNe, not_false_eq_true, not_true_eq_false, forall_eq', exists_eq_left', eq_self, true_and, and_true, dlE0, w_read_figures, w_put_term]; try simp only [List.cons.injEq, S.val.injEq, PyData.int.injEq, w_ex1, w_ex2, w_ex3, true_and, and_true]))
noncomputable def b_close_term : ST := (sSeq (sIf (tAnd (tV (eOp rNeD (pE (eB rLenD (apCons (pVar 2) apNil))) (pE (eC (.int 1))))) (tV (eOp rNeD (pE (eB rLenD (apCons (pVar 2) apNil))) (pE (eC (.int 2)))))) (sRaise "NoText") sNext) (sCallM p_put_term (.inl 0 :: (.inr (eVar 1) :: (.inr (eVar 2) :: [])))))
/-! close_term: slots found sign term -/
def p_close_term : MSp := fun ss x q => ∃ (v : V) (fp : List Addr) (m : FT) (s : Int) (ws : List Str), ss = [.obj v (encDT (encF m)) fp, .val (.int s), .val (.list (ws.map PyData.str))] ∧ (s = 1 ∨ s = -1) ∧ (m.length ≤ 1000000 ∧ ∀ w ∈ ws, w.length ≤ 16777216) ∧ (termW m s ws = none → x ⟨"NoText", none⟩) ∧ (∀ m', termW m s ws = some m' → q (.val .none) [.obj v (encDT (encF m')) fp, .no, .no])
theorem len_close_term : ∀ ss x q, p_close_term ss x q → ss.length = 3 := by
  rintro ss x q ⟨_, _, _, _, _, rfl, _⟩
  rfl
theorem spec_close_term : ∀ ss x q, p_close_term ss x q → bodyM 3 b_close_term ss x q := by
  rintro ss x q ⟨v, fp, m, s, ws, rfl, hs, ⟨hm, hl⟩, hx, h⟩
  unfold bodyM b_close_term
  walk_at "dl"
  rw [List.length_map]
  have fin : (ws.length = 1 ∨ ws.length = 2) → (s = 1 ∨ s = -1) ∧ (ws.length = 1 ∨ ws.length = 2) ∧ (m.length ≤ 1000000 ∧ ∀ w, w ∈ ws → w.length ≤ 16777216) ∧ (termW m s ws = none → x ⟨"NoText", none⟩) ∧ ∀ m' : FT, termW m s ws = some m' → ∃ ts, parK [.obj v (encDT (encF m)) fp, .val (.int s), .val (.list (ws.map PyData.str))] [.obj v (encDT (encF m')) fp, .val (.int s), .val (.list (ws.map PyData.str))] ts ∧ q (.val .none) ts :=
    fun k => ⟨hs, k, ⟨hm, hl⟩, hx, fun m' e => ⟨[.obj v (encDT (encF m')) fp, .no, .no], ⟨⟨rfl, rfl, rfl, rfl⟩, trivial⟩, h m' e⟩⟩
  refine if_pn (fun k1 => if_pn (fun k2 => hx ?_) fun k2 => fin (.inr (by omega))) fun k1 => fin (.inl (by omega))
  match ws with
  | [] => rfl
  | [_] => exact absurd rfl k1
  | [_, _] => exact absurd rfl k2
  | _ :: _ :: _ :: _ => rfl
theorem w_close_term {v : V} {fp : List Addr} {m : FT} {s : Int} {ws : List Str} {x : XP} {q : S → List S → Prop} : p_close_term [.obj v (encDT (encF m)) fp, .val (.int s), .val (.list (ws.map PyData.str))] x q = ((s = 1 ∨ s = -1) ∧ (m.length ≤ 1000000 ∧ ∀ w ∈ ws, w.length ≤ 16777216) ∧ (termW m s ws = none → x ⟨"NoText", none⟩) ∧ (∀ m', termW m s ws = some m' → q (.val .none) [.obj v (encDT (encF m')) fp, .no, .no])) := propext ⟨fun h => by
  obtain ⟨v', fp', m', s', ws', e, h⟩ := h
  injection e with e1 e2
  injection e1 with e3 e4 e5
  injection e2 with e6 e7
  injection e6 with e6
  injection e6 with e6
  injection e7 with e8 e9
  injection e8 with e8
  injection e8 with e8
  have em := encF_inj (encLT_inj (by injection e4 : encLT (encF m) = encLT (encF m')))
  have ew := txts_inj e8
  subst e3; subst e5; subst e6; subst em; subst ew
  exact h, fun h => ⟨_, _, _, _, _, rfl, h⟩⟩
--simp w_close_term

local macro_rules | `(tactic| walk_at "dl") => `(tactic| (simp (maxSteps := 10000000) (disch := omega) only [↓dlD, dlP, List.mem_cons, List.not_mem_nil, or_false, sizeLine_eq, Nat.reduceLeDiff, startD, isNon, Bool.and_true, Bool.and_eq_true, List.all_cons, List.all_nil, List.any_cons, List.any_nil, id_eq, Bool.and_self, Bool.or_false, Bool.or_true, decide_true, decide_false, Option.map_some, Option.some.injEq, List.map, List.length, List.replicate, List.append, List.cons_append, List.nil_append, Nat.sub_self, Nat.reduceSub, Nat.reduceAdd, reduceCtorEq, PyData.int.injEq, decide_eq_true_eq, Bool.not_eq_true', decide_eq_false_iff_not, Bool.not_true, Bool.not_false, if_true, if_false, Bool.false_eq_true, ne_eq, Int.reduceLE, Int.reduceLT, Int.reduceEq, Nat.reduceLT, Int.cast_ofNat_Int, Int.reducePow, Int.reduceToNat, Int.reduceMul, Int.reduceAdd, Int.reduceSub, Int.reduceNeg, Int.reduceMod, Int.reduceDiv, Int.reduceGT, Int.reduceGE, Int.reduceNe, not_false_eq_true, not_true_eq_false, forall_eq', exists_eq_left', eq_self, true_and, and_true, dlE0, w_read_figures, w_put_term, w_close_term]; try simp only [List.cons.injEq, S.val.injEq, PyData.int.injEq, w_ex1, w_ex2, w_ex3, true_and, and_true]))
noncomputable def b_read_sum : ST := (sSeq (sIf (tOr (tNot (tV (eIsi "str" (pVar 0)))) (tNot (tV (eM1 cEnds (pVar 0) (pE (eC (.str " = 0"))))))) (sRaise "NoText") sNext) (sSeq (sAsg (eSlice (pVar 0) oNo (oSome (eOp rSubD (pE (eB rLenD (apCons (pVar 0) apNil))) (pE (eB rLenD (apCons (pE (eC (.str " = 0"))) apNil)))))) (gVal 1)) (sSeq (sIf (tV (eOp rEqD (pVar 1) (pE (eC (.str "0"))))) (sRet (eTup (aCons (eC (.int 0)) (aCons (eC (.int 0)) (aCons (eC (.int 0)) (aCons (eC (.int 0)) (aCons (eC (.int 0)) (aCons (eC (.int 0)) aNil)))))))) sNext) (sSeq (sAsg (eC (.int 1)) (gVal 2)) (sCut (sIf (tV (eOp rEqD (pE (eSlice (pVar 1) oNo (oSome (eC (.int 1))))) (pE (eC (.str "-"))))) (sSeq (sAsg (eOp rSubD (pE (eC (.int 0))) (pE (eC (.int 1)))) (gVal 2)) (sAsg (eSlice (pVar 1) (oSome (eC (.int 1))) oNo) (gVal 1))) sNext) (sSeq (sAsg eDnewT (gVar 3)) (sSeq (sAsg (eLst aNil) (gVar 4)) (sSeq (sFor (iVal (eM1 cSplit (pVar 1) (pE (eC (.str " "))))) (gVal 5) (sIf (tOr (tV (eOp rEqD (pVar 5) (pE (eC (.str "+"))))) (tV (eOp rEqD (pVar 5) (pE (eC (.str "-")))))) (sSeq (sFrz 4) (sSeq (sCallM p_close_term (.inl 3 :: (.inr (eVar 2) :: (.inr (eVar 4) :: [])))) (sSeq (sAsg (eLst aNil) (gVar 4)) (sAsg (eOp rSubD (pE (eC (.int 1))) (pE (eOp rMulD (pE (eC (.int 2))) (pE (eB rIntTD (apCons (pE (eOp rEqD (pVar 5) (pE (eC (.str "-"))))) apNil)))))) (gVal 2))))) (sApp 4 (eVar 5)))) (sSeq (sFrz 4) (sSeq (sCallM p_close_term (.inl 3 :: (.inr (eVar 2) :: (.inr (eVar 4) :: [])))) (sRet (eB rTupleD (apCons (pE (eComp (iVal (eC (.tuple [(.str "xx"), (.str "yy"), (.str "zz"), (.str "yz"), (.str "xz"), (.str "xy")]))) [6] (gVal 6) tYesD (eGetT 3 (eVar 6) (eC (.int 0))))) apNil)))))))))))))
/-! read_sum: slots text body sign found term word letters -/
theorem nz_snoc (l : List (Int × Str)) (t : Int × Str) : nzT (l ++ [t]) = if t.1 = 0 then nzT l else nzT l ++ [t] := by
  unfold nzT
  rw [List.filter_append]
  by_cases h : t.1 = 0
  · rw [if_pos h, List.filter_cons_of_neg (by simpa using h), List.filter_nil, List.append_nil]
  · rw [if_neg h, List.filter_cons_of_pos (by simpa using h), List.filter_nil]
theorem sum_snoc (l : List (Int × Str)) (t : Int × Str) : sumT (l ++ [t]) = addT (sumT l) t := by
  unfold sumT
  rw [List.foldl_append]
  rfl
theorem spl_len {S : List Nat} : ∀ (l : List Nat) (k : Nat) (acc : List Nat), ∀ p ∈ TL.spl S k acc l, p.length ≤ acc.length + l.length
  | [], k, acc, p, hp => by
    rw [TL.spl_nil] at hp
    rw [List.mem_singleton.mp hp]
    omega
  | c :: r, 0, acc, p, hp => by
    by_cases h : TL.pre S (c :: r) = true
    · rw [TL.spl_hit h] at hp
      rcases List.mem_cons.mp hp with rfl | hp
      · rw [List.length_cons]; omega
      · have := spl_len r _ [] p hp
        rw [List.length_nil] at this
        rw [List.length_cons]; omega
    · rw [TL.spl_miss (by simpa using h)] at hp
      have := spl_len r _ _ p hp
      rw [List.length_append] at this
      rw [List.length_cons]
      simp only [List.length_cons, List.length_nil] at this
      omega
  | c :: r, k + 1, acc, p, hp => by
    have := spl_len r k acc p hp
    rw [List.length_cons]
    omega
theorem split_mem {b w : Str} (h : w ∈ Txt.split b " ") : w.length ≤ b.length := by
  have sp : (" " : Str) = SX.S [32] := TL.ext_tl (by decide +kernel)
  rw [sp, S_of b, SX.split_S (by simp) (by decide)] at h
  obtain ⟨p, hp, rfl⟩ := List.mem_map.mp h
  have := spl_len _ _ _ p hp
  rw [SX.S_len, TL.len_tl]
  simpa using this
theorem termW_len {m m' : FT} {s : Int} {ws : List Str} (h : termW m s ws = some m') : m'.length = m.length + 1 := by
  match ws with
  | [] => cases h
  | [l] =>
    have h : (if l ∈ letL ∧ fget m l = none then some (m ++ [(l, s * 1)]) else none) = some m' := h
    split at h
    · injection h with h
      rw [← h, List.length_append]
      rfl
    · cases h
  | [w, l] =>
    have h : ((numW w).bind fun k => if l ∈ letL ∧ fget m l = none then some (m ++ [(l, s * k)]) else none) = some m' := h
    cases e : numW w with
    | none => rw [e] at h; cases h
    | some k =>
      rw [e] at h
      have h : (if l ∈ letL ∧ fget m l = none then some (m ++ [(l, s * k)]) else none) = some m' := h
      split at h
      · injection h with h
        rw [← h, List.length_append]
        rfl
      · cases h
  | _ :: _ :: _ :: _ => cases h
theorem get_enc (m : FT) (k : Str) : (mgetT (encF m) k).getD (.int 0) = .int ((fget m k).getD 0) := by
  rw [mgetT_enc]
  cases fget m k <;> rfl
def noTxt : D → Bool
  | .dict _ => false
  | .str _ => false
  | _ => true
def p_read_sum : DSp := fun ds x q => (∃ z, ds = [.str z] ∧ z.length ≤ 100000 ∧ (readT z = none → x ⟨"NoText", none⟩) ∧ (∀ ns, readT z = some ns → q (.val (.tuple (ns.map PyData.int))))) ∨ ∃ d, ds = [d] ∧ noTxt d = true ∧ x ⟨"NoText", none⟩
theorem len_read_sum : ∀ ds x q, p_read_sum ds x q → ds.length = 1 := by
  rintro ds x q (⟨_, rfl, _⟩ | ⟨_, rfl, _⟩) <;> rfl
theorem w_read_sum {z : Str} {x : XP} {q : S → Prop} : @callK p_read_sum [.str z] x ⟨q⟩ = (z.length ≤ 100000 ∧ (readT z = none → x ⟨"NoText", none⟩) ∧ (∀ ns, readT z = some ns → q (.val (.tuple (ns.map PyData.int))))) := propext ⟨fun h => by
  rcases h with ⟨_, e, h⟩ | ⟨_, e, h, _⟩
  · injection e with e
    injection e with e
    subst e
    exact h
  · injection e with e
    subst e
    exact (by cases h), fun h => .inl ⟨_, rfl, h⟩⟩
--simp w_read_sum
theorem spec_read_sum : ∀ ds x q, p_read_sum ds x q → bodyD 7 b_read_sum ds x q := by
  rintro ds x q (⟨z, rfl, hl, hx, h⟩ | ⟨d, rfl, hd, hx⟩)
  rotate_left 1
  · unfold bodyD b_read_sum
    cases d with
    | dict _ => cases hd
    | str _ => cases hd
    | _ =>
      walk_at "dl"
      exact hx
  unfold b_read_sum
  walk_at "dl"
  have l4 : (" = 0" : Str).length = 4 := by decide +kernel
  rw [l4]
  have eb : cutS z none (some ((z.length : Int) - ((4 : Nat) : Int))) = bodyT z := rfl
  rw [eb]
  have r1 : Txt.endswith z (Str.ofString " = 0") = false → readT z = none := fun k => if_pos k
  refine if_pn (fun k => hx (r1 k)) fun k1 => ⟨by omega, by omega, by omega, ?_⟩
  have r2 : bodyT z = Str.ofString "0" → readT z = some [0, 0, 0, 0, 0, 0] := fun k => (if_neg k1).trans (if_pos k)
  refine if_pn (fun k => h _ (r2 k)) fun k2 => ?_
  have bl : (bodyT z).length ≤ 100000 := Nat.le_trans (cutS_length _ _ _) hl
  obtain ⟨s, b, er, hs, lb, hb⟩ : ∃ (s : Int) (b : Str), readT z = (runW [] s [] (Txt.split b " ")).map sixW ∧ (s = 1 ∨ s = -1) ∧ b.length ≤ 100000 ∧ ((cutS (bodyT z) none (some 1) = Str.ofString "-" ∧ s = -1 ∧ b = cutS (bodyT z) (some 1) none) ∨ (¬ cutS (bodyT z) none (some 1) = Str.ofString "-" ∧ s = 1 ∧ b = bodyT z)) := by
    by_cases k3 : cutS (bodyT z) none (some 1) = Str.ofString "-"
    · exact ⟨-1, _, (if_neg k1).trans ((if_neg k2).trans (if_pos k3)), .inr rfl, Nat.le_trans (cutS_length _ _ _) bl, .inl ⟨k3, rfl, rfl⟩⟩
    · exact ⟨1, _, (if_neg k1).trans ((if_neg k2).trans (if_neg k3)), .inl rfl, bl, .inr ⟨k3, rfl, rfl⟩⟩
  rw [er] at h hx
  refine cut_ (fun δ' => δ' = [.val (.str z), .val (.str b), .val (.int s), .no, .no, .no, .no]) ?_ fun δ' w => ?_
  · walk_at "dl"
    rcases hb with ⟨k, rfl, rfl⟩ | ⟨k, rfl, rfl⟩
    · exact ⟨by omega, if_pn (fun _ => ⟨by omega, rfl, rfl⟩) fun n => absurd k n⟩
    · exact ⟨by omega, if_pn (fun n => absurd n k) fun _ => ⟨rfl, rfl⟩⟩
  subst w
  clear hb er r1 r2 k1 k2 eb
  walk_at "dl"
  intro v fp
  refine ⟨by decide +kernel, by omega, ?_⟩
  have sl : (Txt.split b " ").length ≤ 100002 := Nat.le_trans (PyProof.Rows.split_le b " ") (by omega)
  have wl : ∀ w ∈ Txt.split b " ", w.length ≤ 16777216 := fun w hw => Nat.le_trans (split_mem hw) (by omega)
  generalize Txt.split b " " = words at *
  refine for_maps (as := words) (en := PyData.str) (fun done rest δ' => ∃ (m : FT) (s' : Int) (ws : List Str) (s5 : S), δ' = [.val (.str z), .val (.str b), .val (.int s'), .obj v (encDT (encF m)) fp, .own (ws.map PyData.str), s5, .no] ∧ words = done ++ rest ∧ (s' = 1 ∨ s' = -1) ∧ (m.length ≤ done.length ∧ ws.length ≤ done.length ∧ ∀ w ∈ ws, w ∈ words) ∧ runW [] s [] words = runW m s' ws rest) ⟨[], s, [], _, rfl, rfl, hs, ⟨by decide, by decide, fun w hw => nomatch hw⟩, rfl⟩ (fun done w rest δ' ha w' => ?_) fun δ' w' => ?_
  · obtain ⟨m, s', ws, s5, rfl, _, hs', ⟨lm, lw, mw⟩, er⟩ := w'
    have ld : done.length + 1 ≤ words.length := by rw [ha, List.length_append, List.length_cons]; omega
    have hw : w ∈ words := by rw [ha]; simp
    walk_at "dl"
    refine if_pn (fun k => ?_) fun k1 => if_pn (fun k => ?_) fun k2 => ?_
    rotate_left 2
    · rw [List.length_map]
      exact ⟨by omega, m, s', ws ++ [w], _, ⟨rfl, rfl, by rw [List.map_append]; rfl, rfl⟩, by rw [ha]; simp, hs', ⟨by rw [List.length_append]; omega, by rw [List.length_append, List.length_append]; simp only [List.length_cons, List.length_nil]; omega, fun y hy => by
        rcases List.mem_append.mp hy with q | q
        · exact mw y q
        · rw [List.mem_singleton.mp q]; exact hw⟩, er.trans (if_neg fun q => q.elim k1 k2)⟩
    all_goals
      have ks : w = "+" ∨ w = "-" := by first | exact .inl k | exact .inr k
      have e2 : runW m s' ws (w :: rest) = (termW m s' ws).bind fun m' => runW m' (if w = "-" then -1 else 1) [] rest := if_pos ks
      have e3 : (if w = "-" then (-1 : Int) else 1) = 1 - 2 * if w = Str.ofString "-" then 1 else 0 := by split <;> rfl
      have zi : Sz 1 (if w = Str.ofString "-" then (1 : Int) else 0) := by split <;> decide +kernel
      rw [e2, e3] at er
      refine ⟨hs', ⟨by omega, fun y hy => wl y (mw y hy)⟩, fun n => hx (by rw [er, n]; rfl), fun m' e => ⟨IntMulOk.of_le (show Sz 2 2 by decide +kernel) zi (by decide), m', _, [], _, ⟨rfl, rfl, rfl, rfl⟩, by rw [ha]; simp, by split <;> first | exact .inr rfl | exact .inl rfl, ⟨by rw [termW_len e, List.length_append]; simp only [List.length_cons, List.length_nil]; omega, Nat.zero_le _, fun y hy => nomatch hy⟩, by rw [er, e]; rfl⟩⟩
  · obtain ⟨m, s', ws, s5, rfl, -, hs', ⟨lm, lw, mw⟩, er⟩ := w'
    have er : runW [] s [] words = termW m s' ws := er
    walk_at "dl"
    refine ⟨hs', ⟨by omega, fun y hy => wl y (mw y hy)⟩, fun n => hx (by rw [er, n]; rfl), fun m' e => ?_⟩
    have hq := h (sixW m') (by rw [er, e]; rfl)
    refine comp_lit [.int ((fget m' "xx").getD 0), .int ((fget m' "yy").getD 0), .int ((fget m' "zz").getD 0), .int ((fget m' "yz").getD 0), .int ((fget m' "xz").getD 0), .int ((fget m' "xy").getD 0)] (by show 6 ≤ 1000000; decide) ?_ ?_
    · walk_at "dl"
      rw [get_enc, get_enc, get_enc, get_enc, get_enc, get_enc]
      exact ⟨rfl, rfl, rfl, rfl, rfl, rfl⟩
    walk_at "dl"
    exact hq

local macro_rules | `(tactic| walk_at "dl") => `(tactic| (simp (maxSteps := 10000000) (disch := omega) only [↓dlD, dlP, List.mem_cons, List.not_mem_nil, or_false, sizeLine_eq, Nat.reduceLeDiff, startD, isNon, Bool.and_true, Bool.and_eq_true, List.all_cons, List.all_nil, List.any_cons, List.any_nil, id_eq, Bool.and_self, Bool.or_false, Bool.or_true, decide_true, decide_false, Option.map_some, Option.some.injEq, List.map, List.length, List.replicate, List.append, List.cons_append, List.nil_append, Nat.sub_self, Nat.reduceSub, Nat.reduceAdd, reduceCtorEq, PyData.int.injEq, decide_eq_true_eq, Bool.not_eq_true', decide_eq_false_iff_not, Bool.not_true, Bool.not_false, if_true, if_false, Bool.false_eq_true, ne_eq, Int.reduceLE, Int.reduceLT, Int.reduceEq, Nat.reduceLT, Int.cast_ofNat_Int, Int.reducePow, Int.reduceToNat, Int.reduceMul, Int.reduceAdd, Int.reduceSub, Int.reduceNeg, Int.reduceMod, Int.reduceDiv, Int.reduceGT, Int.reduceGE, Int.reduceNe, not_false_eq_true, not_true_eq_false, forall_eq', exists_eq_left', eq_self, true_and, and_true, dlE0, w_read_figures, w_put_term, w_close_term, w_read_sum]; try simp only [List.cons.injEq, S.val.injEq, PyData.int.injEq, w_ex1, w_ex2, w_ex3, true_and, and_true]))
noncomputable def b_law_alone : ST := (sSeq (sAsg (eLst (aCons (eIsE ["NoText"] "NoNumber" (eVar 0)) (aCons (eIsE ["NoText"] "NoBack" (eVar 0)) (aCons (eIsE ["NoText"] "NoJoin" (eVar 0)) (aCons (eIsE ["NoText"] "NoSign" (eVar 0)) aNil))))) (gVal 1)) (sSeq (sAsg (eOp rAddD (pVar 1) (pE (eLst (aCons (eIsE ["NoText"] "NotPlain" (eVar 0)) (aCons (eIsE ["NoText"] "NoPlace" (eVar 0)) (aCons (eIsE ["NoText"] "BadPlace" (eVar 0)) aNil)))))) (gVal 1)) (sSeq (sAsg (eOp rAddD (pVar 1) (pE (eLst (aCons (eIsE ["NoText"] "NoVertex" (eVar 0)) (aCons (eIsE ["NoText"] "Flat" (eVar 0)) (aCons (eIsE ["NoText"] "OffCurve" (eVar 0)) (aCons (eIsE ["NoText"] "NoPair" (eVar 0)) aNil))))))) (gVal 1)) (sSeq (sAsg (eOp rAddD (pVar 1) (pE (eLst (aCons (eIsE ["NoText"] "NoLine" (eVar 0)) (aCons (eIsE ["NoText"] "NoText" (eVar 0)) (aCons (eIsE ["NoText"] "NoRow" (eVar 0)) (aCons (eIsE ["NoText"] "NoName" (eVar 0)) aNil))))))) (gVal 1)) (sRet (eAnd (eOp rEqD (pE (eCnt (pVar 1) (pE (eC (.bool true))))) (pE (eC (.int 1)))) (eAnd (eIsE ["NoText"] "CurveError" (eVar 0)) (eIsE ["NoText"] "ValueError" (eVar 0)))))))))
/-! law_alone: slots e found -/
def p_law_alone : DSp := fun ds x q => ds = [.dict [(.str "NoText", .none)]] ∧ (q (.val (.bool true)))
theorem len_law_alone : ∀ ds x q, p_law_alone ds x q → ds.length = 1 := by
  rintro ds x q ⟨rfl, _⟩
  rfl
theorem w_law_alone {x : XP} {q : S → Prop} : @callK p_law_alone [.dict [(.str "NoText", .none)]] x ⟨q⟩ = (q (.val (.bool true))) := propext ⟨fun h => h.2, fun h => ⟨rfl, h⟩⟩
--simp w_law_alone
theorem spec_law_alone : ∀ ds x q, p_law_alone ds x q → bodyD 2 b_law_alone ds x q := by
  rintro ds x q ⟨rfl, h⟩
  unfold b_law_alone
  walk_at "dl"
  rw [if_pos (by decide)]
  exact h

local macro_rules | `(tactic| walk_at "dl") => `(tactic| (simp (maxSteps := 10000000) (disch := omega) only [↓dlD, dlP, List.mem_cons, List.not_mem_nil, or_false, sizeLine_eq, Nat.reduceLeDiff, startD, isNon, Bool.and_true, Bool.and_eq_true, List.all_cons, List.all_nil, List.any_cons, List.any_nil, id_eq, Bool.and_self, Bool.or_false, Bool.or_true, decide_true, decide_false, Option.map_some, Option.some.injEq, List.map, List.length, List.replicate, List.append, List.cons_append, List.nil_append, Nat.sub_self, Nat.reduceSub, Nat.reduceAdd, reduceCtorEq, PyData.int.injEq, decide_eq_true_eq, Bool.not_eq_true', decide_eq_false_iff_not, Bool.not_true, Bool.not_false, if_true, if_false, Bool.false_eq_true, ne_eq, Int.reduceLE, Int.reduceLT, Int.reduceEq, Nat.reduceLT, Int.cast_ofNat_Int, Int.reducePow, Int.reduceToNat, Int.reduceMul, Int.reduceAdd, Int.reduceSub, Int.reduceNeg, Int.reduceMod, Int.reduceDiv, Int.reduceGT, Int.reduceGE, Int.reduceNe, not_false_eq_true, not_true_eq_false, forall_eq', exists_eq_left', eq_self, true_and, and_true, dlE0, w_read_figures, w_put_term, w_close_term, w_read_sum, w_law_alone]; try simp only [List.cons.injEq, S.val.injEq, PyData.int.injEq, w_ex1, w_ex2, w_ex3, true_and, and_true]))
noncomputable def b_law_refused : ST := (sSeq (sAsg (eC (.bool false)) (gVal 1)) (sSeq (sTry (sDrop (eCall p_read_sum (aCons (eVar 0) aNil))) [⟨["NoText"], "NoText", some 2, (sAsg (eCall p_law_alone (aCons (eVar 2) aNil)) (gVal 1))⟩]) (sRet (eVar 1))))
/-! law_refused: slots text_here good e -/
def p_law_refused : DSp := fun ds x q => ∃ (d : D), ds = [d] ∧ ((noTxt d = true ∨ ∃ z : Str, d = .str z ∧ z.length ≤ 100000 ∧ readT z = none) ∧ q (.val (.bool true)))
theorem len_law_refused : ∀ ds x q, p_law_refused ds x q → ds.length = 1 := by
  rintro ds x q ⟨d, rfl, _⟩
  rfl
theorem w_law_refused {d : D} {x : XP} {q : S → Prop} : @callK p_law_refused [d] x ⟨q⟩ = ((noTxt d = true ∨ ∃ z : Str, d = .str z ∧ z.length ≤ 100000 ∧ readT z = none) ∧ q (.val (.bool true))) := propext ⟨fun h => by
  obtain ⟨d', e, h⟩ := h
  simp only [List.cons.injEq, PyData.list.injEq, PyData.tuple.injEq, PyData.int.injEq, PyData.str.injEq, PyData.bool.injEq, ints_inj, parts_inj, and_true, and_assoc] at e
  obtain ⟨rfl⟩ := e
  exact h, fun h => ⟨_, rfl, h⟩⟩
--simp w_law_refused
theorem spec_law_refused : ∀ ds x q, p_law_refused ds x q → bodyD 3 b_law_refused ds x q := by
  rintro ds x q ⟨d, rfl, hd, h⟩
  unfold b_law_refused
  walk_at "dl"
  rcases hd with hd | ⟨z, rfl, hl, hr⟩
  · refine .inr ⟨d, rfl, hd, ?_⟩
    walk_at "dl"
    exact h
  · walk_at "dl"
    exact ⟨hl, fun _ => h, fun ns e => by rw [hr] at e; cases e⟩

local macro_rules | `(tactic| walk_at "dl") => `(tactic| (simp (maxSteps := 10000000) (disch := omega) only [↓dlD, dlP, List.mem_cons, List.not_mem_nil, or_false, sizeLine_eq, Nat.reduceLeDiff, startD, isNon, Bool.and_true, Bool.and_eq_true, List.all_cons, List.all_nil, List.any_cons, List.any_nil, id_eq, Bool.and_self, Bool.or_false, Bool.or_true, decide_true, decide_false, Option.map_some, Option.some.injEq, List.map, List.length, List.replicate, List.append, List.cons_append, List.nil_append, Nat.sub_self, Nat.reduceSub, Nat.reduceAdd, reduceCtorEq, PyData.int.injEq, decide_eq_true_eq, Bool.not_eq_true', decide_eq_false_iff_not, Bool.not_true, Bool.not_false, if_true, if_false, Bool.false_eq_true, ne_eq, Int.reduceLE, Int.reduceLT, Int.reduceEq, Nat.reduceLT, Int.cast_ofNat_Int, Int.reducePow, Int.reduceToNat, Int.reduceMul, Int.reduceAdd, Int.reduceSub, Int.reduceNeg, Int.reduceMod, Int.reduceDiv, Int.reduceGT, Int.reduceGE, Int.reduceNe, not_false_eq_true, not_true_eq_false, forall_eq', exists_eq_left', eq_self, true_and, and_true, dlE0, w_read_figures, w_put_term, w_close_term, w_read_sum, w_law_alone, w_law_refused]; try simp only [List.cons.injEq, S.val.injEq, PyData.int.injEq, w_ex1, w_ex2, w_ex3, true_and, and_true]))
noncomputable def b_law_no_text : ST := (sSeq (sIf (tV (eOp rEqD (pE (eOp rModD (pVar 0) (pE (eC (.int 5))))) (pE (eC (.int 0))))) (sRet (eC .none)) sNext) (sSeq (sIf (tV (eOp rEqD (pE (eOp rModD (pVar 0) (pE (eC (.int 5))))) (pE (eC (.int 1))))) (sRet (eC (.int 0))) sNext) (sSeq (sIf (tV (eOp rEqD (pE (eOp rModD (pVar 0) (pE (eC (.int 5))))) (pE (eC (.int 2))))) (sRet (eLst (aCons (eC (.str "xx = 0")) aNil))) sNext) (sSeq (sIf (tV (eOp rEqD (pE (eOp rModD (pVar 0) (pE (eC (.int 5))))) (pE (eC (.int 3))))) (sRet (eTup (aCons (eC (.int 1)) (aCons (eC (.int 0)) (aCons (eC (.int 0)) (aCons (eC (.int 0)) (aCons (eC (.int 0)) (aCons (eC (.int 0)) aNil)))))))) sNext) (sRet (eC (.bool true)))))))
/-! law_no_text: slots cell -/
def p_law_no_text : DSp := fun ds x q => ∃ (c : Int), ds = [.int c] ∧ (Sz 1048600 c ∧ q (.val .none) ∧ q (.val (.int 0)) ∧ q (.own [.str "xx = 0"]) ∧ q (.val (.tuple [.int 1, .int 0, .int 0, .int 0, .int 0, .int 0])) ∧ q (.val (.bool true)))
theorem len_law_no_text : ∀ ds x q, p_law_no_text ds x q → ds.length = 1 := by
  rintro ds x q ⟨c, rfl, _⟩
  rfl
theorem w_law_no_text {c : Int} {x : XP} {q : S → Prop} : @callK p_law_no_text [.int c] x ⟨q⟩ = (Sz 1048600 c ∧ q (.val .none) ∧ q (.val (.int 0)) ∧ q (.own [.str "xx = 0"]) ∧ q (.val (.tuple [.int 1, .int 0, .int 0, .int 0, .int 0, .int 0])) ∧ q (.val (.bool true))) := propext ⟨fun h => by
  obtain ⟨c', e, h⟩ := h
  simp only [List.cons.injEq, PyData.list.injEq, PyData.tuple.injEq, PyData.int.injEq, PyData.str.injEq, PyData.bool.injEq, ints_inj, parts_inj, and_true, and_assoc] at e
  obtain ⟨rfl⟩ := e
  exact h, fun h => ⟨_, rfl, h⟩⟩
--simp w_law_no_text
theorem spec_law_no_text : ∀ ds x q, p_law_no_text ds x q → bodyD 1 b_law_no_text ds x q := by
  rintro ds x q ⟨c, rfl, zc, h0, h1, h2, h3, h4⟩
  unfold b_law_no_text
  walk_at "dl"
  refine if_pn (fun _ => h0) fun _ => if_pn (fun _ => h1) fun _ => if_pn (fun _ => ?_) fun _ => if_pn (fun _ => ?_) fun _ => h4
  · exact h2
  · exact h3

local macro_rules | `(tactic| walk_at "dl") => `(tactic| (simp (maxSteps := 10000000) (disch := omega) only [↓dlD, dlP, List.mem_cons, List.not_mem_nil, or_false, sizeLine_eq, Nat.reduceLeDiff, startD, isNon, Bool.and_true, Bool.and_eq_true, List.all_cons, List.all_nil, List.any_cons, List.any_nil, id_eq, Bool.and_self, Bool.or_false, Bool.or_true, decide_true, decide_false, Option.map_some, Option.some.injEq, List.map, List.length, List.replicate, List.append, List.cons_append, List.nil_append, Nat.sub_self, Nat.reduceSub, Nat.reduceAdd, reduceCtorEq, PyData.int.injEq, decide_eq_true_eq, Bool.not_eq_true', decide_eq_false_iff_not, Bool.not_true, Bool.not_false, if_true, if_false, Bool.false_eq_true, ne_eq, Int.reduceLE, Int.reduceLT, Int.reduceEq, Nat.reduceLT, Int.cast_ofNat_Int, Int.reducePow, Int.reduceToNat, Int.reduceMul, Int.reduceAdd, Int.reduceSub, Int.reduceNeg, Int.reduceMod, Int.reduceDiv, Int.reduceGT, Int.reduceGE, Int.reduceNe, not_false_eq_true, not_true_eq_false, forall_eq', exists_eq_left', eq_self, true_and, and_true, dlE0, w_read_figures, w_put_term, w_close_term, w_read_sum, w_law_alone, w_law_refused, w_law_no_text]; try simp only [List.cons.injEq, S.val.injEq, PyData.int.injEq, w_ex1, w_ex2, w_ex3, true_and, and_true]))
noncomputable def b_law_cell_at : ST := (sSeq (sIf (tV (eOp rLtD (pVar 1) (pE (eB rLenD (apCons (pVar 0) apNil))))) (sRet (eOp rIxD (pVar 0) (pVar 1))) sNext) (sRet (eC (.int 0))))
/-! law_cell_at: slots script k -/
/-- the script's number at a place, 0 beyond its end -/
def cellZ (ns : List Int) (k : Int) : Int := ns.getD k.toNat 0
theorem cellZ_sz {ns : List Int} (h : Script ns) (k : Int) : Sz 1048576 (cellZ ns k) := by
  unfold cellZ
  rw [List.getD_eq_getElem?_getD]
  cases e : ns[k.toNat]? with
  | none => exact Nat.zero_le _
  | some v => exact h.bits v (List.mem_of_getElem? e)
theorem atI_ints {ns : List Int} {k : Int} (h0 : 0 ≤ k) (h : k < (ns.length : Int)) : atI (ns.map PyData.int) k = some (.int (cellZ ns k)) := by
  have hk : k.toNat < ns.length := by omega
  have e : k = ((k.toNat : Nat) : Int) := by omega
  rw [e]
  refine atI_nat ?_
  rw [List.getElem?_map, List.getElem?_eq_getElem hk]
  unfold cellZ
  simp only [Int.toNat_natCast, List.getD_eq_getElem?_getD, List.getElem?_eq_getElem hk]
  rfl
def p_law_cell_at : DSp := fun ds x q => ∃ (ns : List Int) (k : Int), ds = [.list (ns.map PyData.int), .int k] ∧ (0 ≤ k ∧ q (.val (.int (cellZ ns k))))
theorem len_law_cell_at : ∀ ds x q, p_law_cell_at ds x q → ds.length = 2 := by
  rintro ds x q ⟨ns, k, rfl, _⟩
  rfl
theorem w_law_cell_at {ns : List Int} {k : Int} {x : XP} {q : S → Prop} : @callK p_law_cell_at [.list (ns.map PyData.int), .int k] x ⟨q⟩ = (0 ≤ k ∧ q (.val (.int (cellZ ns k)))) := propext ⟨fun h => by
  obtain ⟨ns', k', e, h⟩ := h
  simp only [List.cons.injEq, PyData.list.injEq, PyData.tuple.injEq, PyData.int.injEq, PyData.str.injEq, PyData.bool.injEq, ints_inj, parts_inj, and_true, and_assoc] at e
  obtain ⟨rfl, rfl⟩ := e
  exact h, fun h => ⟨_, _, rfl, h⟩⟩
--simp w_law_cell_at
theorem spec_law_cell_at : ∀ ds x q, p_law_cell_at ds x q → bodyD 2 b_law_cell_at ds x q := by
  rintro ds x q ⟨ns, k, rfl, h0, h⟩
  unfold b_law_cell_at
  walk_at "dl"
  split
  · rename_i c
    rw [List.length_map] at c
    rw [atI_ints h0 c]
    exact h
  · rename_i c
    rw [List.length_map] at c
    have e : cellZ ns k = 0 := by
      unfold cellZ
      rw [List.getD_eq_getElem?_getD, List.getElem?_eq_none (by omega)]
      rfl
    rw [e] at h
    exact h
local macro_rules | `(tactic| walk_at "szx") => `(tactic| (with_reducible show Sz _ (cellZ _ _); with_reducible exact cellZ_sz (by assumption) _))

def dlE1 := And.intro @w_read_figures (And.intro @w_put_term (And.intro @w_close_term (And.intro @w_read_sum (And.intro @w_law_alone (And.intro @w_law_refused (And.intro @w_law_no_text (@w_law_cell_at)))))))
local macro_rules | `(tactic| walk_at "dl") => `(tactic| (simp (maxSteps := 10000000) (disch := omega) only [↓dlD, dlP, List.mem_cons, List.not_mem_nil, or_false, sizeLine_eq, Nat.reduceLeDiff, startD, isNon, Bool.and_true, Bool.and_eq_true, List.all_cons, List.all_nil, List.any_cons, List.any_nil, id_eq, Bool.and_self, Bool.or_false, Bool.or_true, decide_true, decide_false, Option.map_some, Option.some.injEq, List.map, List.length, List.replicate, List.append, List.cons_append, List.nil_append, Nat.sub_self, Nat.reduceSub, Nat.reduceAdd, reduceCtorEq, PyData.int.injEq, decide_eq_true_eq, Bool.not_eq_true', decide_eq_false_iff_not, Bool.not_true, Bool.not_false, if_true, if_false, Bool.false_eq_true, ne_eq, Int.reduceLE, Int.reduceLT, Int.reduceEq, Nat.reduceLT, Int.cast_ofNat_Int, Int.reducePow, Int.reduceToNat, Int.reduceMul, Int.reduceAdd, Int.reduceSub, Int.reduceNeg, Int.reduceMod, Int.reduceDiv, Int.reduceGT, Int.reduceGE, Int.reduceNe, not_false_eq_true, not_true_eq_false, forall_eq', exists_eq_left', eq_self, true_and, and_true, dlE0, dlE1]; try simp only [List.cons.injEq, S.val.injEq, PyData.int.injEq, w_ex1, w_ex2, w_ex3, true_and, and_true]))
noncomputable def b_law_number : ST := (sSeq (sAsg (eOp rModD (pE (eOp rMulD (pVar 0) (pE (eC (.int 67867967))))) (pE (eC (.int 998244353)))) (gVal 1)) (sSeq (sIf (tV (eOp rLtD (pE (eOp rModD (pVar 1) (pE (eC (.int 5))))) (pE (eC (.int 2))))) (sRet (eOp rSubD (pE (eOp rModD (pE (eOp rFdivD (pVar 1) (pE (eC (.int 5))))) (pE (eC (.int 3))))) (pE (eC (.int 1))))) sNext) (sSeq (sIf (tV (eOp rEqD (pE (eOp rModD (pVar 1) (pE (eC (.int 5))))) (pE (eC (.int 2))))) (sRet (eOp rSubD (pE (eOp rModD (pE (eOp rFdivD (pVar 1) (pE (eC (.int 5))))) (pE (eC (.int 25))))) (pE (eC (.int 12))))) sNext) (sRet (eOp rSubD (pE (eOp rModD (pE (eOp rMulD (pE (eOp rFdivD (pVar 1) (pE (eC (.int 5))))) (pE (eC (.int 31))))) (pE (eC (.int 1999999))))) (pE (eC (.int 999999))))))))
/-! law_number: slots cell way -/
def lawNum (c : Int) : Int := if c * 67867967 % 998244353 % 5 < 2 then c * 67867967 % 998244353 / 5 % 3 - 1 else if c * 67867967 % 998244353 % 5 = 2 then c * 67867967 % 998244353 / 5 % 25 - 12 else c * 67867967 % 998244353 / 5 * 31 % 1999999 - 999999
theorem lawNum_bd (c : Int) : (lawNum c).natAbs ≤ 999999 := by
  unfold lawNum
  have w0 := Int.emod_nonneg (c * 67867967) (show (998244353 : Int) ≠ 0 by decide)
  have w1 := Int.emod_lt_of_pos (c * 67867967) (show (0 : Int) < 998244353 by decide)
  generalize c * 67867967 % 998244353 = w at *
  split
  · omega
  · split <;> omega
def p_law_number : DSp := fun ds x q => ∃ (c : Int), ds = [.int c] ∧ (Sz 1048600 c ∧ q (.val (.int (lawNum c))))
theorem len_law_number : ∀ ds x q, p_law_number ds x q → ds.length = 1 := by
  rintro ds x q ⟨c, rfl, _⟩
  rfl
theorem w_law_number {c : Int} {x : XP} {q : S → Prop} : @callK p_law_number [.int c] x ⟨q⟩ = (Sz 1048600 c ∧ q (.val (.int (lawNum c)))) := propext ⟨fun h => by
  obtain ⟨c', e, h⟩ := h
  simp only [List.cons.injEq, PyData.list.injEq, PyData.tuple.injEq, PyData.int.injEq, PyData.str.injEq, PyData.bool.injEq, ints_inj, parts_inj, and_true, and_assoc] at e
  obtain ⟨rfl⟩ := e
  exact h, fun h => ⟨_, rfl, h⟩⟩
--simp w_law_number
theorem spec_law_number : ∀ ds x q, p_law_number ds x q → bodyD 2 b_law_number ds x q := by
  rintro ds x q ⟨c, rfl, zc, h⟩
  unfold b_law_number
  walk_at "dl"
  have d5 : DivOk 5 := DivOk.of (n := 64) (by decide) (by decide +kernel) (by decide)
  have w0 := Int.emod_nonneg (c * 67867967) (show (998244353 : Int) ≠ 0 by decide)
  have w1 := Int.emod_lt_of_pos (c * 67867967) (show (0 : Int) < 998244353 by decide)
  have z27 : Sz 27 67867967 := by decide +kernel
  have im := IntMulOk.of_le zc z27 (by decide)
  unfold lawNum at h
  generalize c * 67867967 % 998244353 = w at *
  have zw : Sz 30 (w / 5) := Sz.of_le (j := 998244353) (by omega) (by decide +kernel)
  refine ⟨im, if_pn (fun k => ⟨d5, ?_⟩) fun k => if_pn (fun k2 => ⟨d5, ?_⟩) fun k2 => ⟨d5, IntMulOk.of_le zw (show Sz 5 31 by decide +kernel) (by decide), ?_⟩⟩
  · rw [if_pos k] at h; exact h
  · rw [if_neg k, if_pos k2] at h; exact h
  · rw [if_neg k, if_neg k2] at h; exact h

local macro_rules | `(tactic| walk_at "dl") => `(tactic| (simp (maxSteps := 10000000) (disch := omega) only [↓dlD, dlP, List.mem_cons, List.not_mem_nil, or_false, sizeLine_eq, Nat.reduceLeDiff, startD, isNon, Bool.and_true, Bool.and_eq_true, List.all_cons, List.all_nil, List.any_cons, List.any_nil, id_eq, Bool.and_self, Bool.or_false, Bool.or_true, decide_true, decide_false, Option.map_some, Option.some.injEq, List.map, List.length, List.replicate, List.append, List.cons_append, List.nil_append, Nat.sub_self, Nat.reduceSub, Nat.reduceAdd, reduceCtorEq, PyData.int.injEq, decide_eq_true_eq, Bool.not_eq_true', decide_eq_false_iff_not, Bool.not_true, Bool.not_false, if_true, if_false, Bool.false_eq_true, ne_eq, Int.reduceLE, Int.reduceLT, Int.reduceEq, Nat.reduceLT, Int.cast_ofNat_Int, Int.reducePow, Int.reduceToNat, Int.reduceMul, Int.reduceAdd, Int.reduceSub, Int.reduceNeg, Int.reduceMod, Int.reduceDiv, Int.reduceGT, Int.reduceGE, Int.reduceNe, not_false_eq_true, not_true_eq_false, forall_eq', exists_eq_left', eq_self, true_and, and_true, dlE0, dlE1, w_law_number]; try simp only [List.cons.injEq, S.val.injEq, PyData.int.injEq, w_ex1, w_ex2, w_ex3, true_and, and_true]))
noncomputable def b_law_term : ST := (sSeq (sIf (tV (eOp rEqD (pE (eB rAbsD (apCons (pVar 0) apNil))) (pE (eC (.int 1))))) (sRet (eVar 1)) sNext) (sRet (eOp rAddD (pE (eOp rAddD (pE (eB rStrCD (apCons (pE (eB rAbsD (apCons (pVar 0) apNil))) apNil))) (pE (eC (.str " "))))) (pVar 1))))
/-! law_term: slots number_here letters_here -/
theorem Sz.ten {n : Int} (h : Sz 190 n) : n.natAbs < 10 ^ 60 := Nat.lt_of_lt_of_le (intBits_le_iff.mp h) (by decide +kernel)
def p_law_term : DSp := fun ds x q => ∃ (n : Int) (l : Str), ds = [.int n, .str l] ∧ (Sz 190 n ∧ l.length ≤ 100 ∧ q (.val (.str (termT n l))))
theorem len_law_term : ∀ ds x q, p_law_term ds x q → ds.length = 2 := by
  rintro ds x q ⟨n, l, rfl, _⟩
  rfl
theorem w_law_term {n : Int} {l : Str} {x : XP} {q : S → Prop} : @callK p_law_term [.int n, .str l] x ⟨q⟩ = (Sz 190 n ∧ l.length ≤ 100 ∧ q (.val (.str (termT n l)))) := propext ⟨fun h => by
  obtain ⟨n', l', e, h⟩ := h
  simp only [List.cons.injEq, PyData.list.injEq, PyData.tuple.injEq, PyData.int.injEq, PyData.str.injEq, PyData.bool.injEq, ints_inj, parts_inj, and_true, and_assoc] at e
  obtain ⟨rfl, rfl⟩ := e
  exact h, fun h => ⟨_, _, rfl, h⟩⟩
--simp w_law_term
theorem spec_law_term : ∀ ds x q, p_law_term ds x q → bodyD 2 b_law_term ds x q := by
  rintro ds x q ⟨n, l, rfl, zn, ll, h⟩
  unfold b_law_term
  walk_at "dl"
  refine if_pn (fun k => ?_) fun k => ?_
  · have e : termT n l = l := if_pos (by omega)
    rw [e] at h
    exact h
  · have e : termT n l = Str.ofString (toString (n.natAbs : Int)) ++ (" " : Str) ++ l := if_neg (by omega)
    have tl := term_len (l := l) zn.ten ll
    rw [e] at h tl
    rw [len_app] at tl
    have := len_app (Str.ofString (toString (n.natAbs : Int))) " "
    exact ⟨Sz.log2 (Sz.of_le (j := n) (by omega) zn) (by decide), by omega, by omega, h⟩

local macro_rules | `(tactic| walk_at "dl") => `(tactic| (simp (maxSteps := 10000000) (disch := omega) only [↓dlD, dlP, List.mem_cons, List.not_mem_nil, or_false, sizeLine_eq, Nat.reduceLeDiff, startD, isNon, Bool.and_true, Bool.and_eq_true, List.all_cons, List.all_nil, List.any_cons, List.any_nil, id_eq, Bool.and_self, Bool.or_false, Bool.or_true, decide_true, decide_false, Option.map_some, Option.some.injEq, List.map, List.length, List.replicate, List.append, List.cons_append, List.nil_append, Nat.sub_self, Nat.reduceSub, Nat.reduceAdd, reduceCtorEq, PyData.int.injEq, decide_eq_true_eq, Bool.not_eq_true', decide_eq_false_iff_not, Bool.not_true, Bool.not_false, if_true, if_false, Bool.false_eq_true, ne_eq, Int.reduceLE, Int.reduceLT, Int.reduceEq, Nat.reduceLT, Int.cast_ofNat_Int, Int.reducePow, Int.reduceToNat, Int.reduceMul, Int.reduceAdd, Int.reduceSub, Int.reduceNeg, Int.reduceMod, Int.reduceDiv, Int.reduceGT, Int.reduceGE, Int.reduceNe, not_false_eq_true, not_true_eq_false, forall_eq', exists_eq_left', eq_self, true_and, and_true, dlE0, dlE1, w_law_number, w_law_term]; try simp only [List.cons.injEq, S.val.injEq, PyData.int.injEq, w_ex1, w_ex2, w_ex3, true_and, and_true]))
noncomputable def b_law_letters : ST := (sRet (eLst (aCons (eC (.str "xx")) (aCons (eC (.str "yy")) (aCons (eC (.str "zz")) (aCons (eC (.str "yz")) (aCons (eC (.str "xz")) (aCons (eC (.str "xy")) aNil))))))))
/-! law_letters: slots  -/
def p_law_letters : DSp := fun ds x q => ds = [] ∧ (q (.own (letL.map PyData.str)))
theorem len_law_letters : ∀ ds x q, p_law_letters ds x q → ds.length = 0 := by
  rintro ds x q ⟨rfl, _⟩
  rfl
theorem w_law_letters {x : XP} {q : S → Prop} : @callK p_law_letters [] x ⟨q⟩ = (q (.own (letL.map PyData.str))) := propext ⟨fun h => h.2, fun h => ⟨rfl, h⟩⟩
--simp w_law_letters
theorem spec_law_letters : ∀ ds x q, p_law_letters ds x q → bodyD 0 b_law_letters ds x q := by
  rintro ds x q ⟨rfl, h⟩
  unfold b_law_letters
  walk_at "dl"
  exact h

local macro_rules | `(tactic| walk_at "dl") => `(tactic| (simp (maxSteps := 10000000) (disch := omega) only [↓dlD, dlP, List.mem_cons, List.not_mem_nil, or_false, sizeLine_eq, Nat.reduceLeDiff, startD, isNon, Bool.and_true, Bool.and_eq_true, List.all_cons, List.all_nil, List.any_cons, List.any_nil, id_eq, Bool.and_self, Bool.or_false, Bool.or_true, decide_true, decide_false, Option.map_some, Option.some.injEq, List.map, List.length, List.replicate, List.append, List.cons_append, List.nil_append, Nat.sub_self, Nat.reduceSub, Nat.reduceAdd, reduceCtorEq, PyData.int.injEq, decide_eq_true_eq, Bool.not_eq_true', decide_eq_false_iff_not, Bool.not_true, Bool.not_false, if_true, if_false, Bool.false_eq_true, ne_eq, Int.reduceLE, Int.reduceLT, Int.reduceEq, Nat.reduceLT, Int.cast_ofNat_Int, Int.reducePow, Int.reduceToNat, Int.reduceMul, Int.reduceAdd, Int.reduceSub, Int.reduceNeg, Int.reduceMod, Int.reduceDiv, Int.reduceGT, Int.reduceGE, Int.reduceNe, not_false_eq_true, not_true_eq_false, forall_eq', exists_eq_left', eq_self, true_and, and_true, dlE0, dlE1, w_law_number, w_law_term, w_law_letters]; try simp only [List.cons.injEq, S.val.injEq, PyData.int.injEq, w_ex1, w_ex2, w_ex3, true_and, and_true]))
noncomputable def b_law_shown : ST := (sSeq (sAsg (eC (.str "")) (gVal 2)) (sSeq (sFor (iVal (eVar 1)) (gVal 3) (sIf (tV (eOp rNeD (pE (eOp rIxD (pVar 0) (pVar 3))) (pE (eC (.int 0))))) (sSeq (sAsg (eOp rIxD (pE (eLst (aCons (eC (.str " + ")) (aCons (eC (.str " - ")) aNil)))) (pE (eB rIntTD (apCons (pE (eOp rLtD (pE (eOp rIxD (pVar 0) (pVar 3))) (pE (eC (.int 0))))) apNil)))) (gVal 4)) (sCut (sIf (tV (eOp rEqD (pVar 2) (pE (eC (.str ""))))) (sAsg (eOp rIxD (pE (eLst (aCons (eC (.str "")) (aCons (eC (.str "-")) aNil)))) (pE (eB rIntTD (apCons (pE (eOp rLtD (pE (eOp rIxD (pVar 0) (pVar 3))) (pE (eC (.int 0))))) apNil)))) (gVal 4)) sNext) (sAsg (eOp rAddD (pE (eOp rAddD (pVar 2) (pVar 4))) (pE (eCall p_law_term (aCons (eOp rIxD (pVar 0) (pVar 3)) (aCons (eOp rIxD (pE (eCall0 p_law_letters)) (pVar 3)) aNil))))) (gVal 2)))) sNext)) (sCut (sIf (tV (eOp rEqD (pVar 2) (pE (eC (.str ""))))) (sAsg (eC (.str "0")) (gVal 2)) sNext) (sRet (eOp rAddD (pVar 2) (pE (eC (.str " = 0"))))))))
/-! law_shown: slots form order_here shown_here k sign -/
def p_law_shown : DSp := fun ds _ q => ∃ (d : D) (a b c d' e f : Int) (os : List Int), ds = [d, .list (os.map PyData.int)] ∧ (d = .tuple ([a, b, c, d', e, f].map PyData.int) ∨ d = .list ([a, b, c, d', e, f].map PyData.int)) ∧ (∀ n ∈ [a, b, c, d', e, f], Sz 190 n) ∧ ((∀ k ∈ os, 0 ≤ k ∧ k < 6) ∧ os.length ≤ 6) ∧ q (.val (.str (showT (nzT (os.map (itemT [a, b, c, d', e, f]))))))
theorem len_law_shown : ∀ ds x q, p_law_shown ds x q → ds.length = 2 := by
  rintro ds x q ⟨_, _, _, _, _, _, _, _, rfl, _⟩
  rfl
theorem six_inj {a b c d e f a' b' c' d' e' f' : Int} (h : [a, b, c, d, e, f].map PyData.int = [a', b', c', d', e', f'].map PyData.int) : [a, b, c, d, e, f] = [a', b', c', d', e', f'] := by
  simp only [List.map_cons, List.map_nil, List.cons.injEq, PyData.int.injEq, and_true] at h
  obtain ⟨rfl, rfl, rfl, rfl, rfl, rfl⟩ := h
  rfl
theorem w_shown1 {a b c d e f : Int} {os : List Int} {x : XP} {q : S → Prop} : @callK p_law_shown [.tuple [.int a, .int b, .int c, .int d, .int e, .int f], .list (os.map PyData.int)] x ⟨q⟩ = ((∀ n ∈ [a, b, c, d, e, f], Sz 190 n) ∧ ((∀ k ∈ os, 0 ≤ k ∧ k < 6) ∧ os.length ≤ 6) ∧ q (.val (.str (showT (nzT (os.map (itemT [a, b, c, d, e, f]))))))) := propext ⟨fun h => by
  obtain ⟨d0, a', b', c', d', e', f', os', e0, e1, h⟩ := h
  injection e0 with e2 e3
  injection e3 with e3
  injection e3 with e3
  have eo := ints_inj.mp e3
  subst eo
  subst e2
  rcases e1 with e1 | e1
  · injection e1 with e1
    have := six_inj (a := a) (b := b) (c := c) (d := d) (e := e) (f := f) e1
    rw [← this] at h
    exact h
  · exact (by cases e1), fun h => ⟨_, _, _, _, _, _, _, _, rfl, .inl rfl, h⟩⟩
theorem w_shown2 {a b c d e f : Int} {os : List Int} {x : XP} {q : S → Prop} : @callK p_law_shown [.list [.int a, .int b, .int c, .int d, .int e, .int f], .list (os.map PyData.int)] x ⟨q⟩ = ((∀ n ∈ [a, b, c, d, e, f], Sz 190 n) ∧ ((∀ k ∈ os, 0 ≤ k ∧ k < 6) ∧ os.length ≤ 6) ∧ q (.val (.str (showT (nzT (os.map (itemT [a, b, c, d, e, f]))))))) := propext ⟨fun h => by
  obtain ⟨d0, a', b', c', d', e', f', os', e0, e1, h⟩ := h
  injection e0 with e2 e3
  injection e3 with e3
  injection e3 with e3
  have eo := ints_inj.mp e3
  subst eo
  subst e2
  rcases e1 with e1 | e1
  · cases e1
  · injection e1 with e1
    have := six_inj (a := a) (b := b) (c := c) (d := d) (e := e) (f := f) e1
    rw [← this] at h
    exact h, fun h => ⟨_, _, _, _, _, _, _, _, rfl, .inr rfl, h⟩⟩
theorem w_shown3 {a b c d e f : Int} {x : XP} {q : S → Prop} : @callK p_law_shown [.tuple [.int a, .int b, .int c, .int d, .int e, .int f], .list [.int 0, .int 1, .int 2, .int 3, .int 4, .int 5]] x ⟨q⟩ = ((∀ n ∈ [a, b, c, d, e, f], Sz 190 n) ∧ q (.val (.str (showT (nzT (List.map (itemT [a, b, c, d, e, f]) ([0, 1, 2, 3, 4, 5] : List Int))))))) :=
  (w_shown1 (os := [0, 1, 2, 3, 4, 5])).trans (propext ⟨fun h => ⟨h.1, h.2.2⟩, fun h => ⟨h.1, by decide, h.2⟩⟩)
theorem w_shown4 {a b c d e f : Int} {x : XP} {q : S → Prop} : @callK p_law_shown [.list [.int a, .int b, .int c, .int d, .int e, .int f], .list [.int 0, .int 1, .int 2, .int 3, .int 4, .int 5]] x ⟨q⟩ = ((∀ n ∈ [a, b, c, d, e, f], Sz 190 n) ∧ q (.val (.str (showT (nzT (List.map (itemT [a, b, c, d, e, f]) ([0, 1, 2, 3, 4, 5] : List Int))))))) :=
  (w_shown2 (os := [0, 1, 2, 3, 4, 5])).trans (propext ⟨fun h => ⟨h.1, h.2.2⟩, fun h => ⟨h.1, by decide, h.2⟩⟩)
--simp w_shown1 w_shown2 w_shown3 w_shown4
theorem spec_law_shown : ∀ ds x q, p_law_shown ds x q → bodyD 5 b_law_shown ds x q := by
  rintro ds x q ⟨d0, a, b, c, d, e, f, os, rfl, hd, hz, ⟨ho, hl⟩, h⟩
  unfold b_law_shown
  have at6 : ∀ k ∈ os, ∃ n, (∀ q, rIxD d0 (.int k) q = q (.val (.int n))) ∧ [a, b, c, d, e, f].getD k.toNat 0 = n ∧ Sz 190 n := fun k hk => by
    have hk6 := ho k hk
    obtain ⟨v, hv, ev⟩ := ix_lit (xs := [a, b, c, d, e, f]) hk6.1 (by simpa using hk6.2)
    refine ⟨v, fun q => ?_, ?_, hz v hv⟩
    · rcases hd with rfl | rfl <;> (show optK (atI ([a, b, c, d, e, f].map PyData.int) k) _ = _; rw [ev]; rfl)
    · rcases (show k = 0 ∨ k = 1 ∨ k = 2 ∨ k = 3 ∨ k = 4 ∨ k = 5 by omega) with hk0 | hk0 | hk0 | hk0 | hk0 | hk0 <;> subst hk0 <;> (injection ev with ev; injection ev with ev)
  have atl : ∀ k ∈ os, atI (letL.map PyData.str) k = some (.str (letL.getD k.toNat "")) ∧ (letL.getD k.toNat "").length ≤ 100 := fun k hk => by
    have hk6 := ho k hk
    rcases (show k = 0 ∨ k = 1 ∨ k = 2 ∨ k = 3 ∨ k = 4 ∨ k = 5 by omega) with hk0 | hk0 | hk0 | hk0 | hk0 | hk0 <;> subst hk0 <;> exact ⟨rfl, by decide +kernel⟩
  clear hd
  walk_at "dl"
  refine for_maps (as := os) (en := PyData.int) (fun done rest δ' => ∃ s3 s4 : S, δ' = [.val d0, .val (.list (os.map PyData.int)), .val (.str (sumT (nzT (done.map (itemT [a, b, c, d, e, f]))))), s3, s4] ∧ os = done ++ rest ∧ (sumT (nzT (done.map (itemT [a, b, c, d, e, f])))).length ≤ 164 * done.length) ⟨_, _, rfl, rfl, show (Str.ofString "").length ≤ 164 * 0 from by decide +kernel⟩ (fun done k rest δ' ha w => ?_) fun δ' w => ?_
  · obtain ⟨s3, s4, rfl, _, hlen⟩ := w
    have hk : k ∈ os := by rw [ha]; simp
    obtain ⟨n, hn, gn, zn⟩ := at6 k hk
    obtain ⟨el, ll⟩ := atl k hk
    walk_at "dl"
    rw [hn]
    walk_at "dl"
    have dl : done.length ≤ 6 := by
      have := congrArg List.length ha
      rw [List.length_append] at this
      omega
    have eit : itemT [a, b, c, d, e, f] k = (n, letL.getD k.toNat "") := by unfold itemT; rw [gn]
    have esn : ∀ l, l = done.map (itemT [a, b, c, d, e, f]) → (done ++ [k]).map (itemT [a, b, c, d, e, f]) = l ++ [(n, letL.getD k.toNat "")] := fun l hl => by rw [hl, List.map_append, List.map_cons, List.map_nil, eit]
    have esn := esn _ rfl
    generalize letL.getD k.toNat "" = L at *
    generalize done.map (itemT [a, b, c, d, e, f]) = G at *
    have ea := sum_snoc (nzT G) (n, L)
    have la := add_len (s := sumT (nzT G)) (t := (n, L)) zn.ten ll
    refine if_pn (fun n0 => ?_) fun n0 => ?_
    · have sl := sg_len (s := sumT (nzT G)) (n := n)
      rw [hn]
      walk_at "dl"
      rw [show atI [PyData.str (Str.ofString " + "), PyData.str (Str.ofString " - ")] (if n < 0 then 1 else 0) = some (.str (if n < 0 then " - " else " + ")) by split <;> rfl]
      walk_at "dl"
      refine cut_ (fun δ' => δ' = [.val d0, .val (.list (os.map PyData.int)), .val (.str (sumT (nzT G))), .val (.int k), .val (.str (sgT (sumT (nzT G)) n))]) ?_ fun δ' w => ?_
      · walk_at "dl"
        unfold sgT
        refine if_pn (fun s0 => ?_) fun s0 => ?_
        · rw [hn]
          walk_at "dl"
          rw [show atI [PyData.str (Str.ofString ""), PyData.str (Str.ofString "-")] (if n < 0 then 1 else 0) = some (.str (if n < 0 then "-" else "")) by split <;> rfl]
          walk_at "dl"
          rw [if_pos s0]
        · rw [if_neg s0]
      · subst w
        walk_at "dl"
        have e1 : addT (sumT (nzT G)) (n, L) = sumT (nzT G) ++ sgT (sumT (nzT G)) n ++ termT n L := rfl
        have e2 := len_app (sumT (nzT G) ++ sgT (sumT (nzT G)) n) (termT n L)
        have e3 := len_app (sumT (nzT G)) (sgT (sumT (nzT G)) n)
        rw [e1] at la ea
        refine ⟨by omega, ?_⟩
        rw [hn]
        walk_at "dl"
        rw [el]
        walk_at "dl"
        refine ⟨zn, ll, by omega, _, _, ⟨by rw [esn, nz_snoc, if_neg n0, ea], rfl, rfl⟩, by rw [ha]; simp, by rw [esn, nz_snoc, if_neg n0, ea, List.length_append]; simp only [List.length_cons, List.length_nil]; omega⟩
    · have n0 : n = 0 := Classical.byContradiction n0
      exact ⟨_, _, ⟨by rw [esn, nz_snoc, if_pos n0], rfl, rfl⟩, by rw [ha]; simp, by rw [esn, nz_snoc, if_pos n0, List.length_append]; omega⟩
  · obtain ⟨s3, s4, rfl, -, hlen⟩ := w
    walk_at "dl"
    have hl6 : (sumT (nzT (os.map (itemT [a, b, c, d, e, f])))).length ≤ 984 := by omega
    unfold showT at h
    generalize sumT (nzT (os.map (itemT [a, b, c, d, e, f]))) = z at *
    refine cut_ (fun δ' => δ' = [.val d0, .val (.list (os.map PyData.int)), .val (.str (if z = "" then ("0" : Str) else z)), s3, s4]) ?_ fun δ' w => ?_
    · walk_at "dl"
      by_cases z0 : z = "" <;> simp only [z0, if_true, if_false]
    · subst w
      have l0 : (if z = "" then ("0" : Str) else z).length ≤ 984 := by
        split
        · decide +kernel
        · exact hl6
      have l4 : (" = 0" : Str).length = 4 := by decide +kernel
      walk_at "dl"
      exact ⟨by omega, h⟩

local macro_rules | `(tactic| walk_at "dl") => `(tactic| (simp (maxSteps := 10000000) (disch := omega) only [↓dlD, dlP, List.mem_cons, List.not_mem_nil, or_false, sizeLine_eq, Nat.reduceLeDiff, startD, isNon, Bool.and_true, Bool.and_eq_true, List.all_cons, List.all_nil, List.any_cons, List.any_nil, id_eq, Bool.and_self, Bool.or_false, Bool.or_true, decide_true, decide_false, Option.map_some, Option.some.injEq, List.map, List.length, List.replicate, List.append, List.cons_append, List.nil_append, Nat.sub_self, Nat.reduceSub, Nat.reduceAdd, reduceCtorEq, PyData.int.injEq, decide_eq_true_eq, Bool.not_eq_true', decide_eq_false_iff_not, Bool.not_true, Bool.not_false, if_true, if_false, Bool.false_eq_true, ne_eq, Int.reduceLE, Int.reduceLT, Int.reduceEq, Nat.reduceLT, Int.cast_ofNat_Int, Int.reducePow, Int.reduceToNat, Int.reduceMul, Int.reduceAdd, Int.reduceSub, Int.reduceNeg, Int.reduceMod, Int.reduceDiv, Int.reduceGT, Int.reduceGE, Int.reduceNe, not_false_eq_true, not_true_eq_false, forall_eq', exists_eq_left', eq_self, true_and, and_true, dlE0, dlE1, w_law_number, w_law_term, w_law_letters, w_shown1, w_shown2, w_shown3, w_shown4]; try simp only [List.cons.injEq, S.val.injEq, PyData.int.injEq, w_ex1, w_ex2, w_ex3, true_and, and_true]))
noncomputable def b_law_order : ST := (sSeq (sAsg (eLst (aCons (eC (.int 0)) (aCons (eC (.int 1)) (aCons (eC (.int 2)) (aCons (eC (.int 3)) (aCons (eC (.int 4)) (aCons (eC (.int 5)) aNil))))))) (gVar 1)) (sSeq (sAsg (eLst aNil) (gVar 2)) (sSeq (sFor (iRng1 (aCons (eC (.int 6)) aNil)) (gVal 3) (sSeq (sAppPop 2 1 (eOp rModD (pVar 0) (pE (eB rLenD (apCons (pVar 1) apNil))))) (sAsg (eOp rFdivD (pVar 0) (pE (eC (.int 6)))) (gVal 0)))) (sRetOwn 2))))
/-! law_order: slots number_here left found k -/
theorem map_erase {α β : Type} (f : α → β) : ∀ (l : List α) (k : Nat), (l.map f).eraseIdx k = (l.eraseIdx k).map f
  | [], _ => rfl
  | _ :: _, 0 => rfl
  | x :: l, k + 1 => congrArg (f x :: ·) (map_erase f l k)
theorem perm_erase : ∀ {l : List Int} {k : Nat} {x : Int}, l[k]? = some x → (x :: l.eraseIdx k).Perm l
  | [], _, _, h => by simp at h
  | a :: l, 0, x, h => by
    simp at h
    subst h
    exact .refl _
  | a :: l, k + 1, x, h => by
    have ih := perm_erase (l := l) (k := k) (x := x) (by simpa using h)
    exact (List.Perm.swap a x _).trans (ih.cons a)
theorem perm_pop {fs ls : List Int} {k : Nat} {x : Int} (h : ls[k]? = some x) : (fs ++ [x] ++ ls.eraseIdx k).Perm (fs ++ ls) := by
  rw [List.append_assoc]
  refine List.Perm.append_left fs ?_
  rw [List.singleton_append]
  exact perm_erase h
def p_law_order : DSp := fun ds x q => ∃ (n : Int), ds = [.int n] ∧ (Sz 1048576 n ∧ ∀ os : List Int, os.Perm [0, 1, 2, 3, 4, 5] → q (.own (os.map PyData.int)))
theorem len_law_order : ∀ ds x q, p_law_order ds x q → ds.length = 1 := by
  rintro ds x q ⟨n, rfl, _⟩
  rfl
theorem w_law_order {n : Int} {x : XP} {q : S → Prop} : @callK p_law_order [.int n] x ⟨q⟩ = (Sz 1048576 n ∧ ∀ os : List Int, os.Perm [0, 1, 2, 3, 4, 5] → q (.own (os.map PyData.int))) := propext ⟨fun h => by
  obtain ⟨n', e, h⟩ := h
  simp only [List.cons.injEq, PyData.list.injEq, PyData.tuple.injEq, PyData.int.injEq, PyData.str.injEq, PyData.bool.injEq, ints_inj, parts_inj, and_true, and_assoc] at e
  obtain ⟨rfl⟩ := e
  exact h, fun h => ⟨_, rfl, h⟩⟩
--simp w_law_order
theorem spec_law_order : ∀ ds x q, p_law_order ds x q → bodyD 4 b_law_order ds x q := by
  rintro ds x q ⟨n, rfl, zn, h⟩
  unfold b_law_order
  walk_at "dl"
  refine for_rng (n := 6) (lo := 0) (fun i δ' => ∃ (n : Int) (ls fs : List Int) (s3 : S), δ' = [.val (.int n), .own (ls.map PyData.int), .own (fs.map PyData.int), s3] ∧ Sz 1048576 n ∧ ls.length + i = 6 ∧ (fs ++ ls).Perm [0, 1, 2, 3, 4, 5]) ⟨n, [0, 1, 2, 3, 4, 5], [], _, rfl, zn, rfl, by simp⟩ (fun i δ' hi w => ?_) fun δ' w => ?_
  · obtain ⟨n, ls, fs, s3, rfl, zn, hl, hp⟩ := w
    walk_at "dl"
    have el := hp.length_eq
    rw [List.length_append] at el
    simp only [List.length_cons, List.length_nil] at el
    rw [List.length_map, List.length_map]
    have l0 : (0 : Int) < (ls.length : Int) := by omega
    have k0 := Int.emod_nonneg n (show (ls.length : Int) ≠ 0 by omega)
    have k1 := Int.emod_lt_of_pos n l0
    generalize n % (ls.length : Int) = k at k0 k1 ⊢
    have hk : k.toNat < ls.length := by omega
    have hx : ls[k.toNat]? = some ls[k.toNat] := List.getElem?_eq_getElem hk
    refine ⟨by omega, ⟨k0, k1, by omega⟩, by omega, .int ls[k.toNat], by rw [List.getElem?_map, hx]; rfl, DivOk.of (n := 64) (by decide) (by decide +kernel) (by decide), n / 6, ls.eraseIdx k.toNat, fs ++ [ls[k.toNat]], _, ⟨rfl, by rw [map_erase], by rw [List.map_append]; rfl, rfl⟩, Sz.ediv zn, by rw [List.length_eraseIdx, if_pos hk]; omega, (perm_pop hx).trans hp⟩
  · obtain ⟨n, ls, fs, s3, rfl, zn, hl, hp⟩ := w
    have e : ls = [] := List.eq_nil_of_length_eq_zero (by omega)
    subst e
    rw [List.append_nil] at hp
    walk_at "dl"
    exact h fs hp

def dlE2 := And.intro @w_law_number (And.intro @w_law_term (And.intro @w_law_letters (And.intro @w_shown1 (And.intro @w_shown2 (And.intro @w_shown3 (And.intro @w_shown4 (@w_law_order)))))))
local macro_rules | `(tactic| walk_at "dl") => `(tactic| (simp (maxSteps := 10000000) (disch := omega) only [↓dlD, dlP, List.mem_cons, List.not_mem_nil, or_false, sizeLine_eq, Nat.reduceLeDiff, startD, isNon, Bool.and_true, Bool.and_eq_true, List.all_cons, List.all_nil, List.any_cons, List.any_nil, id_eq, Bool.and_self, Bool.or_false, Bool.or_true, decide_true, decide_false, Option.map_some, Option.some.injEq, List.map, List.length, List.replicate, List.append, List.cons_append, List.nil_append, Nat.sub_self, Nat.reduceSub, Nat.reduceAdd, reduceCtorEq, PyData.int.injEq, decide_eq_true_eq, Bool.not_eq_true', decide_eq_false_iff_not, Bool.not_true, Bool.not_false, if_true, if_false, Bool.false_eq_true, ne_eq, Int.reduceLE, Int.reduceLT, Int.reduceEq, Nat.reduceLT, Int.cast_ofNat_Int, Int.reducePow, Int.reduceToNat, Int.reduceMul, Int.reduceAdd, Int.reduceSub, Int.reduceNeg, Int.reduceMod, Int.reduceDiv, Int.reduceGT, Int.reduceGE, Int.reduceNe, not_false_eq_true, not_true_eq_false, forall_eq', exists_eq_left', eq_self, true_and, and_true, dlE0, dlE1, dlE2]; try simp only [List.cons.injEq, S.val.injEq, PyData.int.injEq, w_ex1, w_ex2, w_ex3, true_and, and_true]))
noncomputable def b_law_sign_by : ST := (sSeq (sAsg (eC (.str " !\"#$&'()*+,-./0123456789:;<=>?@ABCDEFGHIJKLMNOPQRSTUVWXYZ[\\]^_`")) (gVal 1)) (sSeq (sAsg (eOp rAddD (pVar 1) (pE (eC (.str "abcdefghijklmnopqrstuvwxyz{|}~\n\t")))) (gVal 1)) (sRet (eOp rIxD (pVar 1) (pE (eOp rModD (pVar 0) (pE (eC (.int 96)))))))))
/-! law_sign_by: slots cell some -/
def p_law_sign_by : DSp := fun ds x q => ∃ (c : Int), ds = [.int c] ∧ (Sz 1048600 c ∧ ∀ k : Nat, q (.val (.str ⟨#[k]⟩)))
theorem len_law_sign_by : ∀ ds x q, p_law_sign_by ds x q → ds.length = 1 := by
  rintro ds x q ⟨c, rfl, _⟩
  rfl
theorem w_law_sign_by {c : Int} {x : XP} {q : S → Prop} : @callK p_law_sign_by [.int c] x ⟨q⟩ = (Sz 1048600 c ∧ ∀ k : Nat, q (.val (.str ⟨#[k]⟩))) := propext ⟨fun h => by
  obtain ⟨c', e, h⟩ := h
  simp only [List.cons.injEq, PyData.list.injEq, PyData.tuple.injEq, PyData.int.injEq, PyData.str.injEq, PyData.bool.injEq, ints_inj, parts_inj, and_true, and_assoc] at e
  obtain ⟨rfl⟩ := e
  exact h, fun h => ⟨_, rfl, h⟩⟩
--simp w_law_sign_by
theorem spec_law_sign_by : ∀ ds x q, p_law_sign_by ds x q → bodyD 2 b_law_sign_by ds x q := by
  rintro ds x q ⟨c, rfl, zc, h⟩
  unfold b_law_sign_by
  walk_at "dl"
  have k0 := Int.emod_nonneg c (show (96 : Int) ≠ 0 by decide)
  have k1 := Int.emod_lt_of_pos c (show (0 : Int) < 96 by decide)
  have l0 : (Str.ofString " !\"#$&'()*+,-./0123456789:;<=>?@ABCDEFGHIJKLMNOPQRSTUVWXYZ[\\]^_`").length + (Str.ofString "abcdefghijklmnopqrstuvwxyz{|}~\n\t").length = 96 := by decide +kernel
  have l1 := len_app (Str.ofString " !\"#$&'()*+,-./0123456789:;<=>?@ABCDEFGHIJKLMNOPQRSTUVWXYZ[\\]^_`") (Str.ofString "abcdefghijklmnopqrstuvwxyz{|}~\n\t")
  rw [l0] at l1
  rw [l0, l1]
  rw [TL.len_tl] at l1
  have hk : (c % 96).toNat < (TL.tl (Str.ofString " !\"#$&'()*+,-./0123456789:;<=>?@ABCDEFGHIJKLMNOPQRSTUVWXYZ[\\]^_`" ++ Str.ofString "abcdefghijklmnopqrstuvwxyz{|}~\n\t")).length := by omega
  refine ⟨by decide, by decide, ?_⟩
  rw [nat_at (List.getElem?_eq_getElem hk) (i := c % 96) (by omega)]
  exact h _

local macro_rules | `(tactic| walk_at "dl") => `(tactic| (simp (maxSteps := 10000000) (disch := omega) only [↓dlD, dlP, List.mem_cons, List.not_mem_nil, or_false, sizeLine_eq, Nat.reduceLeDiff, startD, isNon, Bool.and_true, Bool.and_eq_true, List.all_cons, List.all_nil, List.any_cons, List.any_nil, id_eq, Bool.and_self, Bool.or_false, Bool.or_true, decide_true, decide_false, Option.map_some, Option.some.injEq, List.map, List.length, List.replicate, List.append, List.cons_append, List.nil_append, Nat.sub_self, Nat.reduceSub, Nat.reduceAdd, reduceCtorEq, PyData.int.injEq, decide_eq_true_eq, Bool.not_eq_true', decide_eq_false_iff_not, Bool.not_true, Bool.not_false, if_true, if_false, Bool.false_eq_true, ne_eq, Int.reduceLE, Int.reduceLT, Int.reduceEq, Nat.reduceLT, Int.cast_ofNat_Int, Int.reducePow, Int.reduceToNat, Int.reduceMul, Int.reduceAdd, Int.reduceSub, Int.reduceNeg, Int.reduceMod, Int.reduceDiv, Int.reduceGT, Int.reduceGE, Int.reduceNe, not_false_eq_true, not_true_eq_false, forall_eq', exists_eq_left', eq_self, true_and, and_true, dlE0, dlE1, dlE2, w_law_sign_by]; try simp only [List.cons.injEq, S.val.injEq, PyData.int.injEq, w_ex1, w_ex2, w_ex3, true_and, and_true]))
noncomputable def b_law_odd : ST := (sSeq (sAsg (eLst (aCons (eC (.str "")) (aCons (eC (.str "0")) (aCons (eC (.str "= 0")) (aCons (eC (.str " = 0")) (aCons (eC (.str "0 = 0 ")) (aCons (eC (.str "00 = 0")) (aCons (eC (.str "-0 = 0")) (aCons (eC (.str "+0 = 0")) (aCons (eC (.str "0 xx = 0")) (aCons (eC (.str "1 xx = 0")) (aCons (eC (.str "01 xx = 0")) aNil)))))))))))) (gVar 1)) (sSeq (sApp 1 (eC (.str "xx=0"))) (sSeq (sAsg (eOp rAddD (pVar 1) (pE (eLst (aCons (eC (.str "xx = 1")) (aCons (eC (.str "- xx = 0")) (aCons (eC (.str "+ xx = 0")) (aCons (eC (.str "+xx = 0")) (aCons (eC (.str "xx + -yy = 0")) (aCons (eC (.str "xx +yy = 0")) (aCons (eC (.str "xx  + yy = 0")) aNil)))))))))) (gVar 1)) (sSeq (sApp 1 (eC (.str "2xx = 0"))) (sSeq (sAsg (eOp rAddD (pVar 1) (pE (eLst (aCons (eC (.str "xx + xx = 0")) (aCons (eC (.str "yx = 0")) (aCons (eC (.str "zy = 0")) (aCons (eC (.str "2 2 xx = 0")) (aCons (eC (.str "xx yy = 0")) (aCons (eC (.str "xx + = 0")) (aCons (eC (.str "--xx = 0")) aNil)))))))))) (gVar 1)) (sSeq (sAsg (eOp rAddD (pVar 1) (pE (eLst (aCons (eC (.str "2 = 0")) (aCons (eC (.str "x = 0")) (aCons (eC (.str "XX = 0")) aNil)))))) (gVar 1)) (sRet (eOp rIxD (pVar 1) (pE (eOp rModD (pVar 0) (pE (eC (.int 30)))))))))))))
/-! law_odd: slots cell some -/
theorem at_txt {l : List D} {k : Int} (n : Nat) (h : l.all (fun d => match d with | .str y => decide (y.length ≤ n) | _ => false) = true) (k0 : 0 ≤ k) (k1 : k < l.length) : ∃ y : Str, atI l k = some (.str y) ∧ y.length ≤ n := by
  have hk : k.toNat < l.length := by omega
  have e := nat_at (xs := l) (List.getElem?_eq_getElem hk) (i := k) (by omega)
  have hm := List.all_eq_true.mp h l[k.toNat] (List.getElem_mem hk)
  cases q : l[k.toNat] with
  | str y =>
    rw [q] at e hm
    exact ⟨y, e, of_decide_eq_true hm⟩
  | _ => rw [q] at hm; cases hm
theorem ix_txt {l : List D} {k : Int} {K : Kq} (n : Nat) (h : l.all (fun d => match d with | .str y => decide (y.length ≤ n) | _ => false) = true) (k0 : 0 ≤ k) (k1 : k < l.length) (hf : ∀ y : Str, y.length ≤ n → K.k (.val (.str y))) : ixK (atI l k) := by
  obtain ⟨y, e, hy⟩ := at_txt n h k0 k1
  rw [e]
  exact hf y hy
def p_law_odd : DSp := fun ds x q => ∃ (c : Int), ds = [.int c] ∧ (Sz 1048600 c ∧ ∀ z : Str, z.length ≤ 100 → q (.val (.str z)))
theorem len_law_odd : ∀ ds x q, p_law_odd ds x q → ds.length = 1 := by
  rintro ds x q ⟨c, rfl, _⟩
  rfl
theorem w_law_odd {c : Int} {x : XP} {q : S → Prop} : @callK p_law_odd [.int c] x ⟨q⟩ = (Sz 1048600 c ∧ ∀ z : Str, z.length ≤ 100 → q (.val (.str z))) := propext ⟨fun h => by
  obtain ⟨c', e, h⟩ := h
  simp only [List.cons.injEq, PyData.list.injEq, PyData.tuple.injEq, PyData.int.injEq, PyData.str.injEq, PyData.bool.injEq, ints_inj, parts_inj, and_true, and_assoc] at e
  obtain ⟨rfl⟩ := e
  exact h, fun h => ⟨_, rfl, h⟩⟩
--simp w_law_odd
theorem spec_law_odd : ∀ ds x q, p_law_odd ds x q → bodyD 2 b_law_odd ds x q := by
  rintro ds x q ⟨c, rfl, zc, h⟩
  unfold b_law_odd
  walk_at "dl"
  have k0 := Int.emod_nonneg c (show (30 : Int) ≠ 0 by decide)
  have k1 := Int.emod_lt_of_pos c (show (0 : Int) < 30 by decide)
  exact ix_txt 100 (by decide +kernel) k0 k1 fun y hy => h y hy

local macro_rules | `(tactic| walk_at "dl") => `(tactic| (simp (maxSteps := 10000000) (disch := omega) only [↓dlD, dlP, List.mem_cons, List.not_mem_nil, or_false, sizeLine_eq, Nat.reduceLeDiff, startD, isNon, Bool.and_true, Bool.and_eq_true, List.all_cons, List.all_nil, List.any_cons, List.any_nil, id_eq, Bool.and_self, Bool.or_false, Bool.or_true, decide_true, decide_false, Option.map_some, Option.some.injEq, List.map, List.length, List.replicate, List.append, List.cons_append, List.nil_append, Nat.sub_self, Nat.reduceSub, Nat.reduceAdd, reduceCtorEq, PyData.int.injEq, decide_eq_true_eq, Bool.not_eq_true', decide_eq_false_iff_not, Bool.not_true, Bool.not_false, if_true, if_false, Bool.false_eq_true, ne_eq, Int.reduceLE, Int.reduceLT, Int.reduceEq, Nat.reduceLT, Int.cast_ofNat_Int, Int.reducePow, Int.reduceToNat, Int.reduceMul, Int.reduceAdd, Int.reduceSub, Int.reduceNeg, Int.reduceMod, Int.reduceDiv, Int.reduceGT, Int.reduceGE, Int.reduceNe, not_false_eq_true, not_true_eq_false, forall_eq', exists_eq_left', eq_self, true_and, and_true, dlE0, dlE1, dlE2, w_law_sign_by, w_law_odd]; try simp only [List.cons.injEq, S.val.injEq, PyData.int.injEq, w_ex1, w_ex2, w_ex3, true_and, and_true]))
noncomputable def b_law_text : ST := (sSeq (sAsg (eB rTupleD (apCons (pE (eComp (iRng1 (aCons (eC (.int 6)) aNil)) [5] (gVal 5) tYesD (eCall p_law_number (aCons (eOp rAddD (pE (eCall p_law_cell_at (aCons (eVar 0) (aCons (eVar 5) aNil)))) (pE (eOp rMulD (pE (eOp rMulD (pE (eC (.int 3))) (pVar 5))) (pVar 5)))) aNil)))) apNil)) (gVal 1)) (sSeq (sAsg (eCall p_law_shown (aCons (eVar 1) (aCons (eCall p_law_order (aCons (eCall p_law_cell_at (aCons (eVar 0) (aCons (eC (.int 7)) aNil))) aNil)) aNil))) (gVal 2)) (sSeq (sAsg (eOp rModD (pE (eCall p_law_cell_at (aCons (eVar 0) (aCons (eC (.int 6)) aNil)))) (pE (eC (.int 8)))) (gVal 3)) (sSeq (sAsg (eOp rModD (pE (eCall p_law_cell_at (aCons (eVar 0) (aCons (eC (.int 8)) aNil)))) (pE (eOp rAddD (pE (eB rLenD (apCons (pVar 2) apNil))) (pE (eC (.int 1)))))) (gVal 4)) (sSeq (sIf (tOr (tV (eOp rEqD (pVar 3) (pE (eC (.int 1))))) (tV (eOp rEqD (pVar 3) (pE (eC (.int 2)))))) (sRet (eOp rAddD (pE (eOp rAddD (pE (eSlice (pVar 2) oNo (oSome (eVar 4)))) (pE (eCall p_law_sign_by (aCons (eCall p_law_cell_at (aCons (eVar 0) (aCons (eC (.int 9)) aNil))) aNil))))) (pE (eSlice (pVar 2) (oSome (eVar 4)) oNo)))) sNext) (sSeq (sIf (tV (eOp rEqD (pVar 3) (pE (eC (.int 3))))) (sRet (eOp rAddD (pE (eSlice (pVar 2) oNo (oSome (eVar 4)))) (pE (eSlice (pVar 2) (oSome (eOp rAddD (pVar 4) (pE (eC (.int 1))))) oNo)))) sNext) (sSeq (sIf (tV (eOp rEqD (pVar 3) (pE (eC (.int 4))))) (sRet (eOp rAddD (pE (eOp rAddD (pE (eOp rAddD (pE (eSlice (pVar 2) oNo (oSome (eUn rNegD (pE (eC (.int 4))))))) (pE (eC (.str " + "))))) (pE (eOp rIxD (pE (eCall0 p_law_letters)) (pE (eOp rModD (pE (eCall p_law_cell_at (aCons (eVar 0) (aCons (eC (.int 9)) aNil)))) (pE (eC (.int 6))))))))) (pE (eC (.str " = 0"))))) sNext) (sSeq (sIf (tV (eOp rEqD (pVar 3) (pE (eC (.int 5))))) (sRet (eOp rAddD (pE (eB rStrCD (apCons (pE (eOp rAddD (pE (eC (.int 1000000))) (pE (eOp rModD (pE (eCall p_law_cell_at (aCons (eVar 0) (aCons (eC (.int 9)) aNil)))) (pE (eC (.int 9000000))))))) apNil))) (pE (eC (.str " xx = 0"))))) sNext) (sSeq (sIf (tV (eOp rEqD (pVar 3) (pE (eC (.int 6))))) (sRet (eCall p_law_odd (aCons (eCall p_law_cell_at (aCons (eVar 0) (aCons (eC (.int 9)) aNil))) aNil))) sNext) (sSeq (sIf (tV (eOp rEqD (pVar 3) (pE (eC (.int 7))))) (sRet (eRepT (pVar 2) [" ", "+", "-", "x", "0"] ["", "-", "+", "y", "1"] (eOp rModD (pVar 4) (pE (eC (.int 5)))) (eOp rModD (pVar 4) (pE (eC (.int 5)))) (eOp rAddD (pE (eC (.int 1))) (pE (eOp rModD (pE (eOp rFdivD (pVar 4) (pE (eC (.int 5))))) (pE (eC (.int 2)))))))) sNext) (sRet (eVar 2))))))))))))
/-! law_text: slots script form text_here way at k -/
theorem fold_len : ∀ (its : List (Int × Str)) (s : Str), (∀ t ∈ its, t.1.natAbs < 10 ^ 60 ∧ t.2.length ≤ 100) → (its.foldl addT s).length ≤ s.length + 164 * its.length
  | [], s, _ => by simp
  | t :: r, s, h => by
    have h1 := h t List.mem_cons_self
    have := fold_len r (addT s t) fun u hu => h u (List.mem_cons_of_mem t hu)
    have := add_len (s := s) h1.1 h1.2
    rw [List.foldl_cons, List.length_cons]
    omega
theorem show_len {its : List (Int × Str)} (h : OkI its) : (showT its).length ≤ 100 + 164 * its.length := by
  have h1 := fold_len its (Str.ofString "") fun t ht => by
    obtain ⟨_, h2, h3⟩ := h.nz t ht
    refine ⟨Nat.lt_of_lt_of_le h2 (by decide +kernel), ?_⟩
    obtain ⟨x, y, e, _⟩ := let_facts _ h3
    rw [TL.len_tl, e]
    show 2 ≤ 100
    decide
  have h2 : (Str.ofString "").length = 0 := by decide +kernel
  have h4 : (Str.ofString " = 0").length = 4 := by decide +kernel
  have h5 : (Str.ofString "0").length = 1 := by decide +kernel
  unfold showT
  rw [len_app, h4]
  unfold sumT
  split
  · omega
  · omega
def p_law_text : DSp := fun ds x q => ∃ (ns : List Int), ds = [.list (ns.map PyData.int)] ∧ (Script ns ∧ ∀ z : Str, z.length ≤ 5000 → q (.val (.str z)))
theorem len_law_text : ∀ ds x q, p_law_text ds x q → ds.length = 1 := by
  rintro ds x q ⟨ns, rfl, _⟩
  rfl
theorem w_law_text {ns : List Int} {x : XP} {q : S → Prop} : @callK p_law_text [.list (ns.map PyData.int)] x ⟨q⟩ = (Script ns ∧ ∀ z : Str, z.length ≤ 5000 → q (.val (.str z))) := propext ⟨fun h => by
  obtain ⟨ns', e, h⟩ := h
  simp only [List.cons.injEq, PyData.list.injEq, PyData.tuple.injEq, PyData.int.injEq, PyData.str.injEq, PyData.bool.injEq, ints_inj, parts_inj, and_true, and_assoc] at e
  obtain ⟨rfl⟩ := e
  exact h, fun h => ⟨_, rfl, h⟩⟩
--simp w_law_text
theorem spec_law_text : ∀ ds x q, p_law_text ds x q → bodyD 6 b_law_text ds x q := by
  rintro ds x q ⟨ns, rfl, hs, h⟩
  unfold b_law_text
  walk_at "dl"
  have zc : ∀ (k j : Int), 0 ≤ j ∧ j ≤ 75 → Sz 1048600 (cellZ ns k + j) := fun k j hj => Sz.mono (Sz.add (cellZ_sz hs k) (Sz.of_le (j := 75) (by omega) (by decide +kernel) : Sz 7 j)) (by decide)
  refine comp_lit [.int (lawNum (cellZ ns 0)), .int (lawNum (cellZ ns 1 + 3)), .int (lawNum (cellZ ns 2 + 12)), .int (lawNum (cellZ ns 3 + 27)), .int (lawNum (cellZ ns 4 + 48)), .int (lawNum (cellZ ns 5 + 75))] (by show 6 ≤ 1000000; decide) ?_ ?_
  · walk_at "dl"
    have im : ∀ {i j : Int}, i.natAbs ≤ 100 → j.natAbs ≤ 100 → IntMulOk i j := fun {i j} h k => IntMulOk.of_le (Sz.of_le (j := 100) (by omega) (by decide +kernel) : Sz 7 i) (Sz.of_le (j := 100) (by omega) (by decide +kernel) : Sz 7 j) (by decide)
    exact ⟨⟨im (by decide) (by decide), im (by decide) (by decide), zc 0 0 (by decide), by rw [Int.add_zero]⟩, ⟨im (by decide) (by decide), im (by decide) (by decide), zc 1 3 (by decide)⟩, ⟨im (by decide) (by decide), im (by decide) (by decide), zc 2 12 (by decide)⟩, ⟨im (by decide) (by decide), im (by decide) (by decide), zc 3 27 (by decide)⟩, ⟨im (by decide) (by decide), im (by decide) (by decide), zc 4 48 (by decide)⟩, im (by decide) (by decide), im (by decide) (by decide), zc 5 75 (by decide)⟩
  walk_at "dl"
  have b0 := lawNum_bd (cellZ ns 0)
  have b1 := lawNum_bd (cellZ ns 1 + 3)
  have b2 := lawNum_bd (cellZ ns 2 + 12)
  have b3 := lawNum_bd (cellZ ns 3 + 27)
  have b4 := lawNum_bd (cellZ ns 4 + 48)
  have b5 := lawNum_bd (cellZ ns 5 + 75)
  generalize lawNum (cellZ ns 0) = a0 at *
  generalize lawNum (cellZ ns 1 + 3) = a1 at *
  generalize lawNum (cellZ ns 2 + 12) = a2 at *
  generalize lawNum (cellZ ns 3 + 27) = a3 at *
  generalize lawNum (cellZ ns 4 + 48) = a4 at *
  generalize lawNum (cellZ ns 5 + 75) = a5 at *
  refine ⟨cellZ_sz hs 7, fun os hp => ?_⟩
  have ho : (∀ k ∈ os, 0 ≤ k ∧ k < 6) ∧ os.length ≤ 6 := ⟨fun k hk => by
    have := hp.mem_iff.mp hk
    simp only [List.mem_cons, List.not_mem_nil, or_false] at this
    omega, by have := hp.length_eq; simp only [List.length_cons, List.length_nil] at this; omega⟩
  have z20 : ∀ {n : Int}, n.natAbs ≤ 999999 → Sz 190 n := fun h => Sz.mono (Sz.of_le (j := 1000000) (by omega) (by decide +kernel) : Sz 20 _) (by decide)
  have kl : (showT (nzT (os.map (itemT [a0, a1, a2, a3, a4, a5])))).length ≤ 1084 := by
    have h1 := show_len (ok_items (ns := [a0, a1, a2, a3, a4, a5]) (by simp; omega) hp)
    have h2 : (nzT (os.map (itemT [a0, a1, a2, a3, a4, a5]))).length ≤ 6 := by
      refine Nat.le_trans (List.length_filter_le ..) ?_
      rw [List.length_map, hp.length_eq]
      decide
    omega
  refine ⟨fun n hn => by rcases hn with rfl | rfl | rfl | rfl | rfl | rfl <;> exact z20 (by assumption), ho, ?_⟩
  generalize showT (nzT (os.map (itemT [a0, a1, a2, a3, a4, a5]))) = z at kl ⊢
  clear b0 b1 b2 b3 b4 b5 hp ho zc
  refine ⟨by omega, by omega, ?_⟩
  have p0 := Int.emod_nonneg (cellZ ns 8) (show ((z.length : Int) + 1) ≠ 0 by omega)
  have c9 : Sz 1048600 (cellZ ns 9) := Sz.mono (cellZ_sz hs 9) (by decide)
  have k0 := Int.emod_nonneg (cellZ ns 9) (show (6 : Int) ≠ 0 by decide)
  have k1 := Int.emod_lt_of_pos (cellZ ns 9) (show (0 : Int) < 6 by decide)
  have m0 := Int.emod_nonneg (cellZ ns 9) (show (9000000 : Int) ≠ 0 by decide)
  have m1 := Int.emod_lt_of_pos (cellZ ns 9) (show (0 : Int) < 9000000 by decide)
  generalize cellZ ns 8 % ((z.length : Int) + 1) = p at p0 ⊢
  have lc : ∀ a b, (cutS z a b).length ≤ 1084 := fun a b => Nat.le_trans (cutS_length z a b) kl
  have l3 : (" + " : Str).length = 3 := by decide +kernel
  have l4 : (" = 0" : Str).length = 4 := by decide +kernel
  have lx : (" xx = 0" : Str).length = 7 := by decide +kernel
  have sm : z.length ≤ 16777216 ∧ Sz 1048600 (cellZ ns 9) ∧ ∀ (k : Nat), (cutS z none (some p)).length + (⟨#[k]⟩ : Str).length ≤ 16777216 ∧ z.length ≤ 16777216 ∧ (cutS z none (some p) ++ (⟨#[k]⟩ : Str)).length + (cutS z (some p) none).length ≤ 16777216 ∧ q (.val (.str (cutS z none (some p) ++ ⟨#[k]⟩ ++ cutS z (some p) none))) := by
    refine ⟨by omega, c9, fun k => ?_⟩
    have q1 := lc none (some p)
    have q2 := lc (some p) none
    have q3 : (⟨#[k]⟩ : Str).length = 1 := rfl
    have q4 := len_app (cutS z none (some p)) ⟨#[k]⟩
    have q5 := len_app (cutS z none (some p) ++ ⟨#[k]⟩) (cutS z (some p) none)
    exact ⟨by omega, by omega, by omega, h _ (by omega)⟩
  refine if_pn (fun _ => sm) fun _ => if_pn (fun _ => sm) fun _ => if_pn (fun _ => ?_) fun _ => if_pn (fun _ => ?_) fun _ => if_pn (fun _ => ?_) fun _ => if_pn (fun _ => ?_) fun _ => if_pn (fun _ => ?_) fun _ => ?_
  · have q1 := lc none (some p)
    have q2 := lc (some (p + 1)) none
    have q4 := len_app (cutS z none (some p)) (cutS z (some (p + 1)) none)
    exact ⟨by omega, by omega, by omega, h _ (by omega)⟩
  · have q1 := lc none (some (-4))
    have q4 := len_app (cutS z none (some (-4))) " + "
    refine ⟨by omega, by omega, ix_txt 10 (by decide +kernel) k0 k1 fun y hy => ?_⟩
    walk_at "dl"
    have q5 := len_app (cutS z none (some (-4)) ++ (" + " : Str)) y
    have q6 := len_app (cutS z none (some (-4)) ++ (" + " : Str) ++ y) " = 0"
    exact ⟨by omega, by omega, h _ (by omega)⟩
  · have e : (1000000 + cellZ ns 9 % 9000000) = (((1000000 + cellZ ns 9 % 9000000).toNat : Nat) : Int) := by omega
    have hn : (1000000 + cellZ ns 9 % 9000000).toNat < 10 ^ 7 := by omega
    have lg : (1000000 + cellZ ns 9 % 9000000).natAbs.log2 < 1920 := by
      have := Sz.of_le (j := 10000000) (i := 1000000 + cellZ ns 9 % 9000000) (n := 24) (by omega) (by decide +kernel)
      exact Nat.lt_of_lt_of_le ((Nat.log2_lt (by omega)).mpr (show _ < 2 ^ 24 by omega)) (by decide)
    have ln : (Str.ofString (toString (1000000 + cellZ ns 9 % 9000000))).length ≤ 7 := by
      rw [e, TL.len_tl, TL.tl_num]
      exact TL.numL_len (k := 7) (by decide) hn
    have q4 := len_app (Str.ofString (toString (1000000 + cellZ ns 9 % 9000000))) " xx = 0"
    exact ⟨lg, by omega, h _ (by omega)⟩
  · exact ⟨c9, fun z hz => h z (by omega)⟩
  · have t0 := Int.emod_nonneg p (show (5 : Int) ≠ 0 by decide)
    have t1 := Int.emod_lt_of_pos p (show (0 : Int) < 5 by decide)
    have t2 := Int.emod_nonneg (p / 5) (show (2 : Int) ≠ 0 by decide)
    have t3 := Int.emod_lt_of_pos (p / 5) (show (0 : Int) < 2 by decide)
    have fin : ∀ (y w : Str), y ≠ w → w.length ≤ 1 → DivOk 5 ∧ (0 ≤ 1 + p / 5 % 2 ∧ 1 + p / 5 % 2 ≤ 1000000) ∧ ¬y = w ∧ z.length + (1 + p / 5 % 2).toNat * w.length ≤ 16777216 ∧ q (.val (.str (replN z y w (1 + p / 5 % 2).toNat))) := fun y w n hw => by
      have r := replN_len z y w (1 + p / 5 % 2).toNat
      have m : (1 + p / 5 % 2).toNat * w.length ≤ 2 * 1 := Nat.mul_le_mul (by omega) hw
      exact ⟨DivOk.of (n := 64) (by decide) (by decide +kernel) (by decide), by omega, n, by omega, h _ (by omega)⟩
    rcases (show p % 5 = 0 ∨ p % 5 = 1 ∨ p % 5 = 2 ∨ p % 5 = 3 ∨ p % 5 = 4 by omega) with e | e | e | e | e <;> rw [e] <;> exact ⟨by decide, by decide, fin _ _ (by decide +kernel) (by decide +kernel)⟩
  · exact h _ (by omega)

local macro_rules | `(tactic| walk_at "dl") => `(tactic| (simp (maxSteps := 10000000) (disch := omega) only [↓dlD, dlP, List.mem_cons, List.not_mem_nil, or_false, sizeLine_eq, Nat.reduceLeDiff, startD, isNon, Bool.and_true, Bool.and_eq_true, List.all_cons, List.all_nil, List.any_cons, List.any_nil, id_eq, Bool.and_self, Bool.or_false, Bool.or_true, decide_true, decide_false, Option.map_some, Option.some.injEq, List.map, List.length, List.replicate, List.append, List.cons_append, List.nil_append, Nat.sub_self, Nat.reduceSub, Nat.reduceAdd, reduceCtorEq, PyData.int.injEq, decide_eq_true_eq, Bool.not_eq_true', decide_eq_false_iff_not, Bool.not_true, Bool.not_false, if_true, if_false, Bool.false_eq_true, ne_eq, Int.reduceLE, Int.reduceLT, Int.reduceEq, Nat.reduceLT, Int.cast_ofNat_Int, Int.reducePow, Int.reduceToNat, Int.reduceMul, Int.reduceAdd, Int.reduceSub, Int.reduceNeg, Int.reduceMod, Int.reduceDiv, Int.reduceGT, Int.reduceGE, Int.reduceNe, not_false_eq_true, not_true_eq_false, forall_eq', exists_eq_left', eq_self, true_and, and_true, dlE0, dlE1, dlE2, w_law_sign_by, w_law_odd, w_law_text]; try simp only [List.cons.injEq, S.val.injEq, PyData.int.injEq, w_ex1, w_ex2, w_ex3, true_and, and_true]))
noncomputable def b_law_figures : ST := (sSeq (sIf (tOr (tV (eOp rEqD (pVar 0) (pE (eC (.str ""))))) (tOr (tV (eOp rGtD (pE (eB rLenD (apCons (pVar 0) apNil))) (pE (eC (.int 6))))) (tV (eOp rEqD (pE (eOp rIxD (pVar 0) (pE (eC (.int 0))))) (pE (eC (.str "0"))))))) (sRet (eC (.int 0))) sNext) (sSeq (sAsg (eC (.int 0)) (gVal 1)) (sSeq (sFor (iStrD (eVar 0)) (gVal 2) (sSeq (sAsg (eM1 cFind (pE (eC (.str "0123456789"))) (pVar 2)) (gVal 3)) (sSeq (sIf (tV (eOp rLtD (pVar 3) (pE (eC (.int 0))))) (sRet (eC (.int 0))) sNext) (sAsg (eOp rAddD (pE (eOp rMulD (pE (eC (.int 10))) (pVar 1))) (pVar 3)) (gVal 1))))) (sRet (eVar 1)))))
/-! law_figures: slots word number_here sign at -/
/-- what the law reads as a coefficient -/
def figN (w : Str) : Int := if w = "" ∨ 6 < w.length ∨ w.cps.toList.head? = some 48 ∨ w.cps.toList.all digC = false then 0 else NumText.digitsVal w.cps.toList
theorem dig_sub {c i : Nat} (h : i + 1 ≤ 10) (k : Builtin.Str.subAt ("0123456789" : Str) ⟨#[c]⟩ i = true) : c = 48 + i := by
  unfold Builtin.Str.subAt at k
  rw [beq_iff_eq] at k
  have e : ("0123456789" : Str).cps = #[48, 49, 50, 51, 52, 53, 54, 55, 56, 57] := by decide +kernel
  rw [e] at k
  have k := congrArg Array.toList k
  have hl : (⟨#[c]⟩ : Str).length = 1 := rfl
  rw [hl] at k
  rcases (show i = 0 ∨ i = 1 ∨ i = 2 ∨ i = 3 ∨ i = 4 ∨ i = 5 ∨ i = 6 ∨ i = 7 ∨ i = 8 ∨ i = 9 by omega) with h | h | h | h | h | h | h | h | h | h <;> subst h <;> (have k : [_] = [c] := k; injection k with k; exact k.symm)
theorem find_dig (c : Nat) : Txt.find ("0123456789" : Str) ⟨#[c]⟩ = if digC c = true then (c : Int) - 48 else -1 := by
  by_cases h : digC c = true
  · rw [if_pos h]
    have := of_decide_eq_true (show decide (48 ≤ c ∧ c ≤ 57) = true from h)
    rcases (show c = 48 ∨ c = 49 ∨ c = 50 ∨ c = 51 ∨ c = 52 ∨ c = 53 ∨ c = 54 ∨ c = 55 ∨ c = 56 ∨ c = 57 by omega) with h | h | h | h | h | h | h | h | h | h <;> subst h <;> decide +kernel
  · rw [if_neg h]
    unfold Txt.find
    cases e : Builtin.Str.occurrences ("0123456789" : Str) ⟨#[c]⟩ 0 ("0123456789" : Str).length 1 with
    | nil => rfl
    | cons i r =>
      exfalso
      obtain ⟨h1, h2⟩ := StrLaws.occ_spec ("0123456789" : Str) ⟨#[c]⟩ 0 ("0123456789" : Str).length 1 i (by rw [e]; exact List.mem_cons_self)
      have l10 : ("0123456789" : Str).length = 10 := by decide +kernel
      have l1 : (⟨#[c]⟩ : Str).length = 1 := rfl
      rw [l10, l1] at h1
      have := dig_sub h1 h2
      exact h (decide_eq_true (show 48 ≤ c ∧ c ≤ 57 by omega))
theorem val_snoc (l : List Nat) (c : Nat) : NumText.digitsVal (l ++ [c]) = NumText.digitsVal l * 10 + (c - 48) := by
  unfold NumText.digitsVal
  rw [List.foldl_append]
  rfl
def p_law_figures : DSp := fun ds x q => ∃ (w : Str), ds = [.str w] ∧ (w.length ≤ 100000 ∧ q (.val (.int (figN w))))
theorem len_law_figures : ∀ ds x q, p_law_figures ds x q → ds.length = 1 := by
  rintro ds x q ⟨w, rfl, _⟩
  rfl
theorem w_law_figures {w : Str} {x : XP} {q : S → Prop} : @callK p_law_figures [.str w] x ⟨q⟩ = (w.length ≤ 100000 ∧ q (.val (.int (figN w)))) := propext ⟨fun h => by
  obtain ⟨w', e, h⟩ := h
  simp only [List.cons.injEq, PyData.list.injEq, PyData.tuple.injEq, PyData.int.injEq, PyData.str.injEq, PyData.bool.injEq, ints_inj, parts_inj, and_true, and_assoc] at e
  obtain ⟨rfl⟩ := e
  exact h, fun h => ⟨_, rfl, h⟩⟩
--simp w_law_figures
theorem spec_law_figures : ∀ ds x q, p_law_figures ds x q → bodyD 4 b_law_figures ds x q := by
  rintro ds x q ⟨w, rfl, hl, h⟩
  unfold b_law_figures
  have zero : (w = "" ∨ 6 < w.length ∨ w.cps.toList.head? = some 48 ∨ w.cps.toList.all digC = false) → q (.val (.int 0)) := fun k => by
    unfold figN at h
    rw [if_pos k] at h
    exact h
  walk_at "dl"
  refine if_pn (fun k => zero (.inl k)) fun n1 => ⟨by omega, if_pn (fun k => zero (.inr (.inl (by omega)))) fun n2 => ⟨by omega, ?_⟩⟩
  obtain ⟨c, r, e⟩ : ∃ c r, w.cps.toList = c :: r := by
    cases e : w.cps.toList with
    | nil => exact absurd (TL.ext_tl (by show w.cps.toList = _; rw [e]; rfl)) n1
    | cons c r => exact ⟨c, r, rfl⟩
  rw [e]
  walk_at "dl"
  refine if_pn (fun k => zero (.inr (.inr (.inl (by
    rw [e]
    have := congrArg TL.tl k
    have e0 : TL.tl ("0" : Str) = [48] := by decide +kernel
    rw [e0] at this
    injection this with this
    rw [this]
    rfl))))) fun n3 => ?_
  have l6 : w.cps.toList.length ≤ 6 := by
    have : w.length = w.cps.toList.length := TL.len_tl w
    omega
  refine for_maps (as := w.cps.toList) (en := fun c => .str ⟨#[c]⟩) (fun done rest δ' => ∃ s2 s3 : S, δ' = [.val (.str w), .val (.int (NumText.digitsVal done)), s2, s3] ∧ w.cps.toList = done ++ rest ∧ done.all digC = true) ⟨_, _, rfl, rfl, rfl⟩ (fun done t rest δ' ha w' => ?_) fun δ' w' => ?_
  · obtain ⟨s2, s3, rfl, _, hd⟩ := w'
    walk_at "dl"
    have fd := find_dig t
    have e9 : Txt.find (Str.ofString "0123456789") ⟨#[t]⟩ = Txt.find ("0123456789" : Str) ⟨#[t]⟩ := rfl
    rw [e9, fd]
    by_cases dt : digC t = true
    · have td := of_decide_eq_true (show decide (48 ≤ t ∧ t ≤ 57) = true from dt)
      rw [if_pos dt, if_neg (by omega)]
      have dl : done.length ≤ 6 := by
        have := congrArg List.length ha
        rw [List.length_append] at this
        omega
      have vb := val_bd done hd
      have pb := Nat.pow_le_pow_right (n := 10) (by decide) dl
      refine ⟨IntMulOk.of_le (show Sz 4 10 by decide +kernel) (Sz.of_le (j := 1000000) (by omega) (by decide +kernel) : Sz 20 _) (by decide), _, _, ⟨by rw [val_snoc]; congr 3; omega, rfl, rfl⟩, by rw [ha]; simp, by rw [List.all_append, hd, List.all_cons, dt]; rfl⟩
    · rw [if_neg dt, if_pos (by omega)]
      exact zero (.inr (.inr (.inr (by rw [ha, List.all_append, List.all_cons]; simp [dt]))))
  · obtain ⟨s2, s3, rfl, -, hd⟩ := w'
    walk_at "dl"
    unfold figN at h
    rw [if_neg] at h
    · exact h
    rintro (k | k | k | k)
    · exact n1 k
    · omega
    · rw [e] at k
      injection k with k
      subst k
      exact n3 (TL.ext_tl (by decide +kernel))
    · rw [hd] at k; cases k
theorem num_fig (w : Str) : numW w = if figN w = 0 ∨ w = "1" then none else some (figN w) := by
  by_cases c : w = "" ∨ 6 < w.length ∨ w.cps.toList.head? = some 48 ∨ w.cps.toList.all digC = false
  · have e : figN w = 0 := if_pos c
    rw [if_pos (.inl e)]
    refine if_pos ?_
    rcases c with c | c | c | c
    · exact .inl c
    · exact .inr (.inr (.inr (.inl c)))
    · exact .inr (.inr (.inl c))
    · exact .inr (.inr (.inr (.inr c)))
  · have e : figN w = NumText.digitsVal w.cps.toList := if_neg c
    have nz : figN w ≠ 0 := by
      rw [e]
      cases ew : w.cps.toList with
      | nil => exact absurd (.inl (TL.ext_tl (by show w.cps.toList = _; rw [ew]; rfl))) c
      | cons d r =>
        have hd : d ≠ 48 := fun z => c (.inr (.inr (.inl (by rw [ew, z]; rfl))))
        have ha : (d :: r).all digC = true := by
          rw [← ew]
          cases q : w.cps.toList.all digC with
          | true => rfl
          | false => exact absurd (.inr (.inr (.inr q))) c
        rw [List.all_cons, Bool.and_eq_true] at ha
        have hdd := of_decide_eq_true (show decide (48 ≤ d ∧ d ≤ 57) = true from ha.1)
        have key : ∀ (l : List Nat) (a : Nat), 0 < a → 0 < l.foldl (fun acc c => acc * 10 + (c - 48)) a := by
          intro l
          induction l with
          | nil => intro a h; exact h
          | cons x l ih => intro a h; exact ih (a * 10 + (x - 48)) (by omega)
        have := key r (0 * 10 + (d - 48)) (by omega)
        have e2 : NumText.digitsVal (d :: r) = r.foldl (fun acc c => acc * 10 + (c - 48)) (0 * 10 + (d - 48)) := rfl
        rw [e2]
        omega
    by_cases w1 : w = "1"
    · rw [if_pos (.inr w1)]
      exact if_pos (.inr (.inl w1))
    · rw [if_neg (fun z => z.elim nz w1)]
      unfold numW
      rw [if_neg, e]
      rintro (k | k | k | k | k)
      · exact c (.inl k)
      · exact w1 k
      · exact c (.inr (.inr (.inl k)))
      · exact c (.inr (.inl k))
      · exact c (.inr (.inr (.inr k)))
theorem fig_bd (w : Str) : 0 ≤ figN w ∧ figN w < 1000000 := by
  unfold figN
  split
  · decide
  · rename_i c
    have al : w.cps.toList.all digC = true := by
      cases e : w.cps.toList.all digC
      · exact absurd (.inr (.inr (.inr e))) c
      · rfl
    have b := val_bd _ al
    have l : w.cps.toList.length ≤ 6 := by
      have : w.length = w.cps.toList.length := TL.len_tl w
      exact Classical.byContradiction fun k => c (.inr (.inl (by omega)))
    have := Nat.pow_le_pow_right (n := 10) (by decide) l
    omega

local macro_rules | `(tactic| walk_at "dl") => `(tactic| (simp (maxSteps := 10000000) (disch := omega) only [↓dlD, dlP, List.mem_cons, List.not_mem_nil, or_false, sizeLine_eq, Nat.reduceLeDiff, startD, isNon, Bool.and_true, Bool.and_eq_true, List.all_cons, List.all_nil, List.any_cons, List.any_nil, id_eq, Bool.and_self, Bool.or_false, Bool.or_true, decide_true, decide_false, Option.map_some, Option.some.injEq, List.map, List.length, List.replicate, List.append, List.cons_append, List.nil_append, Nat.sub_self, Nat.reduceSub, Nat.reduceAdd, reduceCtorEq, PyData.int.injEq, decide_eq_true_eq, Bool.not_eq_true', decide_eq_false_iff_not, Bool.not_true, Bool.not_false, if_true, if_false, Bool.false_eq_true, ne_eq, Int.reduceLE, Int.reduceLT, Int.reduceEq, Nat.reduceLT, Int.cast_ofNat_Int, Int.reducePow, Int.reduceToNat, Int.reduceMul, Int.reduceAdd, Int.reduceSub, Int.reduceNeg, Int.reduceMod, Int.reduceDiv, Int.reduceGT, Int.reduceGE, Int.reduceNe, not_false_eq_true, not_true_eq_false, forall_eq', exists_eq_left', eq_self, true_and, and_true, dlE0, dlE1, dlE2, w_law_sign_by, w_law_odd, w_law_text, w_law_figures]; try simp only [List.cons.injEq, S.val.injEq, PyData.int.injEq, w_ex1, w_ex2, w_ex3, true_and, and_true]))
noncomputable def b_law_told : ST := (sSeq (sIf (tV (eOp rEqD (pVar 0) (pE (eC (.str "0 = 0"))))) (sRet (eTup (aCons (eC (.int 0)) (aCons (eC (.int 0)) (aCons (eC (.int 0)) (aCons (eC (.int 0)) (aCons (eC (.int 0)) (aCons (eC (.int 0)) aNil)))))))) sNext) (sSeq (sIf (tV (eOp rNeD (pE (eSlice (pVar 0) (oSome (eUn rNegD (pE (eC (.int 4))))) oNo)) (pE (eC (.str " = 0"))))) (sRet (eC .none)) sNext) (sSeq (sAsg (eM1 cSplit (pE (eSlice (pVar 0) oNo (oSome (eUn rNegD (pE (eC (.int 4))))))) (pE (eC (.str " ")))) (gVar 1)) (sSeq (sAsg (eC (.int 1)) (gVal 2)) (sCut (sIf (tV (eOp rEqD (pE (eSlice (pE (eOp rIxD (pVar 1) (pE (eC (.int 0))))) oNo (oSome (eC (.int 1))))) (pE (eC (.str "-"))))) (sSeq (sAsg (eOp rSubD (pE (eC (.int 0))) (pE (eC (.int 1)))) (gVal 2)) (sSet 1 (eC (.int 0)) (eSlice (pE (eOp rIxD (pVar 1) (pE (eC (.int 0))))) (oSome (eC (.int 1))) oNo))) sNext) (sSeq (sAsg eDnewT (gVar 3)) (sSeq (sAsg (eC (.int 0)) (gVal 4)) (sSeq (sWhile (tV (eOp rLtD (pVar 4) (pE (eB rLenD (apCons (pVar 1) apNil))))) (sSeq (sAsg (eC (.int 1)) (gVal 5)) (sCut (sIf (tV (eOp rNotInTD (pE (eOp rIxD (pVar 1) (pVar 4))) (pE (eCall0 p_law_letters)))) (sSeq (sAsg (eCall p_law_figures (aCons (eOp rIxD (pVar 1) (pVar 4)) aNil)) (gVal 5)) (sAsg (eOp rAddD (pVar 4) (pE (eC (.int 1)))) (gVal 4))) sNext) (sSeq (sIf (tOr (tV (eOp rEqD (pVar 4) (pE (eB rLenD (apCons (pVar 1) apNil))))) (tOr (tV (eOp rNotInTD (pE (eOp rIxD (pVar 1) (pVar 4))) (pE (eCall0 p_law_letters)))) (tV (eInT 3 (eOp rIxD (pVar 1) (pVar 4)))))) (sRet (eC .none)) sNext) (sSeq (sIf (tOr (tV (eOp rEqD (pVar 5) (pE (eC (.int 0))))) (tAnd (tV (eOp rEqD (pVar 5) (pE (eC (.int 1))))) (tAnd (tV (eOp rEqD (pE (eOp rIxD (pVar 1) (pE (eOp rSubD (pVar 4) (pE (eC (.int 1))))))) (pE (eC (.str "1"))))) (tV (eOp rGtD (pVar 4) (pE (eC (.int 0)))))))) (sRet (eC .none)) sNext) (sSeq (sPutT 3 (eOp rIxD (pVar 1) (pVar 4)) (eOp rMulD (pVar 2) (pVar 5))) (sSeq (sAsg (eOp rAddD (pVar 4) (pE (eC (.int 1)))) (gVal 4)) (sIf (tV (eOp rLtD (pVar 4) (pE (eB rLenD (apCons (pVar 1) apNil))))) (sSeq (sIf (tOr (tV (eOp rNotInTD (pE (eOp rIxD (pVar 1) (pVar 4))) (pE (eLst (aCons (eC (.str "+")) (aCons (eC (.str "-")) aNil)))))) (tV (eOp rEqD (pE (eOp rAddD (pVar 4) (pE (eC (.int 1))))) (pE (eB rLenD (apCons (pVar 1) apNil)))))) (sRet (eC .none)) sNext) (sSeq (sAsg (eOp rSubD (pE (eC (.int 1))) (pE (eOp rMulD (pE (eC (.int 2))) (pE (eB rIntTD (apCons (pE (eOp rEqD (pE (eOp rIxD (pVar 1) (pVar 4))) (pE (eC (.str "-"))))) apNil)))))) (gVal 2)) (sAsg (eOp rAddD (pVar 4) (pE (eC (.int 1)))) (gVal 4)))) sNext)))))))) (sRet (eB rTupleD (apCons (pE (eComp (iVal (eCall0 p_law_letters)) [6] (gVal 6) tYesD (eGetT 3 (eVar 6) (eC (.int 0))))) apNil)))))))))))
/-! law_told: slots text_here words sign found at number_here letters_here -/
theorem runW_bad {m : FT} {s : Int} : ∀ {r ws : List Str}, (∀ e, termW m s (ws ++ e) = none) → runW m s ws r = none
  | [], ws, h => by have := h []; rw [List.append_nil] at this; exact this
  | w :: r, ws, h => by
    show (if w = "+" ∨ w = "-" then _ else _) = none
    split
    · have := h []
      rw [List.append_nil] at this
      rw [this]
      rfl
    · refine runW_bad fun e => ?_
      rw [List.append_assoc]
      exact h _
/-- what comes behind a term -/
def aftW (m : FT) : List Str → Option FT
  | [] => some m
  | x :: r => if x = "+" ∨ x = "-" then (if r = [] then none else runW m (if x = "-" then -1 else 1) [] r) else none
theorem runW_aft {m m' : FT} {s : Int} {ws : List Str} (h1 : termW m s ws = some m') (h2 : ∀ x e, termW m s (ws ++ x :: e) = none) : ∀ r, runW m s ws r = aftW m' r
  | [] => h1
  | x :: r => by
    by_cases hs : x = "+" ∨ x = "-"
    · have e1 : runW m s ws (x :: r) = (termW m s ws).bind fun m' => runW m' (if x = "-" then -1 else 1) [] r := if_pos hs
      have e2 : aftW m' (x :: r) = if r = [] then none else runW m' (if x = "-" then -1 else 1) [] r := if_pos hs
      rw [e1, e2, h1]
      by_cases hr : r = []
      · rw [if_pos hr, hr]; rfl
      · rw [if_neg hr]; rfl
    · have e1 : runW m s ws (x :: r) = runW m s (ws ++ [x]) r := if_neg hs
      have e2 : aftW m' (x :: r) = none := if_neg hs
      rw [e1, e2]
      refine runW_bad fun e => ?_
      rw [List.append_assoc]
      exact h2 x e
theorem num_let {w : Str} (h : w ∈ letL) : numW w = none := by
  unfold letL at h
  simp only [List.mem_cons, List.not_mem_nil, or_false] at h
  rcases h with rfl | rfl | rfl | rfl | rfl | rfl <;> decide +kernel
theorem let_sign {w : Str} (h : w ∈ letL) : ¬ (w = "+" ∨ w = "-") := by
  rintro (rfl | rfl) <;> exact absurd h (by decide +kernel)
theorem num_sign {w : Str} (h : w = "+" ∨ w = "-") : numW w = none := by
  rcases h with rfl | rfl <;> decide +kernel
theorem term3 (m : FT) (s : Int) (a b c : Str) (e : List Str) : termW m s (a :: b :: c :: e) = none := rfl
theorem run_let {m : FT} {s : Int} {w : Str} {r : List Str} (h : w ∈ letL) : runW m s [] (w :: r) = if fget m w = none then aftW (m ++ [(w, s * 1)]) r else none := by
  have e : runW m s [] (w :: r) = runW m s [w] r := if_neg (let_sign h)
  have h2 : ∀ x e, termW m s ([w] ++ x :: e) = none := fun x e => by
    cases e with
    | nil =>
      show (numW w).bind _ = none
      rw [num_let h]
      rfl
    | cons y e => rfl
  rw [e]
  have e1 : termW m s [w] = if w ∈ letL ∧ fget m w = none then some (m ++ [(w, s * 1)]) else none := rfl
  split
  · rename_i k
    exact runW_aft (by rw [e1, if_pos ⟨h, k⟩]) h2 r
  · rename_i k
    refine runW_bad fun e => ?_
    cases e with
    | nil => rw [List.append_nil, e1, if_neg (fun z => k z.2)]
    | cons x e => exact h2 x e
theorem run_num0 {m : FT} {s : Int} {w : Str} (h : w ∉ letL) : runW m s [] [w] = none := by
  by_cases k : w = "+" ∨ w = "-"
  · exact (if_pos k).trans rfl
  · exact (if_neg k).trans (if_neg fun z => h z.1)
theorem run_num {m : FT} {s : Int} {w l : Str} {r : List Str} (h : w ∉ letL) : runW m s [] (w :: l :: r) = if l ∈ letL ∧ fget m l = none then (numW w).bind (fun n => aftW (m ++ [(l, s * n)]) r) else none := by
  by_cases k : w = "+" ∨ w = "-"
  · have e : runW m s [] (w :: l :: r) = none := (if_pos k).trans rfl
    rw [e, num_sign k]
    split <;> rfl
  · have e : runW m s [] (w :: l :: r) = runW m s [w] (l :: r) := if_neg k
    rw [e]
    by_cases k2 : l = "+" ∨ l = "-"
    · have e2 : runW m s [w] (l :: r) = none := (if_pos k2).trans (by rw [show termW m s [w] = none from if_neg fun z => h z.1]; rfl)
      rw [e2, if_neg (fun z => let_sign z.1 k2)]
    · have e2 : runW m s [w] (l :: r) = runW m s [w, l] r := if_neg k2
      have e3 : termW m s [w, l] = (numW w).bind fun k => if l ∈ letL ∧ fget m l = none then some (m ++ [(l, s * k)]) else none := rfl
      rw [e2]
      have bad : termW m s [w, l] = none → runW m s [w, l] r = none := fun z => runW_bad fun e => by
        cases e with
        | nil => exact z
        | cons x e => rfl
      split
      · rename_i g
        cases en : numW w with
        | none => rw [bad (by rw [e3, en]; rfl)]; rfl
        | some n => exact runW_aft (by rw [e3, en]; exact if_pos g) (fun x e => rfl) r
      · rename_i g
        refine bad ?_
        rw [e3]
        cases numW w with
        | none => rfl
        | some n => exact if_neg g
/-- the first word -/
theorem spl_acc : ∀ (l : List Nat), ∃ h t, ∀ acc, TL.spl [32] 0 acc l = (acc ++ h) :: t
  | [] => ⟨[], [], fun acc => by rw [TL.spl_nil, List.append_nil]⟩
  | c :: r => by
    by_cases h : TL.pre [32] (c :: r) = true
    · exact ⟨[], _, fun acc => by rw [TL.spl_hit h, List.append_nil]⟩
    · obtain ⟨g, t, e⟩ := spl_acc r
      exact ⟨c :: g, t, fun acc => by rw [TL.spl_miss (by simpa using h), e]; simp⟩
theorem first_word (B : List Nat) : ∃ h t, TL.spl [32] 0 [] B = h :: t ∧ (h.take 1 = [45] ↔ B.take 1 = [45]) ∧ (B.take 1 = [45] → TL.spl [32] 0 [] (B.drop 1) = h.drop 1 :: t) := by
  cases B with
  | nil => exact ⟨[], [], TL.spl_nil _ _ _, by simp, by simp⟩
  | cons c r =>
    by_cases h : TL.pre [32] (c :: r) = true
    · have c32 : c ≠ 45 := fun z => by rw [z] at h; cases h
      refine ⟨[], _, TL.spl_hit h, ⟨fun z => (by cases z), fun z => absurd (by injection z) c32⟩, fun z => absurd (by injection z) c32⟩
    · obtain ⟨g, t, e⟩ := spl_acc r
      refine ⟨c :: g, t, by rw [TL.spl_miss (by simpa using h), e]; rfl, .rfl, fun _ => ?_⟩
      have := e []
      simpa using this
theorem cut_m4 (a : List Nat) : cutS (SX.S a) (some (-4)) none = SX.S (a.drop (a.length - 4)) := by
  unfold cutS
  rw [HT.sIx_none, SX.S_len]
  have e : HT.sIx a.length 0 (some (-4)) = a.length - 4 := by
    unfold HT.sIx
    simp
    omega
  rw [e]
  have : (SX.S a).cps.toList = a := by simp [SX.S]
  rw [this, List.take_of_length_le (by rw [List.length_drop]; omega)]
theorem cut_t4 (a : List Nat) : cutS (SX.S a) none (some (-4)) = SX.S (a.take (a.length - 4)) := by
  unfold cutS
  rw [HT.sIx_none, SX.S_len]
  have e : HT.sIx a.length a.length (some (-4)) = a.length - 4 := by
    unfold HT.sIx
    simp
    omega
  rw [e]
  have : (SX.S a).cps.toList = a := by simp [SX.S]
  rw [this, List.drop_zero, Nat.sub_zero]
theorem ends_4 {a : List Nat} (h : Txt.endswith (SX.S a) " = 0" = true) : a.drop (a.length - 4) = [32, 61, 32, 48] := by
  rw [eq0] at h
  unfold Txt.endswith Builtin.Str.subAt at h
  have l4 : [32, 61, 32, 48].length = 4 := rfl
  rw [SX.S_len, SX.S_len, l4, Bool.and_eq_true] at h
  obtain ⟨h1, h2⟩ := h
  have h1 := of_decide_eq_true h1
  rw [beq_iff_eq] at h2
  have h2 := congrArg Array.toList h2
  have e : (SX.S a).cps = a.toArray := rfl
  rw [e] at h2
  simp at h2
  rw [List.take_of_length_le (by rw [List.length_drop]; omega)] at h2
  exact h2
theorem ends_not {z : Str} (h : ¬ cutS z (some (-4)) none = " = 0") : readT z = none := by
  refine if_pos ?_
  cases e : Txt.endswith z " = 0" with
  | false => rfl
  | true =>
    rw [S_of z] at e h
    exact absurd (by rw [cut_m4, ends_4 e, eq0]) h
theorem ends_is {z : Str} (h : cutS z (some (-4)) none = " = 0") : ∃ B, z = SX.S (B ++ [32, 61, 32, 48]) ∧ cutS z none (some (-4)) = SX.S B := by
  rw [S_of z, cut_m4, eq0] at h
  have h := SX.S_inj h
  refine ⟨(TL.tl z).take ((TL.tl z).length - 4), ?_, ?_⟩
  · rw [← h, List.take_append_drop, ← S_of z]
  · rw [← cut_t4, ← S_of z]
theorem read_app {B : List Nat} (n0 : ¬ SX.S (B ++ [32, 61, 32, 48]) = "0 = 0") : ∃ h t, Txt.split (SX.S B) " " = (h :: t).map SX.S ∧
    readT (SX.S (B ++ [32, 61, 32, 48])) = if h.take 1 = [45] then (runW [] (-1) [] ((h.drop 1 :: t).map SX.S)).map sixW else (runW [] 1 [] ((h :: t).map SX.S)).map sixW := by
  obtain ⟨h, t, e, e1, e2⟩ := first_word B
  have sp : (" " : Str) = SX.S [32] := TL.ext_tl (by decide +kernel)
  have q : ("-" : Str) = SX.S [45] := TL.ext_tl (by decide +kernel)
  have z : ("0" : Str) = SX.S [48] := TL.ext_tl (by decide +kernel)
  have z0 : ("0 = 0" : Str) = SX.S [48, 32, 61, 32, 48] := TL.ext_tl (by decide +kernel)
  refine ⟨h, t, by rw [sp, SX.split_S (by simp) (by decide), e], ?_⟩
  unfold readT
  rw [(read_body).1, if_neg (by simp), (read_body).2, if_neg (fun k => n0 (by rw [z] at k; rw [SX.S_inj k, z0]; rfl)), cut_to (by decide), cut_from (by decide)]
  by_cases k : B.take 1 = [45]
  · have e3 := e2 k
    rw [if_pos (show SX.S (B.take (1 : Int).toNat) = "-" by rw [q]; exact congrArg SX.S k), if_pos (e1.mpr k), sp, SX.split_S (by simp) (by decide)]
    rw [show B.drop (1 : Int).toNat = B.drop 1 from rfl, e3]
  · rw [if_neg (fun y => k (by rw [q] at y; exact SX.S_inj y)), if_neg (fun y => k (e1.mp y)), sp, SX.split_S (by simp) (by decide), e]
theorem at_done {done rest : List Str} {w : Str} : atI ((done ++ w :: rest).map PyData.str) (done.length : Int) = some (.str w) := by
  rw [List.map_append, List.map_cons]
  have := atI_nat (xs := done.map PyData.str ++ PyData.str w :: rest.map PyData.str) (j := done.length) (v := .str w) (by rw [List.getElem?_append_right (by simp)]; simp)
  exact this
theorem at_last {ws : List Str} (h : ws ≠ []) : ∃ u, atI (ws.map PyData.str) (-1) = some (.str u) := by
  refine ⟨ws.getLast h, ?_⟩
  have e : ws.dropLast ++ [ws.getLast h] = ws := List.dropLast_concat_getLast h
  have e3 : atI (ws.dropLast.map PyData.str ++ [PyData.str (ws.getLast h)]) (-1) = some (PyData.str (ws.getLast h)) := atI_last
  have e2 : ws.dropLast.map PyData.str ++ [PyData.str (ws.getLast h)] = ws.map PyData.str := by
    rw [← List.map_singleton (f := PyData.str), ← List.map_append, e]
  rw [e2] at e3
  exact e3
theorem if_or3 {a b c d : Prop} [Decidable a] [Decidable b] [Decidable c] [Decidable d] {A C : Prop} : (if a then A else if b then (if c then (if d then A else C) else C) else C) = if a ∨ b ∧ c ∧ d then A else C := by
  by_cases ha : a
  · rw [if_pos ha, if_pos (.inl ha)]
  · rw [if_neg ha]
    by_cases hb : b
    · rw [if_pos hb]
      by_cases hc : c
      · rw [if_pos hc]
        by_cases hd : d
        · rw [if_pos hd, if_pos (.inr ⟨hb, hc, hd⟩)]
        · rw [if_neg hd, if_neg (fun k => k.elim ha fun k => hd k.2.2)]
      · rw [if_neg hc, if_neg (fun k => k.elim ha fun k => hc k.2.1)]
    · rw [if_neg hb, if_neg (fun k => k.elim ha fun k => hb k.1)]
def p_law_told : DSp := fun ds x q => ∃ (z : Str), ds = [.str z] ∧ (z.length ≤ 100000 ∧ (readT z = none → q (.val .none)) ∧ (∀ ns, readT z = some ns → q (.val (.tuple (ns.map PyData.int)))))
theorem len_law_told : ∀ ds x q, p_law_told ds x q → ds.length = 1 := by
  rintro ds x q ⟨z, rfl, _⟩
  rfl
theorem w_law_told {z : Str} {x : XP} {q : S → Prop} : @callK p_law_told [.str z] x ⟨q⟩ = (z.length ≤ 100000 ∧ (readT z = none → q (.val .none)) ∧ (∀ ns, readT z = some ns → q (.val (.tuple (ns.map PyData.int))))) := propext ⟨fun h => by
  obtain ⟨z', e, h⟩ := h
  simp only [List.cons.injEq, PyData.list.injEq, PyData.tuple.injEq, PyData.int.injEq, PyData.str.injEq, PyData.bool.injEq, ints_inj, parts_inj, and_true, and_assoc] at e
  obtain ⟨rfl⟩ := e
  exact h, fun h => ⟨_, rfl, h⟩⟩
--simp w_law_told
theorem spec_law_told : ∀ ds x q, p_law_told ds x q → bodyD 7 b_law_told ds x q := by
  rintro ds x q ⟨z, rfl, hl, hx, h⟩
  unfold b_law_told
  walk_at "dl"
  have z0 : ("0 = 0" : Str) = SX.S [48, 32, 61, 32, 48] := TL.ext_tl (by decide +kernel)
  refine if_pn (fun k => h [0, 0, 0, 0, 0, 0] (by rw [k]; decide +kernel)) fun k1 => ⟨by omega, if_pn (fun k => hx (ends_not k)) fun k2 => ?_⟩
  have k2 := Classical.byContradiction k2
  obtain ⟨B, ez, eB⟩ := ends_is k2
  rw [eB]
  obtain ⟨g, t, es, er⟩ := read_app (B := B) (fun k => k1 (ez.trans k))
  have lB : B.length ≤ 100000 := by
    rw [ez, SX.S_len, List.length_append] at hl
    omega
  rw [ez] at hx h
  rw [es]
  refine ⟨by omega, by decide +kernel, by rw [SX.S_len]; omega, ?_⟩
  have spm : ∀ w ∈ (g :: t).map SX.S, w.length ≤ 100000 := fun w hw => by
    rw [← es] at hw
    have := split_mem hw
    have e : (SX.S B).length = B.length := SX.S_len B
    omega
  have spl : ((g :: t).map SX.S).length ≤ 100002 := by
    rw [← es]
    have := PyProof.Rows.split_le (SX.S B) " "
    rw [SX.S_len] at this
    omega
  refine cut_ (fun δ' => ∃ (s : Int) (ws : List Str), δ' = [.val (.str z), .own (ws.map PyData.str), .val (.int s), .no, .no, .no, .no] ∧ (s = 1 ∨ s = -1) ∧ ws ≠ [] ∧ (ws.length ≤ 100002 ∧ ∀ w ∈ ws, w.length ≤ 100000) ∧ readT (SX.S (B ++ [32, 61, 32, 48])) = (runW [] s [] ws).map sixW) ?_ fun δ' w => ?_
  · rw [List.map_cons, List.map_cons]
    rw [List.map_cons] at spm spl
    rw [List.map_cons, List.map_cons] at er
    walk_at "dl"
    have lg : (SX.S g).length ≤ 100000 := spm _ List.mem_cons_self
    have qm : Str.ofString "-" = SX.S [45] := TL.ext_tl (by decide +kernel)
    have ec : cutS (SX.S g) (some 1) none = SX.S (g.drop 1) := cut_from (by decide)
    have e1 : cutS (SX.S g) none (some 1) = SX.S (g.take 1) := cut_to (by decide)
    rw [ec, e1, qm]
    refine ⟨by omega, if_pn (fun k => ⟨by omega, -1, SX.S (g.drop 1) :: t.map SX.S, ⟨rfl, rfl⟩, .inr rfl, by simp, ⟨spl, fun w hw => ?_⟩, ?_⟩) fun k => ⟨1, SX.S g :: t.map SX.S, ⟨rfl, rfl⟩, .inl rfl, by simp, ⟨spl, spm⟩, ?_⟩⟩
    · rcases List.mem_cons.mp hw with rfl | hw
      · rw [SX.S_len, List.length_drop]
        rw [SX.S_len] at lg
        omega
      · exact spm w (List.mem_cons_of_mem _ hw)
    · rw [er, if_pos (SX.S_inj k)]
    · rw [er, if_neg (fun y => k (congrArg SX.S y))]
  obtain ⟨s0, ws, rfl, hs, wn, ⟨wl, wb⟩, er⟩ := w
  rw [er] at hx h
  clear er es spm spl k1 k2 z0
  walk_at "dl"
  intro v fp
  refine while_ (fun m δ' => ∃ (done rest : List Str) (M : FT) (s : Int) (s5 : S), δ' = [.val (.str z), .own (ws.map PyData.str), .val (.int s), .obj v (encDT (encF M)) fp, .val (.int done.length), s5, .no] ∧ m = rest.length ∧ ws = done ++ rest ∧ (s = 1 ∨ s = -1) ∧ M.length ≤ done.length ∧ (rest ≠ [] → done = [] ∨ ∃ (d : List Str) (x : Str), done = d ++ [x] ∧ (x = "+" ∨ x = "-")) ∧ (rest = [] → runW [] s0 [] ws = some M) ∧ (rest ≠ [] → runW [] s0 [] ws = runW M s [] rest)) ws.length ⟨[], ws, [], s0, _, rfl, rfl, rfl, hs, by decide, fun _ => .inl rfl, fun k => absurd k wn, fun _ => rfl⟩ fun m δ' w => ?_
  obtain ⟨done, rest, M, s, s5, rfl, rfl, ew, hs, lM, hd, h1, h2⟩ := w
  have lw : ws.length = done.length + rest.length := by rw [ew, List.length_append]
  cases rest with
  | nil =>
    rw [List.append_nil] at ew
    subst ew
    have h1 := h1 rfl
    walk_at "dl"
    rw [if_neg (by rw [List.length_map]; omega)]
    have hq := h (sixW M) (by rw [h1]; rfl)
    have el : letL.map PyData.str = [.str "xx", .str "yy", .str "zz", .str "yz", .str "xz", .str "xy"] := rfl
    rw [el]
    refine comp_lit [.int ((fget M "xx").getD 0), .int ((fget M "yy").getD 0), .int ((fget M "zz").getD 0), .int ((fget M "yz").getD 0), .int ((fget M "xz").getD 0), .int ((fget M "xy").getD 0)] (by show 6 ≤ 1000000; decide) ?_ ?_
    · walk_at "dl"
      rw [get_enc, get_enc, get_enc, get_enc, get_enc, get_enc]
      exact ⟨rfl, rfl, rfl, rfl, rfl, rfl⟩
    walk_at "dl"
    exact hq
  | cons w r =>
    have h2 := h2 (by simp)
    have hd := hd (by simp)
    rw [List.length_cons] at lw
    have aw : atI (ws.map PyData.str) (done.length : Int) = some (.str w) := by rw [ew]; exact at_done
    have lw1 : w.length ≤ 100000 := wb w (by rw [ew]; simp)
    walk_at "dl"
    rw [if_pos (by rw [List.length_map]; omega)]
    refine cut_ (fun δ' => ∃ (n : Int) (dn : List Str), δ' = [.val (.str z), .own (ws.map PyData.str), .val (.int s), .obj v (encDT (encF M)) fp, .val (.int dn.length), .val (.int n), .no] ∧ ((w ∈ letL ∧ n = 1 ∧ dn = done) ∨ (w ∉ letL ∧ n = figN w ∧ dn = done ++ [w]))) ?_ fun δ' k => ?_
    · walk_at "dl"
      rw [aw]
      walk_at "dl"
      refine if_pn (fun k => ?_) fun k => ⟨1, done, ⟨rfl, rfl⟩, .inl ⟨Classical.byContradiction k, rfl, rfl⟩⟩
      exact ⟨lw1, figN w, done ++ [w], ⟨by rw [List.length_append]; rfl, rfl⟩, .inr ⟨k, rfl, rfl⟩⟩
    obtain ⟨n, dn, rfl, hk⟩ := k
    have key : (dn.length = ws.length ∧ runW [] s0 [] ws = none) ∨ ∃ l r' u, ws = dn ++ l :: r' ∧ (0 ≤ n ∧ n < 1000000) ∧ done.length ≤ dn.length ∧ atI (ws.map PyData.str) ((dn.length : Int) - 1) = some (.str u) ∧ runW [] s0 [] ws = if l ∈ letL ∧ fget M l = none then (if n = 0 ∨ (n = 1 ∧ u = "1" ∧ 0 < dn.length) then none else aftW (M ++ [(l, s * n)]) r') else none := by
      rcases hk with ⟨wl', rfl, rfl⟩ | ⟨wl', rfl, rfl⟩
      · refine .inr ⟨w, r, ?_⟩
        rcases hd with rfl | ⟨d, x, rfl, hx⟩
        · obtain ⟨u, eu⟩ := at_last wn
          refine ⟨u, ew, by decide, Nat.le_refl _, eu, ?_⟩
          rw [h2, run_let wl']
          by_cases f : fget M w = none
          · rw [if_pos f, if_pos ⟨wl', f⟩, if_neg (by rintro (k | ⟨_, _, k⟩); exact absurd k (by decide); exact absurd k (by decide))]
          · rw [if_neg f, if_neg (fun k => f k.2)]
        · refine ⟨x, ew, by decide, Nat.le_refl _, ?_, ?_⟩
          · rw [ew, List.length_append, List.append_assoc]
            have := at_done (done := d) (w := x) (rest := w :: r)
            rw [show (((d.length + [x].length : Nat) : Int) - 1) = (d.length : Int) by simp]
            exact this
          · rw [h2, run_let wl']
            have x1 : ¬ x = "1" := by rcases hx with rfl | rfl <;> decide +kernel
            by_cases f : fget M w = none
            · rw [if_pos f, if_pos ⟨wl', f⟩, if_neg (by rintro (k | ⟨_, k, _⟩); exact absurd k (by decide); exact x1 k)]
            · rw [if_neg f, if_neg (fun k => f k.2)]
      · cases r with
        | nil => exact .inl ⟨by rw [lw, List.length_append]; rfl, by rw [h2]; exact run_num0 wl'⟩
        | cons l r' =>
          refine .inr ⟨l, r', w, by rw [ew, List.append_assoc]; rfl, fig_bd w, by rw [List.length_append]; omega, ?_, ?_⟩
          · rw [ew, List.length_append]
            rw [show (((done.length + [w].length : Nat) : Int) - 1) = (done.length : Int) by simp]
            exact at_done
          · rw [h2, run_num wl', num_fig]
            by_cases f : l ∈ letL ∧ fget M l = none
            · rw [if_pos f, if_pos f]
              by_cases g0 : figN w = 0 ∨ w = "1"
              · rw [if_pos g0, if_pos]
                · rfl
                · rcases g0 with g0 | g0
                  · exact .inl g0
                  · refine .inr ⟨by rw [g0]; decide +kernel, g0, by rw [List.length_append]; simp⟩
              · rw [if_neg g0, if_neg (by rintro (k | ⟨_, k, _⟩); exact g0 (.inl k); exact g0 (.inr k))]
                rfl
            · rw [if_neg f, if_neg f]
    clear hk hd h2 h1
    rcases key with ⟨e0, en⟩ | ⟨l, r', u, ew2, hn, ld, au, er⟩
    · walk_at "dl"
      rw [if_pos (by rw [List.length_map, e0])]
      exact hx (by rw [en]; rfl)
    have al : atI (ws.map PyData.str) (dn.length : Int) = some (.str l) := by rw [ew2]; exact at_done
    have lw2 : ws.length = dn.length + (r'.length + 1) := by rw [ew2, List.length_append, List.length_cons]
    walk_at "dl"
    rw [if_neg (by rw [List.length_map]; omega)]
    rw [al, au]
    walk_at "dl"
    refine if_pn (fun k => hx (by rw [er, if_neg (fun z => k z.1)]; rfl)) fun k1 => if_pn (fun k => hx ?_) fun k2 => ?_
    · rw [er, if_neg (fun z => ?_)]
      · rfl
      · rw [mgetT_enc, z.2] at k
        cases k
    have kl : l ∈ letL := Classical.byContradiction k1
    have kg : fget M l = none := by
      cases e : fget M l with
      | none => rfl
      | some y => rw [mgetT_enc, e] at k2; exact absurd rfl k2
    rw [if_pos ⟨kl, kg⟩] at er
    rw [if_or3]
    have cP : (n = 0 ∨ n = 1 ∧ u = "1" ∧ (0 : Int) < (dn.length : Int)) ↔ (n = 0 ∨ n = 1 ∧ u = "1" ∧ 0 < dn.length) := by
      constructor
      all_goals
        rintro (k | ⟨k1, k2, k3⟩)
        · exact .inl k
        · exact .inr ⟨k1, k2, by omega⟩
    refine if_pn (fun P => hx (by rw [er, if_pos (cP.mp P)]; rfl)) fun P => ?_
    rw [if_neg (fun k => P (cP.mpr k))] at er
    rw [mputT_enc kg]
    have zs : Sz 1 s := by rcases hs with rfl | rfl <;> decide +kernel
    have zn : Sz 20 n := Sz.of_le (j := 1000000) (by omega) (by decide +kernel)
    have el : (encF M).length = M.length := List.length_map _
    refine ⟨IntMulOk.of_le zs zn (by decide), by rw [el]; omega, ?_⟩
    have dl : ((dn.length : Int) + 1) = ((dn ++ [l]).length : Int) := by rw [List.length_append]; rfl
    cases r' with
    | nil =>
      rw [List.length_nil] at lw2
      rw [if_neg (by rw [List.length_map]; omega)]
      exact ⟨0, by omega, dn ++ [l], [], M ++ [(l, s * n)], s, _, ⟨rfl, rfl, dl, rfl⟩, rfl, by rw [ew2]; simp, hs, by rw [List.length_append, List.length_append]; simp only [List.length_cons, List.length_nil]; omega, fun k => absurd rfl k, fun _ => er, fun k => absurd rfl k⟩
    | cons x r2 =>
      rw [List.length_cons] at lw2
      have ew3 : ws = (dn ++ [l]) ++ x :: r2 := by rw [ew2]; simp
      have ax : atI (ws.map PyData.str) ((dn.length : Int) + 1) = some (.str x) := by rw [dl, ew3]; exact at_done
      rw [if_pos (by rw [List.length_map]; omega), ax]
      have lr : r2.length + 2 ≤ r.length + 1 := by omega
      walk_at "dl"
      rw [List.length_map]
      have ea : aftW (M ++ [(l, s * n)]) (x :: r2) = if x = "+" ∨ x = "-" then (if r2 = [] then none else runW (M ++ [(l, s * n)]) (if x = "-" then -1 else 1) [] r2) else none := rfl
      rw [ea] at er
      refine if_pn (fun k => hx (by rw [er, if_neg k]; rfl)) fun k3 => ?_
      rw [if_pos (Classical.byContradiction k3)] at er
      refine if_pn (fun k => hx (by rw [er, if_pos (List.eq_nil_of_length_eq_zero (by omega))]; rfl)) fun k4 => ?_
      have rn : r2 ≠ [] := fun z => k4 (by rw [z] at lw2; simp only [List.length_nil] at lw2; omega)
      rw [if_neg rn] at er
      have e3 : (if x = "-" then (-1 : Int) else 1) = 1 - 2 * if x = Str.ofString "-" then 1 else 0 := by split <;> rfl
      have zi : Sz 1 (if x = Str.ofString "-" then (1 : Int) else 0) := by split <;> decide +kernel
      rw [e3] at er
      rw [ax]
      walk_at "dl"
      refine ⟨IntMulOk.of_le (show Sz 2 2 by decide +kernel) zi (by decide), r2.length, by omega, dn ++ [l, x], r2, M ++ [(l, s * n)], _, _, ⟨rfl, rfl, by rw [List.length_append]; rfl, rfl⟩, rfl, by rw [ew2]; simp, by split <;> first | exact .inr rfl | exact .inl rfl, by rw [List.length_append, List.length_append]; simp only [List.length_cons, List.length_nil]; omega, fun _ => .inr ⟨dn ++ [l], x, by simp, Classical.byContradiction k3⟩, fun z => absurd z rn, fun _ => er⟩

local macro_rules | `(tactic| walk_at "dl") => `(tactic| (simp (maxSteps := 10000000) (disch := omega) only [↓dlD, dlP, List.mem_cons, List.not_mem_nil, or_false, sizeLine_eq, Nat.reduceLeDiff, startD, isNon, Bool.and_true, Bool.and_eq_true, List.all_cons, List.all_nil, List.any_cons, List.any_nil, id_eq, Bool.and_self, Bool.or_false, Bool.or_true, decide_true, decide_false, Option.map_some, Option.some.injEq, List.map, List.length, List.replicate, List.append, List.cons_append, List.nil_append, Nat.sub_self, Nat.reduceSub, Nat.reduceAdd, reduceCtorEq, PyData.int.injEq, decide_eq_true_eq, Bool.not_eq_true', decide_eq_false_iff_not, Bool.not_true, Bool.not_false, if_true, if_false, Bool.false_eq_true, ne_eq, Int.reduceLE, Int.reduceLT, Int.reduceEq, Nat.reduceLT, Int.cast_ofNat_Int, Int.reducePow, Int.reduceToNat, Int.reduceMul, Int.reduceAdd, Int.reduceSub, Int.reduceNeg, Int.reduceMod, Int.reduceDiv, Int.reduceGT, Int.reduceGE, Int.reduceNe, not_false_eq_true, not_true_eq_false, forall_eq', exists_eq_left', eq_self, true_and, and_true, dlE0, dlE1, dlE2, w_law_sign_by, w_law_odd, w_law_text, w_law_figures, w_law_told]; try simp only [List.cons.injEq, S.val.injEq, PyData.int.injEq, w_ex1, w_ex2, w_ex3, true_and, and_true]))
noncomputable def b_law_same : ST := (sSeq (sIf (tOr (tNot (tV (eIsi "tuple" (pVar 0)))) (tV (eOp rNeD (pE (eB rLenD (apCons (pVar 0) apNil))) (pE (eB rLenD (apCons (pVar 1) apNil)))))) (sRet (eC (.bool false))) sNext) (sRet (eAnd (eB rAllD (apCons (pE (eComp (iVal (eVar 0)) [2] (gVal 2) tYesD (eAnd (eIsi "int" (pVar 2)) (eNot (eIsi "bool" (pVar 2)))))) apNil)) (eOp rEqD (pVar 0) (pVar 1)))))
/-! law_same: slots found due one -/
def p_law_same : DSp := fun ds x q => ∃ (ns : List Int), ds = [.tuple (ns.map PyData.int), .tuple (ns.map PyData.int)] ∧ (ns.length ≤ 100 ∧ q (.val (.bool true)))
theorem len_law_same : ∀ ds x q, p_law_same ds x q → ds.length = 2 := by
  rintro ds x q ⟨ns, rfl, _⟩
  rfl
theorem w_law_same {ns : List Int} {x : XP} {q : S → Prop} : @callK p_law_same [.tuple (ns.map PyData.int), .tuple (ns.map PyData.int)] x ⟨q⟩ = (ns.length ≤ 100 ∧ q (.val (.bool true))) := propext ⟨fun h => by
  obtain ⟨ns', e, h⟩ := h
  simp only [List.cons.injEq, PyData.list.injEq, PyData.tuple.injEq, PyData.int.injEq, PyData.str.injEq, PyData.bool.injEq, ints_inj, parts_inj, and_true, and_assoc] at e
  obtain ⟨rfl⟩ := e
  exact h, fun h => ⟨_, rfl, h⟩⟩
--simp w_law_same
theorem spec_law_same : ∀ ds x q, p_law_same ds x q → bodyD 3 b_law_same ds x q := by
  rintro ds x q ⟨ns, rfl, hl, h⟩
  unfold b_law_same
  walk_at "dl"
  refine comp_all (fun _ => .bool true) (by omega) (fun x _ => by walk_at "dl") ?_
  walk_at "dl"
  rw [w_bools (f := fun _ => true)]
  walk_at "dl"
  have : (ns.map fun _ => true).all id = true := by simp
  rw [this]
  rw [if_pos rfl]
  exact ⟨shaped_intsT, shaped_intsT, h⟩
theorem w_same6 {a b c d e f : Int} {x : XP} {q : S → Prop} : @callK p_law_same [.tuple [.int a, .int b, .int c, .int d, .int e, .int f], .tuple [.int a, .int b, .int c, .int d, .int e, .int f]] x ⟨q⟩ = q (.val (.bool true)) :=
  (w_law_same (ns := [a, b, c, d, e, f])).trans (propext ⟨fun h => h.2, fun h => ⟨by show 6 ≤ 100; decide, h⟩⟩)
--simp w_same6

local macro_rules | `(tactic| walk_at "dl") => `(tactic| (simp (maxSteps := 10000000) (disch := omega) only [↓dlD, dlP, List.mem_cons, List.not_mem_nil, or_false, sizeLine_eq, Nat.reduceLeDiff, startD, isNon, Bool.and_true, Bool.and_eq_true, List.all_cons, List.all_nil, List.any_cons, List.any_nil, id_eq, Bool.and_self, Bool.or_false, Bool.or_true, decide_true, decide_false, Option.map_some, Option.some.injEq, List.map, List.length, List.replicate, List.append, List.cons_append, List.nil_append, Nat.sub_self, Nat.reduceSub, Nat.reduceAdd, reduceCtorEq, PyData.int.injEq, decide_eq_true_eq, Bool.not_eq_true', decide_eq_false_iff_not, Bool.not_true, Bool.not_false, if_true, if_false, Bool.false_eq_true, ne_eq, Int.reduceLE, Int.reduceLT, Int.reduceEq, Nat.reduceLT, Int.cast_ofNat_Int, Int.reducePow, Int.reduceToNat, Int.reduceMul, Int.reduceAdd, Int.reduceSub, Int.reduceNeg, Int.reduceMod, Int.reduceDiv, Int.reduceGT, Int.reduceGE, Int.reduceNe, not_false_eq_true, not_true_eq_false, forall_eq', exists_eq_left', eq_self, true_and, and_true, dlE0, dlE1, dlE2, w_law_sign_by, w_law_odd, w_law_text, w_law_figures, w_law_told, w_law_same, w_same6]; try simp only [List.cons.injEq, S.val.injEq, PyData.int.injEq, w_ex1, w_ex2, w_ex3, true_and, and_true]))
noncomputable def b_law : ST := (sSeq (sIf (tNot (tV (eCall p_law_refused (aCons (eCall p_law_no_text (aCons (eCall p_law_cell_at (aCons (eVar 0) (aCons (eC (.int 10)) aNil))) aNil)) aNil)))) (sRet (eC (.bool false))) sNext) (sSeq (sAsg (eCall p_law_text (aCons (eVar 0) aNil)) (gVal 1)) (sSeq (sAsg (eCall p_law_told (aCons (eVar 1) aNil)) (gVal 2)) (sSeq (sIf (tV (eOp rIsND (pVar 2) (pE (eC .none)))) (sRet (eAnd (eCall p_law_refused (aCons (eVar 1) aNil)) (eCall p_law_refused (aCons (eVar 1) aNil)))) sNext) (sRet (eAnd (eCall p_law_same (aCons (eCall p_read_sum (aCons (eVar 1) aNil)) (aCons (eVar 2) aNil))) (eCall p_law_same (aCons (eCall p_read_sum (aCons (eVar 1) aNil)) (aCons (eVar 2) aNil)))))))))
/-! law: slots script text_here due -/
theorem seq_at {t u : ST} {D : DL.Ends} {δ : List S} (δ' : List S) (h1 : ∀ k : List S → Prop, k δ' → t { D with nx := k } δ) (h2 : u D δ') : sSeq t u D δ := h1 _ h2
theorem six_len {z : Str} {ns : List Int} (h : readT z = some ns) : ns.length ≤ 100 := by
  have six : ∀ m, (sixW m).length ≤ 100 := fun m => by unfold sixW; rw [List.length_map]; decide
  unfold readT at h
  split at h
  · cases h
  · split at h
    · injection h with h
      rw [← h]
      decide
    · split at h
      all_goals
        cases e : runW [] _ [] _ with
        | none => rw [e] at h; cases h
        | some m => rw [e] at h; injection h with h; rw [← h]; exact six m
theorem spec_law : ∀ ds x q, p_law ds x q → bodyD 3 b_law ds x q := by
  intro ds x q h
  unfold p_law spLaw at h
  split at h
  case h_2 => exact h.elim
  rename_i xs
  obtain ⟨ns, rfl, hs, h⟩ := h
  unfold b_law
  walk_at "dl"
  refine ⟨Sz.mono (cellZ_sz hs 10) (by decide), ⟨.inl rfl, ?_⟩, ⟨.inl rfl, ?_⟩, ⟨.inl rfl, ?_⟩, ⟨.inl rfl, ?_⟩, .inl rfl, ?_⟩
  all_goals
    refine ⟨hs, fun z hz => ⟨by omega, fun e => ⟨.inr ⟨z, rfl, by omega, e⟩, .inr ⟨z, rfl, by omega, e⟩, h⟩, fun n1 e1 => ⟨by omega, fun e => (by rw [e1] at e; cases e), fun n2 e2 => ?_⟩⟩⟩
    have e3 : n2 = n1 := by rw [e1] at e2; injection e2 with e2; exact e2.symm
    subst e3
    walk_at "dl"
    refine ⟨six_len e1, by omega, fun e => (by rw [e1] at e; cases e), fun n3 e4 => ?_⟩
    have e3 : n3 = n2 := by rw [e1] at e4; injection e4 with e4; exact e4.symm
    subst e3
    walk_at "dl"
    exact ⟨six_len e1, h⟩

end DL
namespace DL
open PySem L2
def topS (i : Nat) : Stmt := PySem.Challenge.pw_conicplaces_k62_texts_of_sums_read.main.body.getD i (.Pass ⟨0, 0, 0, 0⟩)
abbrev s_read_figures : Stmt := topS 22
abbrev s_put_term : Stmt := topS 23
abbrev s_close_term : Stmt := topS 25
abbrev s_read_sum : Stmt := topS 24
abbrev s_law_alone : Stmt := topS 33
abbrev s_law_refused : Stmt := topS 34
abbrev s_law_no_text : Stmt := topS 41
abbrev s_law_cell_at : Stmt := topS 27
abbrev s_law_number : Stmt := topS 35
abbrev s_law_term : Stmt := topS 29
abbrev s_law_letters : Stmt := topS 28
abbrev s_law_shown : Stmt := topS 30
abbrev s_law_order : Stmt := topS 31
abbrev s_law_sign_by : Stmt := topS 38
abbrev s_law_odd : Stmt := topS 39
abbrev s_law_text : Stmt := topS 40
abbrev s_law_figures : Stmt := topS 36
abbrev s_law_told : Stmt := topS 37
abbrev s_law_same : Stmt := topS 32
abbrev s_law : Stmt := topS 42
structure Bi (mg : Str → Option Value) : Prop where
  n_abs : mg "abs" = none
  n_all : mg "all" = none
  n_bool : mg "bool" = none
  n_int : mg "int" = none
  n_isinstance : mg "isinstance" = none
  n_len : mg "len" = none
  n_range : mg "range" = none
  n_str : mg "str" = none
  n_tuple : mg "tuple" = none
def N_read_figures : List Str := ["word", "sign"]
theorem sc_read_figures : FnScope N_read_figures ["word"] (defScope s_read_figures) := ⟨rfl, rfl, rfl, by decide +kernel, rfl, by decide +kernel, by decide +kernel⟩
theorem ok_read_figures {P : Program} {w : World} {K : PySem.W.Frag} {mg : Str → Option Value} {base : Heap} (T : Bi mg) (D_read_figures : Df K mg "read_figures" s_read_figures ["word"]) (CO_MOST_FIGURES : CoD K mg "MOST_FIGURES" (.int 6)) (C_NoText : ExD K mg "NoText") (CO_FIGURES : CoD K mg "FIGURES" (.str "0123456789")) : FnOk P w K mg base (L2N.CX P w) 1 D_read_figures.a D_read_figures.fd ["word"] (spD K mg p_read_figures) :=
  fnD D_read_figures.F sc_read_figures len_read_figures (fun cdv A outer s H E hr => (jss_cons (js_if (JW.pt (jw_or (jt_cmp (os_eq (units_ok hr)) (jp_var 0) (jp_of je_str) (nomark _)) (jw_or (jt_cmp (os_eq (units_ok hr)) (jp_var 0) (jp_of je_str) (nomark _)) (jw_or (jt_cmp (os_eq (units_ok hr)) (jp_of (je_ix (jp_var 0) (jp_of je_int))) (jp_of je_str) (nomark _)) (jw_or1 (jt_cmp os_gt (jp_of (je_callB cs_len T.n_len (by decide +kernel) (jap_cons (jp_var 0) jap_nil))) (jp_of (je_const CO_MOST_FIGURES)) (nomark _))))))) (jss_one (js_raise rfl takesD C_NoText)) jss_nil) (jss_cons (js_for passesD rfl (ji_str (je_var 0)) (jg_val 1 sc_read_figures.nd) (jss_one (js_if (jt_cmp os_notinT (jp_var 1) (jp_of (je_const CO_FIGURES)) (by rfl)) (jss_one (js_raise rfl takesD C_NoText)) jss_nil))) (jss_one (js_ret (je_callTy cs_intT T.n_int (by decide +kernel) (jap_cons (jp_var 0) jap_nil))))))) spec_read_figures
def N_put_term : List Str := ["found", "sign", "words", "number"]
theorem sc_put_term : FnScope N_put_term ["found", "sign", "words"] (defScope s_put_term) := ⟨rfl, rfl, rfl, by decide +kernel, rfl, by decide +kernel, by decide +kernel⟩
theorem ok_put_term {P : Program} {w : World} {K : PySem.W.Frag} {mg : Str → Option Value} {base : Heap} (T : Bi mg) (D_put_term : Df K mg "put_term" s_put_term ["found", "sign", "words"]) (D_read_figures : Df K mg "read_figures" s_read_figures ["word"]) (G_read_figures : FnOk P w K mg base (L2N.CX P w) 1 D_read_figures.a D_read_figures.fd ["word"] (spD K mg p_read_figures)) (CO_LETTERS : CoD K mg "LETTERS" (.tuple [(.str "xx"), (.str "yy"), (.str "zz"), (.str "yz"), (.str "xz"), (.str "xy")])) (C_NoText : ExD K mg "NoText") : FnOk P w K mg base (L2N.CX P w) 2 D_put_term.a D_put_term.fd ["found", "sign", "words"] (spM K mg p_put_term) :=
  fnM D_put_term.F sc_put_term len_put_term (fun cdv A outer s H E hr => (jss_cons (js_set je_int (jg_val 3 sc_put_term.nd)) (jss_cut (js_if (jt_cmp (os_eq (units_ok hr)) (jp_of (je_callB cs_len T.n_len (by decide +kernel) (jap_cons (jp_var 2) jap_nil))) (jp_of je_int) (nomark _)) (jss_one (js_set (je_call G_read_figures (hr.mono (by decide)) takesD D_read_figures.m D_read_figures.F.kp D_read_figures.b (ja_cons (je_ix (jp_var 2) (jp_of je_int)) ja_nil)) (jg_val 3 sc_put_term.nd))) jss_nil) (jss_cons (js_if (JW.pt (jw_or (jt_cmp os_notinT (jp_of (je_ix (jp_var 2) (jp_of (je_neg (jp_of je_int))))) (jp_of (je_const CO_LETTERS)) (by rfl)) (jw_or1 (jt_inT 0 (units_ok hr) (je_ix (jp_var 2) (jp_of (je_neg (jp_of je_int)))))))) (jss_one (js_raise rfl takesD C_NoText)) jss_nil) (jss_one (js_putT 0 (units_ok hr) (je_bin os_mul (jp_var 1) (jp_var 3)) (je_ix (jp_var 2) (jp_of (je_neg (jp_of je_int)))))))))) spec_put_term
def N_close_term : List Str := ["found", "sign", "term"]
theorem sc_close_term : FnScope N_close_term ["found", "sign", "term"] (defScope s_close_term) := ⟨rfl, rfl, rfl, by decide +kernel, rfl, by decide +kernel, by decide +kernel⟩
theorem ok_close_term {P : Program} {w : World} {K : PySem.W.Frag} {mg : Str → Option Value} {base : Heap} (T : Bi mg) (D_close_term : Df K mg "close_term" s_close_term ["found", "sign", "term"]) (D_put_term : Df K mg "put_term" s_put_term ["found", "sign", "words"]) (G_put_term : FnOk P w K mg base (L2N.CX P w) 2 D_put_term.a D_put_term.fd ["found", "sign", "words"] (spM K mg p_put_term)) (C_NoText : ExD K mg "NoText") : FnOk P w K mg base (L2N.CX P w) 3 D_close_term.a D_close_term.fd ["found", "sign", "term"] (spM K mg p_close_term) :=
  fnM D_close_term.F sc_close_term len_close_term (fun cdv A outer s H E hr => (jss_cons (js_if (JW.pt (jw_and (jt_cmp (os_ne (units_ok hr)) (jp_of (je_callB cs_len T.n_len (by decide +kernel) (jap_cons (jp_var 2) jap_nil))) (jp_of je_int) (nomark _)) (jw_and1 (jt_cmp (os_ne (units_ok hr)) (jp_of (je_callB cs_len T.n_len (by decide +kernel) (jap_cons (jp_var 2) jap_nil))) (jp_of je_int) (nomark _))))) (jss_one (js_raise rfl takesD C_NoText)) jss_nil) (jss_one (js_callM G_put_term (hr.mono (by decide)) takesD D_put_term.m D_put_term.F.kp D_put_term.b (jam_var 0 (jam_exp (je_var 1) (jam_exp (je_var 2) jam_nil))))))) spec_close_term
def N_read_sum : List Str := ["text", "body", "sign", "found", "term", "word", "letters"]
theorem sc_read_sum : FnScope N_read_sum ["text"] (defScope s_read_sum) := ⟨rfl, rfl, rfl, by decide +kernel, rfl, by decide +kernel, by decide +kernel⟩
theorem ok_read_sum {P : Program} {w : World} {K : PySem.W.Frag} {mg : Str → Option Value} {base : Heap} (T : Bi mg) (D_read_sum : Df K mg "read_sum" s_read_sum ["text"]) (D_close_term : Df K mg "close_term" s_close_term ["found", "sign", "term"]) (G_close_term : FnOk P w K mg base (L2N.CX P w) 3 D_close_term.a D_close_term.fd ["found", "sign", "term"] (spM K mg p_close_term)) (CO_BEHIND : CoD K mg "BEHIND" (.str " = 0")) (C_NoText : ExD K mg "NoText") (CO_LETTERS : CoD K mg "LETTERS" (.tuple [(.str "xx"), (.str "yy"), (.str "zz"), (.str "yz"), (.str "xz"), (.str "xy")])) : FnOk P w K mg base (L2N.CX P w) 4 D_read_sum.a D_read_sum.fd ["text"] (spD K mg p_read_sum) :=
  fnD D_read_sum.F sc_read_sum len_read_sum (fun cdv A outer s H E hr => (jss_cons (js_if (JW.pt (jw_or (jt_not (jt_val (je_isi T.n_isinstance T.n_str (by decide +kernel) hk_str (jp_var 0)))) (jw_or1 (jt_not (jt_val (je_ends (jp_var 0) (jp_of (je_const CO_BEHIND)))))))) (jss_one (js_raise rfl takesD C_NoText)) jss_nil) (jss_cons (js_set (je_slice (jp_var 0) jo_no (jo_some (je_bin os_sub (jp_of (je_callB cs_len T.n_len (by decide +kernel) (jap_cons (jp_var 0) jap_nil))) (jp_of (je_callB cs_len T.n_len (by decide +kernel) (jap_cons (jp_of (je_const CO_BEHIND)) jap_nil)))))) (jg_val 1 sc_read_sum.nd)) (jss_cons (js_if (jt_cmp (os_eq (units_ok hr)) (jp_var 1) (jp_of je_str) (nomark _)) (jss_one (js_ret (je_tup (ja_cons je_int (ja_cons je_int (ja_cons je_int (ja_cons je_int (ja_cons je_int (ja_cons je_int ja_nil))))))))) jss_nil) (jss_cons (js_set je_int (jg_val 2 sc_read_sum.nd)) (jss_cut (js_if (jt_cmp (os_eq (units_ok hr)) (jp_of (je_slice (jp_var 1) jo_no (jo_some je_int))) (jp_of je_str) (nomark _)) (jss_cons (js_set (je_bin os_sub (jp_of je_int) (jp_of je_int)) (jg_val 2 sc_read_sum.nd)) (jss_one (js_set (je_slice (jp_var 1) (jo_some je_int) jo_no) (jg_val 1 sc_read_sum.nd)))) jss_nil) (jss_cons (js_set je_dnewT (jg_var 3 sc_read_sum.nd)) (jss_cons (js_set (je_lst ja_nil) (jg_var 4 sc_read_sum.nd)) (jss_cons (js_for passesD rfl (ji_val (je_split (jp_var 1) (jp_of je_str))) (jg_val 5 sc_read_sum.nd) (jss_one (js_if (JW.pt (jw_or (jt_cmp (os_eq (units_ok hr)) (jp_var 5) (jp_of je_str) (nomark _)) (jw_or1 (jt_cmp (os_eq (units_ok hr)) (jp_var 5) (jp_of je_str) (nomark _))))) (jss_frz 4 (jss_cons (js_callM G_close_term (hr.mono (by decide)) takesD D_close_term.m D_close_term.F.kp D_close_term.b (jam_var 3 (jam_exp (je_var 2) (jam_exp (je_var 4) jam_nil)))) (jss_cons (js_set (je_lst ja_nil) (jg_var 4 sc_read_sum.nd)) (jss_one (js_set (je_bin os_sub (jp_of je_int) (jp_of (je_bin os_mul (jp_of je_int) (jp_of (je_callTy cs_intT T.n_int (by decide +kernel) (jap_cons (jp_of (je_cmp (os_eq (units_ok hr)) (jp_var 5) (jp_of je_str) (nomark _))) jap_nil)))))) (jg_val 2 sc_read_sum.nd)))))) (jss_one (js_app 4 (je_var 5)))))) (jss_frz 4 (jss_cons (js_callM G_close_term (hr.mono (by decide)) takesD D_close_term.m D_close_term.F.kp D_close_term.b (jam_var 3 (jam_exp (je_var 2) (jam_exp (je_var 4) jam_nil)))) (jss_one (js_ret (je_callTy cs_tuple T.n_tuple (by decide +kernel) (jap_cons (jp_of (je_lc (own := [("letters", 6)]) rfl sc_read_sum.nd (ji_val (je_const CO_LETTERS)) (blkOk_by (own := [("letters", 6)]) (N := N_read_sum) (sc := defScope s_read_sum) (by decide +kernel)) (by decide) (fun _ _ _ _ _ => (jg_val 6 sc_read_sum.nd)) (fun _ _ _ _ _ => jts_nil) (fun _ _ _ _ _ => (je_getT 3 (units_ok hr) (je_var 6) je_int)))) jap_nil))))))))))))))) spec_read_sum
def N_law_alone : List Str := ["_law_e", "_law_found"]
theorem sc_law_alone : FnScope N_law_alone ["_law_e"] (defScope s_law_alone) := ⟨rfl, rfl, rfl, by decide +kernel, rfl, by decide +kernel, by decide +kernel⟩
theorem ok_law_alone [HotA] {P : Program} {w : World} {K : PySem.W.Frag} {mg : Str → Option Value} {base : Heap} (T : Bi mg) (D_law_alone : Df K mg "_law_alone" s_law_alone ["_law_e"]) (IT_NoSign : IsT K mg ["NoText"] "NoSign") (EI : ExIs K ["NoText"]) (IT_NoJoin : IsT K mg ["NoText"] "NoJoin") (IT_NoBack : IsT K mg ["NoText"] "NoBack") (IT_NoNumber : IsT K mg ["NoText"] "NoNumber") (IT_BadPlace : IsT K mg ["NoText"] "BadPlace") (IT_NoPlace : IsT K mg ["NoText"] "NoPlace") (IT_NotPlain : IsT K mg ["NoText"] "NotPlain") (IT_NoPair : IsT K mg ["NoText"] "NoPair") (IT_OffCurve : IsT K mg ["NoText"] "OffCurve") (IT_Flat : IsT K mg ["NoText"] "Flat") (IT_NoVertex : IsT K mg ["NoText"] "NoVertex") (IT_NoName : IsT K mg ["NoText"] "NoName") (IT_NoRow : IsT K mg ["NoText"] "NoRow") (IT_NoText : IsT K mg ["NoText"] "NoText") (IT_NoLine : IsT K mg ["NoText"] "NoLine") (IT_ValueError : IsT K mg ["NoText"] "ValueError") (IT_CurveError : IsT K mg ["NoText"] "CurveError") : FnC P w K mg base 1 D_law_alone.a D_law_alone.fd ["_law_e"] (spD K mg p_law_alone) :=
  fnHot D_law_alone.F sc_law_alone len_law_alone (fun cdv A outer s H E hr ez => (jss_cons (js_set (je_lst (ja_cons (je_isE T.n_isinstance EI IT_NoNumber (je_var 0)) (ja_cons (je_isE T.n_isinstance EI IT_NoBack (je_var 0)) (ja_cons (je_isE T.n_isinstance EI IT_NoJoin (je_var 0)) (ja_cons (je_isE T.n_isinstance EI IT_NoSign (je_var 0)) ja_nil))))) (jg_val 1 sc_law_alone.nd)) (jss_cons (js_set (je_bin os_add (jp_var 1) (jp_of (je_lst (ja_cons (je_isE T.n_isinstance EI IT_NotPlain (je_var 0)) (ja_cons (je_isE T.n_isinstance EI IT_NoPlace (je_var 0)) (ja_cons (je_isE T.n_isinstance EI IT_BadPlace (je_var 0)) ja_nil)))))) (jg_val 1 sc_law_alone.nd)) (jss_cons (js_set (je_bin os_add (jp_var 1) (jp_of (je_lst (ja_cons (je_isE T.n_isinstance EI IT_NoVertex (je_var 0)) (ja_cons (je_isE T.n_isinstance EI IT_Flat (je_var 0)) (ja_cons (je_isE T.n_isinstance EI IT_OffCurve (je_var 0)) (ja_cons (je_isE T.n_isinstance EI IT_NoPair (je_var 0)) ja_nil))))))) (jg_val 1 sc_law_alone.nd)) (jss_cons (js_set (je_bin os_add (jp_var 1) (jp_of (je_lst (ja_cons (je_isE T.n_isinstance EI IT_NoLine (je_var 0)) (ja_cons (je_isE T.n_isinstance EI IT_NoText (je_var 0)) (ja_cons (je_isE T.n_isinstance EI IT_NoRow (je_var 0)) (ja_cons (je_isE T.n_isinstance EI IT_NoName (je_var 0)) ja_nil))))))) (jg_val 1 sc_law_alone.nd)) (jss_one (js_ret (je_and (je_cmp (os_eq (units_ok hr)) (jp_of (je_count (jp_var 1) (jp_of je_bl))) (jp_of je_int) (nomark _)) (je_and (je_isE T.n_isinstance EI IT_CurveError (je_var 0)) (je_one (je_isE T.n_isinstance EI IT_ValueError (je_var 0)))))))))))) spec_law_alone
def N_law_refused : List Str := ["_law_text_here", "_law_good", "_law_e"]
theorem sc_law_refused : FnScope N_law_refused ["_law_text_here"] (defScope s_law_refused) := ⟨rfl, rfl, rfl, by decide +kernel, rfl, by decide +kernel, by decide +kernel⟩
theorem ok_law_refused {P : Program} {w : World} {K : PySem.W.Frag} {mg : Str → Option Value} {base : Heap} (T : Bi mg) (D_law_refused : Df K mg "_law_refused" s_law_refused ["_law_text_here"]) (D_read_sum : Df K mg "read_sum" s_read_sum ["text"]) (G_read_sum : FnOk P w K mg base (L2N.CX P w) 4 D_read_sum.a D_read_sum.fd ["text"] (spD K mg p_read_sum)) (D_law_alone : Df K mg "_law_alone" s_law_alone ["_law_e"]) (G_law_alone : ∀ [HotA], FnC P w K mg base 1 D_law_alone.a D_law_alone.fd ["_law_e"] (spD K mg p_law_alone)) (XT_NoText : ExT K mg ["NoText"] "NoText") : FnOk P w K mg base (L2N.CX P w) 5 D_law_refused.a D_law_refused.fd ["_law_text_here"] (spD K mg p_law_refused) :=
  fnD D_law_refused.F sc_law_refused len_law_refused (fun cdv A outer s H E hr => (jss_cons (js_set je_bl (jg_val 1 sc_law_refused.nd)) (jss_cons (js_try rfl rfl rfl sc_law_refused.nd takesD (fun _ pn1 _ tk1 po1 => (jss_one (js_drop (je_call G_read_sum (hr.mono (by decide)) tk1 D_read_sum.m D_read_sum.F.kp D_read_sum.b (ja_cons (je_var 0) ja_nil))))) (HdsD.cons XT_NoText rfl (by decide) (on_as 2 rfl rfl) (fun _ _ _ ez => (jss_one (js_set (je_callC G_law_alone (L2H.roomH_mark (hr.mono (by decide)) _) ez takesF D_law_alone.m D_law_alone.F.kp D_law_alone.b (ja_cons (je_var 2) ja_nil)) (jg_val 1 sc_law_refused.nd)))) HdsD.nil)) (jss_one (js_ret (je_var 1)))))) spec_law_refused
def N_law_no_text : List Str := ["_law_cell"]
theorem sc_law_no_text : FnScope N_law_no_text ["_law_cell"] (defScope s_law_no_text) := ⟨rfl, rfl, rfl, by decide +kernel, rfl, by decide +kernel, by decide +kernel⟩
theorem ok_law_no_text {P : Program} {w : World} {K : PySem.W.Frag} {mg : Str → Option Value} {base : Heap} (T : Bi mg) (D_law_no_text : Df K mg "_law_no_text" s_law_no_text ["_law_cell"]) : FnOk P w K mg base (L2N.CX P w) 1 D_law_no_text.a D_law_no_text.fd ["_law_cell"] (spD K mg p_law_no_text) :=
  fnD D_law_no_text.F sc_law_no_text len_law_no_text (fun cdv A outer s H E hr => (jss_cons (js_if (jt_cmp (os_eq (units_ok hr)) (jp_of (je_bin os_mod (jp_var 0) (jp_of je_int))) (jp_of je_int) (nomark _)) (jss_one (js_ret je_non)) jss_nil) (jss_cons (js_if (jt_cmp (os_eq (units_ok hr)) (jp_of (je_bin os_mod (jp_var 0) (jp_of je_int))) (jp_of je_int) (nomark _)) (jss_one (js_ret je_int)) jss_nil) (jss_cons (js_if (jt_cmp (os_eq (units_ok hr)) (jp_of (je_bin os_mod (jp_var 0) (jp_of je_int))) (jp_of je_int) (nomark _)) (jss_one (js_ret (je_lst (ja_cons je_str ja_nil)))) jss_nil) (jss_cons (js_if (jt_cmp (os_eq (units_ok hr)) (jp_of (je_bin os_mod (jp_var 0) (jp_of je_int))) (jp_of je_int) (nomark _)) (jss_one (js_ret (je_tup (ja_cons je_int (ja_cons je_int (ja_cons je_int (ja_cons je_int (ja_cons je_int (ja_cons je_int ja_nil))))))))) jss_nil) (jss_one (js_ret je_bl))))))) spec_law_no_text
def N_law_cell_at : List Str := ["_law_script", "_law_k"]
theorem sc_law_cell_at : FnScope N_law_cell_at ["_law_script", "_law_k"] (defScope s_law_cell_at) := ⟨rfl, rfl, rfl, by decide +kernel, rfl, by decide +kernel, by decide +kernel⟩
theorem ok_law_cell_at {P : Program} {w : World} {K : PySem.W.Frag} {mg : Str → Option Value} {base : Heap} (T : Bi mg) (D_law_cell_at : Df K mg "_law_cell_at" s_law_cell_at ["_law_script", "_law_k"]) : FnOk P w K mg base (L2N.CX P w) 1 D_law_cell_at.a D_law_cell_at.fd ["_law_script", "_law_k"] (spD K mg p_law_cell_at) :=
  fnD D_law_cell_at.F sc_law_cell_at len_law_cell_at (fun cdv A outer s H E hr => (jss_cons (js_if (jt_cmp os_lt (jp_var 1) (jp_of (je_callB cs_len T.n_len (by decide +kernel) (jap_cons (jp_var 0) jap_nil))) (nomark _)) (jss_one (js_ret (je_ix (jp_var 0) (jp_var 1)))) jss_nil) (jss_one (js_ret je_int)))) spec_law_cell_at
def N_law_number : List Str := ["_law_cell", "_law_way"]
theorem sc_law_number : FnScope N_law_number ["_law_cell"] (defScope s_law_number) := ⟨rfl, rfl, rfl, by decide +kernel, rfl, by decide +kernel, by decide +kernel⟩
theorem ok_law_number {P : Program} {w : World} {K : PySem.W.Frag} {mg : Str → Option Value} {base : Heap} (T : Bi mg) (D_law_number : Df K mg "_law_number" s_law_number ["_law_cell"]) : FnOk P w K mg base (L2N.CX P w) 1 D_law_number.a D_law_number.fd ["_law_cell"] (spD K mg p_law_number) :=
  fnD D_law_number.F sc_law_number len_law_number (fun cdv A outer s H E hr => (jss_cons (js_set (je_bin os_mod (jp_of (je_bin os_mul (jp_var 0) (jp_of je_int))) (jp_of je_int)) (jg_val 1 sc_law_number.nd)) (jss_cons (js_if (jt_cmp os_lt (jp_of (je_bin os_mod (jp_var 1) (jp_of je_int))) (jp_of je_int) (nomark _)) (jss_one (js_ret (je_bin os_sub (jp_of (je_bin os_mod (jp_of (je_bin os_fdiv (jp_var 1) (jp_of je_int))) (jp_of je_int))) (jp_of je_int)))) jss_nil) (jss_cons (js_if (jt_cmp (os_eq (units_ok hr)) (jp_of (je_bin os_mod (jp_var 1) (jp_of je_int))) (jp_of je_int) (nomark _)) (jss_one (js_ret (je_bin os_sub (jp_of (je_bin os_mod (jp_of (je_bin os_fdiv (jp_var 1) (jp_of je_int))) (jp_of je_int))) (jp_of je_int)))) jss_nil) (jss_one (js_ret (je_bin os_sub (jp_of (je_bin os_mod (jp_of (je_bin os_mul (jp_of (je_bin os_fdiv (jp_var 1) (jp_of je_int))) (jp_of je_int))) (jp_of je_int))) (jp_of je_int)))))))) spec_law_number
def N_law_term : List Str := ["_law_number_here", "_law_letters_here"]
theorem sc_law_term : FnScope N_law_term ["_law_number_here", "_law_letters_here"] (defScope s_law_term) := ⟨rfl, rfl, rfl, by decide +kernel, rfl, by decide +kernel, by decide +kernel⟩
theorem ok_law_term {P : Program} {w : World} {K : PySem.W.Frag} {mg : Str → Option Value} {base : Heap} (T : Bi mg) (D_law_term : Df K mg "_law_term" s_law_term ["_law_number_here", "_law_letters_here"]) : FnOk P w K mg base (L2N.CX P w) 1 D_law_term.a D_law_term.fd ["_law_number_here", "_law_letters_here"] (spD K mg p_law_term) :=
  fnD D_law_term.F sc_law_term len_law_term (fun cdv A outer s H E hr => (jss_cons (js_if (jt_cmp (os_eq (units_ok hr)) (jp_of (je_callB cs_abs T.n_abs (by decide +kernel) (jap_cons (jp_var 0) jap_nil))) (jp_of je_int) (nomark _)) (jss_one (js_ret (je_var 1))) jss_nil) (jss_one (js_ret (je_bin os_add (jp_of (je_bin os_add (jp_of (je_callTy cs_str T.n_str (by decide +kernel) (jap_cons (jp_of (je_callB cs_abs T.n_abs (by decide +kernel) (jap_cons (jp_var 0) jap_nil))) jap_nil))) (jp_of je_str))) (jp_var 1)))))) spec_law_term
def N_law_letters : List Str := []
theorem sc_law_letters : FnScope N_law_letters [] (defScope s_law_letters) := ⟨rfl, rfl, rfl, by decide +kernel, rfl, by decide +kernel, by decide +kernel⟩
theorem ok_law_letters {P : Program} {w : World} {K : PySem.W.Frag} {mg : Str → Option Value} {base : Heap} (T : Bi mg) (D_law_letters : Df K mg "_law_letters" s_law_letters []) : FnOk P w K mg base (L2N.CX P w) 1 D_law_letters.a D_law_letters.fd [] (spD K mg p_law_letters) :=
  fnD D_law_letters.F sc_law_letters len_law_letters (fun cdv A outer s H E hr => (jss_one (js_ret (je_lst (ja_cons je_str (ja_cons je_str (ja_cons je_str (ja_cons je_str (ja_cons je_str (ja_cons je_str ja_nil)))))))))) spec_law_letters
def N_law_shown : List Str := ["_law_form", "_law_order_here", "_law_shown_here", "_law_k", "_law_sign"]
theorem sc_law_shown : FnScope N_law_shown ["_law_form", "_law_order_here"] (defScope s_law_shown) := ⟨rfl, rfl, rfl, by decide +kernel, rfl, by decide +kernel, by decide +kernel⟩
theorem ok_law_shown {P : Program} {w : World} {K : PySem.W.Frag} {mg : Str → Option Value} {base : Heap} (T : Bi mg) (D_law_shown : Df K mg "_law_shown" s_law_shown ["_law_form", "_law_order_here"]) (D_law_term : Df K mg "_law_term" s_law_term ["_law_number_here", "_law_letters_here"]) (G_law_term : FnOk P w K mg base (L2N.CX P w) 1 D_law_term.a D_law_term.fd ["_law_number_here", "_law_letters_here"] (spD K mg p_law_term)) (D_law_letters : Df K mg "_law_letters" s_law_letters []) (G_law_letters : FnOk P w K mg base (L2N.CX P w) 1 D_law_letters.a D_law_letters.fd [] (spD K mg p_law_letters)) : FnOk P w K mg base (L2N.CX P w) 2 D_law_shown.a D_law_shown.fd ["_law_form", "_law_order_here"] (spD K mg p_law_shown) :=
  fnD D_law_shown.F sc_law_shown len_law_shown (fun cdv A outer s H E hr => (jss_cons (js_set je_str (jg_val 2 sc_law_shown.nd)) (jss_cons (js_for passesD rfl (ji_val (je_var 1)) (jg_val 3 sc_law_shown.nd) (jss_one (js_if (jt_cmp (os_ne (units_ok hr)) (jp_of (je_ix (jp_var 0) (jp_var 3))) (jp_of je_int) (nomark _)) (jss_cons (js_set (je_ix (jp_of (je_lst (ja_cons je_str (ja_cons je_str ja_nil)))) (jp_of (je_callTy cs_intT T.n_int (by decide +kernel) (jap_cons (jp_of (je_cmp os_lt (jp_of (je_ix (jp_var 0) (jp_var 3))) (jp_of je_int) (nomark _))) jap_nil)))) (jg_val 4 sc_law_shown.nd)) (jss_cut (js_if (jt_cmp (os_eq (units_ok hr)) (jp_var 2) (jp_of je_str) (nomark _)) (jss_one (js_set (je_ix (jp_of (je_lst (ja_cons je_str (ja_cons je_str ja_nil)))) (jp_of (je_callTy cs_intT T.n_int (by decide +kernel) (jap_cons (jp_of (je_cmp os_lt (jp_of (je_ix (jp_var 0) (jp_var 3))) (jp_of je_int) (nomark _))) jap_nil)))) (jg_val 4 sc_law_shown.nd))) jss_nil) (jss_one (js_set (je_bin os_add (jp_of (je_bin os_add (jp_var 2) (jp_var 4))) (jp_of (je_call G_law_term (hr.mono (by decide)) takesD D_law_term.m D_law_term.F.kp D_law_term.b (ja_cons (je_ix (jp_var 0) (jp_var 3)) (ja_cons (je_ix (jp_of (je_call0 G_law_letters (hr.mono (by decide)) D_law_letters.m D_law_letters.F.kp D_law_letters.b)) (jp_var 3)) ja_nil))))) (jg_val 2 sc_law_shown.nd))))) jss_nil))) (jss_cut (js_if (jt_cmp (os_eq (units_ok hr)) (jp_var 2) (jp_of je_str) (nomark _)) (jss_one (js_set je_str (jg_val 2 sc_law_shown.nd))) jss_nil) (jss_one (js_ret (je_bin os_add (jp_var 2) (jp_of je_str)))))))) spec_law_shown
def N_law_order : List Str := ["_law_number_here", "_law_left", "_law_found", "_law_k"]
theorem sc_law_order : FnScope N_law_order ["_law_number_here"] (defScope s_law_order) := ⟨rfl, rfl, rfl, by decide +kernel, rfl, by decide +kernel, by decide +kernel⟩
theorem ok_law_order {P : Program} {w : World} {K : PySem.W.Frag} {mg : Str → Option Value} {base : Heap} (T : Bi mg) (D_law_order : Df K mg "_law_order" s_law_order ["_law_number_here"]) : FnOk P w K mg base (L2N.CX P w) 1 D_law_order.a D_law_order.fd ["_law_number_here"] (spD K mg p_law_order) :=
  fnD D_law_order.F sc_law_order len_law_order (fun cdv A outer s H E hr => (jss_cons (js_set (je_lst (ja_cons je_int (ja_cons je_int (ja_cons je_int (ja_cons je_int (ja_cons je_int (ja_cons je_int ja_nil))))))) (jg_var 1 sc_law_order.nd)) (jss_cons (js_set (je_lst ja_nil) (jg_var 2 sc_law_order.nd)) (jss_cons (js_for passesD rfl (ji_rng1 T.n_range (ja_cons je_int ja_nil)) (jg_val 3 sc_law_order.nd) (jss_cons (js_appPop 2 1 (by decide) (je_bin os_mod (jp_var 0) (jp_of (je_callB cs_len T.n_len (by decide +kernel) (jap_cons (jp_var 1) jap_nil)))) (by rw [sizeLine_eq]; decide)) (jss_one (js_set (je_bin os_fdiv (jp_var 0) (jp_of je_int)) (jg_val 0 sc_law_order.nd))))) (jss_one (js_retOwn 2)))))) spec_law_order
def N_law_sign_by : List Str := ["_law_cell", "_law_some"]
theorem sc_law_sign_by : FnScope N_law_sign_by ["_law_cell"] (defScope s_law_sign_by) := ⟨rfl, rfl, rfl, by decide +kernel, rfl, by decide +kernel, by decide +kernel⟩
theorem ok_law_sign_by {P : Program} {w : World} {K : PySem.W.Frag} {mg : Str → Option Value} {base : Heap} (T : Bi mg) (D_law_sign_by : Df K mg "_law_sign_by" s_law_sign_by ["_law_cell"]) : FnOk P w K mg base (L2N.CX P w) 1 D_law_sign_by.a D_law_sign_by.fd ["_law_cell"] (spD K mg p_law_sign_by) :=
  fnD D_law_sign_by.F sc_law_sign_by len_law_sign_by (fun cdv A outer s H E hr => (jss_cons (js_set je_str (jg_val 1 sc_law_sign_by.nd)) (jss_cons (js_set (je_bin os_add (jp_var 1) (jp_of je_str)) (jg_val 1 sc_law_sign_by.nd)) (jss_one (js_ret (je_ix (jp_var 1) (jp_of (je_bin os_mod (jp_var 0) (jp_of je_int))))))))) spec_law_sign_by
def N_law_odd : List Str := ["_law_cell", "_law_some"]
theorem sc_law_odd : FnScope N_law_odd ["_law_cell"] (defScope s_law_odd) := ⟨rfl, rfl, rfl, by decide +kernel, rfl, by decide +kernel, by decide +kernel⟩
theorem ok_law_odd {P : Program} {w : World} {K : PySem.W.Frag} {mg : Str → Option Value} {base : Heap} (T : Bi mg) (D_law_odd : Df K mg "_law_odd" s_law_odd ["_law_cell"]) : FnOk P w K mg base (L2N.CX P w) 1 D_law_odd.a D_law_odd.fd ["_law_cell"] (spD K mg p_law_odd) :=
  fnD D_law_odd.F sc_law_odd len_law_odd (fun cdv A outer s H E hr => (jss_cons (js_set (je_lst (ja_cons je_str (ja_cons je_str (ja_cons je_str (ja_cons je_str (ja_cons je_str (ja_cons je_str (ja_cons je_str (ja_cons je_str (ja_cons je_str (ja_cons je_str (ja_cons je_str ja_nil)))))))))))) (jg_var 1 sc_law_odd.nd)) (jss_cons (js_app 1 je_str) (jss_cons (js_set (je_bin os_add (jp_var 1) (jp_of (je_lst (ja_cons je_str (ja_cons je_str (ja_cons je_str (ja_cons je_str (ja_cons je_str (ja_cons je_str (ja_cons je_str ja_nil)))))))))) (jg_var 1 sc_law_odd.nd)) (jss_cons (js_app 1 je_str) (jss_cons (js_set (je_bin os_add (jp_var 1) (jp_of (je_lst (ja_cons je_str (ja_cons je_str (ja_cons je_str (ja_cons je_str (ja_cons je_str (ja_cons je_str (ja_cons je_str ja_nil)))))))))) (jg_var 1 sc_law_odd.nd)) (jss_cons (js_set (je_bin os_add (jp_var 1) (jp_of (je_lst (ja_cons je_str (ja_cons je_str (ja_cons je_str ja_nil)))))) (jg_var 1 sc_law_odd.nd)) (jss_one (js_ret (je_ix (jp_var 1) (jp_of (je_bin os_mod (jp_var 0) (jp_of je_int))))))))))))) spec_law_odd
def N_law_text : List Str := ["_law_script", "_law_form", "_law_text_here", "_law_way", "_law_at", "_law_k"]
theorem sc_law_text : FnScope N_law_text ["_law_script"] (defScope s_law_text) := ⟨rfl, rfl, rfl, by decide +kernel, rfl, by decide +kernel, by decide +kernel⟩
theorem ok_law_text {P : Program} {w : World} {K : PySem.W.Frag} {mg : Str → Option Value} {base : Heap} (T : Bi mg) (D_law_text : Df K mg "_law_text" s_law_text ["_law_script"]) (D_law_number : Df K mg "_law_number" s_law_number ["_law_cell"]) (G_law_number : FnOk P w K mg base (L2N.CX P w) 1 D_law_number.a D_law_number.fd ["_law_cell"] (spD K mg p_law_number)) (D_law_cell_at : Df K mg "_law_cell_at" s_law_cell_at ["_law_script", "_law_k"]) (G_law_cell_at : FnOk P w K mg base (L2N.CX P w) 1 D_law_cell_at.a D_law_cell_at.fd ["_law_script", "_law_k"] (spD K mg p_law_cell_at)) (D_law_shown : Df K mg "_law_shown" s_law_shown ["_law_form", "_law_order_here"]) (G_law_shown : FnOk P w K mg base (L2N.CX P w) 2 D_law_shown.a D_law_shown.fd ["_law_form", "_law_order_here"] (spD K mg p_law_shown)) (D_law_order : Df K mg "_law_order" s_law_order ["_law_number_here"]) (G_law_order : FnOk P w K mg base (L2N.CX P w) 1 D_law_order.a D_law_order.fd ["_law_number_here"] (spD K mg p_law_order)) (D_law_sign_by : Df K mg "_law_sign_by" s_law_sign_by ["_law_cell"]) (G_law_sign_by : FnOk P w K mg base (L2N.CX P w) 1 D_law_sign_by.a D_law_sign_by.fd ["_law_cell"] (spD K mg p_law_sign_by)) (D_law_letters : Df K mg "_law_letters" s_law_letters []) (G_law_letters : FnOk P w K mg base (L2N.CX P w) 1 D_law_letters.a D_law_letters.fd [] (spD K mg p_law_letters)) (D_law_odd : Df K mg "_law_odd" s_law_odd ["_law_cell"]) (G_law_odd : FnOk P w K mg base (L2N.CX P w) 1 D_law_odd.a D_law_odd.fd ["_law_cell"] (spD K mg p_law_odd)) : FnOk P w K mg base (L2N.CX P w) 3 D_law_text.a D_law_text.fd ["_law_script"] (spD K mg p_law_text) :=
  fnD D_law_text.F sc_law_text len_law_text (fun cdv A outer s H E hr => (jss_cons (js_set (je_callTy cs_tuple T.n_tuple (by decide +kernel) (jap_cons (jp_of (je_lc (own := [("_law_k", 5)]) rfl sc_law_text.nd (ji_rng1 T.n_range (ja_cons je_int ja_nil)) (blkOk_by (own := [("_law_k", 5)]) (N := N_law_text) (sc := defScope s_law_text) (by decide +kernel)) (by decide) (fun _ _ _ _ _ => (jg_val 5 sc_law_text.nd)) (fun _ _ _ _ _ => jts_nil) (fun _ _ _ _ _ => (je_call G_law_number (hr.mono (by decide)) takesF D_law_number.m D_law_number.F.kp D_law_number.b (ja_cons (je_bin os_add (jp_of (je_call G_law_cell_at (hr.mono (by decide)) takesF D_law_cell_at.m D_law_cell_at.F.kp D_law_cell_at.b (ja_cons (je_var 0) (ja_cons (je_var 5) ja_nil)))) (jp_of (je_bin os_mul (jp_of (je_bin os_mul (jp_of je_int) (jp_var 5))) (jp_var 5)))) ja_nil))))) jap_nil)) (jg_val 1 sc_law_text.nd)) (jss_cons (js_set (je_call G_law_shown (hr.mono (by decide)) takesD D_law_shown.m D_law_shown.F.kp D_law_shown.b (ja_cons (je_var 1) (ja_cons (je_call G_law_order (hr.mono (by decide)) takesD D_law_order.m D_law_order.F.kp D_law_order.b (ja_cons (je_call G_law_cell_at (hr.mono (by decide)) takesD D_law_cell_at.m D_law_cell_at.F.kp D_law_cell_at.b (ja_cons (je_var 0) (ja_cons je_int ja_nil))) ja_nil)) ja_nil))) (jg_val 2 sc_law_text.nd)) (jss_cons (js_set (je_bin os_mod (jp_of (je_call G_law_cell_at (hr.mono (by decide)) takesD D_law_cell_at.m D_law_cell_at.F.kp D_law_cell_at.b (ja_cons (je_var 0) (ja_cons je_int ja_nil)))) (jp_of je_int)) (jg_val 3 sc_law_text.nd)) (jss_cons (js_set (je_bin os_mod (jp_of (je_call G_law_cell_at (hr.mono (by decide)) takesD D_law_cell_at.m D_law_cell_at.F.kp D_law_cell_at.b (ja_cons (je_var 0) (ja_cons je_int ja_nil)))) (jp_of (je_bin os_add (jp_of (je_callB cs_len T.n_len (by decide +kernel) (jap_cons (jp_var 2) jap_nil))) (jp_of je_int)))) (jg_val 4 sc_law_text.nd)) (jss_cons (js_if (JW.pt (jw_or (jt_cmp (os_eq (units_ok hr)) (jp_var 3) (jp_of je_int) (nomark _)) (jw_or1 (jt_cmp (os_eq (units_ok hr)) (jp_var 3) (jp_of je_int) (nomark _))))) (jss_one (js_ret (je_bin os_add (jp_of (je_bin os_add (jp_of (je_slice (jp_var 2) jo_no (jo_some (je_var 4)))) (jp_of (je_call G_law_sign_by (hr.mono (by decide)) takesD D_law_sign_by.m D_law_sign_by.F.kp D_law_sign_by.b (ja_cons (je_call G_law_cell_at (hr.mono (by decide)) takesD D_law_cell_at.m D_law_cell_at.F.kp D_law_cell_at.b (ja_cons (je_var 0) (ja_cons je_int ja_nil))) ja_nil))))) (jp_of (je_slice (jp_var 2) (jo_some (je_var 4)) jo_no))))) jss_nil) (jss_cons (js_if (jt_cmp (os_eq (units_ok hr)) (jp_var 3) (jp_of je_int) (nomark _)) (jss_one (js_ret (je_bin os_add (jp_of (je_slice (jp_var 2) jo_no (jo_some (je_var 4)))) (jp_of (je_slice (jp_var 2) (jo_some (je_bin os_add (jp_var 4) (jp_of je_int))) jo_no))))) jss_nil) (jss_cons (js_if (jt_cmp (os_eq (units_ok hr)) (jp_var 3) (jp_of je_int) (nomark _)) (jss_one (js_ret (je_bin os_add (jp_of (je_bin os_add (jp_of (je_bin os_add (jp_of (je_slice (jp_var 2) jo_no (jo_some (je_neg (jp_of je_int))))) (jp_of je_str))) (jp_of (je_ix (jp_of (je_call0 G_law_letters (hr.mono (by decide)) D_law_letters.m D_law_letters.F.kp D_law_letters.b)) (jp_of (je_bin os_mod (jp_of (je_call G_law_cell_at (hr.mono (by decide)) takesD D_law_cell_at.m D_law_cell_at.F.kp D_law_cell_at.b (ja_cons (je_var 0) (ja_cons je_int ja_nil)))) (jp_of je_int))))))) (jp_of je_str)))) jss_nil) (jss_cons (js_if (jt_cmp (os_eq (units_ok hr)) (jp_var 3) (jp_of je_int) (nomark _)) (jss_one (js_ret (je_bin os_add (jp_of (je_callTy cs_str T.n_str (by decide +kernel) (jap_cons (jp_of (je_bin os_add (jp_of je_int) (jp_of (je_bin os_mod (jp_of (je_call G_law_cell_at (hr.mono (by decide)) takesD D_law_cell_at.m D_law_cell_at.F.kp D_law_cell_at.b (ja_cons (je_var 0) (ja_cons je_int ja_nil)))) (jp_of je_int))))) jap_nil))) (jp_of je_str)))) jss_nil) (jss_cons (js_if (jt_cmp (os_eq (units_ok hr)) (jp_var 3) (jp_of je_int) (nomark _)) (jss_one (js_ret (je_call G_law_odd (hr.mono (by decide)) takesD D_law_odd.m D_law_odd.F.kp D_law_odd.b (ja_cons (je_call G_law_cell_at (hr.mono (by decide)) takesD D_law_cell_at.m D_law_cell_at.F.kp D_law_cell_at.b (ja_cons (je_var 0) (ja_cons je_int ja_nil))) ja_nil)))) jss_nil) (jss_cons (js_ifRep (os_eq (units_ok hr)) (jp_var 3) (jet_rep (ys := [" ", "+", "-", "x", "0"]) (zs := ["", "-", "+", "y", "1"]) (jp_var 2) (je_bin os_mod (jp_var 4) (jp_of je_int)) (je_bin os_mod (jp_var 4) (jp_of je_int)) (je_bin os_add (jp_of je_int) (jp_of (je_bin os_mod (jp_of (je_bin os_fdiv (jp_var 4) (jp_of je_int))) (jp_of je_int))))) (nomark _)) (jss_one (js_ret (je_var 2)))))))))))))) spec_law_text
def N_law_figures : List Str := ["_law_word", "_law_number_here", "_law_sign", "_law_at"]
theorem sc_law_figures : FnScope N_law_figures ["_law_word"] (defScope s_law_figures) := ⟨rfl, rfl, rfl, by decide +kernel, rfl, by decide +kernel, by decide +kernel⟩
theorem ok_law_figures {P : Program} {w : World} {K : PySem.W.Frag} {mg : Str → Option Value} {base : Heap} (T : Bi mg) (D_law_figures : Df K mg "_law_figures" s_law_figures ["_law_word"]) : FnOk P w K mg base (L2N.CX P w) 1 D_law_figures.a D_law_figures.fd ["_law_word"] (spD K mg p_law_figures) :=
  fnD D_law_figures.F sc_law_figures len_law_figures (fun cdv A outer s H E hr => (jss_cons (js_if (JW.pt (jw_or (jt_cmp (os_eq (units_ok hr)) (jp_var 0) (jp_of je_str) (nomark _)) (jw_or (jt_cmp os_gt (jp_of (je_callB cs_len T.n_len (by decide +kernel) (jap_cons (jp_var 0) jap_nil))) (jp_of je_int) (nomark _)) (jw_or1 (jt_cmp (os_eq (units_ok hr)) (jp_of (je_ix (jp_var 0) (jp_of je_int))) (jp_of je_str) (nomark _)))))) (jss_one (js_ret je_int)) jss_nil) (jss_cons (js_set je_int (jg_val 1 sc_law_figures.nd)) (jss_cons (js_for passesD rfl (ji_str (je_var 0)) (jg_val 2 sc_law_figures.nd) (jss_cons (js_set (je_find (jp_of je_str) (jp_var 2)) (jg_val 3 sc_law_figures.nd)) (jss_cons (js_if (jt_cmp os_lt (jp_var 3) (jp_of je_int) (nomark _)) (jss_one (js_ret je_int)) jss_nil) (jss_one (js_set (je_bin os_add (jp_of (je_bin os_mul (jp_of je_int) (jp_var 1))) (jp_var 3)) (jg_val 1 sc_law_figures.nd)))))) (jss_one (js_ret (je_var 1))))))) spec_law_figures
def N_law_told : List Str := ["_law_text_here", "_law_words", "_law_sign", "_law_found", "_law_at", "_law_number_here", "_law_letters_here"]
theorem sc_law_told : FnScope N_law_told ["_law_text_here"] (defScope s_law_told) := ⟨rfl, rfl, rfl, by decide +kernel, rfl, by decide +kernel, by decide +kernel⟩
theorem ok_law_told {P : Program} {w : World} {K : PySem.W.Frag} {mg : Str → Option Value} {base : Heap} (T : Bi mg) (D_law_told : Df K mg "_law_told" s_law_told ["_law_text_here"]) (D_law_letters : Df K mg "_law_letters" s_law_letters []) (G_law_letters : FnOk P w K mg base (L2N.CX P w) 1 D_law_letters.a D_law_letters.fd [] (spD K mg p_law_letters)) (D_law_figures : Df K mg "_law_figures" s_law_figures ["_law_word"]) (G_law_figures : FnOk P w K mg base (L2N.CX P w) 1 D_law_figures.a D_law_figures.fd ["_law_word"] (spD K mg p_law_figures)) : FnOk P w K mg base (L2N.CX P w) 2 D_law_told.a D_law_told.fd ["_law_text_here"] (spD K mg p_law_told) :=
  fnD D_law_told.F sc_law_told len_law_told (fun cdv A outer s H E hr => (jss_cons (js_if (jt_cmp (os_eq (units_ok hr)) (jp_var 0) (jp_of je_str) (nomark _)) (jss_one (js_ret (je_tup (ja_cons je_int (ja_cons je_int (ja_cons je_int (ja_cons je_int (ja_cons je_int (ja_cons je_int ja_nil))))))))) jss_nil) (jss_cons (js_if (jt_cmp (os_ne (units_ok hr)) (jp_of (je_slice (jp_var 0) (jo_some (je_neg (jp_of je_int))) jo_no)) (jp_of je_str) (nomark _)) (jss_one (js_ret je_non)) jss_nil) (jss_cons (js_set (je_split (jp_of (je_slice (jp_var 0) jo_no (jo_some (je_neg (jp_of je_int))))) (jp_of je_str)) (jg_var 1 sc_law_told.nd)) (jss_cons (js_set je_int (jg_val 2 sc_law_told.nd)) (jss_cut (js_if (jt_cmp (os_eq (units_ok hr)) (jp_of (je_slice (jp_of (je_ix (jp_var 1) (jp_of je_int))) jo_no (jo_some je_int))) (jp_of je_str) (nomark _)) (jss_cons (js_set (je_bin os_sub (jp_of je_int) (jp_of je_int)) (jg_val 2 sc_law_told.nd)) (jss_one (js_item 1 (je_slice (jp_of (je_ix (jp_var 1) (jp_of je_int))) (jo_some je_int) jo_no) je_int))) jss_nil) (jss_cons (js_set je_dnewT (jg_var 3 sc_law_told.nd)) (jss_cons (js_set je_int (jg_val 4 sc_law_told.nd)) (jss_cons (js_while passesD (jt_cmp os_lt (jp_var 4) (jp_of (je_callB cs_len T.n_len (by decide +kernel) (jap_cons (jp_var 1) jap_nil))) (nomark _)) (jss_cons (js_set je_int (jg_val 5 sc_law_told.nd)) (jss_cut (js_if (jt_cmp os_notinT (jp_of (je_ix (jp_var 1) (jp_var 4))) (jp_of (je_call0 G_law_letters (hr.mono (by decide)) D_law_letters.m D_law_letters.F.kp D_law_letters.b)) (by rfl)) (jss_cons (js_set (je_call G_law_figures (hr.mono (by decide)) takesD D_law_figures.m D_law_figures.F.kp D_law_figures.b (ja_cons (je_ix (jp_var 1) (jp_var 4)) ja_nil)) (jg_val 5 sc_law_told.nd)) (jss_one (js_set (je_bin os_add (jp_var 4) (jp_of je_int)) (jg_val 4 sc_law_told.nd)))) jss_nil) (jss_cons (js_if (JW.pt (jw_or (jt_cmp (os_eq (units_ok hr)) (jp_var 4) (jp_of (je_callB cs_len T.n_len (by decide +kernel) (jap_cons (jp_var 1) jap_nil))) (nomark _)) (jw_or (jt_cmp os_notinT (jp_of (je_ix (jp_var 1) (jp_var 4))) (jp_of (je_call0 G_law_letters (hr.mono (by decide)) D_law_letters.m D_law_letters.F.kp D_law_letters.b)) (by rfl)) (jw_or1 (jt_inT 3 (units_ok hr) (je_ix (jp_var 1) (jp_var 4))))))) (jss_one (js_ret je_non)) jss_nil) (jss_cons (js_if (JW.pt (jw_or (jt_cmp (os_eq (units_ok hr)) (jp_var 5) (jp_of je_int) (nomark _)) (jw_or1 (JW.pt (jw_and (jt_cmp (os_eq (units_ok hr)) (jp_var 5) (jp_of je_int) (nomark _)) (jw_and (jt_cmp (os_eq (units_ok hr)) (jp_of (je_ix (jp_var 1) (jp_of (je_bin os_sub (jp_var 4) (jp_of je_int))))) (jp_of je_str) (nomark _)) (jw_and1 (jt_cmp os_gt (jp_var 4) (jp_of je_int) (nomark _))))))))) (jss_one (js_ret je_non)) jss_nil) (jss_cons (js_putT 3 (units_ok hr) (je_bin os_mul (jp_var 2) (jp_var 5)) (je_ix (jp_var 1) (jp_var 4))) (jss_cons (js_set (je_bin os_add (jp_var 4) (jp_of je_int)) (jg_val 4 sc_law_told.nd)) (jss_one (js_if (jt_cmp os_lt (jp_var 4) (jp_of (je_callB cs_len T.n_len (by decide +kernel) (jap_cons (jp_var 1) jap_nil))) (nomark _)) (jss_cons (js_if (JW.pt (jw_or (jt_cmp os_notinT (jp_of (je_ix (jp_var 1) (jp_var 4))) (jp_of (je_lst (ja_cons je_str (ja_cons je_str ja_nil)))) (by rfl)) (jw_or1 (jt_cmp (os_eq (units_ok hr)) (jp_of (je_bin os_add (jp_var 4) (jp_of je_int))) (jp_of (je_callB cs_len T.n_len (by decide +kernel) (jap_cons (jp_var 1) jap_nil))) (nomark _))))) (jss_one (js_ret je_non)) jss_nil) (jss_cons (js_set (je_bin os_sub (jp_of je_int) (jp_of (je_bin os_mul (jp_of je_int) (jp_of (je_callTy cs_intT T.n_int (by decide +kernel) (jap_cons (jp_of (je_cmp (os_eq (units_ok hr)) (jp_of (je_ix (jp_var 1) (jp_var 4))) (jp_of je_str) (nomark _))) jap_nil)))))) (jg_val 2 sc_law_told.nd)) (jss_one (js_set (je_bin os_add (jp_var 4) (jp_of je_int)) (jg_val 4 sc_law_told.nd))))) jss_nil))))))))) (jss_one (js_ret (je_callTy cs_tuple T.n_tuple (by decide +kernel) (jap_cons (jp_of (je_lc (own := [("_law_letters_here", 6)]) rfl sc_law_told.nd (ji_val (je_call0 G_law_letters (hr.mono (by decide)) D_law_letters.m D_law_letters.F.kp D_law_letters.b)) (blkOk_by (own := [("_law_letters_here", 6)]) (N := N_law_told) (sc := defScope s_law_told) (by decide +kernel)) (by decide) (fun _ _ _ _ _ => (jg_val 6 sc_law_told.nd)) (fun _ _ _ _ _ => jts_nil) (fun _ _ _ _ _ => (je_getT 3 (units_ok hr) (je_var 6) je_int)))) jap_nil))))))))))))) spec_law_told
def N_law_same : List Str := ["_law_found", "_law_due", "_law_one"]
theorem sc_law_same : FnScope N_law_same ["_law_found", "_law_due"] (defScope s_law_same) := ⟨rfl, rfl, rfl, by decide +kernel, rfl, by decide +kernel, by decide +kernel⟩
theorem ok_law_same {P : Program} {w : World} {K : PySem.W.Frag} {mg : Str → Option Value} {base : Heap} (T : Bi mg) (D_law_same : Df K mg "_law_same" s_law_same ["_law_found", "_law_due"]) : FnOk P w K mg base (L2N.CX P w) 1 D_law_same.a D_law_same.fd ["_law_found", "_law_due"] (spD K mg p_law_same) :=
  fnD D_law_same.F sc_law_same len_law_same (fun cdv A outer s H E hr => (jss_cons (js_if (JW.pt (jw_or (jt_not (jt_val (je_isi T.n_isinstance T.n_tuple (by decide +kernel) hk_tuple (jp_var 0)))) (jw_or1 (jt_cmp (os_ne (units_ok hr)) (jp_of (je_callB cs_len T.n_len (by decide +kernel) (jap_cons (jp_var 0) jap_nil))) (jp_of (je_callB cs_len T.n_len (by decide +kernel) (jap_cons (jp_var 1) jap_nil))) (nomark _))))) (jss_one (js_ret je_bl)) jss_nil) (jss_one (js_ret (je_and (je_callB (cs_all rfl) T.n_all (by decide +kernel) (jap_cons (jp_of (je_lc (own := [("_law_one", 2)]) rfl sc_law_same.nd (ji_val (je_var 0)) (blkOk_by (own := [("_law_one", 2)]) (N := N_law_same) (sc := defScope s_law_same) (by decide +kernel)) (by decide) (fun _ _ _ _ _ => (jg_val 2 sc_law_same.nd)) (fun _ _ _ _ _ => jts_nil) (fun _ _ _ _ _ => (je_and (je_isi T.n_isinstance T.n_int (by decide +kernel) hk_int (jp_var 2)) (je_one (je_not (je_isi T.n_isinstance T.n_bool (by decide +kernel) hk_bool (jp_var 2)))))))) jap_nil)) (je_one (je_cmp (os_eq (units_ok hr)) (jp_var 0) (jp_var 1) (nomark _)))))))) spec_law_same
def N_law : List Str := ["_law_script", "_law_text_here", "_law_due"]
theorem sc_law : FnScope N_law ["_law_script"] (defScope s_law) := ⟨rfl, rfl, rfl, by decide +kernel, rfl, by decide +kernel, by decide +kernel⟩
theorem ok_law {P : Program} {w : World} {K : PySem.W.Frag} {mg : Str → Option Value} {base : Heap} (T : Bi mg) (D_law : Df K mg "law" s_law ["_law_script"]) (D_law_refused : Df K mg "_law_refused" s_law_refused ["_law_text_here"]) (G_law_refused : FnOk P w K mg base (L2N.CX P w) 5 D_law_refused.a D_law_refused.fd ["_law_text_here"] (spD K mg p_law_refused)) (D_law_no_text : Df K mg "_law_no_text" s_law_no_text ["_law_cell"]) (G_law_no_text : FnOk P w K mg base (L2N.CX P w) 1 D_law_no_text.a D_law_no_text.fd ["_law_cell"] (spD K mg p_law_no_text)) (D_law_cell_at : Df K mg "_law_cell_at" s_law_cell_at ["_law_script", "_law_k"]) (G_law_cell_at : FnOk P w K mg base (L2N.CX P w) 1 D_law_cell_at.a D_law_cell_at.fd ["_law_script", "_law_k"] (spD K mg p_law_cell_at)) (D_law_text : Df K mg "_law_text" s_law_text ["_law_script"]) (G_law_text : FnOk P w K mg base (L2N.CX P w) 3 D_law_text.a D_law_text.fd ["_law_script"] (spD K mg p_law_text)) (D_law_told : Df K mg "_law_told" s_law_told ["_law_text_here"]) (G_law_told : FnOk P w K mg base (L2N.CX P w) 2 D_law_told.a D_law_told.fd ["_law_text_here"] (spD K mg p_law_told)) (D_law_same : Df K mg "_law_same" s_law_same ["_law_found", "_law_due"]) (G_law_same : FnOk P w K mg base (L2N.CX P w) 1 D_law_same.a D_law_same.fd ["_law_found", "_law_due"] (spD K mg p_law_same)) (D_read_sum : Df K mg "read_sum" s_read_sum ["text"]) (G_read_sum : FnOk P w K mg base (L2N.CX P w) 4 D_read_sum.a D_read_sum.fd ["text"] (spD K mg p_read_sum)) : FnOk P w K mg base (L2N.CX P w) 6 D_law.a D_law.fd ["_law_script"] (spD K mg p_law) :=
  fnD D_law.F sc_law len_law (fun cdv A outer s H E hr => (jss_cons (js_if (jt_not (jt_val (je_call G_law_refused (hr.mono (by decide)) takesD D_law_refused.m D_law_refused.F.kp D_law_refused.b (ja_cons (je_call G_law_no_text (hr.mono (by decide)) takesD D_law_no_text.m D_law_no_text.F.kp D_law_no_text.b (ja_cons (je_call G_law_cell_at (hr.mono (by decide)) takesD D_law_cell_at.m D_law_cell_at.F.kp D_law_cell_at.b (ja_cons (je_var 0) (ja_cons je_int ja_nil))) ja_nil)) ja_nil)))) (jss_one (js_ret je_bl)) jss_nil) (jss_cons (js_set (je_call G_law_text (hr.mono (by decide)) takesD D_law_text.m D_law_text.F.kp D_law_text.b (ja_cons (je_var 0) ja_nil)) (jg_val 1 sc_law.nd)) (jss_cons (js_set (je_call G_law_told (hr.mono (by decide)) takesD D_law_told.m D_law_told.F.kp D_law_told.b (ja_cons (je_var 1) ja_nil)) (jg_val 2 sc_law.nd)) (jss_cons (js_if (jt_cmp os_isN (jp_var 2) (jp_of je_non) (nomark _)) (jss_one (js_ret (je_and (je_call G_law_refused (hr.mono (by decide)) takesD D_law_refused.m D_law_refused.F.kp D_law_refused.b (ja_cons (je_var 1) ja_nil)) (je_one (je_call G_law_refused (hr.mono (by decide)) takesD D_law_refused.m D_law_refused.F.kp D_law_refused.b (ja_cons (je_var 1) ja_nil)))))) jss_nil) (jss_one (js_ret (je_and (je_call G_law_same (hr.mono (by decide)) takesD D_law_same.m D_law_same.F.kp D_law_same.b (ja_cons (je_call G_read_sum (hr.mono (by decide)) takesD D_read_sum.m D_read_sum.F.kp D_read_sum.b (ja_cons (je_var 1) ja_nil)) (ja_cons (je_var 2) ja_nil))) (je_one (je_call G_law_same (hr.mono (by decide)) takesD D_law_same.m D_law_same.F.kp D_law_same.b (ja_cons (je_call G_read_sum (hr.mono (by decide)) takesD D_read_sum.m D_read_sum.F.kp D_read_sum.b (ja_cons (je_var 1) ja_nil)) (ja_cons (je_var 2) ja_nil)))))))))))) spec_law
end DL
open PySem PySem.W PyProof.Rows
set_option maxRecDepth 100000 in
set_option maxHeartbeats 0 in
theorem PySem.Challenge.cw_conicplaces_k62_texts_of_sums_read_holds : PySem.Challenge.rw_conicplaces_k62_texts_of_sums_read.Holds := by
  w_on; o_law; k_head; (case hw => w_witness2)
  k_fill
  refine DL.walkD (l := PySem.Challenge.rw_conicplaces_k62_texts_of_sums_read) (k := 6) (x := "_law_script") rfl rfl ⟨rfl, by decide, by decide⟩ (fun w h Y => PySem.W.kIn_of Y) ?F
  case F =>
    intro w mg fa h KX G hmg
    refine' DL.use (x := "abs") KX G ?z fun z0 => ?rz0
    (case z => k_is)
    refine' DL.use (x := "all") KX G ?z fun z1 => ?rz1
    (case z => k_is)
    refine' DL.use (x := "bool") KX G ?z fun z2 => ?rz2
    (case z => k_is)
    refine' DL.use (x := "int") KX G ?z fun z3 => ?rz3
    (case z => k_is)
    refine' DL.use (x := "isinstance") KX G ?z fun z4 => ?rz4
    (case z => k_is)
    refine' DL.use (x := "len") KX G ?z fun z5 => ?rz5
    (case z => k_is)
    refine' DL.use (x := "range") KX G ?z fun z6 => ?rz6
    (case z => k_is)
    refine' DL.use (x := "str") KX G ?z fun z7 => ?rz7
    (case z => k_is)
    refine' DL.use (x := "tuple") KX G ?z fun z8 => ?rz8
    (case z => k_is)
    have T : DL.Bi mg := ⟨z0, z1, z2, z3, z4, z5, z6, z7, z8⟩
    refine' DL.co_use (x := "BEHIND") (d := (.str " = 0")) KX G ?co_BEHIND_a ?co_BEHIND_v fun CO_BEHIND => ?co_BEHIND_r
    (case co_BEHIND_a => k_is)
    (case co_BEHIND_v => exact (DL.CoV.str _ _))
    refine' DL.co_use (x := "FIGURES") (d := (.str "0123456789")) KX G ?co_FIGURES_a ?co_FIGURES_v fun CO_FIGURES => ?co_FIGURES_r
    (case co_FIGURES_a => k_is)
    (case co_FIGURES_v => exact (DL.CoV.str _ _))
    refine' DL.co_use (x := "LETTERS") (d := (.tuple [(.str "xx"), (.str "yy"), (.str "zz"), (.str "yz"), (.str "xz"), (.str "xy")])) KX G ?co_LETTERS_a (DL.CoV.tup ?co_LETTERS_0 ?co_LETTERS_0_s ?co_LETTERS_0_v) fun CO_LETTERS => ?co_LETTERS_r
    (case co_LETTERS_a => k_is)
    (case co_LETTERS_0 => k_is)
    (case co_LETTERS_0_s => decide)
    case' co_LETTERS_0_v => refine' (DL.CoVs.cons (DL.CoV.str _ _) (DL.CoVs.cons (DL.CoV.str _ _) (DL.CoVs.cons (DL.CoV.str _ _) (DL.CoVs.cons (DL.CoV.str _ _) (DL.CoVs.cons (DL.CoV.str _ _) (DL.CoVs.cons (DL.CoV.str _ _) DL.CoVs.nil))))))
    refine' DL.co_use (x := "MOST_FIGURES") (d := (.int 6)) KX G ?co_MOST_FIGURES_a ?co_MOST_FIGURES_v fun CO_MOST_FIGURES => ?co_MOST_FIGURES_r
    (case co_MOST_FIGURES_a => k_is)
    (case co_MOST_FIGURES_v => exact (DL.CoV.int _ _))
    refine' DL.exd_use (c := "NoText") KX G ?a ?x ?k ?b ?t fun C_NoText => ?r_C_NoText
    (case a => k_is)
    (case x => k_exc)
    (case k => k_is)
    (case b => k_is)
    (case t => k_is)
    refine' DL.exi_use (R := ["NoText"]) KX (.cons ⟨?C_NoText, ?n_NoText, DL.exi_mk ?cl_NoText ?ga_NoText ?gt_NoText ?sb_NoText ?ca_NoText ?cn_NoText ?tk_NoText ?mr_NoText ?hd_NoText⟩ .nil) fun EI => ?r_EI
    (case n_NoText => k_is)
    (case cl_NoText => k_is)
    (case ga_NoText => k_is)
    (case gt_NoText => k_is)
    (case sb_NoText => k_is)
    (case ca_NoText => k_is)
    (case cn_NoText => k_is)
    (case tk_NoText => k_is)
    (case mr_NoText => k_is)
    (case hd_NoText => k_is)
    refine' DL.ist_use (R := ["NoText"]) (T := "BadPlace") KX G ?a ?c ?t ?s (.cons ⟨?C_NoText, false, ?n_NoText, ?e_NoText, by decide⟩ .nil) fun IT_BadPlace => ?r_IT_BadPlace
    (case a => k_is)
    (case c => k_is)
    (case t => k_is)
    (case s => k_is)
    (case n_NoText => k_is)
    (case e_NoText => k_is)
    refine' DL.ist_use (R := ["NoText"]) (T := "CurveError") KX G ?a ?c ?t ?s (.cons ⟨?C_NoText, true, ?n_NoText, ?e_NoText, by decide⟩ .nil) fun IT_CurveError => ?r_IT_CurveError
    (case a => k_is)
    (case c => k_is)
    (case t => k_is)
    (case s => k_is)
    (case n_NoText => k_is)
    (case e_NoText => k_is)
    refine' DL.ist_use (R := ["NoText"]) (T := "Flat") KX G ?a ?c ?t ?s (.cons ⟨?C_NoText, false, ?n_NoText, ?e_NoText, by decide⟩ .nil) fun IT_Flat => ?r_IT_Flat
    (case a => k_is)
    (case c => k_is)
    (case t => k_is)
    (case s => k_is)
    (case n_NoText => k_is)
    (case e_NoText => k_is)
    refine' DL.ist_use (R := ["NoText"]) (T := "NoBack") KX G ?a ?c ?t ?s (.cons ⟨?C_NoText, false, ?n_NoText, ?e_NoText, by decide⟩ .nil) fun IT_NoBack => ?r_IT_NoBack
    (case a => k_is)
    (case c => k_is)
    (case t => k_is)
    (case s => k_is)
    (case n_NoText => k_is)
    (case e_NoText => k_is)
    refine' DL.ist_use (R := ["NoText"]) (T := "NoJoin") KX G ?a ?c ?t ?s (.cons ⟨?C_NoText, false, ?n_NoText, ?e_NoText, by decide⟩ .nil) fun IT_NoJoin => ?r_IT_NoJoin
    (case a => k_is)
    (case c => k_is)
    (case t => k_is)
    (case s => k_is)
    (case n_NoText => k_is)
    (case e_NoText => k_is)
    refine' DL.ist_use (R := ["NoText"]) (T := "NoLine") KX G ?a ?c ?t ?s (.cons ⟨?C_NoText, false, ?n_NoText, ?e_NoText, by decide⟩ .nil) fun IT_NoLine => ?r_IT_NoLine
    (case a => k_is)
    (case c => k_is)
    (case t => k_is)
    (case s => k_is)
    (case n_NoText => k_is)
    (case e_NoText => k_is)
    refine' DL.ist_use (R := ["NoText"]) (T := "NoName") KX G ?a ?c ?t ?s (.cons ⟨?C_NoText, false, ?n_NoText, ?e_NoText, by decide⟩ .nil) fun IT_NoName => ?r_IT_NoName
    (case a => k_is)
    (case c => k_is)
    (case t => k_is)
    (case s => k_is)
    (case n_NoText => k_is)
    (case e_NoText => k_is)
    refine' DL.ist_use (R := ["NoText"]) (T := "NoNumber") KX G ?a ?c ?t ?s (.cons ⟨?C_NoText, false, ?n_NoText, ?e_NoText, by decide⟩ .nil) fun IT_NoNumber => ?r_IT_NoNumber
    (case a => k_is)
    (case c => k_is)
    (case t => k_is)
    (case s => k_is)
    (case n_NoText => k_is)
    (case e_NoText => k_is)
    refine' DL.ist_use (R := ["NoText"]) (T := "NoPair") KX G ?a ?c ?t ?s (.cons ⟨?C_NoText, false, ?n_NoText, ?e_NoText, by decide⟩ .nil) fun IT_NoPair => ?r_IT_NoPair
    (case a => k_is)
    (case c => k_is)
    (case t => k_is)
    (case s => k_is)
    (case n_NoText => k_is)
    (case e_NoText => k_is)
    refine' DL.ist_use (R := ["NoText"]) (T := "NoPlace") KX G ?a ?c ?t ?s (.cons ⟨?C_NoText, false, ?n_NoText, ?e_NoText, by decide⟩ .nil) fun IT_NoPlace => ?r_IT_NoPlace
    (case a => k_is)
    (case c => k_is)
    (case t => k_is)
    (case s => k_is)
    (case n_NoText => k_is)
    (case e_NoText => k_is)
    refine' DL.ist_use (R := ["NoText"]) (T := "NoRow") KX G ?a ?c ?t ?s (.cons ⟨?C_NoText, false, ?n_NoText, ?e_NoText, by decide⟩ .nil) fun IT_NoRow => ?r_IT_NoRow
    (case a => k_is)
    (case c => k_is)
    (case t => k_is)
    (case s => k_is)
    (case n_NoText => k_is)
    (case e_NoText => k_is)
    refine' DL.ist_use (R := ["NoText"]) (T := "NoSign") KX G ?a ?c ?t ?s (.cons ⟨?C_NoText, false, ?n_NoText, ?e_NoText, by decide⟩ .nil) fun IT_NoSign => ?r_IT_NoSign
    (case a => k_is)
    (case c => k_is)
    (case t => k_is)
    (case s => k_is)
    (case n_NoText => k_is)
    (case e_NoText => k_is)
    refine' DL.ist_use (R := ["NoText"]) (T := "NoText") KX G ?a ?c ?t ?s (.cons ⟨?C_NoText, true, ?n_NoText, ?e_NoText, by decide⟩ .nil) fun IT_NoText => ?r_IT_NoText
    (case a => k_is)
    (case c => k_is)
    (case t => k_is)
    (case s => k_is)
    (case n_NoText => k_is)
    (case e_NoText => k_is)
    refine' DL.ist_use (R := ["NoText"]) (T := "NoVertex") KX G ?a ?c ?t ?s (.cons ⟨?C_NoText, false, ?n_NoText, ?e_NoText, by decide⟩ .nil) fun IT_NoVertex => ?r_IT_NoVertex
    (case a => k_is)
    (case c => k_is)
    (case t => k_is)
    (case s => k_is)
    (case n_NoText => k_is)
    (case e_NoText => k_is)
    refine' DL.ist_use (R := ["NoText"]) (T := "NotPlain") KX G ?a ?c ?t ?s (.cons ⟨?C_NoText, false, ?n_NoText, ?e_NoText, by decide⟩ .nil) fun IT_NotPlain => ?r_IT_NotPlain
    (case a => k_is)
    (case c => k_is)
    (case t => k_is)
    (case s => k_is)
    (case n_NoText => k_is)
    (case e_NoText => k_is)
    refine' DL.ist_use (R := ["NoText"]) (T := "OffCurve") KX G ?a ?c ?t ?s (.cons ⟨?C_NoText, false, ?n_NoText, ?e_NoText, by decide⟩ .nil) fun IT_OffCurve => ?r_IT_OffCurve
    (case a => k_is)
    (case c => k_is)
    (case t => k_is)
    (case s => k_is)
    (case n_NoText => k_is)
    (case e_NoText => k_is)
    refine' DL.ist_useB (R := ["NoText"]) (T := "ValueError") (n := "ValueError") KX G ?a (by decide +kernel) (by decide) (by decide +kernel) (.cons ⟨?C_NoText, true, ?n_NoText, ?e_NoText, by decide⟩ .nil) fun IT_ValueError => ?r_IT_ValueError
    (case a => k_is)
    (case n_NoText => k_is)
    (case e_NoText => k_is)
    refine' DL.ext_use (R := ["NoText"]) (T := "NoText") KX G ?a ?b ?d ?t (.cons ⟨?C_NoText, true, ?n_NoText, ?e_NoText, by decide⟩ .nil) fun XT_NoText => ?r_XT_NoText
    (case a => k_is)
    (case b => k_is)
    (case d => k_is)
    (case t => k_is)
    (case n_NoText => k_is)
    (case e_NoText => k_is)
    refine' DL.df_use (x := "read_figures") (st := DL.s_read_figures) (ps := ["word"]) KX G (fun _ _ _ _ _ _ us hl => match us, hl with | [_], _ => rfl) ?a ?l ?c ?k fun D_read_figures => ?r_read_figures
    (case a => k_is)
    (case l => k_is)
    (case c => k_is)
    (case k => k_is)
    refine' DL.df_use (x := "put_term") (st := DL.s_put_term) (ps := ["found", "sign", "words"]) KX G (fun _ _ _ _ _ _ us hl => match us, hl with | [_, _, _], _ => rfl) ?a ?l ?c ?k fun D_put_term => ?r_put_term
    (case a => k_is)
    (case l => k_is)
    (case c => k_is)
    (case k => k_is)
    refine' DL.df_use (x := "close_term") (st := DL.s_close_term) (ps := ["found", "sign", "term"]) KX G (fun _ _ _ _ _ _ us hl => match us, hl with | [_, _, _], _ => rfl) ?a ?l ?c ?k fun D_close_term => ?r_close_term
    (case a => k_is)
    (case l => k_is)
    (case c => k_is)
    (case k => k_is)
    refine' DL.df_use (x := "read_sum") (st := DL.s_read_sum) (ps := ["text"]) KX G (fun _ _ _ _ _ _ us hl => match us, hl with | [_], _ => rfl) ?a ?l ?c ?k fun D_read_sum => ?r_read_sum
    (case a => k_is)
    (case l => k_is)
    (case c => k_is)
    (case k => k_is)
    refine' DL.df_use (x := "_law_alone") (st := DL.s_law_alone) (ps := ["_law_e"]) KX G (fun _ _ _ _ _ _ us hl => match us, hl with | [_], _ => rfl) ?a ?l ?c ?k fun D_law_alone => ?r_law_alone
    (case a => k_is)
    (case l => k_is)
    (case c => k_is)
    (case k => k_is)
    refine' DL.df_use (x := "_law_refused") (st := DL.s_law_refused) (ps := ["_law_text_here"]) KX G (fun _ _ _ _ _ _ us hl => match us, hl with | [_], _ => rfl) ?a ?l ?c ?k fun D_law_refused => ?r_law_refused
    (case a => k_is)
    (case l => k_is)
    (case c => k_is)
    (case k => k_is)
    refine' DL.df_use (x := "_law_no_text") (st := DL.s_law_no_text) (ps := ["_law_cell"]) KX G (fun _ _ _ _ _ _ us hl => match us, hl with | [_], _ => rfl) ?a ?l ?c ?k fun D_law_no_text => ?r_law_no_text
    (case a => k_is)
    (case l => k_is)
    (case c => k_is)
    (case k => k_is)
    refine' DL.df_use (x := "_law_cell_at") (st := DL.s_law_cell_at) (ps := ["_law_script", "_law_k"]) KX G (fun _ _ _ _ _ _ us hl => match us, hl with | [_, _], _ => rfl) ?a ?l ?c ?k fun D_law_cell_at => ?r_law_cell_at
    (case a => k_is)
    (case l => k_is)
    (case c => k_is)
    (case k => k_is)
    refine' DL.df_use (x := "_law_number") (st := DL.s_law_number) (ps := ["_law_cell"]) KX G (fun _ _ _ _ _ _ us hl => match us, hl with | [_], _ => rfl) ?a ?l ?c ?k fun D_law_number => ?r_law_number
    (case a => k_is)
    (case l => k_is)
    (case c => k_is)
    (case k => k_is)
    refine' DL.df_use (x := "_law_term") (st := DL.s_law_term) (ps := ["_law_number_here", "_law_letters_here"]) KX G (fun _ _ _ _ _ _ us hl => match us, hl with | [_, _], _ => rfl) ?a ?l ?c ?k fun D_law_term => ?r_law_term
    (case a => k_is)
    (case l => k_is)
    (case c => k_is)
    (case k => k_is)
    refine' DL.df_use (x := "_law_letters") (st := DL.s_law_letters) (ps := []) KX G (fun _ _ _ _ _ _ us hl => match us, hl with | [], _ => rfl) ?a ?l ?c ?k fun D_law_letters => ?r_law_letters
    (case a => k_is)
    (case l => k_is)
    (case c => k_is)
    (case k => k_is)
    refine' DL.df_use (x := "_law_shown") (st := DL.s_law_shown) (ps := ["_law_form", "_law_order_here"]) KX G (fun _ _ _ _ _ _ us hl => match us, hl with | [_, _], _ => rfl) ?a ?l ?c ?k fun D_law_shown => ?r_law_shown
    (case a => k_is)
    (case l => k_is)
    (case c => k_is)
    (case k => k_is)
    refine' DL.df_use (x := "_law_order") (st := DL.s_law_order) (ps := ["_law_number_here"]) KX G (fun _ _ _ _ _ _ us hl => match us, hl with | [_], _ => rfl) ?a ?l ?c ?k fun D_law_order => ?r_law_order
    (case a => k_is)
    (case l => k_is)
    (case c => k_is)
    (case k => k_is)
    refine' DL.df_use (x := "_law_sign_by") (st := DL.s_law_sign_by) (ps := ["_law_cell"]) KX G (fun _ _ _ _ _ _ us hl => match us, hl with | [_], _ => rfl) ?a ?l ?c ?k fun D_law_sign_by => ?r_law_sign_by
    (case a => k_is)
    (case l => k_is)
    (case c => k_is)
    (case k => k_is)
    refine' DL.df_use (x := "_law_odd") (st := DL.s_law_odd) (ps := ["_law_cell"]) KX G (fun _ _ _ _ _ _ us hl => match us, hl with | [_], _ => rfl) ?a ?l ?c ?k fun D_law_odd => ?r_law_odd
    (case a => k_is)
    (case l => k_is)
    (case c => k_is)
    (case k => k_is)
    refine' DL.df_use (x := "_law_text") (st := DL.s_law_text) (ps := ["_law_script"]) KX G (fun _ _ _ _ _ _ us hl => match us, hl with | [_], _ => rfl) ?a ?l ?c ?k fun D_law_text => ?r_law_text
    (case a => k_is)
    (case l => k_is)
    (case c => k_is)
    (case k => k_is)
    refine' DL.df_use (x := "_law_figures") (st := DL.s_law_figures) (ps := ["_law_word"]) KX G (fun _ _ _ _ _ _ us hl => match us, hl with | [_], _ => rfl) ?a ?l ?c ?k fun D_law_figures => ?r_law_figures
    (case a => k_is)
    (case l => k_is)
    (case c => k_is)
    (case k => k_is)
    refine' DL.df_use (x := "_law_told") (st := DL.s_law_told) (ps := ["_law_text_here"]) KX G (fun _ _ _ _ _ _ us hl => match us, hl with | [_], _ => rfl) ?a ?l ?c ?k fun D_law_told => ?r_law_told
    (case a => k_is)
    (case l => k_is)
    (case c => k_is)
    (case k => k_is)
    refine' DL.df_use (x := "_law_same") (st := DL.s_law_same) (ps := ["_law_found", "_law_due"]) KX G (fun _ _ _ _ _ _ us hl => match us, hl with | [_, _], _ => rfl) ?a ?l ?c ?k fun D_law_same => ?r_law_same
    (case a => k_is)
    (case l => k_is)
    (case c => k_is)
    (case k => k_is)
    refine' DL.df_use (x := "law") (st := DL.s_law) (ps := ["_law_script"]) KX G (fun _ _ _ _ _ _ us hl => match us, hl with | [_], _ => rfl) ?a ?l ?c ?k fun D_law => ?r_law
    (case a => k_is)
    (case l => k_is)
    (case c => k_is)
    (case k => k_is)
    refine DL.law_mk D_law hmg fun base => ?_
    have G_read_figures := DL.ok_read_figures (P := PySem.Challenge.pw_conicplaces_k62_texts_of_sums_read) (w := w) (base := base) T D_read_figures  CO_MOST_FIGURES C_NoText CO_FIGURES
    have G_put_term := DL.ok_put_term (P := PySem.Challenge.pw_conicplaces_k62_texts_of_sums_read) (w := w) (base := base) T D_put_term D_read_figures G_read_figures CO_LETTERS C_NoText
    have G_close_term := DL.ok_close_term (P := PySem.Challenge.pw_conicplaces_k62_texts_of_sums_read) (w := w) (base := base) T D_close_term D_put_term G_put_term C_NoText
    have G_read_sum := DL.ok_read_sum (P := PySem.Challenge.pw_conicplaces_k62_texts_of_sums_read) (w := w) (base := base) T D_read_sum D_close_term G_close_term CO_BEHIND C_NoText CO_LETTERS
    have G_law_alone := fun [DL.HotA] => DL.ok_law_alone (P := PySem.Challenge.pw_conicplaces_k62_texts_of_sums_read) (w := w) (base := base) T D_law_alone  IT_NoSign EI IT_NoJoin IT_NoBack IT_NoNumber IT_BadPlace IT_NoPlace IT_NotPlain IT_NoPair IT_OffCurve IT_Flat IT_NoVertex IT_NoName IT_NoRow IT_NoText IT_NoLine IT_ValueError IT_CurveError
    have G_law_refused := DL.ok_law_refused (P := PySem.Challenge.pw_conicplaces_k62_texts_of_sums_read) (w := w) (base := base) T D_law_refused D_read_sum G_read_sum D_law_alone G_law_alone XT_NoText
    have G_law_no_text := DL.ok_law_no_text (P := PySem.Challenge.pw_conicplaces_k62_texts_of_sums_read) (w := w) (base := base) T D_law_no_text  
    have G_law_cell_at := DL.ok_law_cell_at (P := PySem.Challenge.pw_conicplaces_k62_texts_of_sums_read) (w := w) (base := base) T D_law_cell_at  
    have G_law_number := DL.ok_law_number (P := PySem.Challenge.pw_conicplaces_k62_texts_of_sums_read) (w := w) (base := base) T D_law_number  
    have G_law_term := DL.ok_law_term (P := PySem.Challenge.pw_conicplaces_k62_texts_of_sums_read) (w := w) (base := base) T D_law_term  
    have G_law_letters := DL.ok_law_letters (P := PySem.Challenge.pw_conicplaces_k62_texts_of_sums_read) (w := w) (base := base) T D_law_letters  
    have G_law_shown := DL.ok_law_shown (P := PySem.Challenge.pw_conicplaces_k62_texts_of_sums_read) (w := w) (base := base) T D_law_shown D_law_term G_law_term D_law_letters G_law_letters 
    have G_law_order := DL.ok_law_order (P := PySem.Challenge.pw_conicplaces_k62_texts_of_sums_read) (w := w) (base := base) T D_law_order  
    have G_law_sign_by := DL.ok_law_sign_by (P := PySem.Challenge.pw_conicplaces_k62_texts_of_sums_read) (w := w) (base := base) T D_law_sign_by  
    have G_law_odd := DL.ok_law_odd (P := PySem.Challenge.pw_conicplaces_k62_texts_of_sums_read) (w := w) (base := base) T D_law_odd  
    have G_law_text := DL.ok_law_text (P := PySem.Challenge.pw_conicplaces_k62_texts_of_sums_read) (w := w) (base := base) T D_law_text D_law_number G_law_number D_law_cell_at G_law_cell_at D_law_shown G_law_shown D_law_order G_law_order D_law_sign_by G_law_sign_by D_law_letters G_law_letters D_law_odd G_law_odd 
    have G_law_figures := DL.ok_law_figures (P := PySem.Challenge.pw_conicplaces_k62_texts_of_sums_read) (w := w) (base := base) T D_law_figures  
    have G_law_told := DL.ok_law_told (P := PySem.Challenge.pw_conicplaces_k62_texts_of_sums_read) (w := w) (base := base) T D_law_told D_law_letters G_law_letters D_law_figures G_law_figures 
    have G_law_same := DL.ok_law_same (P := PySem.Challenge.pw_conicplaces_k62_texts_of_sums_read) (w := w) (base := base) T D_law_same  
    have G_law := DL.ok_law (P := PySem.Challenge.pw_conicplaces_k62_texts_of_sums_read) (w := w) (base := base) T D_law D_law_refused G_law_refused D_law_no_text G_law_no_text D_law_cell_at G_law_cell_at D_law_text G_law_text D_law_told G_law_told D_law_same G_law_same D_read_sum G_read_sum 
    exact G_law
