import PyProof.Rows.All
import Wide.All
import OpenK.AllK
import Wide.FinOn
import HandS.ForMost
import HandS.ForExc
import HandS.WordsExc
import HandS.TryMany
import HandS.Wide
import HandS.IsInst
import HandS.CallSlots
import HandS.HotCalls
import HandS.Iter
import HandS.Zip
import HandS.SetFor
import HandS.ExcField
import HandS.ExcIs
import HandS.ExcValue
import HandS.ExcInit
import HandS.ExcInitHot
import HandS.ClsMeth
import KE.KExcIs
import HandS.WideBits
import HandS.SortInts
import HandS.TryOnly
import HandS.Style
import HandS.TupLe
import HandS.RevRange
import HandS.FltList
import HandS.More
import HandS.Lambda
import HandS.EndTab
import KE.GoesZip
import KE.GoesMore
import HandS.Deep
import PySem.Challenge.RW_conicplaces_k44_small_points
set_option Elab.async false
set_option linter.all false
set_option maxRecDepth 100000
set_option maxHeartbeats 8000000
namespace DL
open PySem L2

abbrev D := PyData
inductive S where
  | no
  | val (d : D)
  | own (ds : List D)
  | adr (a : Addr)
  /-- a datum all of whose lists, tuples, dicts this frame alone holds: its value, the datum, the addresses -/
  | obj (v : V) (d : D) (fp : List Addr)
structure Exc where
  cls : Str
  arg : Option (Str × D)
mutual
def isDct : D → Bool
  | .dict _ => true
  | .list ds => isDcts ds
  | .tuple ds => isDcts ds
  | _ => false
def isDcts : List D → Bool
  | [] => false
  | d :: ds => isDct d || isDcts ds
end
def S.fr : S → (D → Prop) → Prop
  | .val d, k => k d
  | .own ds, k => k (.list ds)
  | .no, _ => False
  | .adr _, _ => False
  | .obj _ d _, k => isDct d = false ∧ k d
def S.pk : S → (D → Prop) → Prop
  | .val d, k => k d
  | .own ds, k => k (.list ds)
  | .no, _ => False
  | .adr _, _ => False
  | .obj _ _ _, _ => False
def S.var : S → (S → Prop) → Prop
  | .val d, k => k (.val d)
  | .own _, _ => False
  | .no, _ => False
  | .adr _, _ => False
  | .obj _ _ _, _ => False
def S.bl : S → (Bool → Prop) → Prop
  | .val (.bool b), k => k b
  | _, _ => False
def S.nm : S → (Int → Prop) → Prop
  | .val (.int b), k => k b
  | _, _ => False
def S.ow : S → (List D → Prop) → Prop
  | .own ds, k => k ds
  | .val _, _ => False
  | .no, _ => False
  | .adr _, _ => False
  | .obj _ _ _, _ => False
def S.any : S → (S → Prop) → Prop
  | .no, _ => False
  | .adr _, _ => False
  | .obj v d fp, k => k (.obj v d fp)
  | .val d, k => k (.val d)
  | .own ds, k => k (.own ds)
def seqK : D → (List D → Prop) → Prop
  | .list ds, k => k ds
  | .tuple ds, k => k ds
  | _, _ => False
def tupK : D → (List D → Prop) → Prop
  | .tuple ds, k => k ds
  | _, _ => False
def numK : List D → (Int → Prop) → Prop
  | [.int n], k => k n
  | _, _ => False
def num2K : List D → (Int → Int → Prop) → Prop
  | [.int m, .int n], k => k m n
  | _, _ => False
def twoK : List D → (D → D → Prop) → Prop
  | [c, d], k => k c d
  | _, _ => False
def lk : List S → Nat → S
  | [], _ => .no
  | s :: _, 0 => s
  | _ :: r, n + 1 => lk r n
def put : List S → Nat → S → List S
  | [], _, _ => []
  | _ :: r, 0, x => x :: r
  | s :: r, n + 1, x => s :: put r n x
abbrev XP := Exc → Prop
abbrev ES := XP → List S → (S → Prop) → Prop
abbrev EP := XP → List S → (D → Prop) → Prop
abbrev ET := XP → List S → (Bool → Prop) → Prop
abbrev EA := XP → List S → (List D → Prop) → Prop
structure Ends where
  nx : List S → Prop
  rt : S → Prop
  bk : List S → Prop := fun _ => False
  ct : List S → Prop := fun _ => False
  ex : Exc → List S → Prop := fun _ _ => False
abbrev ST := Ends → List S → Prop
abbrev DSp := List D → XP → (S → Prop) → Prop

def eVar (i : Nat) : ES := fun _ δ q => (lk δ i).var q
def pVar (i : Nat) : EP := fun _ δ q => (lk δ i).pk q
def pE (e : ES) : EP := fun x δ q => e x δ fun s => s.fr q
def eC (d : D) : ES := fun _ _ q => q (.val d)
abbrev R2D := D → D → (S → Prop) → Prop
def eOp (r : R2D) (a b : EP) : ES := fun x δ q => a x δ fun c => b x δ fun d => r c d q
abbrev R1D := D → (S → Prop) → Prop
def eUn (r : R1D) (a : EP) : ES := fun x δ q => a x δ fun c => r c q
def tV (e : ES) : ET := fun x δ q => e x δ fun s => s.bl q
def tAnd (t u : ET) : ET := fun x δ q => t x δ fun b => if b = true then u x δ q else q false
def tOr (t u : ET) : ET := fun x δ q => t x δ fun b => if b = true then q true else u x δ q
def tNot (t : ET) : ET := fun x δ q => t x δ fun b => q (!b)
def eAnd (t : ES) (u : ES) : ES := fun x δ q => t x δ fun s => s.bl fun b => if b = true then u x δ q else q (.val (.bool false))
def eOr (t : ES) (u : ES) : ES := fun x δ q => t x δ fun s => s.bl fun b => if b = true then q (.val (.bool true)) else u x δ q
def eNot (t : ES) : ES := fun x δ q => t x δ fun s => s.bl fun b => q (.val (.bool (!b)))
def eIf (t : ET) (a b : ES) : ES := fun x δ q => t x δ fun c => if c = true then a x δ q else b x δ q
def aNil : EA := fun _ _ q => q []
def aCons (e : ES) (r : EA) : EA := fun x δ q => e x δ fun s => s.fr fun d => r x δ fun ds => q (d :: ds)
def apNil : EA := fun _ _ q => q []
def apCons (e : EP) (r : EA) : EA := fun x δ q => e x δ fun d => r x δ fun ds => q (d :: ds)
def eTup (a : EA) : ES := fun x δ q => a x δ fun ds => ds.length ≤ sizeLine ∧ q (.val (.tuple ds))
def eLst (a : EA) : ES := fun x δ q => a x δ fun ds => ds.length ≤ sizeLine ∧ q (.own ds)
def eCall (p : DSp) (a : EA) : ES := fun x δ q => a x δ fun ds => p ds x q
abbrev RD := List D → (S → Prop) → Prop
def eB (r : RD) (a : EA) : ES := fun x δ q => a x δ fun ds => r ds q
def isFlat : D → Bool
  | .list _ => false
  | .tuple _ => false
  | .dict _ => false
  | _ => true
def S.flat : S → Bool
  | .val d => isFlat d
  | _ => false
def flatE (e : Exc) : Bool := match e.arg with
  | none => true
  | some _ => false
def eCallP (p : DSp) (a : EA) : ES := fun x δ q => a x δ fun ds => p ds (fun e => flatE e = true ∧ x e) fun s => s.flat = true ∧ q s

def sNext : ST := fun D δ => D.nx δ
def sSeq (t u : ST) : ST := fun D δ => t { D with nx := u D } δ
def sCut (t u : ST) : ST := fun D δ => ∃ Mid : List S → Prop, t { D with nx := Mid } δ ∧ ∀ δ', Mid δ' → u D δ'
abbrev EG := S → List S → (List S → Prop) → Prop
def gVar (i : Nat) : EG := fun s δ q => q (put δ i s)
def gVal (i : Nat) : EG := fun s δ q => s.fr fun d => q (put δ i (.val d))
abbrev EGs := List D → List S → (List S → Prop) → Prop
def gNil : EGs := fun ds δ q => ds = [] ∧ q δ
def gCons (g : EG) (r : EGs) : EGs
  | d :: ds, δ, q => g (.val d) δ fun δ' => r ds δ' q
  | [], _, _ => False
def gTup (n : Nat) (g : EGs) : EG := fun s δ q => s.fr fun d => tupK d fun ds => ds.length = n ∧ g ds δ q
def sAsg (e : ES) (g : EG) : ST := fun D δ => e (fun x => D.ex x δ) δ fun s => g s δ D.nx
def sPar (i j : Nat) (a : EA) : ST := fun D δ => a (fun x => D.ex x δ) δ fun ds => twoK ds fun c d => D.nx (put (put δ i (.val c)) j (.val d))
def sDrop (e : ES) : ST := fun D δ => e (fun x => D.ex x δ) δ fun _ => D.nx δ
def sRet (e : ES) : ST := fun D δ => e (fun x => D.ex x δ) δ D.rt
def sRetOwn (i : Nat) : ST := fun D δ => (lk δ i).any D.rt
def sRetN : ST := fun D _ => D.rt (.val .none)
def sIf (t : ET) (a b : ST) : ST := fun D δ => t (fun x => D.ex x δ) δ fun c => if c = true then a D δ else b D δ
def sBrk : ST := fun D δ => D.bk δ
def sCont : ST := fun D δ => D.ct δ
def sWhile (t : ET) (b : ST) : ST := fun D δ => ∃ Inv : Nat → List S → Prop, (∃ m, Inv m δ) ∧ ∀ m δ', Inv m δ' →
  t (fun x => D.ex x δ') δ' fun c => if c = true then b { D with nx := fun δ2 => ∃ m', m' < m ∧ Inv m' δ2, ct := fun δ2 => ∃ m', m' < m ∧ Inv m' δ2, bk := D.nx } δ' else D.nx δ'
abbrev EI := XP → List S → (List D → Prop) → Prop
def sFor (src : EI) (g : EG) (b : ST) : ST := fun D δ => src (fun x => D.ex x δ) δ fun ds => ∃ Inv : Nat → List S → Prop, Inv 0 δ ∧
  (∀ i d δ', ds[i]? = some d → Inv i δ' → g (.val d) δ' fun δ2 => b { D with nx := Inv (i + 1), ct := Inv (i + 1), bk := D.nx } δ2) ∧ ∀ δ', Inv ds.length δ' → D.nx δ'
def sRaise (c : Str) : ST := fun D δ => D.ex ⟨c, none⟩ δ
def sRaise1 (c f : Str) (e : ES) : ST := fun D δ => e (fun x => D.ex x δ) δ fun s => s.fr fun d => D.ex ⟨c, some (f, d)⟩ δ
def sFrz (i : Nat) : ST := fun D δ => (lk δ i).fr fun d => D.nx (put δ i (.val d))
def sApp (i : Nat) (e : ES) : ST := fun D δ => (lk δ i).ow fun ds => e (fun x => D.ex x δ) δ fun s => s.fr fun d => ds.length < sizeLine ∧ D.nx (put δ i (.own (ds ++ [d])))
def setK (ds : List D) (n : Int) (d : D) (k : List D → Prop) : Prop := ∃ j, ixN ds.length n = some j ∧ k (ds.set j d)
def sSet (i : Nat) (k : ES) (e : ES) : ST := fun D δ => (lk δ i).ow fun ds => e (fun x => D.ex x δ) δ fun s => s.fr fun d => k (fun x => D.ex x δ) δ fun t => t.nm fun n => setK ds n d fun es => D.nx (put δ i (.own es))
def wipeD (δ : List S) : List Nat → List S
  | [] => δ
  | v :: vs => put (wipeD δ vs) v .no
def All2 {α β : Type} (P : α → β → Prop) : List α → List β → Prop
  | [], [] => True
  | a :: as, b :: bs => P a b ∧ All2 P as bs
  | _, _ => False
def eComp (src : EI) (vs : List Nat) (g : EG) (t : ET) (e : ES) : ES := fun x δ q => src x δ fun ds => ds.length ≤ 1000000 ∧ ∃ rs : List (Option D),
  All2 (fun d o => g (.val d) (wipeD δ vs) fun δ2 => t (fun _ => False) δ2 fun b => if b = true then e (fun _ => False) δ2 fun s => s.fr fun r => o = some r else o = none) ds rs ∧ q (.own (rs.filterMap id))
def iVal (e : ES) : EI := fun x δ q => e x δ fun s => s.fr fun d => seqK d q
def rngD (lo : Int) (n : Nat) : List D := (List.range n).map fun k : Nat => .int (lo + k)
def iRng1 (a : EA) : EI := fun x δ q => a x δ fun ds => numK ds fun n => (-(2 ^ 62) ≤ n ∧ n < 2 ^ 62) ∧ q (rngD 0 n.toNat)
def iRng2 (a : EA) : EI := fun x δ q => a x δ fun ds => num2K ds fun i j => (-(2 ^ 62) ≤ i ∧ i < 2 ^ 62 ∧ -(2 ^ 62) ≤ j ∧ j < 2 ^ 62) ∧ q (rngD i (j - i).toNat)
def startD (n : Nat) (ds : List D) : List S := ds.map S.val ++ List.replicate (n - ds.length) .no
def bodyD (n : Nat) (b : ST) : DSp := fun ds x q => b ⟨fun _ => q (.val .none), q, fun _ => False, fun _ => False, fun e _ => x e⟩ (startD n ds)

def ClsN (K : PySem.W.Frag) (c : Str) (C : Addr) : Prop := PySem.W.nsIn K mainGlobals c = some (some (.ref C))
def excO (C : Addr) (d : Option Addr) (a : Addr) : HO := .ext fun h => ∃ (oe : Obj) (vs : Array Value), h.get? a = some oe ∧ L2N.Zn (.ref C) d oe ∧ oe.data = .fields vs
def excD (e : Exc) : D := .dict (match e.arg with | none => [(.str e.cls, .none)] | some (f, u) => [(.str e.cls, .str f), (.str f, u)])
mutual
inductive Dp (K : PySem.W.Frag) (H : Hp) : V → D → Prop
  | non : Dp K H .non .none
  | bl (b : Bool) : Dp K H (.bl b) (.bool b)
  | int (i : Int) : Dp K H (.int i) (.int i)
  | str (x : Str) : Dp K H (.str x) (.str x)
  | lst {a : Addr} {xs : List V} {ds : List D} : SqL K H a xs → DpAll K H xs ds → Dp K H (.ref a) (.list ds)
  | tup {a : Addr} {xs : List V} {ds : List D} : SqT K H a xs → DpAll K H xs ds → Dp K H (.ref a) (.tuple ds)
  | exc0 {a C : Addr} {c : Str} : ClsN K c C → H a = some (excO C none a) → Dp K H (.ref a) (.dict [(.str c, .none)])
  | exc1 {a C dd : Addr} {c f : Str} {v : V} {u : D} : ClsN K c C → H a = some (excO C (some dd) a) → H dd = some (.xd [(f, v)]) → Dp K H v u → Dp K H (.ref a) (.dict [(.str c, .str f), (.str f, u)])
inductive DpAll (K : PySem.W.Frag) (H : Hp) : List V → List D → Prop
  | nil : DpAll K H [] []
  | cons {v : V} {vs : List V} {d : D} {ds : List D} : Dp K H v d → DpAll K H vs ds → DpAll K H (v :: vs) (d :: ds)
end
mutual
theorem Dp.l2 {K : PySem.W.Frag} {H : Hp} : ∀ {v : V} {d : D}, Dp K H v d → PyData.canLay0 d = true → L2.Dp K H v d
  | _, _, .non, _ => .non
  | _, _, .bl b, _ => .bl b
  | _, _, .int i, _ => .int i
  | _, _, .str x, _ => .str x
  | _, _, .lst h a, n => .lst h (DpAll.l2 a (by unfold PyData.canLay0 at n; exact n))
  | _, _, .tup h a, n => .tup h (DpAll.l2 a (by unfold PyData.canLay0 at n; exact n))
  | _, _, .exc0 _ _, n => by unfold PyData.canLay0 at n; cases n
  | _, _, .exc1 _ _ _ _, n => by unfold PyData.canLay0 at n; cases n
theorem DpAll.l2 {K : PySem.W.Frag} {H : Hp} : ∀ {vs : List V} {ds : List D}, DpAll K H vs ds → PyData.canLayAll0 ds = true → L2.DpAll K H vs ds
  | _, _, .nil, _ => .nil
  | _, _, .cons h a, n => by
    unfold PyData.canLayAll0 at n
    rw [Bool.and_eq_true] at n
    exact .cons (Dp.l2 h n.1) (DpAll.l2 a n.2)
end
theorem Same.tup {K : PySem.W.Frag} {H H' : Hp} {a : Addr} {xs : List V} (e : Same H H') (h : SqT K H a xs) : SqT K H' a xs := by
  rcases h with (h | ⟨o, h⟩) | h
  · exact .inl (.inl (e _ _ h))
  · exact .inl (.inr ⟨o, e _ _ h⟩)
  · exact .inr h
section
variable {K : PySem.W.Frag} {O O' : Hp}
mutual
theorem dp_mono (e : Same O O') : ∀ {v : V} {d : D}, Dp K O v d → Dp K O' v d
  | _, _, .non => .non
  | _, _, .bl b => .bl b
  | _, _, .int i => .int i
  | _, _, .str x => .str x
  | _, _, .lst h a => .lst (e.seq h) (dpAll_mono e a)
  | _, _, .tup h a => .tup (Same.tup e h) (dpAll_mono e a)
  | _, _, .exc0 h a => .exc0 h (e _ _ a)
  | _, _, .exc1 h a b c => .exc1 h (e _ _ a) (e _ _ b) (dp_mono e c)
theorem dpAll_mono (e : Same O O') : ∀ {vs : List V} {ds : List D}, DpAll K O vs ds → DpAll K O' vs ds
  | _, _, .nil => .nil
  | _, _, .cons h a => .cons (dp_mono e h) (dpAll_mono e a)
end
theorem dpl_length : ∀ {vs : List V} {ds : List D}, DpAll K O vs ds → vs.length = ds.length
  | _, _, .nil => rfl
  | _, _, .cons _ a => congrArg (· + 1) (dpl_length a)
theorem dpl_append : ∀ {vs ws : List V} {ds es : List D}, DpAll K O vs ds → DpAll K O ws es → DpAll K O (vs ++ ws) (ds ++ es)
  | _, _, _, _, .nil, b => b
  | _, _, _, _, .cons h a, b => .cons h (dpl_append a b)
theorem dpl_at : ∀ {vs : List V} {ds : List D} {i : Nat} {d : D}, DpAll K O vs ds → ds[i]? = some d → ∃ v, vs[i]? = some v ∧ Dp K O v d
  | _, _, _, _, .nil, e => by simp at e
  | _, _, 0, _, .cons h _, e => by
    simp only [List.getElem?_cons_zero, Option.some.injEq] at e
    subst e
    exact ⟨_, rfl, h⟩
  | _, _, i + 1, _, .cons _ a, e => by
    simp only [List.getElem?_cons_succ] at e
    obtain ⟨v, h1, h2⟩ := dpl_at a e
    exact ⟨v, by simpa using h1, h2⟩
theorem dpl_at2 : ∀ {vs : List V} {ds : List D} {i : Nat} {v : V}, DpAll K O vs ds → vs[i]? = some v → ∃ d, ds[i]? = some d ∧ Dp K O v d
  | _, _, _, _, .nil, e => by simp at e
  | _, _, 0, _, .cons h _, e => by
    simp only [List.getElem?_cons_zero, Option.some.injEq] at e
    subst e
    exact ⟨_, rfl, h⟩
  | _, _, i + 1, _, .cons _ a, e => by
    simp only [List.getElem?_cons_succ] at e
    obtain ⟨v, h1, h2⟩ := dpl_at2 a e
    exact ⟨v, by simpa using h1, h2⟩
theorem dpl_set : ∀ {vs : List V} {ds : List D} {i : Nat} {v : V} {d : D}, DpAll K O vs ds → Dp K O v d → DpAll K O (vs.set i v) (ds.set i d)
  | _, _, _, _, _, .nil, _ => .nil
  | _, _, 0, _, _, .cons _ a, h => .cons h a
  | _, _, i + 1, _, _, .cons g a, h => .cons g (dpl_set a h)
end
def tabT : List (Addr × Str) := []
structure Sam (H H' : Hp) : Prop where
  k : ∀ b o, H b = some o → (∀ ps, o ≠ .tbl ps) → H' b = some o
  d : ∀ b, H b ≠ none → H' b ≠ none
  t : LamX.Tabs tabT H → LamX.Tabs tabT H'
theorem Sam.refl (H : Hp) : Sam H H := ⟨fun _ _ h _ => h, fun _ h => h, fun h => h⟩
theorem Sam.trans {H H1 H2 : Hp} (a : Sam H H1) (b : Sam H1 H2) : Sam H H2 := ⟨fun c o h n => b.k c o (a.k c o h n) n, fun c h => b.d c (a.d c h), fun h => b.t (a.t h)⟩
theorem Sam.of {H H' : Hp} (e : Same H H') : Sam H H' := ⟨fun b o h _ => e b o h, fun b h z => h (e.free z), fun t => t.ext e⟩
theorem Sam.none (H : Hp) : Sam (fun _ => Option.none) H := ⟨(fun _ _ h => by cases h), fun _ h => absurd rfl h, fun t p hp => by
  obtain ⟨_, h, _⟩ := t p hp
  cases h⟩
theorem Sam.at {H H' : Hp} (e : Sam H H') {b : Addr} {o : HO} (h : H b = some o) (n : ∀ ps, o ≠ .tbl ps := by intro ps h; cases h) : H' b = some o := e.k b o h n
theorem Sam.free {H H' : Hp} (e : Sam H H') {l : Addr} (h : H' l = Option.none) : H l = Option.none := Classical.byContradiction fun n => e.d l n h
theorem Sam.seq {K : PySem.W.Frag} {H H' : Hp} {a : Addr} {xs : List V} (e : Sam H H') (h : SqL K H a xs) : SqL K H' a xs := by
  rcases h with (h | ⟨o, h⟩) | h
  · exact .inl (.inl (e.at h))
  · exact .inl (.inr ⟨o, e.at h⟩)
  · exact .inr h
theorem Sam.tup {K : PySem.W.Frag} {H H' : Hp} {a : Addr} {xs : List V} (e : Sam H H') (h : SqT K H a xs) : SqT K H' a xs := by
  rcases h with (h | ⟨o, h⟩) | h
  · exact .inl (.inl (e.at h))
  · exact .inl (.inr ⟨o, e.at h⟩)
  · exact .inr h
theorem tabs_upd {T : List (Addr × Str)} {H : Hp} {p : Addr} {o : HO} (t : LamX.Tabs T H) (w : HO) (hp : H p = some o) (n : ∀ ps, o ≠ .tbl ps := by intro ps h; cases h) (n2 : ∀ c q, o ≠ LamX.CodeO c q := by intro c q h; unfold LamX.CodeO at h; cases h) : LamX.Tabs T (upd H p w) := fun x hx => by
  obtain ⟨ps, a1, a2, a3⟩ := t x hx
  refine ⟨ps, by rw [upd_ne (fun z => n ps (Option.some.inj (hp.symm.trans (by rw [← z]; exact a1))))]; exact a1, a2, fun pos cv hc => ?_⟩
  obtain ⟨c, e1, e2⟩ := a3 pos cv hc
  exact ⟨c, e1, by rw [upd_ne (fun z => n2 c x.2 (Option.some.inj (hp.symm.trans (by rw [← z]; exact e2))))]; exact e2⟩
class HotA where
  h : Option (Addr × Addr × Option Addr)
instance (priority := 10) noHot : HotA := ⟨none⟩
variable [HotA]
structure TOk (O H : Hp) : Prop where
  t : LamX.Tabs tabT H
  n : ∀ p ∈ tabT, O p.1 = none
  x : ∀ p, HotA.h = some p → O p.1 = some (excO p.2.1 p.2.2 p.1)
theorem TOk.there {O H : Hp} (t : TOk O H) {p : Addr × Str} (hp : p ∈ tabT) : H p.1 ≠ none := by
  obtain ⟨ps, h, _⟩ := t.t p hp
  rw [h]; simp
structure Up (O H O' H' : Hp) : Prop where
  o : Same O O'
  h : Sam H H'
  oh : Same O' H'
  nn : ∀ a, H a ≠ none → O a = none → O' a = none
theorem Up.refl {O H : Hp} (e : Same O H) : Up O H O H := ⟨Same.refl O, Sam.refl H, e, fun _ _ h => h⟩
theorem Up.trans {O H O1 H1 O2 H2 : Hp} (a : Up O H O1 H1) (b : Up O1 H1 O2 H2) : Up O H O2 H2 := ⟨a.o.trans b.o, a.h.trans b.h, b.oh, fun x hx ho => b.nn x (a.h.d x hx) (a.nn x hx ho)⟩
theorem Up.tt {O H O' H' : Hp} (u : Up O H O' H') (t : TOk O H) : TOk O' H' := ⟨u.h.t t.t, fun p hp => u.nn p.1 (t.there hp) (t.n p hp), fun p hp => u.o _ _ (t.x p hp)⟩
theorem same_new {H : Hp} {p : Addr} (h : H p = none) (o : HO) : Same H (upd H p o) := fun b u q => by rw [upd_ne (ne_of_none q h)]; exact q
theorem Up.new {O H : Hp} (e : Same O H) {p : Addr} (hp : H p = none) (o : HO) : Up O H (upd O p o) (upd H p o) :=
  ⟨same_new (e.free hp) o, .of (same_new hp o), fun b u q => by
    by_cases hb : b = p
    · subst hb; rw [upd_same] at q ⊢; exact q
    · rw [upd_ne hb] at q ⊢; exact e b u q, fun a ha ho => by
    have hn : a ≠ p := fun z => ha (by rw [z]; exact hp)
    rw [upd_ne hn]; exact ho⟩
theorem Up.own {O H : Hp} (e : Same O H) {p : Addr} (hp : H p = none) (o : HO) : Up O H O (upd H p o) :=
  ⟨Same.refl O, .of (same_new hp o), e.trans (same_new hp o), fun _ _ h => h⟩
theorem Up.let {O H O' H' : Hp} (u : Up O H O' H') {p : Addr} {o : HO} (hp : H p = none) (ho : O' p = none) (hh : H' p = some o) : Up O H (upd O' p o) H' :=
  ⟨u.o.trans (same_new ho o), u.h, fun b w q => by
    by_cases hb : b = p
    · subst hb; rw [upd_same] at q; cases q; exact hh
    · rw [upd_ne hb] at q; exact u.oh b w q, fun a ha z => by
    have hn : a ≠ p := fun y => ha (by rw [y]; exact hp)
    rw [upd_ne hn]; exact u.nn a ha z⟩
def PRep (K : PySem.W.Frag) (O H : Hp) (v : V) : D → Prop
  | .list ds => ∃ a vs, v = .ref a ∧ SqL K H a vs ∧ DpAll K O vs ds
  | .tuple ds => ∃ a vs, v = .ref a ∧ SqT K H a vs ∧ DpAll K O vs ds
  | d => Dp K O v d
section
variable {K : PySem.W.Frag} {O H O' H' : Hp}
theorem PRep.of (e : Same O H) {v : V} {d : D} (h : Dp K O v d) : PRep K O H v d := by
  cases h with
  | lst q a => exact ⟨_, _, rfl, e.seq q, a⟩
  | tup q a => exact ⟨_, _, rfl, Same.tup e q, a⟩
  | non => exact .non
  | bl b => exact .bl b
  | int i => exact .int i
  | str x => exact .str x
  | exc0 h a => exact Dp.exc0 h a
  | exc1 h a b c => exact Dp.exc1 h a b c
theorem PRep.up (u : Up O H O' H') {v : V} {d : D} (h : PRep K O H v d) : PRep K O' H' v d := by
  cases d with
  | list ds => obtain ⟨a, vs, e, q, z⟩ := h; exact ⟨a, vs, e, u.h.seq q, dpAll_mono u.o z⟩
  | tuple ds => obtain ⟨a, vs, e, q, z⟩ := h; exact ⟨a, vs, e, u.h.tup q, dpAll_mono u.o z⟩
  | none => exact dp_mono u.o h
  | bool _ => exact dp_mono u.o h
  | int _ => exact dp_mono u.o h
  | str _ => exact dp_mono u.o h
  | dict _ => exact dp_mono u.o h
theorem PRep.all (e : Same O H) {v : V} {d : D} (h : PRep K O H v d) : Dp K H v d := by
  cases d with
  | list ds => obtain ⟨a, vs, rfl, q, z⟩ := h; exact .lst q (dpAll_mono e z)
  | tuple ds => obtain ⟨a, vs, rfl, q, z⟩ := h; exact .tup q (dpAll_mono e z)
  | none => exact dp_mono e h
  | bool _ => exact dp_mono e h
  | int _ => exact dp_mono e h
  | str _ => exact dp_mono e h
  | dict _ => exact dp_mono e h
end
mutual
/-- no list, no dict in it -/
def noLst : D → Bool
  | .list _ => false
  | .dict _ => false
  | .tuple ds => noLsts ds
  | _ => true
def noLsts : List D → Bool
  | [] => true
  | d :: ds => noLst d && noLsts ds
end
def keyD : L2.Key → D
  | .inl i => .int i
  | .inr x => .str x
inductive DctAll (K : PySem.W.Frag) (O : Hp) : List (L2.Key × V) → List (D × D) → Prop
  | nil : DctAll K O [] []
  | cons {k : L2.Key} {v : V} {d : D} {kvs : List (L2.Key × V)} {ds : List (D × D)} : Dp K O v d → DctAll K O kvs ds → DctAll K O ((k, v) :: kvs) ((keyD k, d) :: ds)
mutual
inductive Ow (K : PySem.W.Frag) (O H : Hp) : V → D → List Addr → Prop
  | dat {v : V} {d : D} : Dp K O v d → noLst d = true → Ow K O H v d []
  | tup {a : Addr} {xs : List V} {ds : List D} {fp : List Addr} : H a = some (.tup xs) → OwAll K O H xs ds fp → Ow K O H (.ref a) (.tuple ds) (a :: fp)
  | lst {a : Addr} {xs : List V} {ds : List D} {fp : List Addr} : H a = some (.lst xs) → OwAll K O H xs ds fp → Ow K O H (.ref a) (.list ds) (a :: fp)
  | dct {a : Addr} {kvs : List (L2.Key × V)} {ds : List (D × D)} : H a = some (.dK kvs) → DctAll K O kvs ds → Ow K O H (.ref a) (.dict ds) [a]
inductive OwAll (K : PySem.W.Frag) (O H : Hp) : List V → List D → List Addr → Prop
  | nil : OwAll K O H [] [] []
  | cons {v : V} {vs : List V} {d : D} {ds : List D} {f g : List Addr} : Ow K O H v d f → OwAll K O H vs ds g → OwAll K O H (v :: vs) (d :: ds) (f ++ g)
end
theorem dct_mono {K : PySem.W.Frag} {O O' : Hp} (e : Same O O') : ∀ {kvs : List (L2.Key × V)} {ds : List (D × D)}, DctAll K O kvs ds → DctAll K O' kvs ds
  | _, _, .nil => .nil
  | _, _, .cons h a => .cons (dp_mono e h) (dct_mono e a)
mutual
/-- it stands where O grows and what is at its addresses stands -/
theorem Ow.keep {K : PySem.W.Frag} {O O' H H' : Hp} (eo : Same O O') : ∀ {v : V} {d : D} {fp : List Addr}, Ow K O H v d fp → (∀ b ∈ fp, ∀ x, H b = some x → H' b = some x) → Ow K O' H' v d fp
  | _, _, _, .dat h n, _ => .dat (dp_mono eo h) n
  | _, _, _, .tup h a, k => .tup (k _ List.mem_cons_self _ h) (OwAll.keep eo a fun b hb => k b (List.mem_cons_of_mem _ hb))
  | _, _, _, .lst h a, k => .lst (k _ List.mem_cons_self _ h) (OwAll.keep eo a fun b hb => k b (List.mem_cons_of_mem _ hb))
  | _, _, _, .dct h a, k => .dct (k _ List.mem_cons_self _ h) (dct_mono eo a)
theorem OwAll.keep {K : PySem.W.Frag} {O O' H H' : Hp} (eo : Same O O') : ∀ {vs : List V} {ds : List D} {fp : List Addr}, OwAll K O H vs ds fp → (∀ b ∈ fp, ∀ x, H b = some x → H' b = some x) → OwAll K O' H' vs ds fp
  | _, _, _, .nil, _ => .nil
  | _, _, _, .cons h a, k => .cons (Ow.keep eo h fun b hb => k b (List.mem_append_left _ hb)) (OwAll.keep eo a fun b hb => k b (List.mem_append_right _ hb))
end
mutual
theorem Ow.keepS {K : PySem.W.Frag} {O O' H H' : Hp} (eo : Same O O') : ∀ {v : V} {d : D} {fp : List Addr}, Ow K O H v d fp → (∀ b ∈ fp, ∀ x, H b = some x → (∀ ps, x ≠ .tbl ps) → H' b = some x) → Ow K O' H' v d fp
  | _, _, _, .dat h n, _ => .dat (dp_mono eo h) n
  | _, _, _, .tup h a, k => .tup (k _ List.mem_cons_self _ h (by intro _ z; cases z)) (OwAll.keepS eo a fun b hb => k b (List.mem_cons_of_mem _ hb))
  | _, _, _, .lst h a, k => .lst (k _ List.mem_cons_self _ h (by intro _ z; cases z)) (OwAll.keepS eo a fun b hb => k b (List.mem_cons_of_mem _ hb))
  | _, _, _, .dct h a, k => .dct (k _ List.mem_cons_self _ h (by intro _ z; cases z)) (dct_mono eo a)
theorem OwAll.keepS {K : PySem.W.Frag} {O O' H H' : Hp} (eo : Same O O') : ∀ {vs : List V} {ds : List D} {fp : List Addr}, OwAll K O H vs ds fp → (∀ b ∈ fp, ∀ x, H b = some x → (∀ ps, x ≠ .tbl ps) → H' b = some x) → OwAll K O' H' vs ds fp
  | _, _, _, .nil, _ => .nil
  | _, _, _, .cons h a, k => .cons (Ow.keepS eo h fun b hb => k b (List.mem_append_left _ hb)) (OwAll.keepS eo a fun b hb => k b (List.mem_append_right _ hb))
end
mutual
theorem Ow.there {K : PySem.W.Frag} {O H : Hp} : ∀ {v : V} {d : D} {fp : List Addr}, Ow K O H v d fp → ∀ b ∈ fp, H b ≠ none
  | _, _, _, .dat _ _, _, hb => nomatch hb
  | _, _, _, .tup h a, b, hb => by
    rcases List.mem_cons.mp hb with e | e
    · rw [e, h]; simp
    · exact OwAll.there a b e
  | _, _, _, .lst h a, b, hb => by
    rcases List.mem_cons.mp hb with e | e
    · rw [e, h]; simp
    · exact OwAll.there a b e
  | _, _, _, .dct h _, b, hb => by rw [List.mem_singleton.mp hb, h]; simp
theorem OwAll.there {K : PySem.W.Frag} {O H : Hp} : ∀ {vs : List V} {ds : List D} {fp : List Addr}, OwAll K O H vs ds fp → ∀ b ∈ fp, H b ≠ none
  | _, _, _, .nil, _, hb => nomatch hb
  | _, _, _, .cons h a, b, hb => by
    rcases List.mem_append.mp hb with e | e
    · exact Ow.there h b e
    · exact OwAll.there a b e
end
def Plain (H : Hp) (b : Addr) : Prop := ∃ o, H b = some o ∧ (∀ ps, o ≠ .tbl ps) ∧ ∀ c q, o ≠ LamX.CodeO c q
theorem plain_tup {H : Hp} {b : Addr} {xs : List V} (h : H b = some (.tup xs)) : Plain H b := ⟨_, h, (by intro _ z; cases z), by intro _ _ z; unfold LamX.CodeO at z; cases z⟩
theorem plain_lst {H : Hp} {b : Addr} {xs : List V} (h : H b = some (.lst xs)) : Plain H b := ⟨_, h, (by intro _ z; cases z), by intro _ _ z; unfold LamX.CodeO at z; cases z⟩
theorem plain_dk {H : Hp} {b : Addr} {xs : List (L2.Key × V)} (h : H b = some (.dK xs)) : Plain H b := ⟨_, h, (by intro _ z; cases z), by intro _ _ z; unfold LamX.CodeO at z; cases z⟩
mutual
theorem Ow.kd {K : PySem.W.Frag} {O H : Hp} : ∀ {v : V} {d : D} {fp : List Addr}, Ow K O H v d fp → ∀ b ∈ fp, Plain H b
  | _, _, _, .dat _ _, _, hb => nomatch hb
  | _, _, _, .tup h a, b, hb => by
    rcases List.mem_cons.mp hb with e | e
    · rw [e]; exact plain_tup h
    · exact OwAll.kd a b e
  | _, _, _, .lst h a, b, hb => by
    rcases List.mem_cons.mp hb with e | e
    · rw [e]; exact plain_lst h
    · exact OwAll.kd a b e
  | _, _, _, .dct h _, b, hb => by rw [List.mem_singleton.mp hb]; exact plain_dk h
theorem OwAll.kd {K : PySem.W.Frag} {O H : Hp} : ∀ {vs : List V} {ds : List D} {fp : List Addr}, OwAll K O H vs ds fp → ∀ b ∈ fp, Plain H b
  | _, _, _, .nil, _, hb => nomatch hb
  | _, _, _, .cons h a, b, hb => by
    rcases List.mem_append.mp hb with e | e
    · exact Ow.kd h b e
    · exact OwAll.kd a b e
end
theorem Ow.nt {K : PySem.W.Frag} {O H : Hp} {v : V} {d : D} {fp : List Addr} (a : Ow K O H v d fp) : ∀ b ∈ fp, ∀ ps, H b ≠ some (.tbl ps) := fun b hb ps z => by
  obtain ⟨o, h, n, _⟩ := a.kd b hb
  rw [h] at z
  exact n ps (Option.some.inj z)
theorem TOk.nf {K : PySem.W.Frag} {O H : Hp} (t : TOk O H) {v : V} {d : D} {fp : List Addr} (a : Ow K O H v d fp) {p : Addr × Str} (hp : p ∈ tabT) : p.1 ∉ fp := fun z => by
  obtain ⟨ps, h, _⟩ := t.t p hp
  exact a.nt _ z ps h
theorem TOk.na {O H : Hp} (t : TOk O H) {q : Addr} {o : HO} (h : H q = some o) {p : Addr × Str} (hp : p ∈ tabT) (n : ∀ ps, o ≠ .tbl ps := by intro ps h; cases h) : p.1 ≠ q := fun z => by
  obtain ⟨ps, e, _⟩ := t.t p hp
  rw [z, h] at e
  exact n ps (Option.some.inj e)
def plusO (O H : Hp) (fp : List Addr) : Hp := fun b => match O b with
  | some x => some x
  | none => if b ∈ fp then H b else none
theorem plus_same {O H : Hp} {fp : List Addr} : Same O (plusO O H fp) := fun b x e => by unfold plusO; rw [e]
theorem plus_in {O H : Hp} {fp : List Addr} {b : Addr} (h : b ∈ fp) (o : O b = none) : plusO O H fp b = H b := by unfold plusO; rw [o]; exact if_pos h
theorem plus_sub {O H : Hp} {fp : List Addr} (so : Same O H) : Same (plusO O H fp) H := fun b x e => by
  unfold plusO at e
  cases ho : O b with
  | some y => rw [ho] at e; cases e; exact so b _ ho
  | none =>
    rw [ho] at e
    by_cases hb : b ∈ fp
    · rw [show (if b ∈ fp then H b else none) = H b from if_pos hb] at e; exact e
    · rw [show (if b ∈ fp then H b else none) = none from if_neg hb] at e; cases e
theorem plus_out {O H : Hp} {fp : List Addr} {b : Addr} (h : b ∉ fp) (o : O b = none) : plusO O H fp b = none := by unfold plusO; rw [o]; exact if_neg h
mutual
/-- let go -/
theorem Ow.dp {K : PySem.W.Frag} {O H O2 : Hp} (eo : Same O O2) : ∀ {v : V} {d : D} {fp : List Addr}, Ow K O H v d fp → (∀ b ∈ fp, ∀ x, H b = some x → O2 b = some x) → isDct d = false → Dp K O2 v d
  | _, _, _, .dat h _, _, _ => dp_mono eo h
  | _, _, _, .tup h a, k, n => .tup (.inl (.inl (k _ List.mem_cons_self _ h))) (OwAll.dp eo a (fun b hb => k b (List.mem_cons_of_mem _ hb)) (by unfold isDct at n; exact n))
  | _, _, _, .lst h a, k, n => .lst (.inl (.inl (k _ List.mem_cons_self _ h))) (OwAll.dp eo a (fun b hb => k b (List.mem_cons_of_mem _ hb)) (by unfold isDct at n; exact n))
  | _, _, _, .dct _ _, _, n => by unfold isDct at n; cases n
theorem OwAll.dp {K : PySem.W.Frag} {O H O2 : Hp} (eo : Same O O2) : ∀ {vs : List V} {ds : List D} {fp : List Addr}, OwAll K O H vs ds fp → (∀ b ∈ fp, ∀ x, H b = some x → O2 b = some x) → isDcts ds = false → DpAll K O2 vs ds
  | _, _, _, .nil, _, _ => .nil
  | _, _, _, .cons h a, k, n => by
    unfold isDcts at n
    rw [Bool.or_eq_false_iff] at n
    exact .cons (Ow.dp eo h (fun b hb => k b (List.mem_append_left _ hb)) n.1) (OwAll.dp eo a (fun b hb => k b (List.mem_append_right _ hb)) n.2)
end
def SRep (K : PySem.W.Frag) (H O' H' : Hp) (v : V) : S → Prop
  | .no => False
  | .adr _ => False
  | .obj w d fp => v = w ∧ Ow K O' H' v d fp ∧ fp.Nodup ∧ ∀ b ∈ fp, H b = none ∧ O' b = none
  | .val d => Dp K O' v d
  | .own ds => ∃ p vs, v = .ref p ∧ H p = none ∧ O' p = none ∧ H' p = some (.lst vs) ∧ DpAll K O' vs ds
theorem SRep.back {K : PySem.W.Frag} {H H1 O' H' : Hp} {v : V} {s : S} (e : Sam H H1) (h : SRep K H1 O' H' v s) : SRep K H O' H' v s := by
  cases s with
  | no => exact h
  | adr _ => exact h
  | val d => exact h
  | own ds => obtain ⟨p, vs, r, n, o, z⟩ := h; exact ⟨p, vs, r, e.free n, o, z⟩
  | obj w d fp => exact ⟨h.1, h.2.1, h.2.2.1, fun b hb => ⟨e.free (h.2.2.2 b hb).1, (h.2.2.2 b hb).2⟩⟩
theorem SRep.fr {K : PySem.W.Frag} {O H O' H' : Hp} {v : V} {s : S} {k : D → Prop} (u : Up O H O' H') (h : SRep K H O' H' v s) (f : s.fr k) : ∃ O2 d, Up O H O2 H' ∧ Dp K O2 v d ∧ k d := by
  cases s with
  | no => exact f.elim
  | adr _ => exact f.elim
  | val d => exact ⟨O', d, u, h, f⟩
  | own ds =>
    obtain ⟨p, vs, rfl, n, o, z, a⟩ := h
    exact ⟨upd O' p (.lst vs), .list ds, u.let n o z, .lst (.of upd_same) (dpAll_mono (same_new o _) a), f⟩
  | obj w d fp =>
    obtain ⟨rfl, a, nd, fr⟩ := h
    exact ⟨plusO O' H' fp, d, ⟨u.o.trans plus_same, u.h, plus_sub u.oh, fun b hb hn => plus_out (fun z => hb (fr b z).1) (u.nn b hb hn)⟩, a.dp plus_same (fun b hb x e => by rw [plus_in hb (fr b hb).2]; exact e) f.1, f.2⟩
def XRep (K : PySem.W.Frag) (mg : Str → Option Value) (O' H' : Hp) (e : Exc) (cls : Value) (d : Option Addr) : Prop :=
  (∃ C, ClsN K e.cls C ∧ cls = .ref C) ∧ match e.arg with
  | none => d = none
  | some (f, u) => ∃ dd v, d = some dd ∧ O' dd = some (.xd [(f, v)]) ∧ Dp K O' v u
structure ObjR (K : PySem.W.Frag) (H0 O H : Hp) (σ : St) (δ : List S) : Prop where
  obj : ∀ i v d fp, lk δ i = .obj v d fp → σ[i]? = some (some v) ∧ Ow K O H v d fp ∧ fp.Nodup ∧ ∀ b ∈ fp, H0 b = none ∧ O b = none
  oo : ∀ i j ds v d fp p, lk δ i = .own ds → lk δ j = .obj v d fp → σ[i]? = some (some (.ref p)) → p ∉ fp
  pp : ∀ i j v d fp w e gp, i ≠ j → lk δ i = .obj v d fp → lk δ j = .obj w e gp → ∀ b ∈ fp, b ∉ gp
theorem ObjR.up {K : PySem.W.Frag} {H0 O H O' H' : Hp} {σ : St} {δ : List S} (r : ObjR K H0 O H σ δ) (u : Up O H O' H') : ObjR K H0 O' H' σ δ :=
  ⟨fun i v d fp h => let ⟨e, a, nd, fr⟩ := r.obj i v d fp h; ⟨e, a.keepS u.o fun b _ x q n => u.h.k b x q n, nd, fun b hb => ⟨(fr b hb).1, u.nn b (a.there b hb) (fr b hb).2⟩⟩, r.oo, r.pp⟩
structure EnvR (K : PySem.W.Frag) (H0 O H : Hp) (σ : St) (δ : List S) : Prop where
  len : σ.length = δ.length
  val : ∀ i d, lk δ i = .val d → ∃ v, σ[i]? = some (some v) ∧ Dp K O v d
  own : ∀ i ds, lk δ i = .own ds → ∃ p vs, σ[i]? = some (some (.ref p)) ∧ H0 p = none ∧ O p = none ∧ H p = some (.lst vs) ∧ DpAll K O vs ds
  inj : ∀ i j ds es, lk δ i = .own ds → lk δ j = .own es → σ[i]? = σ[j]? → i = j
  adr : ∀ i a, lk δ i = .adr a → σ[i]? = some (some (.ref a))
  ob : ObjR K H0 O H σ δ
  tt : TOk O H
theorem EnvR.up {K : PySem.W.Frag} {H0 O H O' H' : Hp} {σ : St} {δ : List S} (r : EnvR K H0 O H σ δ) (u : Up O H O' H') : EnvR K H0 O' H' σ δ where
  len := r.len
  val := fun i d h => let ⟨v, e, q⟩ := r.val i d h; ⟨v, e, dp_mono u.o q⟩
  own := fun i ds h => let ⟨p, vs, e, n, o, z, a⟩ := r.own i ds h; ⟨p, vs, e, n, u.nn p (by rw [z]; simp) o, u.h.at z, dpAll_mono u.o a⟩
  inj := r.inj
  adr := r.adr
  ob := r.ob.up u
  tt := u.tt r.tt
theorem lk_put_same : ∀ {δ : List S} {i : Nat} {s : S}, i < δ.length → lk (put δ i s) i = s
  | [], _, _, h => absurd h (Nat.not_lt_zero _)
  | _ :: _, 0, _, _ => rfl
  | _ :: r, i + 1, _, h => lk_put_same (δ := r) (Nat.lt_of_succ_lt_succ h)
theorem lk_put_ne : ∀ {δ : List S} {i j : Nat} {s : S}, j ≠ i → lk (put δ i s) j = lk δ j
  | [], _, _, _, _ => rfl
  | _ :: _, 0, 0, _, h => absurd rfl h
  | _ :: _, 0, _ + 1, _, _ => rfl
  | _ :: _, _ + 1, 0, _, _ => rfl
  | _ :: r, i + 1, j + 1, _, h => lk_put_ne (δ := r) fun e => h (congrArg _ e)
theorem put_put : ∀ {δ : List S} {i : Nat} {s t : S}, put (put δ i s) i t = put δ i t
  | [], _, _, _ => rfl
  | _ :: _, 0, _, _ => rfl
  | _ :: r, i + 1, _, _ => congrArg (_ :: ·) (put_put (δ := r))
theorem put_length : ∀ {δ : List S} {i : Nat} {s : S}, (put δ i s).length = δ.length
  | [], _, _ => rfl
  | _ :: _, 0, _ => rfl
  | _ :: r, i + 1, _ => congrArg (· + 1) (put_length (δ := r))
theorem lk_out : ∀ {δ : List S} {i : Nat}, δ.length ≤ i → lk δ i = .no
  | [], _, _ => rfl
  | _ :: _, 0, h => absurd h (Nat.not_succ_le_zero _)
  | _ :: r, i + 1, h => lk_out (δ := r) (Nat.le_of_succ_le_succ h)
theorem ObjR.put {K : PySem.W.Frag} {H0 O H : Hp} {σ : St} {δ : List S} (r : ObjR K H0 O H σ δ) (i : Nat) (x : Option V) {s : S} (hs : (∀ v d fp, s ≠ .obj v d fp) ∧ ∀ ds, s ≠ .own ds) : ObjR K H0 O H (σ.set i x) (DL.put δ i s) := by
  have ne : ∀ {j : Nat} {t : S}, lk (DL.put δ i s) j = t → t ≠ s → t ≠ .no → j ≠ i ∧ lk δ j = t := fun {j t} h n n0 => by
    by_cases hj : j = i
    · subst hj
      by_cases hl : j < δ.length
      · rw [lk_put_same hl] at h
        exact absurd h.symm n
      · rw [lk_out (by rw [put_length]; omega)] at h
        exact absurd h.symm n0
    · rw [lk_put_ne hj] at h
      exact ⟨hj, h⟩
  refine ⟨fun j v d fp h => ?_, fun j k ds v d fp p h1 h2 q => ?_, fun j k v d fp w e gp n h1 h2 => ?_⟩
  · obtain ⟨n, h⟩ := ne h (fun e => hs.1 _ _ _ e.symm) (by simp)
    rw [List.getElem?_set_ne (Ne.symm n)]
    exact r.obj j v d fp h
  · obtain ⟨n1, h1⟩ := ne h1 (fun e => hs.2 _ e.symm) (by simp)
    obtain ⟨n2, h2⟩ := ne h2 (fun e => hs.1 _ _ _ e.symm) (by simp)
    rw [List.getElem?_set_ne (Ne.symm n1)] at q
    exact r.oo j k ds v d fp p h1 h2 q
  · obtain ⟨n1, h1⟩ := ne h1 (fun e => hs.1 _ _ _ e.symm) (by simp)
    obtain ⟨n2, h2⟩ := ne h2 (fun e => hs.1 _ _ _ e.symm) (by simp)
    exact r.pp j k v d fp w e gp n h1 h2
theorem ObjR.drop {K : PySem.W.Frag} {H0 O H : Hp} {σ : St} {δ : List S} (r : ObjR K H0 O H σ δ) (i : Nat) : ObjR K H0 O H σ (DL.put δ i .no) := by
  have ne : ∀ {j : Nat} {t : S}, lk (DL.put δ i .no) j = t → t ≠ .no → lk δ j = t := fun {j t} h n0 => by
    by_cases hj : j = i
    · subst hj
      by_cases hl : j < δ.length
      · rw [lk_put_same hl] at h
        exact absurd h.symm n0
      · rw [lk_out (by rw [put_length]; omega)] at h
        exact absurd h.symm n0
    · rw [lk_put_ne hj] at h
      exact h
  exact ⟨fun j v d fp h => r.obj j v d fp (ne h (by simp)), fun j k ds v d fp p h1 h2 q => r.oo j k ds v d fp p (ne h1 (by simp)) (ne h2 (by simp)) q, fun j k v d fp w e gp n h1 h2 => r.pp j k v d fp w e gp n (ne h1 (by simp)) (ne h2 (by simp))⟩
theorem ObjR.grow {K : PySem.W.Frag} {H0 O O' H : Hp} {σ : St} {δ : List S} (r : ObjR K H0 O H σ δ) (so : Same O O') (h : ∀ j v d fp, lk δ j = .obj v d fp → ∀ b ∈ fp, O' b = none) : ObjR K H0 O' H σ δ :=
  ⟨fun i v d fp e => let ⟨q, a, nd, fr⟩ := r.obj i v d fp e; ⟨q, a.keep so fun _ _ _ z => z, nd, fun b hb => ⟨(fr b hb).1, h i v d fp e b hb⟩⟩, r.oo, r.pp⟩
theorem ObjR.setOwn {K : PySem.W.Frag} {H0 O H : Hp} {σ : St} {δ : List S} (r : ObjR K H0 O H σ δ) {i : Nat} {ds es : List D} {p : Addr} (w : HO) (hi : lk δ i = .own ds) (hp : σ[i]? = some (some (.ref p))) : ObjR K H0 O (upd H p w) σ (DL.put δ i (.own es)) := by
  have ne : ∀ {j : Nat} {v : V} {d : D} {fp : List Addr}, lk (DL.put δ i (.own es)) j = .obj v d fp → lk δ j = .obj v d fp := fun {j v d fp} h => by
    by_cases hj : j = i
    · subst hj
      by_cases hl : j < δ.length
      · rw [lk_put_same hl] at h
        cases h
      · rw [lk_out (by rw [put_length]; omega)] at h
        cases h
    · rw [lk_put_ne hj] at h
      exact h
  have ow : ∀ {j : Nat} {fs : List D}, lk (DL.put δ i (.own es)) j = .own fs → ∃ gs, lk δ j = .own gs := fun {j fs} h => by
    by_cases hj : j = i
    · exact ⟨ds, by rw [hj]; exact hi⟩
    · rw [lk_put_ne hj] at h
      exact ⟨fs, h⟩
  refine ⟨fun j v d fp h => ?_, fun j k fs v d fp q h1 h2 e => ?_, fun j k v d fp w e gp n h1 h2 => r.pp j k v d fp w e gp n (ne h1) (ne h2)⟩
  · obtain ⟨q, a, nd, fr⟩ := r.obj j v d fp (ne h)
    refine ⟨q, a.keep (.refl O) fun b hb x z => ?_, nd, fr⟩
    rw [upd_ne (fun y => r.oo i j ds v d fp p hi (ne h) hp (by rw [← y]; exact hb))]
    exact z
  · obtain ⟨gs, hg⟩ := ow h1
    exact r.oo j k gs v d fp q hg (ne h2) e
theorem ObjR.putOwn {K : PySem.W.Frag} {H0 O H : Hp} {σ : St} {δ : List S} (r : ObjR K H0 O H σ δ) (i : Nat) {p : Addr} {es : List D} (new : ∀ j v d fp, j ≠ i → lk δ j = .obj v d fp → p ∉ fp) : ObjR K H0 O H (σ.set i (some (.ref p))) (DL.put δ i (.own es)) := by
  have ne : ∀ {j : Nat} {t : S}, lk (DL.put δ i (.own es)) j = t → t ≠ .own es → t ≠ .no → j ≠ i ∧ lk δ j = t := fun {j t} h n n0 => by
    by_cases hj : j = i
    · subst hj
      by_cases hl : j < δ.length
      · rw [lk_put_same hl] at h
        exact absurd h.symm n
      · rw [lk_out (by rw [put_length]; omega)] at h
        exact absurd h.symm n0
    · rw [lk_put_ne hj] at h
      exact ⟨hj, h⟩
  refine ⟨fun j v d fp h => ?_, fun j k ds v d fp q h1 h2 e => ?_, fun j k v d fp w e gp n h1 h2 => ?_⟩
  · obtain ⟨n, h⟩ := ne h (by simp) (by simp)
    rw [List.getElem?_set_ne (Ne.symm n)]
    exact r.obj j v d fp h
  · obtain ⟨n2, g2⟩ := ne h2 (by simp) (by simp)
    by_cases hj : j = i
    · subst hj
      have hl : j < σ.length := by
        have := (List.getElem?_eq_some_iff.mp e).1
        rwa [List.length_set] at this
      rw [List.getElem?_set_self hl] at e
      cases e
      exact new k v d fp n2 g2
    · rw [lk_put_ne hj] at h1
      rw [List.getElem?_set_ne (Ne.symm hj)] at e
      exact r.oo j k ds v d fp q h1 g2 e
  · obtain ⟨n1, h1⟩ := ne h1 (by simp) (by simp)
    obtain ⟨n2, h2⟩ := ne h2 (by simp) (by simp)
    exact r.pp j k v d fp w e gp n h1 h2
theorem lk_lt {δ : List S} {i : Nat} {s : S} (h : lk δ i = s) (n : s ≠ .no) : i < δ.length := by
  rcases Nat.lt_or_ge i δ.length with z | z
  · exact z
  · exact absurd (h.symm.trans (lk_out z)) n
end DL
namespace DL
variable [HotA]
open PySem L2
def Snd {α β : Type} (K : PySem.W.Frag) (mg : Str → Option Value) (W : WX) (R : Hp → Hp → Hp → α → β → Prop) (te : St → Hp → (α → Hp → Prop) → Prop) (de : XP → List S → (β → Prop) → Prop) : Prop :=
  ∀ (O H H0 : Hp) (σ : St) (δ : List S) (x : XP) (q : β → Prop) (Q : α → Hp → Prop), Same O H → EnvR K H0 O H σ δ →
    (∀ e cls d O' H', Up O H O' H' → XRep K mg O' H' e cls d → x e → W cls d σ H') →
    (∀ a O' H' b, Up O H O' H' → R H O' H' a b → q b → Q a H') → de x δ q → te σ H Q
abbrev RE (K : PySem.W.Frag) : Hp → Hp → Hp → V → S → Prop := fun H O' H' v s => SRep K H O' H' v s
abbrev RP (K : PySem.W.Frag) : Hp → Hp → Hp → V → D → Prop := fun _ O' H' v d => PRep K O' H' v d
abbrev RT : Hp → Hp → Hp → Bool → Bool → Prop := fun _ _ _ a b => a = b
abbrev RA (K : PySem.W.Frag) : Hp → Hp → Hp → List V → List D → Prop := fun _ O' _ vs ds => DpAll K O' vs ds
inductive PAll (K : PySem.W.Frag) (O H : Hp) : List V → List D → Prop
  | nil : PAll K O H [] []
  | cons {v : V} {vs : List V} {d : D} {ds : List D} : PRep K O H v d → PAll K O H vs ds → PAll K O H (v :: vs) (d :: ds)
abbrev RAP (K : PySem.W.Frag) : Hp → Hp → Hp → List V → List D → Prop := fun _ O' H' vs ds => PAll K O' H' vs ds
theorem PAll.up {K : PySem.W.Frag} {O H O' H' : Hp} (u : Up O H O' H') : ∀ {vs : List V} {ds : List D}, PAll K O H vs ds → PAll K O' H' vs ds
  | _, _, .nil => .nil
  | _, _, .cons h a => .cons (h.up u) (PAll.up u a)
theorem PAll.all {K : PySem.W.Frag} {O H : Hp} (e : Same O H) : ∀ {vs : List V} {ds : List D}, PAll K O H vs ds → DpAll K H vs ds
  | _, _, .nil => .nil
  | _, _, .cons h a => .cons (h.all e) (PAll.all e a)
theorem PAll.of {K : PySem.W.Frag} {O H : Hp} (e : Same O H) : ∀ {vs : List V} {ds : List D}, DpAll K O vs ds → PAll K O H vs ds
  | _, _, .nil => .nil
  | _, _, .cons h a => .cons (.of e h) (PAll.of e a)
structure JE (X : Cx) (W : WX) (e : Expr) (de : ES) : Prop where
  ex : ∃ te, PE X e te ∧ Snd X.K X.mg W (RE X.K) te de
structure JP (X : Cx) (W : WX) (e : Expr) (de : EP) : Prop where
  ex : ∃ te, PE X e te ∧ Snd X.K X.mg W (RP X.K) te de
structure JT (X : Cx) (W : WX) (e : Expr) (de : ET) : Prop where
  ex : ∃ te, PT X e te ∧ Snd X.K X.mg W RT te de
structure JW (X : Cx) (W : WX) (e : Expr) (de : ET) : Prop where
  ex : ∃ te, PW X e te ∧ Snd X.K X.mg W RT te de
structure JA (X : Cx) (W : WX) (es : List Expr) (de : EA) : Prop where
  ex : ∃ te, PA X es te ∧ Snd X.K X.mg W (RA X.K) te de
structure JAP (X : Cx) (W : WX) (es : List Expr) (de : EA) : Prop where
  ex : ∃ te, PA X es te ∧ Snd X.K X.mg W (RAP X.K) te de
theorem JW.pt {X : Cx} {W : WX} {e : Expr} {de : ET} (h : JW X W e de) : JT X W e de := let ⟨te, p, s⟩ := h.ex; ⟨te, p.pt, s⟩

section
variable {X : Cx} {W : WX} {a b e : Expr} {es : List Expr} {pos : Pos}
theorem je_var (i : Nat) {x : Str} {p : Pos} (hN : X.N[i]? = some x := by rfl) (hv : Vis X.env.scope x := by first | exact Or.inl rfl | exact Or.inr (Or.inl rfl) | exact Or.inr (Or.inr rfl)) (hd : (x == ("__debug__" : Str)) = false := by decide)
    (hcd : (x == ("__classdict__" : Str)) = false := by decide) : JE X W (.Name x p) (eVar i) := by
  refine ⟨_, pe_var hN hv hd hcd, fun O H H0 σ δ x q Q so env hx hq h => ?_⟩
  unfold eVar S.var at h
  split at h
  · rename_i d hl
    obtain ⟨v, e, r⟩ := env.val i d hl
    exact ⟨v, e, hq v O H (.val d) (.refl so) r h⟩
  all_goals exact h.elim
theorem jp_var (i : Nat) {x : Str} {p : Pos} (hN : X.N[i]? = some x := by rfl) (hv : Vis X.env.scope x := by first | exact Or.inl rfl | exact Or.inr (Or.inl rfl) | exact Or.inr (Or.inr rfl)) (hd : (x == ("__debug__" : Str)) = false := by decide)
    (hcd : (x == ("__classdict__" : Str)) = false := by decide) : JP X W (.Name x p) (pVar i) := by
  refine ⟨_, pe_var hN hv hd hcd, fun O H H0 σ δ x q Q so env hx hq h => ?_⟩
  unfold pVar S.pk at h
  split at h
  · rename_i d hl
    obtain ⟨v, e, r⟩ := env.val i d hl
    exact ⟨v, e, hq v O H d (.refl so) (.of so r) h⟩
  · rename_i ds hl
    obtain ⟨p, vs, e, _, _, z, r⟩ := env.own i ds hl
    exact ⟨.ref p, e, hq _ O H (.list ds) (.refl so) ⟨p, vs, rfl, .of z, r⟩ h⟩
  all_goals exact h.elim
theorem jp_of {de : ES} (h : JE X W e de) : JP X W e (pE de) := by
  obtain ⟨te, p, s⟩ := h.ex
  refine ⟨te, p, fun O H H0 σ δ x q Q so env hx hq h => s O H H0 σ δ x _ Q so env hx (fun v O' H' s u r f => ?_) h⟩
  obtain ⟨O2, d, u2, r2, k⟩ := r.fr u f
  exact hq v O2 H' d u2 (.of u2.oh r2) k
theorem je_int {i j pos} : JE X W (.Constant (.int i) j pos) (eC (.int i)) := ⟨_, pe_int, fun O H _ _ _ _ _ _ so _ _ hq h => hq (.int i) O H (.val (.int i)) (.refl so) (.int i) h⟩
theorem je_bl {i j pos} : JE X W (.Constant (.bool i) j pos) (eC (.bool i)) := ⟨_, pe_bl, fun O H _ _ _ _ _ _ so _ _ hq h => hq (.bl i) O H (.val (.bool i)) (.refl so) (.bl i) h⟩
theorem je_non {j pos} : JE X W (.Constant .none j pos) (eC .none) := ⟨_, pe_non, fun O H _ _ _ _ _ _ so _ _ hq h => hq .non O H (.val .none) (.refl so) .non h⟩
def OpS (X : Cx) (f : Value → Value → Sem Value) (rd : R2D) : Prop := ∃ r, OpR X f r ∧ ∀ (O H : Hp) (v w : V) (c d : D) (q : S → Prop) (Q : VK), Same O H → PRep X.K O H v c → PRep X.K O H w d →
  (∀ u O' H' s, Up O H O' H' → SRep X.K H O' H' u s → q s → Q u H') → rd c d q → r v w H Q
theorem snd_two {K : PySem.W.Frag} {mg : Str → Option Value} {ta tb : TE} {da db : EP} (sa : Snd K mg W (RP K) ta da) (sb : Snd K mg W (RP K) tb db) {β γ : Type} {R : Hp → Hp → Hp → β → γ → Prop} {r : V → V → Hp → (β → Hp → Prop) → Prop} {rd : D → D → (γ → Prop) → Prop}
    (hb : ∀ H H1 O' H' a b, Sam H H1 → R H1 O' H' a b → R H O' H' a b)
    (h : ∀ (O H : Hp) (v w : V) (c d : D) (q : γ → Prop) (Q : β → Hp → Prop), Same O H → PRep K O H v c → PRep K O H w d → (∀ u O' H' s, Up O H O' H' → R H O' H' u s → q s → Q u H') → rd c d q → r v w H Q) :
    Snd K mg W R (fun σ H Q => ta σ H fun x H1 => tb σ H1 fun y H2 => r x y H2 Q) (fun x δ q => da x δ fun c => db x δ fun d => rd c d q) := by
  intro O H H0 σ δ x q Q so env hx hq g
  refine sa O H H0 σ δ x _ _ so env hx (fun v O1 H1 c u1 r1 g1 => ?_) g
  refine sb O1 H1 H0 σ δ x _ _ u1.oh (env.up u1) (fun e cls d O' H' u' => hx e cls d O' H' (u1.trans u')) (fun w O2 H2 d u2 r2 g2 => ?_) g1
  exact h O2 H2 v w c d q Q u2.oh (r1.up u2) r2 (fun u O3 H3 s u3 r3 => hq u O3 H3 s ((u1.trans u2).trans u3) (hb _ _ _ _ _ _ (u1.trans u2).h r3)) g2
theorem je_bin {op : Operator} {rd : R2D} {da db : EP} (ho : OpS X (binaryOp op) rd) (ha : JP X W a da) (hb : JP X W b db) : JE X W (.BinOp a op b pos) (eOp rd da db) := by
  obtain ⟨r, hr, hs⟩ := ho
  obtain ⟨ta, pa, sa⟩ := ha.ex
  obtain ⟨tb, pb, sb⟩ := hb.ex
  exact ⟨_, pe_op hr pa pb, snd_two sa sb (R := RE X.K) (r := r) (fun _ _ _ _ _ _ e => SRep.back e) hs⟩
theorem je_cmp {op : CmpOp} {rd : R2D} {da db : EP} (ho : OpS X (compareOp op) rd) (ha : JP X W a da) (hb : JP X W b db) (hm : behindInMarks op b = false) : JE X W (.Compare a [op] [b] pos) (eOp rd da db) := by
  obtain ⟨r, hr, hs⟩ := ho
  obtain ⟨ta, pa, sa⟩ := ha.ex
  obtain ⟨tb, pb, sb⟩ := hb.ex
  exact ⟨_, pe_cmpR hr pa pb hm, snd_two sa sb (R := RE X.K) (r := r) (fun _ _ _ _ _ _ e => SRep.back e) hs⟩
theorem snd_test {K : PySem.W.Frag} {mg : Str → Option Value} {te : TE} {de : ES} (s : Snd K mg W (RE K) te de) : Snd K mg W RT (fun σ H Q => te σ H fun x H' => ∃ k, x = .bl k ∧ Q k H') (tV de) := by
  intro O H H0 σ δ x q Q so env hx hq g
  refine s O H H0 σ δ x _ _ so env hx (fun v O1 H1 c u1 r1 g1 => ?_) g
  cases c with
  | no => exact g1.elim
  | adr _ => exact g1.elim
  | obj _ _ _ => exact g1.elim
  | own ds => exact g1.elim
  | val d =>
    cases d with
    | bool k =>
      cases r1
      exact ⟨k, rfl, hq k O1 H1 k u1 rfl g1⟩
    | none => exact g1.elim
    | int _ => exact g1.elim
    | str _ => exact g1.elim
    | list _ => exact g1.elim
    | tuple _ => exact g1.elim
    | dict _ => exact g1.elim
theorem jt_cmp {op : CmpOp} {rd : R2D} {da db : EP} (ho : OpS X (compareOp op) rd) (ha : JP X W a da) (hb : JP X W b db) (hm : behindInMarks op b = false) : JT X W (.Compare a [op] [b] pos) (tV (eOp rd da db)) := by
  obtain ⟨r, hr, hs⟩ := ho
  obtain ⟨ta, pa, sa⟩ := ha.ex
  obtain ⟨tb, pb, sb⟩ := hb.ex
  exact ⟨_, pt_cmpR hr pa pb hm, snd_test (snd_two sa sb (R := RE X.K) (r := r) (fun _ _ _ _ _ _ e => SRep.back e) hs)⟩
theorem jt_val {de : ES} (h : JE X W e de) (he : ∀ whole, isTrue e X.env whole = (do let v ← whole; standAt e.pos; holding [v] (truthy v)) := by intro _; rfl) : JT X W e (tV de) := by
  obtain ⟨te, p, s⟩ := h.ex
  exact ⟨_, pt_val p he, snd_test s⟩
theorem snd_and {K : PySem.W.Frag} {mg : Str → Option Value} {t u : TT} {dt du : ET} (s : Snd K mg W RT t dt) (s2 : Snd K mg W RT u du) : Snd K mg W RT (L2.tAnd t u) (tAnd dt du) := by
  intro O H H0 σ δ x q Q so env hx hq g
  refine s O H H0 σ δ x _ _ so env hx (fun v O1 H1 c u1 r1 g1 => ?_) g
  have r1 : v = c := r1
  subst r1
  cases v with
  | true => exact s2 O1 H1 H0 σ δ x q Q u1.oh (env.up u1) (fun e cls d O' H' u' => hx e cls d O' H' (u1.trans u')) (fun k O2 H2 k' u2 r2 => hq k O2 H2 k' (u1.trans u2) r2) g1
  | false => exact hq false O1 H1 false u1 rfl g1
theorem snd_or {K : PySem.W.Frag} {mg : Str → Option Value} {t u : TT} {dt du : ET} (s : Snd K mg W RT t dt) (s2 : Snd K mg W RT u du) : Snd K mg W RT (L2.tOr t u) (tOr dt du) := by
  intro O H H0 σ δ x q Q so env hx hq g
  refine s O H H0 σ δ x _ _ so env hx (fun v O1 H1 c u1 r1 g1 => ?_) g
  have r1 : v = c := r1
  subst r1
  cases v with
  | false => exact s2 O1 H1 H0 σ δ x q Q u1.oh (env.up u1) (fun e cls d O' H' u' => hx e cls d O' H' (u1.trans u')) (fun k O2 H2 k' u2 r2 => hq k O2 H2 k' (u1.trans u2) r2) g1
  | true => exact hq true O1 H1 true u1 rfl g1
theorem jw_and1 {t : ET} (h : JT X W a t) : JW X W (.BoolOp .And [a] pos) t := let ⟨te, p, s⟩ := h.ex; ⟨te, pw_and1 p, s⟩
theorem jw_or1 {t : ET} (h : JT X W a t) : JW X W (.BoolOp .Or [a] pos) t := let ⟨te, p, s⟩ := h.ex; ⟨te, pw_or1 p, s⟩
theorem jw_and {t u : ET} (h : JT X W a t) (h2 : JW X W (.BoolOp .And (b :: es) pos) u) : JW X W (.BoolOp .And (a :: b :: es) pos) (tAnd t u) := by
  obtain ⟨te, p, s⟩ := h.ex
  obtain ⟨tf, p2, s2⟩ := h2.ex
  exact ⟨_, pw_and p p2, snd_and s s2⟩
theorem jw_or {t u : ET} (h : JT X W a t) (h2 : JW X W (.BoolOp .Or (b :: es) pos) u) : JW X W (.BoolOp .Or (a :: b :: es) pos) (tOr t u) := by
  obtain ⟨te, p, s⟩ := h.ex
  obtain ⟨tf, p2, s2⟩ := h2.ex
  exact ⟨_, pw_or p p2, snd_or s s2⟩
theorem jt_not {t : ET} (h : JT X W a t) : JT X W (.UnaryOp .Not a pos) (tNot t) := by
  obtain ⟨te, p, s⟩ := h.ex
  refine ⟨_, pt_not p, fun O H H0 σ δ x q Q so env hx hq g => ?_⟩
  refine s O H H0 σ δ x _ _ so env hx (fun v O1 H1 c u1 r1 g1 => ?_) g
  have r1 : v = c := r1
  subst r1
  exact hq (!v) O1 H1 (!v) u1 rfl g1
theorem je_one {op} {de : ES} (h : JE X W a de) : JE X W (.BoolOp op [a] pos) de := let ⟨te, p, s⟩ := h.ex; ⟨te, pe_one p, s⟩
theorem je_and {da db : ES} (ha : JE X W a da) (hb : JE X W (.BoolOp .And (b :: es) pos) db) : JE X W (.BoolOp .And (a :: b :: es) pos) (eAnd da db) := by
  obtain ⟨te, p, s⟩ := ha.ex
  obtain ⟨tf, p2, s2⟩ := hb.ex
  refine ⟨_, pe_and p p2, fun O H H0 σ δ x q Q so env hx hq g => ?_⟩
  refine s O H H0 σ δ x _ _ so env hx (fun v O1 H1 c u1 r1 g1 => ?_) g
  unfold S.bl at g1
  split at g1
  · rename_i k
    cases r1
    refine ⟨k, rfl, ?_⟩
    cases k with
    | true => exact s2 O1 H1 H0 σ δ x q Q u1.oh (env.up u1) (fun e cls d O' H' u' => hx e cls d O' H' (u1.trans u')) (fun v2 O2 H2 k' u2 r2 => hq v2 O2 H2 k' (u1.trans u2) (r2.back u1.h)) g1
    | false => exact hq _ O1 H1 (.val (.bool false)) u1 (.bl false) g1
  · exact g1.elim
theorem je_or {da db : ES} (ha : JE X W a da) (hb : JE X W (.BoolOp .Or (b :: es) pos) db) : JE X W (.BoolOp .Or (a :: b :: es) pos) (eOr da db) := by
  obtain ⟨te, p, s⟩ := ha.ex
  obtain ⟨tf, p2, s2⟩ := hb.ex
  refine ⟨_, pe_or p p2, fun O H H0 σ δ x q Q so env hx hq g => ?_⟩
  refine s O H H0 σ δ x _ _ so env hx (fun v O1 H1 c u1 r1 g1 => ?_) g
  unfold S.bl at g1
  split at g1
  · rename_i k
    cases r1
    refine ⟨k, rfl, ?_⟩
    cases k with
    | false => exact s2 O1 H1 H0 σ δ x q Q u1.oh (env.up u1) (fun e cls d O' H' u' => hx e cls d O' H' (u1.trans u')) (fun v2 O2 H2 k' u2 r2 => hq v2 O2 H2 k' (u1.trans u2) (r2.back u1.h)) g1
    | true => exact hq _ O1 H1 (.val (.bool true)) u1 (.bl true) g1
  · exact g1.elim
theorem je_not {da : ES} (ha : JE X W a da) : JE X W (.UnaryOp .Not a pos) (eNot da) := by
  obtain ⟨te, p, s⟩ := ha.ex
  refine ⟨_, pe_not p, fun O H H0 σ δ x q Q so env hx hq g => ?_⟩
  refine s O H H0 σ δ x _ _ so env hx (fun v O1 H1 c u1 r1 g1 => ?_) g
  unfold S.bl at g1
  split at g1
  · rename_i k
    cases r1
    exact ⟨k, rfl, hq _ O1 H1 (.val (.bool (!k))) u1 (.bl (!k)) g1⟩
  · exact g1.elim
theorem ja_nil : JA X W [] aNil := ⟨_, pa_nil, fun O H _ _ _ _ _ _ so _ _ hq h => hq [] O H [] (.refl so) .nil h⟩
theorem jap_nil : JAP X W [] apNil := ⟨_, pa_nil, fun O H _ _ _ _ _ _ so _ _ hq h => hq [] O H [] (.refl so) .nil h⟩
theorem ja_cons {de : ES} {da : EA} (h : JE X W e de) (hr : JA X W es da) (hs : starEach (e :: es) X.env = (false, eval e X.env) :: starEach es X.env := by rfl) : JA X W (e :: es) (aCons de da) := by
  obtain ⟨te, p, s⟩ := h.ex
  obtain ⟨tr, p2, s2⟩ := hr.ex
  refine ⟨_, pa_cons p p2 hs, fun O H H0 σ δ x q Q so env hx hq g => ?_⟩
  refine s O H H0 σ δ x _ _ so env hx (fun v O1 H1 c u1 r1 g1 => ?_) g
  obtain ⟨O2, d, u2, r2, k⟩ := r1.fr u1 g1
  exact s2 O2 H1 H0 σ δ x _ _ u2.oh (env.up u2) (fun e cls d O' H' u' => hx e cls d O' H' (u2.trans u')) (fun vs O3 H3 ds u3 r3 g3 => hq _ O3 H3 _ (u2.trans u3) (.cons (dp_mono u3.o r2) r3) g3) k
theorem jap_cons {de : EP} {da : EA} (h : JP X W e de) (hr : JAP X W es da) (hs : starEach (e :: es) X.env = (false, eval e X.env) :: starEach es X.env := by rfl) : JAP X W (e :: es) (apCons de da) := by
  obtain ⟨te, p, s⟩ := h.ex
  obtain ⟨tr, p2, s2⟩ := hr.ex
  refine ⟨_, pa_cons p p2 hs, fun O H H0 σ δ x q Q so env hx hq g => ?_⟩
  refine s O H H0 σ δ x _ _ so env hx (fun v O1 H1 c u1 r1 g1 => ?_) g
  exact s2 O1 H1 H0 σ δ x _ _ u1.oh (env.up u1) (fun e cls d O' H' u' => hx e cls d O' H' (u1.trans u')) (fun vs O3 H3 ds u3 r3 g3 => hq _ O3 H3 _ (u1.trans u3) (.cons (r1.up u3) r3) g3) g1
theorem je_tup {x1} {da : EA} (h : JA X W es da) : JE X W (.Tuple es x1 pos) (eTup da) := by
  obtain ⟨te, p, s⟩ := h.ex
  refine ⟨_, pe_tup p, fun O H H0 σ δ x q Q so env hx hq g => ?_⟩
  refine s O H H0 σ δ x _ _ so env hx (fun vs O1 H1 ds u1 r1 g1 => ?_) g
  have r1 : DpAll X.K O1 vs ds := r1
  refine ⟨by rw [dpl_length r1]; exact g1.1, fun p hp => ?_⟩
  have u2 := Up.new u1.oh hp (.tup vs)
  exact hq _ _ _ (.val (.tuple ds)) (u1.trans u2) (.tup (.of upd_same) (dpAll_mono u2.o r1)) g1.2
theorem je_lst {da : EA} (h : JA X W es da) : JE X W (.List es pos) (eLst da) := by
  obtain ⟨te, p, s⟩ := h.ex
  refine ⟨_, pe_lst p, fun O H H0 σ δ x q Q so env hx hq g => ?_⟩
  refine s O H H0 σ δ x _ _ so env hx (fun vs O1 H1 ds u1 r1 g1 => ?_) g
  have r1 : DpAll X.K O1 vs ds := r1
  refine ⟨by rw [dpl_length r1]; exact g1.1, fun p hp => ?_⟩
  have u2 := Up.own u1.oh hp (.lst vs)
  exact hq _ _ _ (.own ds) (u1.trans u2) ⟨p, vs, rfl, u1.h.free hp, u1.oh.free hp, upd_same, r1⟩ g1.2

def spD (K : PySem.W.Frag) (mg : Str → Option Value) (p : DSp) : Sp := fun vs H Q E => ∃ O ds x q, Same O H ∧ TOk O H ∧ DpAll K O vs ds ∧ p ds x q ∧
  (∀ v O' H' s, Up O H O' H' → SRep K H O' H' v s → q s → Q v H') ∧ ∀ e cls d O' H', Up O H O' H' → XRep K mg O' H' e cls d → x e → E cls d H'
variable {k : Nat} {f : Addr} {fd : FuncData} {ps : List Str} {p : DSp} {x : Str} {p1 : Pos}
theorem je_call {da : EA} (F : FnOk X.prog X.w X.K X.mg X.base (L2N.CX X.prog X.w) k f fd ps (spD X.K X.mg p)) (hr : Room k X.A) (tk : L2N.Takes X W) (hm : X.mg x = some (.ref f)) (hk : PySem.W.keepIn X.K (.ref f) = true) (hb : Binds X.K fd ps [])
    (ha : JA X W (e :: es) da) (hg : Gl X x := by rfl) (hdb : (x == ("__debug__" : Str)) = false := by decide) (he : starEach (e :: es) X.env = (false, eval e X.env) :: starEach es X.env := by rfl) (hpl : (backTo pos (starEach es X.env)).any (·.1) = false := by rfl) :
    JE X W (.Call (.Name x p1) (e :: es) [] pos) (eCall p da) := by
  obtain ⟨ta, pa, sa⟩ := ha.ex
  refine ⟨_, pe_callS F hr hg hm hk hb (fun σ => L2N.passAt tk σ) pa hdb he hpl, fun O H H0 σ δ x q Q so env hx hq g => ?_⟩
  refine sa O H H0 σ δ x _ _ so env hx (fun vs O1 H1 ds u1 r1 g1 => ?_) g
  exact ⟨O1, ds, x, q, u1.oh, u1.tt env.tt, r1, g1, fun v O' H' s u r z => hq v O' H' s (u1.trans u) (r.back u1.h) z, fun e cls d O' H' u r z => hx e cls d O' H' (u1.trans u) r z⟩
def CallS (X : Cx) (f : Value) (rd : RD) : Prop := ∃ r, CallR X f r ∧ ∀ (O H : Hp) (vs : List V) (ds : List D) (q : S → Prop) (Q : VK), Same O H → PAll X.K O H vs ds →
  (∀ u O' H' s, Up O H O' H' → SRep X.K H O' H' u s → q s → Q u H') → rd ds q → r vs H Q
theorem snd_call {K : PySem.W.Frag} {mg : Str → Option Value} {ta : TA} {da : EA} {r : List V → Hp → VK → Prop} {rd : RD} (sa : Snd K mg W (RAP K) ta da)
    (h : ∀ (O H : Hp) (vs : List V) (ds : List D) (q : S → Prop) (Q : VK), Same O H → PAll K O H vs ds → (∀ u O' H' s, Up O H O' H' → SRep K H O' H' u s → q s → Q u H') → rd ds q → r vs H Q) : Snd K mg W (RE K) (tCB r ta) (eB rd da) := by
  intro O H H0 σ δ x q Q so env hx hq g
  refine sa O H H0 σ δ x _ _ so env hx (fun vs O1 H1 ds u1 r1 g1 => ?_) g
  exact h O1 H1 vs ds q Q u1.oh r1 (fun u O' H' s u2 r2 => hq u O' H' s (u1.trans u2) (r2.back u1.h)) g1
theorem je_callB {id : String} {rd : RD} {da : EA} (hc : CallS X (.builtin id) rd) (hm : X.mg x = none) (hv : bootBuiltins x = some (.builtin id)) (ha : JAP X W (e :: es) da) (hg : Gl X x := by rfl) (hn : x ≠ "__name__" := by decide) (hdb : (x == ("__debug__" : Str)) = false := by decide)
    (he : starEach (e :: es) X.env = (false, eval e X.env) :: starEach es X.env := by rfl) (hpl : (backTo pos (starEach es X.env)).any (·.1) = false := by rfl) : JE X W (.Call (.Name x p1) (e :: es) [] pos) (eB rd da) := by
  obtain ⟨r, hr, hs⟩ := hc
  obtain ⟨ta, pa, sa⟩ := ha.ex
  exact ⟨_, pe_callB hr hg hm hv pa hn hdb he hpl, snd_call sa hs⟩
theorem je_callTy {T : String} {rd : RD} {da : EA} (hc : CallS X (.type T) rd) (hm : X.mg x = none) (hv : bootBuiltins x = some (.type T)) (ha : JAP X W (e :: es) da) (hg : Gl X x := by rfl) (hn : x ≠ "__name__" := by decide) (hdb : (x == ("__debug__" : Str)) = false := by decide)
    (he : starEach (e :: es) X.env = (false, eval e X.env) :: starEach es X.env := by rfl) (hpl : (backTo pos (starEach es X.env)).any (·.1) = false := by rfl) : JE X W (.Call (.Name x p1) (e :: es) [] pos) (eB rd da) := by
  obtain ⟨r, hr, hs⟩ := hc
  obtain ⟨ta, pa, sa⟩ := ha.ex
  exact ⟨_, pe_callTy hr hg hm hv pa hn hdb he hpl, snd_call sa hs⟩
end
end DL
namespace DL
variable [HotA]
open PySem L2 PyProof.Rows
def rAddD : R2D
  | .int i, .int j, q => q (.val (.int (i + j)))
  | .list xs, .list ys, q => xs.length + ys.length ≤ sizeLine ∧ q (.own (xs ++ ys))
  | .str x, .str y, q => x.length + y.length ≤ sizeLine ∧ q (.val (.str (x ++ y)))
  | .tuple xs, .tuple ys, q => (xs ≠ [] ∧ ys ≠ []) ∧ xs.length + ys.length ≤ sizeLine ∧ q (.val (.tuple (xs ++ ys)))
  | _, _, _ => False
def rIntD (C : Int → Int → Prop) (g : Int → Int → D) : R2D
  | .int i, .int j, q => C i j ∧ q (.val (g i j))
  | _, _, _ => False
def rInt0D (g : Int → Int → D) : R2D
  | .int i, .int j, q => q (.val (g i j))
  | _, _, _ => False
def DivOk (j : Int) : Prop := j ≠ 0 ∧ j.natAbs.log2 < 9000
abbrev rSubD : R2D := rInt0D fun i j => .int (i - j)
abbrev rMulD : R2D := rIntD IntMulOk fun i j => .int (i * j)
abbrev rFdivD : R2D := rIntD (fun _ j => DivOk j) fun i j => .int (i.fdiv j)
abbrev rModD : R2D := rIntD (fun _ j => j ≠ 0) fun i j => .int (i.fmod j)
abbrev rShlD : R2D := rIntD CPow fun i j => .int (i * 2 ^ j.toNat)
abbrev rShrD : R2D := rIntD (fun _ j => 0 ≤ j) fun i j => .int (i / 2 ^ j.toNat)
abbrev rAndD : R2D := rInt0D fun i j => .int (Builtin.bitAnd i j)
abbrev rLtD : R2D := rInt0D fun i j => .bool (decide (i < j))
abbrev rLeD : R2D := rInt0D fun i j => .bool (decide (i ≤ j))
abbrev rGtD : R2D := rInt0D fun i j => .bool (decide (j < i))
def shapedB (d : D) : Bool := SeqAt.shaped d
theorem shapedB_2 {d : D} (h : shapedB d = true) : PyData.canLay0 d = true := by
  unfold shapedB SeqAt.shaped at h
  rw [Bool.and_eq_true] at h
  exact h.1
def rEqD : R2D
  | .int i, .int j, q => q (.val (.bool (decide (i = j))))
  | .str x, .str y, q => q (.val (.bool (decide (x = y))))
  | c, d, q => shapedB c = true ∧ shapedB d = true ∧ q (.val (.bool (PyData.eqv c d)))
def rNeD : R2D
  | .int i, .int j, q => q (.val (.bool (!decide (i = j))))
  | .str x, .str y, q => q (.val (.bool (!decide (x = y))))
  | c, d, q => shapedB c = true ∧ shapedB d = true ∧ q (.val (.bool (!PyData.eqv c d)))
def isNon : D → Bool
  | .none => true
  | _ => false
def rIsND : R2D
  | c, .none, q => q (.val (.bool (isNon c)))
  | _, _, _ => False
def rNotND : R2D
  | c, .none, q => q (.val (.bool (!isNon c)))
  | _, _, _ => False
def optK {α : Type} : Option α → (α → Prop) → Prop
  | some a, k => k a
  | none, _ => False
def rIxD : R2D
  | .list xs, .int i, q => optK (atI xs i) fun v => q (.val v)
  | .tuple xs, .int i, q => optK (atI xs i) fun v => q (.val v)
  | .str z, .int i, q => z.length ≤ sizeLine ∧ optK (atI z.cps.toList i) fun c => q (.val (.str ⟨#[c]⟩))
  | _, _, _ => False
section
variable {X : Cx} {W : WX}
theorem ops_int {f : Value → Value → Sem Value} {C : Int → Int → Prop} {g : Int → Int → V} {gd : Int → Int → D} (h : OpR X f (rI C g)) (hg : ∀ K O i j, Dp K O (g i j) (gd i j)) : OpS X f (rIntD C gd) := by
  refine ⟨_, h, fun O H v w c d q Q so rc rd hq g1 => ?_⟩
  unfold rIntD at g1
  split at g1
  · rename_i i j
    cases rc
    cases rd
    exact ⟨i, j, rfl, rfl, g1.1, hq _ O H (.val (gd i j)) (.refl so) (hg _ _ _ _) g1.2⟩
  · exact g1.elim
theorem ops_int0 {f : Value → Value → Sem Value} {g : Int → Int → V} {gd : Int → Int → D} (h : OpR X f (rI0 g)) (hg : ∀ K O i j, Dp K O (g i j) (gd i j)) : OpS X f (rInt0D gd) := by
  refine ⟨_, h, fun O H v w c d q Q so rc rd hq g1 => ?_⟩
  unfold rInt0D at g1
  split at g1
  · rename_i i j
    cases rc
    cases rd
    exact ⟨i, j, rfl, rfl, hq _ O H (.val (gd i j)) (.refl so) (hg _ _ _ _) g1⟩
  · exact g1.elim
theorem os_sub : OpS X (binaryOp .Sub) rSubD := ops_int0 op_sub fun _ _ _ _ => .int _
theorem os_mul : OpS X (binaryOp .Mult) rMulD := ops_int (C := IntMulOk) (g := fun i j => .int (i * j)) (opI fun _ _ _ _ _ _ _ hc q => mul_int q hc) fun _ _ _ _ => .int _
theorem os_fdiv : OpS X (binaryOp .FloorDiv) rFdivD := ops_int (C := fun _ j => DivOk j) (g := fun i j => .int (i.fdiv j)) (opI fun _ _ _ _ _ _ _ hc q => floordiv_int hc.1 q (.inl (PyProof.noPylong_of_log2 hc.2))) fun _ _ _ _ => .int _
theorem os_mod : OpS X (binaryOp .Mod) rModD := ops_int op_modN fun _ _ _ _ => .int _
theorem os_shl : OpS X (binaryOp .LShift) rShlD := ops_int op_shl fun _ _ _ _ => .int _
theorem os_shr : OpS X (binaryOp .RShift) rShrD := ops_int op_shr fun _ _ _ _ => .int _
theorem os_and : OpS X (binaryOp .BitAnd) rAndD := ops_int0 op_and fun _ _ _ _ => .int _
theorem os_lt : OpS X (compareOp .Lt) rLtD := ops_int0 op_lt fun _ _ _ _ => .bl _
theorem os_le : OpS X (compareOp .LtE) rLeD := ops_int0 op_le fun _ _ _ _ => .bl _
theorem os_gt : OpS X (compareOp .Gt) rGtD := ops_int0 op_gt fun _ _ _ _ => .bl _
def rJoinL (K : PySem.W.Frag) : R2 := fun x y H Q => ∃ l b xs zs, x = .ref l ∧ y = .ref b ∧ (SqL K H l xs ∧ SqL K H b zs) ∧ xs.length + zs.length ≤ sizeLine ∧ ∀ p, H p = none → Q (.ref p) (upd H p (.lst (xs ++ zs)))
theorem op_joinL : OpR X (binaryOp .Add) (rJoinL X.K) := fun pins s σ H x y v u Q I rx ry h => by
  obtain ⟨l, b, xs, zs, e1, e2, ⟨ql, qb⟩, hlen, q⟩ := h
  subst e1
  subst e2
  cases rx
  cases ry
  obtain ⟨i1, r1, ⟨⟨c1, d1, t1, k1⟩, n1, g1, f1, _, w1⟩, _⟩ := I.list ql
  obtain ⟨i2, r2, ⟨⟨c2, d2, t2, k2⟩, n2, g2, f2, _, w2⟩, _⟩ := I.list qb
  dsimp only at f1 w1 f2 w2
  subst f1 w1 f2 w2
  have l1 := r1.length
  have l2 := r2.length
  refine concat_meets ⟨_, g1, rfl⟩ ⟨_, g2, rfl⟩ noFill_list_add seq_list_add PySem.F.slot_list_add PySem.F.entry_list_add (PySem.F.args_list_add_2 _ _)
    (list_addW l b i1.toArray i2.toArray n1 n2 d1 d2 k1 k2 (by rw [List.size_toArray, List.size_toArray]; omega)) ⟨g1, g2, ?_⟩
  have ej : i1.toArray ++ i2.toArray = (i1 ++ i2).toArray := by simp
  rw [ej]
  exact ⟨.ref _, upd H s.heap.objs.size (.lst (xs ++ zs)), I.lnew (t' := s.toks) (r1.append r2) (by rw [List.length_append]; exact hlen), rfl, q _ I.fresh⟩
theorem os_add : OpS X (binaryOp .Add) rAddD := by
  refine ⟨_, op_add.or (op_add_str.or (op_catT.or op_joinL)), fun O H v w c d q Q so rc rd hq g1 => ?_⟩
  unfold rAddD at g1
  split at g1
  · rename_i i j
    cases rc
    cases rd
    exact .inl ⟨i, j, rfl, rfl, hq _ O H (.val (.int (i + j))) (.refl so) (.int _) g1⟩
  · rename_i xs ys
    obtain ⟨a, vs, rfl, qa, za⟩ := rc
    obtain ⟨b, ws, rfl, qb, zb⟩ := rd
    refine .inr (.inr (.inr ⟨a, b, vs, ws, rfl, rfl, ⟨qa, qb⟩, by rw [dpl_length za, dpl_length zb]; exact g1.1, fun p hp => ?_⟩))
    exact hq _ O _ (.own (xs ++ ys)) (Up.own so hp _) ⟨p, _, rfl, hp, so.free hp, upd_same, dpl_append za zb⟩ g1.2
  · rename_i x y
    cases rc
    cases rd
    exact .inr (.inl ⟨x, y, rfl, rfl, g1.1, hq _ O H (.val (.str (x ++ y))) (.refl so) (.str _) g1.2⟩)
  · rename_i xs ys
    obtain ⟨a, vs, rfl, qa, za⟩ := rc
    obtain ⟨b, ws, rfl, qb, zb⟩ := rd
    obtain ⟨n1, n2, n3⟩ := g1
    have hl := dpl_length za
    have hl2 := dpl_length zb
    have e2 : ws ≠ [] := fun z => n1.2 (List.length_eq_zero_iff.mp (by rw [← hl2, z]; rfl))
    refine .inr (.inr (.inl ⟨a, b, vs, ws, rfl, rfl, qa, qb, fun z => n1.1 (List.length_eq_zero_iff.mp (by rw [← hl, z]; rfl)), by rw [hl, hl2]; exact n2, fun z => absurd z e2, fun _ p hp => ?_⟩))
    have u2 := Up.new so hp (.tup (vs ++ ws))
    exact hq _ _ _ (.val (.tuple (xs ++ ys))) u2 (.tup (.of upd_same) (dpAll_mono u2.o (dpl_append za zb))) n3
  · exact g1.elim
end
end DL
namespace DL
variable [HotA]
open PySem L2 PyProof.Rows
section
variable {X : Cx} {W : WX}
theorem os_eq (hu : X.A.units + 64 < cLine) : OpS X (compareOp .Eq) rEqD := by
  refine ⟨_, op_eq.or (op_eqD hu), fun O H v w c d q Q so rc rd hq g1 => ?_⟩
  unfold rEqD at g1
  split at g1
  · rename_i i j
    cases rc
    cases rd
    exact .inl ⟨rfl, hq _ O H (.val (.bool (decide (i = j)))) (.refl so) (by rw [dec_int, ← Bool.beq_eq_decide_eq]; exact .bl _) g1⟩
  · rename_i x y
    cases rc
    cases rd
    exact .inl ⟨rfl, hq _ O H (.val (.bool (decide (x = y)))) (.refl so) (by rw [dec_str, ← Bool.beq_eq_decide_eq]; exact .bl _) g1⟩
  · exact .inr ⟨c, d, (rc.all so).l2 (shapedB_2 g1.1), (rd.all so).l2 (shapedB_2 g1.2.1), g1.1, g1.2.1, hq _ O H (.val (.bool _)) (.refl so) (.bl _) g1.2.2⟩
theorem os_ne (hu : X.A.units + 64 < cLine) : OpS X (compareOp .NotEq) rNeD := by
  refine ⟨_, op_ne.or (op_neD hu), fun O H v w c d q Q so rc rd hq g1 => ?_⟩
  unfold rNeD at g1
  split at g1
  · rename_i i j
    cases rc
    cases rd
    exact .inl ⟨rfl, hq _ O H (.val (.bool (!decide (i = j)))) (.refl so) (by rw [dec_int, ← Bool.beq_eq_decide_eq]; exact .bl _) g1⟩
  · rename_i x y
    cases rc
    cases rd
    exact .inl ⟨rfl, hq _ O H (.val (.bool (!decide (x = y)))) (.refl so) (by rw [dec_str, ← Bool.beq_eq_decide_eq]; exact .bl _) g1⟩
  · exact .inr ⟨c, d, (rc.all so).l2 (shapedB_2 g1.1), (rd.all so).l2 (shapedB_2 g1.2.1), g1.1, g1.2.1, hq _ O H (.val (.bool _)) (.refl so) (.bl _) g1.2.2⟩
theorem isNon_iff {K : PySem.W.Frag} {O H : Hp} {v : V} {d : D} (h : PRep K O H v d) : decide (v = .non) = isNon d := by
  cases d with
  | none => cases h; rfl
  | bool b => cases h; rfl
  | int b => cases h; rfl
  | str b => cases h; rfl
  | list b => obtain ⟨a, vs, rfl, _⟩ := h; rfl
  | tuple b => obtain ⟨a, vs, rfl, _⟩ := h; rfl
  | dict b => cases h <;> rfl
theorem os_notN : OpS X (compareOp .IsNot) rNotND := by
  refine ⟨_, op_notN, fun O H v w c d q Q so rc rd hq g1 => ?_⟩
  unfold rNotND at g1
  split at g1
  · cases rd
    refine ⟨rfl, ?_⟩
    rw [isNon_iff rc]
    exact hq _ O H (.val (.bool _)) (.refl so) (.bl _) g1
  · exact g1.elim

theorem optK_iff {α : Type} {o : Option α} {k : α → Prop} (h : optK o k) : ∃ v, o = some v ∧ k v := by
  cases o with
  | none => exact h.elim
  | some v => exact ⟨v, rfl, h⟩
theorem atI_dp {K : PySem.W.Frag} {O : Hp} {vs : List V} {ds : List D} {i : Int} {d : D} (a : DpAll K O vs ds) (h : atI ds i = some d) : ∃ v, atI vs i = some v ∧ Dp K O v d := by
  unfold atI at h ⊢
  rw [dpl_length a]
  cases e : ixN ds.length i with
  | none => rw [e] at h; cases h
  | some j =>
    rw [e] at h
    exact dpl_at a h
theorem je_ix {a b : Expr} {pos : Pos} {da db : EP} (ha : JP X W a da) (hb : JP X W b db) (hs : PlainIx b := by exact fun _ _ => rfl) : JE X W (.Subscript a b pos) (eOp rIxD da db) := by
  obtain ⟨ta, pa, sa⟩ := ha.ex
  obtain ⟨tb, pb, sb⟩ := hb.ex
  refine ⟨_, pe_ix ix_seq pa pb hs, snd_two sa sb (R := RE X.K) (r := rIx X.K) (fun _ _ _ _ _ _ e => SRep.back e) fun O H v w c d q Q so rc rd hq g1 => ?_⟩
  unfold rIxD at g1
  split at g1
  · rename_i xs i
    obtain ⟨e, h1, h2⟩ := optK_iff g1
    obtain ⟨a, vs, rfl, qa, za⟩ := rc
    cases rd
    obtain ⟨u, h3, h4⟩ := atI_dp za h1
    exact .inl ⟨a, vs, i, u, rfl, rfl, qa, h3, hq _ O H (.val e) (.refl so) h4 h2⟩
  · rename_i xs i
    obtain ⟨e, h1, h2⟩ := optK_iff g1
    obtain ⟨a, vs, rfl, qa, za⟩ := rc
    cases rd
    obtain ⟨u, h3, h4⟩ := atI_dp za h1
    exact .inr (.inl ⟨a, vs, i, u, rfl, rfl, qa, h3, hq _ O H (.val e) (.refl so) h4 h2⟩)
  · rename_i z i
    obtain ⟨hz, g1⟩ := g1
    obtain ⟨e, h1, h2⟩ := optK_iff g1
    cases rc
    cases rd
    exact .inr (.inr ⟨z, i, e, rfl, rfl, hz, h1, hq _ O H (.val (.str ⟨#[e]⟩)) (.refl so) (.str _) h2⟩)
  · exact g1.elim
theorem nat_at {α : Type} {xs : List α} {j : Nat} {v : α} (h : xs[j]? = some v) {i : Int} (e : i = (j : Int)) : atI xs i = some v := by subst e; exact atI_nat h
theorem atI_0 {α : Type} (a : α) (l : List α) : atI (a :: l) 0 = some a := nat_at (j := 0) rfl rfl
theorem atI_1 {α : Type} (a b : α) (l : List α) : atI (a :: b :: l) 1 = some b := nat_at (j := 1) rfl rfl
theorem atI_2 {α : Type} (a b c : α) (l : List α) : atI (a :: b :: c :: l) 2 = some c := nat_at (j := 2) rfl rfl
theorem atI_3 {α : Type} (a b c d : α) (l : List α) : atI (a :: b :: c :: d :: l) 3 = some d := nat_at (j := 3) rfl rfl
theorem atI_4 {α : Type} (a b c d e : α) (l : List α) : atI (a :: b :: c :: d :: e :: l) 4 = some e := nat_at (j := 4) rfl rfl
theorem atI_5 {α : Type} (a b c d e f : α) (l : List α) : atI (a :: b :: c :: d :: e :: f :: l) 5 = some f := nat_at (j := 5) rfl rfl
def rLenD : RD
  | [.list xs], q => q (.val (.int xs.length))
  | [.tuple xs], q => q (.val (.int xs.length))
  | [.str z], q => z.length ≤ sizeLine ∧ q (.val (.int z.length))
  | _, _ => False
theorem pall1 {K : PySem.W.Frag} {O H : Hp} {vs : List V} {d : D} (h : PAll K O H vs [d]) : ∃ v, vs = [v] ∧ PRep K O H v d := by
  cases h with
  | cons a b => cases b; exact ⟨_, rfl, a⟩
theorem pall2 {K : PySem.W.Frag} {O H : Hp} {vs : List V} {d e : D} (h : PAll K O H vs [d, e]) : ∃ v w, vs = [v, w] ∧ PRep K O H v d ∧ PRep K O H w e := by
  cases h with
  | cons a b =>
    cases b with
    | cons b c => cases c; exact ⟨_, _, rfl, a, b⟩
theorem cs_len : CallS X (.builtin "len") rLenD := by
  refine ⟨_, call_len, fun O H vs ds q Q so ra hq g1 => ?_⟩
  unfold rLenD at g1
  split at g1
  · rename_i xs
    obtain ⟨v, rfl, a, ws, rfl, qa, za⟩ := pall1 ra
    refine ⟨.ref a, ws.length, rfl, .inl ⟨ws, qa, rfl⟩, ?_⟩
    rw [dpl_length za]
    exact hq _ O H (.val (.int _)) (.refl so) (.int _) g1
  · rename_i xs
    obtain ⟨v, rfl, a, ws, rfl, qa, za⟩ := pall1 ra
    refine ⟨.ref a, ws.length, rfl, .inr ⟨ws, qa, rfl⟩, ?_⟩
    rw [dpl_length za]
    exact hq _ O H (.val (.int _)) (.refl so) (.int _) g1
  · rename_i z
    obtain ⟨v, rfl, r⟩ := pall1 ra
    cases r
    exact ⟨.str z, z.length, rfl, ⟨g1.1, rfl⟩, hq _ O H (.val (.int _)) (.refl so) (.int _) g1.2⟩
  · exact g1.elim
def rAbsD : RD
  | [.int i], q => q (.val (.int (if i < 0 then -i else i)))
  | _, _ => False
theorem cs_abs : CallS X (.builtin "abs") rAbsD := by
  refine ⟨_, call_abs, fun O H vs ds q Q so ra hq g1 => ?_⟩
  unfold rAbsD at g1
  split at g1
  · rename_i i
    obtain ⟨v, rfl, r⟩ := pall1 ra
    cases r
    exact ⟨i, rfl, hq _ O H (.val (.int _)) (.refl so) (.int _) g1⟩
  · exact g1.elim
def rMax2D : RD
  | [.int i, .int j], q => q (.val (.int (if j > i then j else i)))
  | _, _ => False
def rMin2D : RD
  | [.int i, .int j], q => q (.val (.int (if j < i then j else i)))
  | _, _ => False
def bools : List D → Option (List Bool)
  | [] => some []
  | .bool b :: r => (bools r).map (b :: ·)
  | _ :: _ => none
def nums : List D → Option (List Int)
  | [] => some []
  | .int b :: r => (nums r).map (b :: ·)
  | _ :: _ => none
theorem bools_of {K : PySem.W.Frag} {O : Hp} : ∀ {vs : List V} {ds : List D} {bs : List Bool}, DpAll K O vs ds → bools ds = some bs → vs = bs.map V.bl
  | _, _, _, .nil, e => by cases e; rfl
  | _, _, _, .cons h a, e => by
    cases h with
    | bl b =>
      unfold bools at e
      cases q : bools _ with
      | none => rw [q] at e; cases e
      | some cs =>
        rw [q] at e
        cases e
        rw [bools_of a q]
        rfl
    | non => cases e
    | int _ => cases e
    | str _ => cases e
    | lst _ _ => cases e
    | tup _ _ => cases e
    | exc0 _ _ => cases e
    | exc1 _ _ _ _ => cases e
theorem nums_of {K : PySem.W.Frag} {O : Hp} : ∀ {vs : List V} {ds : List D} {bs : List Int}, DpAll K O vs ds → nums ds = some bs → vs = bs.map V.int
  | _, _, _, .nil, e => by cases e; rfl
  | _, _, _, .cons h a, e => by
    cases h with
    | int b =>
      unfold nums at e
      cases q : nums _ with
      | none => rw [q] at e; cases e
      | some cs =>
        rw [q] at e
        cases e
        rw [nums_of a q]
        rfl
    | non => cases e
    | bl _ => cases e
    | str _ => cases e
    | lst _ _ => cases e
    | tup _ _ => cases e
    | exc0 _ _ => cases e
    | exc1 _ _ _ _ => cases e
def rAllD : RD
  | [.list xs], q => ∃ bs, bools xs = some bs ∧ q (.val (.bool (bs.all id)))
  | _, _ => False
def rAnyD : RD
  | [.list xs], q => ∃ bs, bools xs = some bs ∧ q (.val (.bool (bs.any id)))
  | _, _ => False
theorem cs_all (hc : X.calm = true) : CallS X (.builtin "all") rAllD := by
  refine ⟨_, cr_all hc, fun O H vs ds q Q so ra hq g1 => ?_⟩
  unfold rAllD at g1
  split at g1
  · rename_i xs
    obtain ⟨v, rfl, a, ws, rfl, qa, za⟩ := pall1 ra
    obtain ⟨bs, hb, g1⟩ := g1
    have e := bools_of za hb
    subst e
    exact ⟨a, bs, rfl, qa, hq _ O H (.val (.bool _)) (.refl so) (.bl _) g1⟩
  · exact g1.elim
def rSumD : RD
  | [.list xs], q => ∃ ns, nums xs = some ns ∧ q (.val (.int ns.sum))
  | _, _ => False
theorem cs_sum (hc : X.calm = true) : CallS X (.builtin "sum") rSumD := by
  refine ⟨_, cr_sum hc, fun O H vs ds q Q so ra hq g1 => ?_⟩
  unfold rSumD at g1
  split at g1
  · rename_i xs
    obtain ⟨v, rfl, a, ws, rfl, qa, za⟩ := pall1 ra
    obtain ⟨bs, hb, g1⟩ := g1
    have e := nums_of za hb
    subst e
    exact ⟨a, bs, rfl, qa, hq _ O H (.val (.int _)) (.refl so) (.int _) g1⟩
  · exact g1.elim
def rTupleD : RD
  | [.list xs], q => q (.val (.tuple xs))
  | _, _ => False
theorem cs_tuple : CallS X (.type "tuple") rTupleD := by
  refine ⟨_, call_tuple_of, fun O H vs ds q Q so ra hq g1 => ?_⟩
  unfold rTupleD at g1
  split at g1
  · rename_i xs
    obtain ⟨v, rfl, a, ws, rfl, qa, za⟩ := pall1 ra
    refine ⟨a, ws, rfl, .inl ⟨qa, fun l hl => ?_⟩⟩
    have u2 := Up.new so hl (.tup ws)
    exact hq _ _ _ (.val (.tuple xs)) u2 (.tup (.of upd_same) (dpAll_mono u2.o za)) g1
  · exact g1.elim
def rListD : RD
  | [.list xs], q => q (.own xs)
  | [.tuple xs], q => q (.own xs)
  | _, _ => False
theorem cs_list : CallS X (.type "list") rListD := by
  refine ⟨_, call_list_of, fun O H vs ds q Q so ra hq g1 => ?_⟩
  unfold rListD at g1
  split at g1
  · rename_i xs
    obtain ⟨v, rfl, a, ws, rfl, qa, za⟩ := pall1 ra
    refine ⟨a, ws, rfl, .inl qa, fun l hl => ?_⟩
    exact hq _ _ _ (.own xs) (.own so hl (.lst ws)) ⟨l, ws, rfl, hl, so.free hl, upd_same, za⟩ g1
  · rename_i xs
    obtain ⟨v, rfl, a, ws, rfl, qa, za⟩ := pall1 ra
    refine ⟨a, ws, rfl, .inr qa, fun l hl => ?_⟩
    exact hq _ _ _ (.own xs) (.own so hl (.lst ws)) ⟨l, ws, rfl, hl, so.free hl, upd_same, za⟩ g1
  · exact g1.elim
def rIntCD : RD
  | [.int i], q => q (.val (.int i))
  | [.bool b], q => q (.val (.int (if b then 1 else 0)))
  | _, _ => False
theorem cs_int : CallS X (.type "int") rIntCD := by
  refine ⟨_, call_int1, fun O H vs ds q Q so ra hq g1 => ?_⟩
  unfold rIntCD at g1
  split at g1
  · rename_i i
    obtain ⟨v, rfl, r⟩ := pall1 ra
    cases r
    exact .inl ⟨i, rfl, hq _ O H (.val (.int _)) (.refl so) (.int _) g1⟩
  · rename_i b
    obtain ⟨v, rfl, r⟩ := pall1 ra
    cases r
    exact .inr ⟨b, rfl, hq _ O H (.val (.int _)) (.refl so) (.int _) g1⟩
  · exact g1.elim
def tyD : D → String
  | .none => "NoneType"
  | .bool _ => "bool"
  | .int _ => "int"
  | .str _ => "str"
  | .list _ => "list"
  | .tuple _ => "tuple"
  | .dict _ => "dict"
def isD (T : String) (d : D) : Bool := (kitB (tyD d) T).getD false
def noDict : D → Bool
  | .dict _ => false
  | _ => true
theorem tyx_of {K : PySem.W.Frag} {O H : Hp} {v : V} {d : D} (h : PRep K O H v d) (nd : noDict d = true) : TyX K H v (.type (tyD d)) := by
  cases d with
  | none => cases h; exact .base .non
  | bool b => cases h; exact .base (.bl b)
  | int b => cases h; exact .base (.int b)
  | str b => cases h; exact .base (.str b)
  | list b =>
    obtain ⟨a, vs, rfl, q, _⟩ := h
    rcases q with (q | ⟨o, q⟩) | ⟨o, its, n, q, c, _⟩
    · exact .base (.lst q)
    · exact .base (.frz q)
    · exact .kList q c
  | tuple b =>
    obtain ⟨a, vs, rfl, q, _⟩ := h
    rcases q with (q | ⟨o, q⟩) | ⟨o, its, n, q, c, _⟩
    · exact .base (.tup q)
    · exact .fTuple q
    · exact .kTuple q c
  | dict b => cases nd
def eIsi (T : String) (e : EP) : ES := fun x δ q => e x δ fun d => noDict d = true ∧ q (.val (.bool (isD T d)))
theorem je_isi {T : String} {e : Expr} {p1 p2 pos : Pos} {TN : Str} {de : EP} (hm : X.mg "isinstance" = none) (hmT : X.mg TN = none) (hvT : bootBuiltins TN = some (.type T)) (hk : ∀ d, (kitB (tyD d) T).isSome = true) (h : JP X W e de)
    (hg : Gl X "isinstance" := by rfl) (hgT : Gl X TN := by rfl) (hnT : TN ≠ "__name__" := by decide) (hdT : (TN == ("__debug__" : Str)) = false := by decide)
    (hs : starEach (e :: [.Name TN p2]) X.env = (false, eval e X.env) :: starEach [.Name TN p2] X.env := by rfl) (hs2 : starEach [.Name TN p2] X.env = (false, eval (.Name TN p2) X.env) :: starEach [] X.env := by rfl)
    (hpl : (backTo pos (starEach [.Name TN p2] X.env)).any (·.1) = false := by rfl) :
    JE X W (.Call (.Name "isinstance" p1) [e, .Name TN p2] [] pos) (eIsi T de) := by
  obtain ⟨te, p, s⟩ := h.ex
  refine ⟨_, pe_callB call_isi hg hm (by decide +kernel) (pa_cons p (pa_cons (pe_bltn (v := .ty T) hgT hmT hvT rfl hnT hdT) pa_nil hs2) hs) (by decide) (by decide) hs hpl, fun O H H0 σ δ x q Q so env hx hq g => ?_⟩
  refine s O H H0 σ δ x _ _ so env hx (fun v O1 H1 d u1 r1 g1 => ?_) g
  have hkd := hk d
  refine ⟨v, .ty T, .type (tyD d), .type T, isD T d, rfl, .ty T, tyx_of r1 g1.1, kit_ty ?_, hq _ O1 H1 (.val (.bool (isD T d))) u1 (.bl _) g1.2⟩
  unfold isD
  cases e : kitB (tyD d) T with
  | none => rw [e] at hkd; cases hkd
  | some b => rfl
end
end DL

namespace DL
variable [HotA]
open PySem L2
def tOf {α β : Type} (K : PySem.W.Frag) (mg : Str → Option Value) (W : WX) (R : Hp → Hp → Hp → α → β → Prop) (de : XP → List S → (β → Prop) → Prop) : L2.St → Hp → (α → Hp → Prop) → Prop := fun σ H Q =>
  ∃ (O H0 : Hp) (δ : List S) (x : XP) (q : β → Prop), Same O H ∧ EnvR K H0 O H σ δ ∧ (∀ e cls d O' H', Up O H O' H' → XRep K mg O' H' e cls d → x e → W cls d σ H') ∧
    (∀ a O' H' b, Up O H O' H' → R H O' H' a b → q b → Q a H') ∧ de x δ q
theorem tOf_snd {α β : Type} {K : PySem.W.Frag} {mg : Str → Option Value} {W : WX} {R : Hp → Hp → Hp → α → β → Prop} {de : XP → List S → (β → Prop) → Prop} : Snd K mg W R (tOf K mg W R de) de :=
  fun O H H0 σ δ x q Q so env hx hq g => ⟨O, H0, δ, x, q, so, env, hx, hq, g⟩
theorem tOf_le {α β : Type} {K : PySem.W.Frag} {mg : Str → Option Value} {W : WX} {R : Hp → Hp → Hp → α → β → Prop} {te : L2.St → Hp → (α → Hp → Prop) → Prop} {de : XP → List S → (β → Prop) → Prop} (s : Snd K mg W R te de) {σ : L2.St} {H : Hp} {Q : α → Hp → Prop}
    (h : tOf K mg W R de σ H Q) : te σ H Q := by
  obtain ⟨O, H0, δ, x, q, so, env, hx, hq, g⟩ := h
  exact s O H H0 σ δ x q Q so env hx hq g
theorem JE.can {X : Cx} {W : WX} {e : Expr} {de : ES} (h : JE X W e de) : PE X e (tOf X.K X.mg W (RE X.K) de) := by
  obtain ⟨te, p, s⟩ := h.ex
  exact ⟨fun pins st σ H Q I g => p.run pins st σ H Q I (tOf_le s g)⟩
theorem JT.can {X : Cx} {W : WX} {e : Expr} {de : ET} (h : JT X W e de) : PT X e (tOf X.K X.mg W RT de) := by
  obtain ⟨te, p, s⟩ := h.ex
  exact ⟨fun pins st σ H Q I g => p.run pins st σ H Q I (tOf_le s g)⟩
def JTs (X : Cx) (W : WX) (ifs : List Expr) (de : ET) : Prop := PTs X ifs (tOf X.K X.mg W RT de)
def tYesD : ET := fun _ _ q => q true
theorem jts_nil {X : Cx} {W : WX} : JTs X W [] tYesD := ⟨fun pins s σ H Q I h => pts_nil.run pins s σ H Q I (by
  obtain ⟨O, H0, δ, x, q, so, env, hx, hq, g⟩ := h
  exact hq true O H true (.refl so) rfl g)⟩
theorem jts_one {X : Cx} {W : WX} {c : Expr} {de : ET} (h : JT X W c de) : JTs X W [c] de := pts_one h.can

theorem wipe_put {σ : L2.St} {i : Nat} {x : Option V} : ∀ {vs : List Nat}, i ∈ vs → wipe (σ.set i x) vs = wipe σ vs
  | [], h => by cases h
  | v :: vs, h => by
    unfold wipe
    by_cases hi : i ∈ vs
    · rw [wipe_put hi]
    · have hv : i = v := by
        rcases List.mem_cons.mp h with z | z
        · exact z
        · exact absurd z hi
      have out : ∀ {ws : List Nat}, i ∉ ws → wipe (σ.set i x) ws = (wipe σ ws).set i x := by
        intro ws
        induction ws with
        | nil => intro _; rfl
        | cons w r ih =>
          intro hw
          unfold wipe
          rw [ih fun z => hw (List.mem_cons_of_mem _ z)]
          exact List.set_comm _ _ fun z => hw (by rw [z]; exact List.mem_cons_self)
      rw [out hi, hv, List.set_set]
theorem EnvR.put {K : PySem.W.Frag} {H0 O H : Hp} {σ : L2.St} {δ : List S} (r : EnvR K H0 O H σ δ) {v : V} {d : D} (i : Nat) (h : Dp K O v d) : EnvR K H0 O H (σ.set i (some v)) (put δ i (.val d)) where
  len := by rw [List.length_set, put_length, r.len]
  val := fun j e z => by
    by_cases hj : j = i
    · subst hj
      have hl := lk_lt z (by intro y; cases y)
      rw [put_length] at hl
      rw [lk_put_same hl] at z
      cases z
      exact ⟨v, List.getElem?_set_self (by rw [r.len]; exact hl), h⟩
    · rw [lk_put_ne hj] at z
      rw [List.getElem?_set_ne (Ne.symm hj)]
      exact r.val j e z
  own := fun j ds z => by
    by_cases hj : j = i
    · subst hj
      have hl := lk_lt z (by intro y; cases y)
      rw [put_length] at hl
      rw [lk_put_same hl] at z
      cases z
    · rw [lk_put_ne hj] at z
      rw [List.getElem?_set_ne (Ne.symm hj)]
      exact r.own j ds z
  inj := fun j k ds es z1 z2 e => by
    have n1 : j ≠ i := fun hj => by
      subst hj
      have hl := lk_lt z1 (by intro y; cases y)
      rw [put_length] at hl
      rw [lk_put_same hl] at z1
      cases z1
    have n2 : k ≠ i := fun hj => by
      subst hj
      have hl := lk_lt z2 (by intro y; cases y)
      rw [put_length] at hl
      rw [lk_put_same hl] at z2
      cases z2
    rw [lk_put_ne n1] at z1
    rw [lk_put_ne n2] at z2
    rw [List.getElem?_set_ne (Ne.symm n1), List.getElem?_set_ne (Ne.symm n2)] at e
    exact r.inj j k ds es z1 z2 e
  adr := fun j a z => by
    by_cases hj : j = i
    · subst hj
      have hl := lk_lt z (by intro y; cases y)
      rw [put_length] at hl
      rw [lk_put_same hl] at z
      cases z
    · rw [lk_put_ne hj] at z
      rw [List.getElem?_set_ne (Ne.symm hj)]
      exact r.adr j a z
  ob := r.ob.put i _ ⟨by simp, by simp⟩
  tt := r.tt
theorem EnvR.wipe1 {K : PySem.W.Frag} {H0 O H : Hp} {σ : L2.St} {δ : List S} (r : EnvR K H0 O H σ δ) (i : Nat) : EnvR K H0 O H (σ.set i none) (DL.put δ i .no) where
  len := by rw [List.length_set, put_length, r.len]
  val := fun j e z => by
    by_cases hj : j = i
    · subst hj
      have hl := lk_lt z (by intro y; cases y)
      rw [put_length] at hl
      rw [lk_put_same hl] at z
      cases z
    · rw [lk_put_ne hj] at z
      rw [List.getElem?_set_ne (Ne.symm hj)]
      exact r.val j e z
  own := fun j ds z => by
    by_cases hj : j = i
    · subst hj
      have hl := lk_lt z (by intro y; cases y)
      rw [put_length] at hl
      rw [lk_put_same hl] at z
      cases z
    · rw [lk_put_ne hj] at z
      rw [List.getElem?_set_ne (Ne.symm hj)]
      exact r.own j ds z
  inj := fun j k ds es z1 z2 e => by
    have n1 : j ≠ i := fun hj => by
      subst hj
      have hl := lk_lt z1 (by intro y; cases y)
      rw [put_length] at hl
      rw [lk_put_same hl] at z1
      cases z1
    have n2 : k ≠ i := fun hj => by
      subst hj
      have hl := lk_lt z2 (by intro y; cases y)
      rw [put_length] at hl
      rw [lk_put_same hl] at z2
      cases z2
    rw [lk_put_ne n1] at z1
    rw [lk_put_ne n2] at z2
    rw [List.getElem?_set_ne (Ne.symm n1), List.getElem?_set_ne (Ne.symm n2)] at e
    exact r.inj j k ds es z1 z2 e
  adr := fun j a z => by
    by_cases hj : j = i
    · subst hj
      have hl := lk_lt z (by intro y; cases y)
      rw [put_length] at hl
      rw [lk_put_same hl] at z
      cases z
    · rw [lk_put_ne hj] at z
      rw [List.getElem?_set_ne (Ne.symm hj)]
      exact r.adr j a z
  ob := r.ob.put i _ ⟨by simp, by simp⟩
  tt := r.tt
theorem EnvR.wipe {K : PySem.W.Frag} {H0 O H : Hp} {σ : L2.St} {δ : List S} (r : EnvR K H0 O H σ δ) : ∀ vs : List Nat, EnvR K H0 O H (L2.wipe σ vs) (wipeD δ vs)
  | [] => r
  | v :: vs => (EnvR.wipe r vs).wipe1 v
theorem EnvR.putOwn {K : PySem.W.Frag} {H0 O H : Hp} {σ : L2.St} {δ : List S} (r : EnvR K H0 O H σ δ) {p : Addr} {vs : List V} {ds : List D} (i : Nat) (h0 : H0 p = none) (ho : O p = none) (hh : H p = some (.lst vs)) (a : DpAll K O vs ds)
    (new : ∀ (j : Nat) (es : List D), j ≠ i → lk δ j = .own es → σ[j]? ≠ some (some (.ref p))) (newO : ∀ j v d fp, j ≠ i → lk δ j = .obj v d fp → p ∉ fp) : EnvR K H0 O H (σ.set i (some (.ref p))) (DL.put δ i (.own ds)) where
  len := by rw [List.length_set, put_length, r.len]
  val := fun j e z => by
    by_cases hj : j = i
    · subst hj
      have hl := lk_lt z (by intro y; cases y)
      rw [put_length] at hl
      rw [lk_put_same hl] at z
      cases z
    · rw [lk_put_ne hj] at z
      rw [List.getElem?_set_ne (Ne.symm hj)]
      exact r.val j e z
  own := fun j es z => by
    by_cases hj : j = i
    · subst hj
      have hl := lk_lt z (by intro y; cases y)
      rw [put_length] at hl
      rw [lk_put_same hl] at z
      cases z
      exact ⟨p, vs, List.getElem?_set_self (by rw [r.len]; exact hl), h0, ho, hh, a⟩
    · rw [lk_put_ne hj] at z
      rw [List.getElem?_set_ne (Ne.symm hj)]
      exact r.own j es z
  inj := fun j k es fs z1 z2 e => by
    by_cases hj : j = i
    · by_cases hk : k = i
      · rw [hj, hk]
      · exfalso
        subst hj
        have hl := lk_lt z1 (by intro y; cases y)
        rw [put_length] at hl
        rw [lk_put_ne hk] at z2
        rw [List.getElem?_set_self (by rw [r.len]; exact hl), List.getElem?_set_ne (Ne.symm hk)] at e
        exact new k fs hk z2 e.symm
    · by_cases hk : k = i
      · exfalso
        subst hk
        have hl := lk_lt z2 (by intro y; cases y)
        rw [put_length] at hl
        rw [lk_put_ne hj] at z1
        rw [List.getElem?_set_self (by rw [r.len]; exact hl), List.getElem?_set_ne (Ne.symm hj)] at e
        exact new j es hj z1 e
      · rw [lk_put_ne hj] at z1
        rw [lk_put_ne hk] at z2
        rw [List.getElem?_set_ne (Ne.symm hj), List.getElem?_set_ne (Ne.symm hk)] at e
        exact r.inj j k es fs z1 z2 e
  adr := fun j a z => by
    by_cases hj : j = i
    · subst hj
      have hl := lk_lt z (by intro y; cases y)
      rw [put_length] at hl
      rw [lk_put_same hl] at z
      cases z
    · rw [lk_put_ne hj] at z
      rw [List.getElem?_set_ne (Ne.symm hj)]
      exact r.adr j a z
  ob := r.ob.putOwn i newO
  tt := r.tt
theorem EnvR.putObj {K : PySem.W.Frag} {H0 O H : Hp} {σ : L2.St} {δ : List S} (r : EnvR K H0 O H σ δ) {v : V} {d : D} {fp : List Addr} (i : Nat) (a : Ow K O H v d fp) (nd : fp.Nodup) (fr : ∀ b ∈ fp, H0 b = none ∧ O b = none)
    (n1 : ∀ j es p, j ≠ i → lk δ j = .own es → σ[j]? = some (some (.ref p)) → p ∉ fp) (n2 : ∀ j w e gp, j ≠ i → lk δ j = .obj w e gp → ∀ b ∈ fp, b ∉ gp) : EnvR K H0 O H (σ.set i (some v)) (DL.put δ i (.obj v d fp)) := by
  have ne : ∀ {j : Nat} {t : S}, lk (DL.put δ i (.obj v d fp)) j = t → (∀ w e gp, t ≠ .obj w e gp) → t ≠ .no → j ≠ i ∧ lk δ j = t := fun {j t} h n n0 => by
    by_cases hj : j = i
    · subst hj
      by_cases hl : j < δ.length
      · rw [lk_put_same hl] at h
        exact absurd h.symm (n _ _ _)
      · rw [lk_out (by rw [put_length]; omega)] at h
        exact absurd h.symm n0
    · rw [lk_put_ne hj] at h
      exact ⟨hj, h⟩
  have at_i : ∀ {j : Nat} {w : V} {e : D} {gp : List Addr}, lk (DL.put δ i (.obj v d fp)) j = .obj w e gp → (j = i ∧ j < δ.length ∧ w = v ∧ e = d ∧ gp = fp) ∨ (j ≠ i ∧ lk δ j = .obj w e gp) := fun {j w e gp} h => by
    by_cases hj : j = i
    · subst hj
      by_cases hl : j < δ.length
      · rw [lk_put_same hl] at h
        cases h
        exact .inl ⟨rfl, hl, rfl, rfl, rfl⟩
      · rw [lk_out (by rw [put_length]; omega)] at h
        cases h
    · rw [lk_put_ne hj] at h
      exact .inr ⟨hj, h⟩
  refine ⟨by rw [List.length_set, put_length, r.len], fun j x h => ?_, fun j es h => ?_, fun j k es fs h1 h2 q => ?_, fun j b h => ?_, ⟨fun j w e gp h => ?_, fun j k es w e gp p h1 h2 q => ?_, fun j k w e gp w' e' gp' n h1 h2 => ?_⟩, r.tt⟩
  · obtain ⟨n, h'⟩ := ne h (by simp) (by simp)
    rw [List.getElem?_set_ne (Ne.symm n)]
    exact r.val j x h'
  · obtain ⟨n, h'⟩ := ne h (by simp) (by simp)
    rw [List.getElem?_set_ne (Ne.symm n)]
    exact r.own j es h'
  · obtain ⟨m1, h1'⟩ := ne h1 (by simp) (by simp)
    obtain ⟨m2, h2'⟩ := ne h2 (by simp) (by simp)
    rw [List.getElem?_set_ne (Ne.symm m1), List.getElem?_set_ne (Ne.symm m2)] at q
    exact r.inj j k es fs h1' h2' q
  · obtain ⟨n, h'⟩ := ne h (by simp) (by simp)
    rw [List.getElem?_set_ne (Ne.symm n)]
    exact r.adr j b h'
  · rcases at_i h with ⟨rfl, hl, rfl, rfl, rfl⟩ | ⟨n, h'⟩
    · exact ⟨List.getElem?_set_self (by rw [r.len]; exact hl), a, nd, fr⟩
    · rw [List.getElem?_set_ne (Ne.symm n)]
      exact r.ob.obj j w e gp h'
  · obtain ⟨m1, h1'⟩ := ne h1 (by simp) (by simp)
    rw [List.getElem?_set_ne (Ne.symm m1)] at q
    rcases at_i h2 with ⟨rfl, hl, rfl, rfl, rfl⟩ | ⟨n, h2'⟩
    · exact n1 j es p m1 h1' q
    · exact r.ob.oo j k es w e gp p h1' h2' q
  · rcases at_i h1 with ⟨rfl, hl, rfl, rfl, rfl⟩ | ⟨m1, h1'⟩
    · rcases at_i h2 with ⟨rfl, _, rfl, rfl, rfl⟩ | ⟨m2, h2'⟩
      · exact absurd rfl n
      · exact n2 k w' e' gp' m2 h2'
    · rcases at_i h2 with ⟨rfl, _, rfl, rfl, rfl⟩ | ⟨m2, h2'⟩
      · exact fun b hb hg => n2 j w e gp m1 h1' b hg hb
      · exact r.ob.pp j k w e gp w' e' gp' n h1' h2'
theorem EnvR.drop {K : PySem.W.Frag} {H0 O H : Hp} {σ : L2.St} {δ : List S} (r : EnvR K H0 O H σ δ) (i : Nat) : EnvR K H0 O H σ (DL.put δ i .no) := by
  have ne : ∀ {j : Nat} {t : S}, lk (DL.put δ i .no) j = t → t ≠ .no → lk δ j = t := fun {j t} h n0 => by
    by_cases hj : j = i
    · subst hj
      by_cases hl : j < δ.length
      · rw [lk_put_same hl] at h
        exact absurd h.symm n0
      · rw [lk_out (by rw [put_length]; omega)] at h
        exact absurd h.symm n0
    · rw [lk_put_ne hj] at h
      exact h
  exact ⟨by rw [put_length]; exact r.len, fun j d h => r.val j d (ne h (by simp)), fun j ds h => r.own j ds (ne h (by simp)), fun j k ds es h1 h2 q => r.inj j k ds es (ne h1 (by simp)) (ne h2 (by simp)) q, fun j a h => r.adr j a (ne h (by simp)), r.ob.drop i, r.tt⟩
theorem EnvR.grow {K : PySem.W.Frag} {H0 O O' H : Hp} {σ : L2.St} {δ : List S} (r : EnvR K H0 O H σ δ) (so : Same O O') (h1 : ∀ j ds p, lk δ j = .own ds → σ[j]? = some (some (.ref p)) → O' p = none) (h2 : ∀ j v d fp, lk δ j = .obj v d fp → ∀ b ∈ fp, O' b = none) (ht : ∀ p ∈ tabT, O' p.1 = none) : EnvR K H0 O' H σ δ :=
  ⟨r.len, fun j d h => let ⟨v, e, q⟩ := r.val j d h; ⟨v, e, dp_mono so q⟩, fun j ds h => let ⟨p, vs, e, n, _, z, a⟩ := r.own j ds h; ⟨p, vs, e, n, h1 j ds p h e, z, dpAll_mono so a⟩, r.inj, r.adr, r.ob.grow so h2, ⟨r.tt.t, ht, fun p hp => so _ _ (r.tt.x p hp)⟩⟩
def GSnd (K : PySem.W.Frag) (js : List Nat) (g : TG) (dg : EG) : Prop := ∀ (H0 O H O1 H1 : Hp) (σ : L2.St) (δ : List S) (v : V) (s : S) (q : List S → Prop) (Q : L2.St → Hp → Prop), Sam H0 H → EnvR K H0 O H σ δ → Up O H O1 H1 → SRep K H O1 H1 v s →
  (∀ σ' O2 δ', Up O H O2 H1 → EnvR K H0 O2 H1 σ' δ' → (∀ vs : List Nat, (∀ j ∈ js, j ∈ vs) → wipe σ' vs = wipe σ vs) → q δ' → Q σ' H1) → dg s δ q → g v σ H1 Q
structure JG (X : Cx) (js : List Nat) (tg : Expr) (dg : EG) : Prop where
  ex : ∃ g, PG X tg g ∧ GSnd X.K js g dg
def gOf (K : PySem.W.Frag) (js : List Nat) (dg : EG) : TG := fun v σ H1 Q => ∃ (H0 O H O1 : Hp) (δ : List S) (s : S) (q : List S → Prop), Sam H0 H ∧ EnvR K H0 O H σ δ ∧ Up O H O1 H1 ∧ SRep K H O1 H1 v s ∧
  (∀ σ' O2 δ', Up O H O2 H1 → EnvR K H0 O2 H1 σ' δ' → (∀ vs : List Nat, (∀ j ∈ js, j ∈ vs) → wipe σ' vs = wipe σ vs) → q δ' → Q σ' H1) ∧ dg s δ q
theorem gOf_snd {K : PySem.W.Frag} {js : List Nat} {dg : EG} : GSnd K js (gOf K js dg) dg := fun H0 O H O1 H1 σ δ v s q Q h0 env u r hq g => ⟨H0, O, H, O1, δ, s, q, h0, env, u, r, hq, g⟩
theorem JG.can {X : Cx} {js : List Nat} {tg : Expr} {dg : EG} (h : JG X js tg dg) : PG X tg (gOf X.K js dg) := by
  obtain ⟨g, p, s⟩ := h.ex
  refine ⟨fun pins st σ H v u Q I r w => p.run pins st σ H v u Q I r ?_⟩
  obtain ⟨H0, O, H2, O1, δ, s', q, h0, env, up, sr, hq, d⟩ := w
  exact s H0 O H2 O1 H σ δ v s' q _ h0 env up sr hq d
section
variable {X : Cx} {W : WX} {pos : Pos}
theorem gsnd_var {K : PySem.W.Frag} (i : Nat) : GSnd K [i] (gName i) (gVar i) := by
  intro H0 O H O1 H1 σ δ v s q Q h0 env u r hq g
  have wp : ∀ vs : List Nat, (∀ j ∈ [i], j ∈ vs) → wipe (σ.set i (some v)) vs = wipe σ vs := fun vs h => wipe_put (h i List.mem_cons_self)
  cases s with
  | no => exact r.elim
  | adr _ => exact r.elim
  | val d => exact hq _ O1 _ u ((env.up u).put i r) wp g
  | own ds =>
    obtain ⟨p, vs, rfl, n, o, z, a⟩ := r
    refine hq _ O1 _ u ((env.up u).putOwn i (h0.free n) o z a (fun j es _ hj e => ?_) fun j w e fp _ hj hp => (env.ob.obj j w e fp hj).2.1.there _ hp n) wp g
    obtain ⟨p', vs', e', _, _, z', _⟩ := env.own j es hj
    rw [e'] at e
    cases e
    rw [n] at z'
    cases z'
  | obj w d fp =>
    obtain ⟨rfl, a, nd, fr⟩ := r
    refine hq _ O1 _ u ((env.up u).putObj i a nd (fun b hb => ⟨h0.free (fr b hb).1, (fr b hb).2⟩) (fun j es p _ hj e hp => ?_) fun j w e gp _ hj b hb hg => (env.ob.obj j w e gp hj).2.1.there b hg (fr b hb).1) wp g
    obtain ⟨p', vs', e', _, _, z', _⟩ := env.own j es hj
    rw [e'] at e
    cases e
    rw [(fr p hp).1] at z'
    cases z'
theorem gsnd_val {K : PySem.W.Frag} (i : Nat) : GSnd K [i] (gName i) (gVal i) := by
  intro H0 O H O1 H1 σ δ v s q Q h0 env u r hq g
  have wp : ∀ vs : List Nat, (∀ j ∈ [i], j ∈ vs) → wipe (σ.set i (some v)) vs = wipe σ vs := fun vs h => wipe_put (h i List.mem_cons_self)
  obtain ⟨O2, d, u2, r2, k⟩ := r.fr u g
  exact hq _ O2 _ u2 ((env.up u2).put i r2) wp k
theorem jg_var (i : Nat) {x : Str} {p : Pos} (hN : X.N.Nodup) (hi : X.N[i]? = some x := by rfl) (hx : Loc X.env.scope x := by first | exact Or.inl rfl | exact Or.inr rfl) (hf : X.fn x = true ∨ X.env.scope.names.lookup x = some .local := by first | exact .inl rfl | exact .inr rfl) : JG X [i] (.Name x p) (gVar i) :=
  ⟨_, pg_name hN hi hx hf, gsnd_var i⟩
theorem jg_val (i : Nat) {x : Str} {p : Pos} (hN : X.N.Nodup) (hi : X.N[i]? = some x := by rfl) (hx : Loc X.env.scope x := by first | exact Or.inl rfl | exact Or.inr rfl) (hf : X.fn x = true ∨ X.env.scope.names.lookup x = some .local := by first | exact .inl rfl | exact .inr rfl) : JG X [i] (.Name x p) (gVal i) :=
  ⟨_, pg_name hN hi hx hf, gsnd_val i⟩
structure JGs (X : Cx) (js : List Nat) (ts : List Expr) (dg : EGs) : Prop where
  ex : ∃ g, PGs X ts g ∧ ∀ (H0 O H : Hp) (σ : L2.St) (δ : List S) (vs : List V) (ds : List D) (q : List S → Prop) (Q : L2.St → Hp → Prop), Sam H0 H → Same O H → EnvR X.K H0 O H σ δ → DpAll X.K O vs ds →
    (∀ σ' O2 δ', Up O H O2 H → EnvR X.K H0 O2 H σ' δ' → (∀ vs : List Nat, (∀ j ∈ js, j ∈ vs) → wipe σ' vs = wipe σ vs) → q δ' → Q σ' H) → dg ds δ q → g vs σ H Q
theorem jgs_nil : JGs X [] [] gNil := ⟨_, pgs_nil, fun H0 O H σ δ vs ds q Q h0 so env r hq g => by
  obtain ⟨rfl, g⟩ := g
  cases r
  exact ⟨rfl, hq σ O δ (.refl so) env (fun _ _ => rfl) g⟩⟩
theorem jgs_cons {e : Expr} {es : List Expr} {js js' : List Nat} {dg : EG} {dgs : EGs} (h : JG X js e dg) (hr : JGs X js' es dgs) (h1 : (assignEach (e :: es) X.env).map (·.2) = assign e X.env :: (assignEach es X.env).map (·.2) := by rfl) : JGs X (js ++ js') (e :: es) (DL.gCons dg dgs) := by
  obtain ⟨g, p, s⟩ := h.ex
  obtain ⟨gs, p2, s2⟩ := hr.ex
  refine ⟨_, pgs_cons p p2 h1, fun H0 O H σ δ vs ds q Q h0 so env r hq d => ?_⟩
  unfold DL.gCons at d
  split at d
  · rename_i dd ds'
    cases r with
    | cons a b =>
      refine ⟨_, _, rfl, s H0 O H O H σ δ _ (.val dd) _ _ h0 env (.refl so) a (fun σ' O2 δ' u e' w1 k => ?_) d⟩
      refine s2 H0 O2 H σ' δ' _ _ q Q h0 u.oh e' (dpAll_mono u.o b) (fun σ2 O3 δ2 u3 e3 w2 k3 => hq σ2 O3 δ2 (u.trans u3) e3 (fun vs hj => ?_) k3) k
      rw [w2 vs fun j hj' => hj j (List.mem_append_right _ hj'), w1 vs fun j hj' => hj j (List.mem_append_left _ hj')]
  · exact d.elim
theorem jg_tup {es : List Expr} {k n : Nat} {js : List Nat} {dg : EGs} (hc : X.calm = true) (h : JGs X js es dg) (hn : (assignEach es X.env).length = n := by rfl) (hst : (assignEach es X.env).findIdx? (·.1) = none := by rfl) : JG X js (.Tuple es k pos) (DL.gTup n dg) := by
  obtain ⟨g, p, s⟩ := h.ex
  refine ⟨_, pg_tup hc p hn hst, fun H0 O H O1 H1 σ δ v s' q Q h0 env u r hq d => ?_⟩
  obtain ⟨O2, dd, u2, r2, d2⟩ := r.fr u d
  unfold tupK at d2
  cases dd with
  | tuple ds =>
    cases r2 with
    | tup qa za =>
      refine ⟨_, _, rfl, Same.tup u2.oh qa, by rw [dpl_length za]; exact d2.1, ?_⟩
      exact s H0 O2 H1 σ δ _ _ q Q (h0.trans u2.h) u2.oh (env.up u2) za (fun σ' O3 δ' u3 e3 w k => hq σ' O3 δ' (u2.trans u3) e3 w k) d2.2
  | none => exact d2.elim
  | bool _ => exact d2.elim
  | int _ => exact d2.elim
  | str _ => exact d2.elim
  | list _ => exact d2.elim
  | dict _ => exact d2.elim

structure Walks (K : PySem.W.Frag) (J : It) (O : Hp) (ds : List D) : Prop where
  go : ∀ (i : Nat) (H2 : Hp), Same O H2 → i < ds.length → J.go i H2
  yld : ∀ (i : Nat) (O2 H2 : Hp) (x : V) (H' : Hp) (d : D), Same O O2 → Same O2 H2 → ds[i]? = some d → J.yld i H2 x H' → ∃ O3, Up O2 H2 O3 H' ∧ Dp K O3 x d
  stop : ∀ (i : Nat) (H2 : Hp), Same O H2 → ds.length ≤ i → J.stop i H2
structure JI (X : Cx) (W : WX) (tg iter : Expr) (di : EI) : Prop where
  ex : ∃ wi, PI X tg iter wi ∧ ∀ (O H H0 : Hp) (σ : L2.St) (δ : List S) (x : XP) (q : List D → Prop) (R : It → Hp → Prop), Same O H → EnvR X.K H0 O H σ δ →
    (∀ e cls d O' H', Up O H O' H' → XRep X.K X.mg O' H' e cls d → x e → W cls d σ H') → (∀ J O' H' ds, Up O H O' H' → Walks X.K J O' ds → q ds → R J H') → di x δ q → wi σ H R
theorem walks_list {K : PySem.W.Frag} {O : Hp} {a : Addr} {vs : List V} {ds : List D} (h : SqL K O a vs) (r : DpAll K O vs ds) : Walks K (Itl K a) O ds where
  go := fun i H2 so hi => ⟨vs, vs[i]'(by rw [dpl_length r]; exact hi), so.seq h, List.getElem?_eq_getElem _⟩
  yld := fun i O2 H2 x H' d o1 o2 hd hy => by
    obtain ⟨rfl, hy⟩ := hy
    have e := hy vs ((o1.trans o2).seq h)
    obtain ⟨d', e1, r1⟩ := dpl_at2 r e
    rw [hd] at e1
    cases e1
    exact ⟨O2, .refl o2, dp_mono o1 r1⟩
  stop := fun i H2 so hi => ⟨vs, so.seq h, by rw [dpl_length r]; exact hi⟩
theorem walks_tup {K : PySem.W.Frag} {O : Hp} {a : Addr} {vs : List V} {ds : List D} (h : SqT K O a vs) (r : DpAll K O vs ds) : Walks K (Itt K a) O ds where
  go := fun i H2 so hi => ⟨vs, vs[i]'(by rw [dpl_length r]; exact hi), Same.tup so h, List.getElem?_eq_getElem _⟩
  yld := fun i O2 H2 x H' d o1 o2 hd hy => by
    obtain ⟨rfl, hy⟩ := hy
    have e := hy vs (Same.tup (o1.trans o2) h)
    obtain ⟨d', e1, r1⟩ := dpl_at2 r e
    rw [hd] at e1
    cases e1
    exact ⟨O2, .refl o2, dp_mono o1 r1⟩
  stop := fun i H2 so hi => ⟨vs, Same.tup so h, by rw [dpl_length r]; exact hi⟩
def iSeq (K : PySem.W.Frag) (tl : TE) : TI := fun σ H R => tl σ H fun x H1 => (∃ a, x = .ref a ∧ (∃ xs, SqL K H1 a xs) ∧ R (Itl K a) H1) ∨ ∃ a, x = .ref a ∧ (∃ xs, SqT K H1 a xs) ∧ R (Itt K a) H1
theorem pi_seq {tg l : Expr} {tl : TE} (hl : PE X l tl) : PI X tg l (iSeq X.K tl) := by
  refine ⟨fun pins s σ H R I h => ?_⟩
  refine thn (hl.run pins s σ H _ I h) fun v s1 ⟨x, H1, I1, r1, q1⟩ => ?_
  rcases q1 with ⟨a, e, ⟨xs, hq⟩, q⟩ | ⟨a, e, ⟨xs, hq⟩, q⟩
  · subst e
    cases r1
    obtain ⟨its, rv, p, hz⟩ := I1.list hq
    refine wpAny_pyIter_list p.isList ?_
    refine ⟨s1.heap.objs.size, [s1.heap.objs.size], _, _, H1, rfl, I1.kept (t' := s1.toks) fun b o e => Heap.get?_push_of_some _ e, turn_list a _, ⟨_, Heap.get?_push_size _ rfl, rfl, rfl⟩, fun b hb => ?_, q⟩
    have e : b = s1.heap.objs.size := by simpa using hb
    subst e
    exact I1.fpOk (Nat.le_refl _) (I1.hok.fresh (Nat.le_refl _))
  · subst e
    cases r1
    obtain ⟨its, rv, p, hz⟩ := I1.tuple hq
    refine wpAny_pyIter_tuple (show s1.heap.IsTuple a its.toArray from p) ?_
    refine ⟨s1.heap.objs.size, [s1.heap.objs.size], _, _, H1, rfl, I1.kept (t' := s1.toks) fun b o e => Heap.get?_push_of_some _ e, turn_tuple a _, ⟨_, Heap.get?_push_size _ rfl, rfl, rfl⟩, fun b hb => ?_, q⟩
    have e : b = s1.heap.objs.size := by simpa using hb
    subst e
    exact I1.fpOk (Nat.le_refl _) (I1.hok.fresh (Nat.le_refl _))
theorem ji_val {tg l : Expr} {de : ES} (h : JE X W l de) : JI X W tg l (iVal de) := by
  obtain ⟨te, p, s⟩ := h.ex
  refine ⟨_, pi_seq p, fun O H H0 σ δ x q R so env hx hq g => ?_⟩
  refine s O H H0 σ δ x _ _ so env hx (fun v O1 H1 c u1 r1 g1 => ?_) g
  obtain ⟨O2, d, u2, r2, k⟩ := r1.fr u1 g1
  cases d with
  | list ds =>
    cases r2 with
    | lst qa za => exact .inl ⟨_, rfl, ⟨_, u2.oh.seq qa⟩, hq _ O2 H1 ds u2 (walks_list qa za) k⟩
  | tuple ds =>
    cases r2 with
    | tup qa za => exact .inr ⟨_, rfl, ⟨_, Same.tup u2.oh qa⟩, hq _ O2 H1 ds u2 (walks_tup qa za) k⟩
  | none => exact k.elim
  | bool _ => exact k.elim
  | int _ => exact k.elim
  | str _ => exact k.elim
  | dict _ => exact k.elim
theorem rngD_at {lo : Int} {n i : Nat} {d : D} (h : (rngD lo n)[i]? = some d) : d = .int (lo + i) ∧ i < n := by
  unfold rngD at h
  rw [List.getElem?_map] at h
  by_cases hi : i < n
  · rw [List.getElem?_range hi] at h
    cases h
    exact ⟨rfl, hi⟩
  · rw [List.getElem?_eq_none (by rw [List.length_range]; omega)] at h
    cases h
theorem rngD_length {lo : Int} {n : Nat} : (rngD lo n).length = n := by unfold rngD; rw [List.length_map, List.length_range]
theorem walks_range {K : PySem.W.Frag} {O : Hp} {lo : Int} {n : Nat} : Walks K (Itr lo n) O (rngD lo n) where
  go := fun i H2 _ hi => by rw [rngD_length] at hi; exact hi
  yld := fun i O2 H2 x H' d o1 o2 hd hy => by
    obtain ⟨rfl, rfl⟩ := hy
    obtain ⟨rfl, _⟩ := rngD_at hd
    exact ⟨O2, .refl o2, .int _⟩
  stop := fun i H2 _ hi => by rw [rngD_length] at hi; exact hi
theorem ji_rng1 {tg a : Expr} {da : EA} {p : Pos} (hm : X.mg "range" = none) (ha : JA X W [a] da) (hg : Gl X "range" := by rfl) (hs : starEach [a] X.env = [(false, eval a X.env)] := by rfl) : JI X W tg (.Call (.Name "range" p) [a] [] pos) (DL.iRng1 da) := by
  obtain ⟨ta, pa, sa⟩ := ha.ex
  refine ⟨_, pi_range1 hg hm pa hs, fun O H H0 σ δ x q R so env hx hq g => ?_⟩
  refine sa O H H0 σ δ x _ _ so env hx (fun vs O1 H1 ds u1 r1 g1 => ?_) g
  unfold numK at g1
  split at g1
  · rename_i n
    cases r1 with
    | cons a b =>
      cases b
      cases a
      exact ⟨n, rfl, g1.1.1, g1.1.2, hq _ O1 H1 _ u1 walks_range g1.2⟩
  · exact g1.elim
end
end DL

namespace DL
variable [HotA]
open PySem L2
section
variable {X : Cx} {W : WX} {pos : Pos}
def WF : WX := fun _ _ _ _ => False
theorem takesF {X : Cx} : L2N.Takes X WF := fun _ _ ⟨_, _, _, _, _, _, _, _, _, _, _, _, _, _, _, _, z⟩ => z.elim
theorem EnvR.weak {K : PySem.W.Frag} {H0 O H : Hp} {σ : L2.St} {δ : List S} (r : EnvR K H0 O H σ δ) : EnvR K (fun _ => none) O H σ δ :=
  ⟨r.len, r.val, fun i ds h => let ⟨p, vs, e, _, o, z, a⟩ := r.own i ds h; ⟨p, vs, e, rfl, o, z, a⟩, r.inj, r.adr, ⟨fun i v d fp h => let ⟨e, a, nd, fr⟩ := r.ob.obj i v d fp h; ⟨e, a, nd, fun b hb => ⟨rfl, (fr b hb).2⟩⟩, r.ob.oo, r.ob.pp⟩, r.tt⟩
theorem set_wipe {σ : L2.St} {v : Nat} : ∀ {vs : List Nat}, v ∈ vs → (wipe σ vs).set v none = wipe σ vs
  | [], h => by cases h
  | w :: r, h => by
    unfold wipe
    by_cases e : v = w
    · rw [e, List.set_set]
    · have hv : v ∈ r := by
        rcases List.mem_cons.mp h with z | z
        · exact absurd z e
        · exact z
      rw [List.set_comm _ _ (Ne.symm e), set_wipe hv]
theorem wipe_sub {σ : L2.St} {us : List Nat} : ∀ {vs : List Nat}, (∀ v ∈ vs, v ∈ us) → wipe (wipe σ us) vs = wipe σ us
  | [], _ => rfl
  | v :: vs, h => by
    show (wipe (wipe σ us) vs).set v none = wipe σ us
    rw [wipe_sub fun w hw => h w (List.mem_cons_of_mem _ hw), set_wipe (h v List.mem_cons_self)]
theorem wipe_wipe {σ : L2.St} {vs : List Nat} : wipe (wipe σ vs) vs = wipe σ vs := wipe_sub fun _ h => h
theorem EnvR.mut {K : PySem.W.Frag} {H0 O H : Hp} {σ : L2.St} {δ : List S} (r : EnvR K H0 O H σ δ) {p : Addr} (n : ∀ (i : Nat) (es : List D), lk δ i = .own es → σ[i]? ≠ some (some (.ref p))) (nO : ∀ i v d fp, lk δ i = .obj v d fp → p ∉ fp) (w : HO) (tb : LamX.Tabs tabT H → LamX.Tabs tabT (upd H p w)) : EnvR K H0 O (upd H p w) σ δ :=
  ⟨r.len, r.val, fun i ds h => let ⟨q, vs, e, a, o, z, b⟩ := r.own i ds h; ⟨q, vs, e, a, o, by rw [upd_ne (fun y => n i ds h (by rw [← y]; exact e))]; exact z, b⟩, r.inj, r.adr, ⟨fun i v d fp h => let ⟨e, a, nd, fr⟩ := r.ob.obj i v d fp h; ⟨e, a.keep (.refl O) fun b hb x q => by rw [upd_ne (fun y => nO i v d fp h (by rw [← y]; exact hb))]; exact q, nd, fr⟩, r.ob.oo, r.ob.pp⟩, ⟨tb r.tt.t, r.tt.n, r.tt.x⟩⟩
theorem Up.mut {O H O' H' : Hp} (u : Up O H O' H') {p : Addr} (h : H p = none) (o : O' p = none) (w : HO) (tb : LamX.Tabs tabT H' → LamX.Tabs tabT (upd H' p w)) : Up O H O' (upd H' p w) :=
  ⟨u.o, ⟨fun b x q n => by rw [upd_ne (ne_of_none q h)]; exact u.h.k b x q n, fun b hb => by
    by_cases e : b = p
    · rw [e, upd_same]; simp
    · rw [upd_ne e]; exact u.h.d b hb, fun t => tb (u.h.t t)⟩, fun b x q => by rw [upd_ne (ne_of_none q o)]; exact u.oh b x q, u.nn⟩

theorem all2_at {α β : Type} {P : α → β → Prop} : ∀ {as : List α} {bs : List β} {i : Nat} {a : α}, All2 P as bs → as[i]? = some a → ∃ b, bs[i]? = some b ∧ P a b
  | [], _, _, _, _, e => by simp at e
  | _ :: _, [], _, _, h, _ => h.elim
  | a :: as, b :: bs, 0, _, h, e => by
    simp only [List.getElem?_cons_zero, Option.some.injEq] at e
    subst e
    exact ⟨b, rfl, h.1⟩
  | a :: as, b :: bs, i + 1, _, h, e => by
    simp only [List.getElem?_cons_succ] at e
    obtain ⟨c, h1, h2⟩ := all2_at h.2 e
    exact ⟨c, by simpa using h1, h2⟩
theorem all2_length {α β : Type} {P : α → β → Prop} : ∀ {as : List α} {bs : List β}, All2 P as bs → as.length = bs.length
  | [], [], _ => rfl
  | [], _ :: _, h => h.elim
  | _ :: _, [], h => h.elim
  | _ :: _, _ :: _, h => congrArg (· + 1) (all2_length h.2)
theorem filterMap_take (l : List (Option D)) (i : Nat) (d : Option D) (h : l[i]? = some d) : (l.take (i + 1)).filterMap id = (l.take i).filterMap id ++ d.toList := by
  have e : l.take (i + 1) = l.take i ++ [d] := by
    rw [List.take_succ, h]; rfl
  rw [e, List.filterMap_append]
  cases d with
  | none => rfl
  | some r => rfl
theorem snd_comp {K : PySem.W.Frag} {mg : Str → Option Value} {wi : TI} {di : EI} {vs js : List Nat} {dg : EG} {dt : ET} {de : ES} (hj : ∀ j ∈ js, j ∈ vs)
    (si : ∀ (O H H0 : Hp) (σ : L2.St) (δ : List S) (x : XP) (q : List D → Prop) (R : It → Hp → Prop), Same O H → EnvR K H0 O H σ δ → (∀ e cls d O' H', Up O H O' H' → XRep K mg O' H' e cls d → x e → W cls d σ H') →
      (∀ J O' H' ds, Up O H O' H' → Walks K J O' ds → q ds → R J H') → di x δ q → wi σ H R) :
    Snd K mg W (RE K) (tLc wi (gOf K js dg) (tOf K mg WF RT dt) (tOf K mg WF (RE K) de) vs) (eComp di vs dg dt de) := by
  intro O H H0 σ δ x q Q so env hx hq g
  refine si O H H0 σ δ x _ _ so env hx (fun J O1 H1 ds u1 wk g1 => ?_) g
  obtain ⟨hz, rs, hf, g2⟩ := g1
  have hlen := all2_length hf
  intro Dl hD
  have hDH : H Dl = none := u1.h.free hD
  have hDO : O1 Dl = none := u1.oh.free hD
  have nD : ∀ (i : Nat) (es : List D), lk δ i = .own es → σ[i]? ≠ some (some (.ref Dl)) := fun i es h z => by
    obtain ⟨p, ws, e, _, _, hp, _⟩ := env.own i es h
    rw [z] at e
    cases e
    rw [hDH] at hp
    cases hp
  have nDO : ∀ i v d fp, lk δ i = .obj v d fp → Dl ∉ fp := fun i v d fp h z => (env.ob.obj i v d fp h).2.1.there Dl z hDH
  have hline : (1000000 : Nat) < sizeLine := by rw [sizeLine_eq]; omega
  refine ⟨fun i m H2 => m = ds.length - i ∧ i ≤ ds.length ∧ ∃ O2 acc, Same O1 O2 ∧ Up O H O2 H2 ∧ EnvR K H0 O2 H2 σ δ ∧ O2 Dl = none ∧ H2 Dl = some (.lst acc) ∧ DpAll K O2 acc ((rs.take i).filterMap id), ⟨ds.length, rfl, Nat.zero_le _, O1, [], Same.refl O1, u1.trans (.own u1.oh hD _), (env.up u1).up (.own u1.oh hD _), hDO, upd_same, .nil⟩, ?_⟩
  rintro i m H2 ⟨rfl, hi, O2, acc, s12, u2, e2, hO2, hH2, ra⟩
  have len : ∀ k : Nat, ((rs.take k).filterMap id).length ≤ 1000000 := fun k => by
    have h1 := List.length_filterMap_le id (rs.take k)
    have h3 : (rs.take k).length ≤ rs.length := by rw [List.length_take]; omega
    omega
  by_cases hlt : i < ds.length
  · refine .inr ⟨wk.go i H2 (s12.trans u2.oh) hlt, fun H3 => ∃ O3 acc, Same O1 O3 ∧ Up O H O3 H3 ∧ EnvR K H0 O3 H3 σ δ ∧ O3 Dl = none ∧ H3 Dl = some (.lst acc) ∧ DpAll K O3 acc ((rs.take (i + 1)).filterMap id), fun H3 z => ⟨ds.length - (i + 1), by omega, rfl, hlt, z⟩, fun y H3 hy => ?_⟩
    obtain ⟨d, hd⟩ : ∃ d, ds[i]? = some d := ⟨_, List.getElem?_eq_getElem hlt⟩
    obtain ⟨O3, u3, ry⟩ := wk.yld i O2 H2 y H3 d s12 u2.oh hd hy
    obtain ⟨o, hr, hfd⟩ := all2_at hf hd
    have e3 := e2.up u3
    -- the target
    refine gOf_snd (fun _ => none) O3 H3 O3 H3 (wipe σ vs) (wipeD δ vs) y (.val d) _ _ (.none H3) (e3.weak.wipe vs) (.refl u3.oh) ry (fun σ2 O4 δ2 u4 e4 wp g4 => ?_) hfd
    refine ⟨(wp vs hj).trans wipe_wipe, ?_⟩
    refine tOf_snd O4 H3 (fun _ => none) σ2 δ2 _ _ _ u4.oh e4 (fun _ _ _ _ _ _ _ z => z.elim) (fun b O5 H5 b' u5 rb g5 => ?_) g4
    have rb : b = b' := rb
    subst rb
    have u35 := (u2.trans u3).trans (u4.trans u5)
    have s15 : Same O1 O5 := s12.trans ((u3.trans (u4.trans u5)).o)
    have e5 := (e3.up u4).up u5
    have hO5 : O5 Dl = none := (u3.trans (u4.trans u5)).nn Dl (by rw [hH2]; simp) hO2
    have hH5 : H5 Dl = some (.lst acc) := (u3.trans (u4.trans u5)).h.at hH2
    have ra5 := dpAll_mono (u3.trans (u4.trans u5)).o ra
    cases b with
    | false =>
      have g5 : o = none := g5
      show ∃ O3 acc, _
      refine ⟨O5, acc, s15, u35, e5, hO5, hH5, ?_⟩
      rw [filterMap_take rs i o hr, g5]
      show DpAll K O5 acc (_ ++ [])
      rw [List.append_nil]
      exact ra5
    | true =>
      show tOf K mg WF (RE K) de σ2 H5 _
      refine tOf_snd O5 H5 (fun _ => none) σ2 δ2 _ _ _ u5.oh (e4.up u5) (fun _ _ _ _ _ _ _ z => z.elim) (fun v O6 H6 s u6 rsv g6 => ?_) g5
      obtain ⟨O7, r, u7, r7, fd⟩ := rsv.fr u6 g6
      have fd : o = some r := fd
      have hO7 : O7 Dl = none := u7.nn Dl (by rw [hH5]; simp) hO5
      have hH6 : H6 Dl = some (.lst acc) := u7.h.at hH5
      have hl : acc.length < sizeLine := by
        rw [dpl_length ra5]
        exact Nat.lt_of_le_of_lt (len i) hline
      refine ⟨acc, hH6, hl, O7, acc ++ [v], s15.trans u7.o, (u35.trans u7).mut hDH hO7 _ (fun t => tabs_upd t _ hH6), (e5.up u7).mut nD nDO _ (fun t => tabs_upd t _ hH6), hO7, upd_same, ?_⟩
      rw [filterMap_take rs i o hr, fd]
      exact dpl_append (dpAll_mono u7.o ra5) (.cons r7 .nil)
  · have e : i = ds.length := by omega
    subst e
    rw [hlen, List.take_length] at ra
    exact .inl ⟨wk.stop _ H2 (s12.trans u2.oh) (Nat.le_refl _), hq _ O2 H2 (.own (rs.filterMap id)) u2 ⟨Dl, acc, rfl, hDH, hO2, hH2, ra⟩ g2⟩
end
end DL
namespace DL
variable [HotA]
open PySem L2
section
variable {X : Cx} {W : WX} {pos : Pos}
theorem JI.cx {tg iter : Expr} {di : EI} (h : JI X W tg iter di) : ∃ wi, PI X tg iter wi ∧ ∀ (O H H0 : Hp) (σ : L2.St) (δ : List S) (x : XP) (q : List D → Prop) (R : It → Hp → Prop), Same O H → EnvR X.K H0 O H σ δ →
    (∀ e cls d O' H', Up O H O' H' → XRep X.K X.mg O' H' e cls d → x e → W cls d σ H') → (∀ J O' H' ds, Up O H O' H' → Walks X.K J O' ds → q ds → R J H') → di x δ q → wi σ H R := h.ex
theorem je_lc {elt tg iter : Expr} {ifs : List Expr} {scope : Scope} {own : List (Str × Nat)} {js : List Nat} {di : EI} {dg : EG} {dt : ET} {de : ES} (hc : X.calm = true) (hN : X.N.Nodup) (hi : JI X W tg iter di) (ok : BlkOk X.N X.env.scope scope own) (hj : ∀ j ∈ js, j ∈ own.map (·.2))
    (hg : ∀ (s : Shared) (H : Hp) (C : Addr) (cl : List (Str × Addr)) (fp : List Addr), JG (X.blk s H scope (compEnvC scope cl C X.env) fp) js tg dg) (ht : ∀ (s : Shared) (H : Hp) (C : Addr) (cl : List (Str × Addr)) (fp : List Addr), JTs (X.blk s H scope (compEnvC scope cl C X.env) fp) WF ifs dt)
    (he : ∀ (s : Shared) (H : Hp) (C : Addr) (cl : List (Str × Addr)) (fp : List Addr), JE (X.blk s H scope (compEnvC scope cl C X.env) fp) WF elt de) (hs : ∀ x, foldedSetIterable iter X.env x = pure x := by intro _; rfl) :
    JE X W (.ListComp elt [⟨tg, iter, ifs, 0⟩] scope pos) (eComp di (own.map (·.2)) dg dt de) := by
  obtain ⟨wi, pi, si⟩ := hi.cx
  exact ⟨_, pe_lc hc hN pi ok (fun s H C cl fp => show PG _ tg (gOf X.K js dg) from (hg s H C cl fp).can) (fun s H C cl fp => show PTs _ ifs (tOf X.K X.mg WF RT dt) from ht s H C cl fp) (fun s H C cl fp => show PE _ elt (tOf X.K X.mg WF (RE X.K) de) from (he s H C cl fp).can) hs, snd_comp hj si⟩

structure EndsR (K : PySem.W.Frag) (mg : Str → Option Value) (W : WX) (O0 H0 : Hp) (D : L2.Ends) (Dd : DL.Ends) : Prop where
  nx : ∀ O H σ δ, Up O0 H0 O H → EnvR K H0 O H σ δ → Dd.nx δ → D.nx σ H
  rt : ∀ O H v s, Up O0 H0 O H → SRep K H0 O H v s → Dd.rt s → D.rt v H
  bk : ∀ O H σ δ, Up O0 H0 O H → EnvR K H0 O H σ δ → Dd.bk δ → D.bk σ H
  ct : ∀ O H σ δ, Up O0 H0 O H → EnvR K H0 O H σ δ → Dd.ct δ → D.ct σ H
  ex : ∀ e cls d O H σ δ, Up O0 H0 O H → EnvR K H0 O H σ δ → XRep K mg O H e cls d → Dd.ex e δ → W cls d σ H
def SndS (K : PySem.W.Frag) (mg : Str → Option Value) (W : WX) (ts : TS) (ds : ST) : Prop := ∀ (O0 H0 O H : Hp) (σ : L2.St) (δ : List S) (D : L2.Ends) (Dd : DL.Ends), Up O0 H0 O H → EnvR K H0 O H σ δ → EndsR K mg W O0 H0 D Dd → ds Dd δ → ts D σ H
structure JS (X : Cx) (W : WX) (st : Stmt) (ds : ST) : Prop where
  ex : ∃ ts, PS X st ts ∧ SndS X.K X.mg W ts ds
structure JSs (X : Cx) (W : WX) (st : List Stmt) (ds : ST) : Prop where
  ex : ∃ ts, PSs X st ts ∧ SndS X.K X.mg W ts ds
theorem Up.swap {O0 H0 O1 H1 O H : Hp} (a : Up O0 H0 O1 H1) (b : Up O1 H0 O H) : Up O0 H0 O H := ⟨a.o.trans b.o, b.h, b.oh, fun x hx ho => b.nn x hx (a.nn x hx ho)⟩
theorem EndsR.swap {K : PySem.W.Frag} {mg : Str → Option Value} {O0 H0 O1 H1 : Hp} {D : L2.Ends} {Dd : DL.Ends} (u : Up O0 H0 O1 H1) (r : EndsR K mg W O0 H0 D Dd) : EndsR K mg W O1 H0 D Dd :=
  ⟨fun O H σ δ z => r.nx O H σ δ (u.swap z), fun O H v s z => r.rt O H v s (u.swap z), fun O H σ δ z => r.bk O H σ δ (u.swap z), fun O H σ δ z => r.ct O H σ δ (u.swap z), fun e c d O H σ δ z => r.ex e c d O H σ δ (u.swap z)⟩
theorem EndsR.xe {K : PySem.W.Frag} {mg : Str → Option Value} {O0 H0 O H : Hp} {σ : L2.St} {δ : List S} {D : L2.Ends} {Dd : DL.Ends} (r : EndsR K mg W O0 H0 D Dd) (u : Up O0 H0 O H) (env : EnvR K H0 O H σ δ) :
    ∀ e cls d O' H', Up O H O' H' → XRep K mg O' H' e cls d → Dd.ex e δ → W cls d σ H' := fun e cls d O' H' u' xr z => r.ex e cls d O' H' σ δ (u.trans u') (env.up u') xr z
theorem jss_nil : JSs X W [] sNext := ⟨_, pss_nil, fun O0 H0 O H σ δ D Dd u env er g => er.nx O H σ δ u env g⟩
theorem jss_cons {st : Stmt} {rest : List Stmt} {s t : ST} (h : JS X W st s) (hr : JSs X W rest t) : JSs X W (st :: rest) (sSeq s t) := by
  obtain ⟨ts, p, a⟩ := h.ex
  obtain ⟨tr, p2, b⟩ := hr.ex
  exact ⟨_, pss_cons p p2, fun O0 H0 O H σ δ D Dd u env er g => a O0 H0 O H σ δ _ { Dd with nx := t Dd } u env ⟨fun O' H' σ' δ' u' e' g' => b O0 H0 O' H' σ' δ' D Dd u' e' er g', er.rt, er.bk, er.ct, er.ex⟩ g⟩
theorem jss_cut {st : Stmt} {rest : List Stmt} {s t : ST} (h : JS X W st s) (hr : JSs X W rest t) : JSs X W (st :: rest) (sCut s t) := by
  obtain ⟨ts, p, a⟩ := h.ex
  obtain ⟨tr, p2, b⟩ := hr.ex
  refine ⟨_, pss_cons p p2, fun O0 H0 O H σ δ D Dd u env er g => ?_⟩
  obtain ⟨Mid, g1, g2⟩ := g
  exact a O0 H0 O H σ δ _ { Dd with nx := Mid } u env ⟨fun O' H' σ' δ' u' e' g' => b O0 H0 O' H' σ' δ' D Dd u' e' er (g2 δ' g'), er.rt, er.bk, er.ct, er.ex⟩ g1
theorem jss_one {st : Stmt} {s : ST} (h : JS X W st s) : JSs X W [st] s := by
  obtain ⟨ts, p, a⟩ := h.ex
  exact ⟨_, pss_one p, a⟩
theorem jss_frz {sts : List Stmt} {s : ST} (i : Nat) (h : JSs X W sts s) : JSs X W sts (sSeq (sFrz i) s) := by
  obtain ⟨ts, p, a⟩ := h.ex
  refine ⟨_, p, fun O0 H0 O H σ δ D Dd u env er g => ?_⟩
  have g : (lk δ i).fr fun d => s Dd (put δ i (.val d)) := g
  cases e : lk δ i with
  | no => rw [e] at g; exact g.elim
  | adr _ => rw [e] at g; exact g.elim
  | obj v d fp =>
    rw [e] at g
    obtain ⟨nd, g⟩ := g
    obtain ⟨e1, ow, nu, fr⟩ := env.ob.obj i v d fp e
    have hl := lk_lt e (by intro y; cases y)
    have u2 : Up O0 H0 (plusO O H fp) H := ⟨u.o.trans plus_same, u.h, plus_sub u.oh, fun b hb hn => plus_out (fun z => hb (fr b z).1) (u.nn b hb hn)⟩
    have e2 : EnvR X.K H0 (plusO O H fp) H σ (put δ i .no) := (env.drop i).grow plus_same (fun j es p hj q => by
      by_cases hji : j = i
      · rw [hji, lk_put_same hl] at hj; cases hj
      · rw [lk_put_ne hji] at hj
        obtain ⟨p', _, q', _, o', _⟩ := env.own j es hj
        rw [q] at q'
        cases q'
        exact plus_out (env.ob.oo j i es v d fp p hj e q) o') (fun j w x gp hj b hb => by
      by_cases hji : j = i
      · rw [hji, lk_put_same hl] at hj; cases hj
      · rw [lk_put_ne hji] at hj
        exact plus_out (env.ob.pp j i w x gp v d fp hji hj e b hb) ((env.ob.obj j w x gp hj).2.2.2 b hb).2) (fun p hp => plus_out (env.tt.nf ow hp) (env.tt.n p hp))
    have e3 := e2.put i (ow.dp plus_same (fun b hb x z => by rw [plus_in hb (fr b hb).2]; exact z) nd)
    have es : σ.set i (some v) = σ := by
      refine List.ext_getElem? fun j => ?_
      by_cases hj : j = i
      · subst hj
        rw [List.getElem?_set_self (List.getElem?_eq_some_iff.mp e1).1, e1]
      · rw [List.getElem?_set_ne (Ne.symm hj)]
    have ed : put (put δ i .no) i (.val d) = put δ i (.val d) := put_put
    rw [es, ed] at e3
    exact a O0 H0 _ H σ _ D Dd u2 e3 er g
  | val d =>
    rw [e] at g
    obtain ⟨v, e1, r1⟩ := env.val i d e
    have e2 := env.put i r1
    have es : σ.set i (some v) = σ := by
      refine List.ext_getElem? fun j => ?_
      by_cases hj : j = i
      · subst hj
        rw [List.getElem?_set_self (List.getElem?_eq_some_iff.mp e1).1, e1]
      · rw [List.getElem?_set_ne (Ne.symm hj)]
    rw [es] at e2
    exact a O0 H0 O H σ _ D Dd u e2 er g
  | own ds =>
    rw [e] at g
    obtain ⟨p, vs, e1, n, o, z, r⟩ := env.own i ds e
    have u2 : Up O0 H0 (upd O p (.lst vs)) H := ⟨u.o.trans (same_new o _), u.h, fun b w q => by
      by_cases hb : b = p
      · subst hb; rw [upd_same] at q; cases q; exact z
      · rw [upd_ne hb] at q; exact u.oh b w q, fun b ha y => by
      have hn : b ≠ p := fun y => ha (by rw [y]; exact n)
      rw [upd_ne hn]; exact u.nn b ha y⟩
    have so := same_new o (.lst vs)
    have hi := lk_lt e (by intro y; cases y)
    have es : σ.set i (some (.ref p)) = σ := by
      refine List.ext_getElem? fun j => ?_
      by_cases hj : j = i
      · subst hj
        rw [List.getElem?_set_self (List.getElem?_eq_some_iff.mp e1).1, e1]
      · rw [List.getElem?_set_ne (Ne.symm hj)]
    have env2 : EnvR X.K H0 (upd O p (.lst vs)) H σ (put δ i .no) := by
      refine ⟨by rw [put_length]; exact env.len, fun j d h => ?_, fun j es h => ?_, fun j k es fs h1 h2 q => ?_, fun j a h => by
        have hj : j ≠ i := fun y => by rw [y, lk_put_same hi] at h; cases h
        rw [lk_put_ne hj] at h
        exact env.adr j a h, (env.ob.drop i).grow so fun j w x gp h b hb => by
        have hj : j ≠ i := fun y => by rw [y, lk_put_same hi] at h; cases h
        rw [lk_put_ne hj] at h
        have := env.ob.oo i j ds w x gp p e h e1
        rw [upd_ne (fun y => this (by rw [← y]; exact hb))]
        exact ((env.ob.obj j w x gp h).2.2.2 b hb).2, ⟨env.tt.t, fun q hq => by rw [upd_ne (env.tt.na z hq)]; exact env.tt.n q hq, fun q hq => so _ _ (env.tt.x q hq)⟩⟩
      · have hj : j ≠ i := fun y => by rw [y, lk_put_same hi] at h; cases h
        rw [lk_put_ne hj] at h
        obtain ⟨v, q1, q2⟩ := env.val j d h
        exact ⟨v, q1, dp_mono so q2⟩
      · have hj : j ≠ i := fun y => by rw [y, lk_put_same hi] at h; cases h
        rw [lk_put_ne hj] at h
        obtain ⟨p', vs', q1, q2, q3, q4, q5⟩ := env.own j es h
        refine ⟨p', vs', q1, q2, ?_, q4, dpAll_mono so q5⟩
        rw [upd_ne]
        · exact q3
        · rintro rfl
          exact hj (env.inj j i _ ds h e (q1.trans e1.symm))
      · have hj : j ≠ i := fun y => by rw [y, lk_put_same hi] at h1; cases h1
        have hk : k ≠ i := fun y => by rw [y, lk_put_same hi] at h2; cases h2
        rw [lk_put_ne hj] at h1
        rw [lk_put_ne hk] at h2
        exact env.inj j k es fs h1 h2 q
    have e3 := env2.put (v := .ref p) i (Dp.lst (ds := ds) (SqL.of upd_same) (dpAll_mono so r))
    rw [es] at e3
    have pp : put (put δ i .no) i (.val (.list ds)) = put δ i (.val (.list ds)) := by
      have h : ∀ (l : List S) (i : Nat) (a b : S), put (put l i a) i b = put l i b := by
        intro l
        induction l with
        | nil => intro _ _ _; rfl
        | cons x r ih =>
          intro i a b
          cases i with
          | zero => rfl
          | succ i => exact congrArg (x :: ·) (ih i a b)
      exact h δ i _ _
    rw [pp] at e3
    exact a O0 H0 _ H σ _ D Dd u2 e3 er g
theorem js_set {js : List Nat} {x : Str} {p : Pos} {e : Expr} {de : ES} {dg : EG} (h : JE X W e de) (hg : JG X js (.Name x p) dg) (hs : swapsWithSole [.Name x p] e pos.line X.env = pure false := by rfl) (hw : swappedStores [.Name x p] e X.env = pure none := by rfl) : JS X W (.Assign [.Name x p] e pos) (sAsg de dg) := by
  obtain ⟨te, pe, s⟩ := h.ex
  obtain ⟨g, pg, sg⟩ := hg.ex
  refine ⟨_, ps_asg pe pg hs hw, fun O0 H0 O H σ δ D Dd u env er k => ?_⟩
  refine s O H H0 σ δ _ _ _ u.oh env (er.xe u env) (fun v O1 H1 t u1 r1 g1 => ?_) k
  exact sg H0 O H O1 H1 σ δ v t _ _ u.h env u1 r1 (fun σ' O2 δ' u2 e2 _ k2 => er.nx O2 H1 σ' δ' (u.trans u2) e2 k2) g1
theorem js_asg {js : List Nat} {tg e : Expr} {de : ES} {dg : EG} (h : JE X W e de) (hg : JG X js tg dg) (hs : swapsWithSole [tg] e pos.line X.env = pure false := by rfl) (hw : swappedStores [tg] e X.env = pure none := by rfl) (h1 : (assignEach [tg] X.env).map (·.2) = [assign tg X.env] := by rfl) : JS X W (.Assign [tg] e pos) (sAsg de dg) := by
  obtain ⟨te, pe, s⟩ := h.ex
  obtain ⟨g, pg, sg⟩ := hg.ex
  refine ⟨_, ps_asg pe pg hs hw h1, fun O0 H0 O H σ δ D Dd u env er k => ?_⟩
  refine s O H H0 σ δ _ _ _ u.oh env (er.xe u env) (fun v O1 H1 t u1 r1 g1 => ?_) k
  exact sg H0 O H O1 H1 σ δ v t _ _ u.h env u1 r1 (fun σ' O2 δ' u2 e2 _ k2 => er.nx O2 H1 σ' δ' (u.trans u2) e2 k2) g1
theorem js_par {i j : Nat} {x y : Str} {a b : Expr} {da : EA} {px py pt : Pos} {kt k2 pt2} (hc : X.calm = true) (hN : X.N.Nodup) (ha : JA X W [a, b] da) (hi : X.N[i]? = some x := by rfl) (hj : X.N[j]? = some y := by rfl) (hij : i ≠ j := by decide)
    (h : ∀ ta, PA X [a, b] ta → PS X (.Assign [.Tuple [.Name x px, .Name y py] kt pt] (.Tuple [a, b] k2 pt2) pos) (tPar i j ta)) : JS X W (.Assign [.Tuple [.Name x px, .Name y py] kt pt] (.Tuple [a, b] k2 pt2) pos) (sPar i j da) := by
  obtain ⟨ta, pa, s⟩ := ha.ex
  refine ⟨_, h ta pa, fun O0 H0 O H σ δ D Dd u env er k => ?_⟩
  refine s O H H0 σ δ _ _ _ u.oh env (er.xe u env) (fun vs O1 H1 ds u1 r1 g1 => ?_) k
  unfold twoK at g1
  split at g1
  · rename_i c d
    cases r1 with
    | cons r1 r2 =>
      cases r2 with
      | cons r2 r3 =>
        cases r3
        exact ⟨_, _, rfl, er.nx O1 H1 _ _ (u.trans u1) (((env.up u1).put i r1).put j r2) g1⟩
  · exact g1.elim
theorem js_drop {e : Expr} {de : ES} (h : JE X W e de) (hs : swapsWith e none pos.line X.env = pure false := by rfl) : JS X W (.Expr e pos) (sDrop de) := by
  obtain ⟨te, pe, s⟩ := h.ex
  refine ⟨_, ps_expr pe hs, fun O0 H0 O H σ δ D Dd u env er k => ?_⟩
  exact s O H H0 σ δ _ _ _ u.oh env (er.xe u env) (fun v O1 H1 t u1 r1 g1 => er.nx O1 H1 σ δ (u.trans u1) (env.up u1) g1) k
theorem js_ret {e : Expr} {de : ES} (h : JE X W e de) : JS X W (.Return (some e) pos) (sRet de) := by
  obtain ⟨te, pe, s⟩ := h.ex
  refine ⟨_, ps_ret pe, fun O0 H0 O H σ δ D Dd u env er k => ?_⟩
  exact s O H H0 σ δ _ _ _ u.oh env (er.xe u env) (fun v O1 H1 t u1 r1 g1 => er.rt O1 H1 v t (u.trans u1) (r1.back u.h) g1) k
theorem js_retOwn (i : Nat) {x : Str} {p : Pos} (hN : X.N[i]? = some x := by rfl) (hv : Vis X.env.scope x := by first | exact Or.inl rfl | exact Or.inr (Or.inl rfl) | exact Or.inr (Or.inr rfl)) (hd : (x == ("__debug__" : Str)) = false := by decide)
    (hcd : (x == ("__classdict__" : Str)) = false := by decide) : JS X W (.Return (some (.Name x p)) pos) (sRetOwn i) := by
  refine ⟨_, ps_ret (pe_var hN hv hd hcd), fun O0 H0 O H σ δ D Dd u env er k => ?_⟩
  show tVar i σ H D.rt
  unfold sRetOwn S.any at k
  split at k
  · exact k.elim
  · exact k.elim
  · rename_i v d fp e
    obtain ⟨e1, ow, nd, fr⟩ := env.ob.obj i v d fp e
    exact ⟨v, e1, er.rt O H v (.obj v d fp) u ⟨rfl, ow, nd, fr⟩ k⟩
  · rename_i d e
    obtain ⟨v, e1, r1⟩ := env.val i d e
    exact ⟨v, e1, er.rt O H v (.val d) u r1 k⟩
  · rename_i ds e
    obtain ⟨p, vs, e1, n, o, z, r⟩ := env.own i ds e
    exact ⟨_, e1, er.rt O H _ (.own ds) u ⟨p, vs, rfl, n, o, z, r⟩ k⟩
theorem js_if {c : Expr} {a b : List Stmt} {dt : ET} {da db : ST} (hc : JT X W c dt) (ha : JSs X W a da) (hb : JSs X W b db) : JS X W (.If c a b pos) (sIf dt da db) := by
  obtain ⟨tc, pc, sc⟩ := hc.ex
  obtain ⟨ta, pa, sa⟩ := ha.ex
  obtain ⟨tb, pb, sb⟩ := hb.ex
  refine ⟨_, ps_if pc pa pb, fun O0 H0 O H σ δ D Dd u env er k => ?_⟩
  refine sc O H H0 σ δ _ _ _ u.oh env (er.xe u env) (fun v O1 H1 t u1 r1 g1 => ?_) k
  have r1 : v = t := r1
  subst r1
  cases v with
  | true => exact sa O0 H0 O1 H1 σ δ D Dd (u.trans u1) (env.up u1) er g1
  | false => exact sb O0 H0 O1 H1 σ δ D Dd (u.trans u1) (env.up u1) er g1
theorem js_while {c : Expr} {b : List Stmt} {dt : ET} {db : ST} (hp : PassesOwn (model X.prog X.w) X.A X.env X.xe) (hc : JT X W c dt) (hb : JSs X W b db) : JS X W (.While c b [] pos) (sWhile dt db) := by
  obtain ⟨tc, pc, sc⟩ := hc.ex
  obtain ⟨tb, pb, sb⟩ := hb.ex
  refine ⟨_, ps_while hp pc pb, fun O0 H0 O H σ δ D Dd u env er k => ?_⟩
  obtain ⟨Inv, ⟨m, hm⟩, turn⟩ := k
  refine ⟨fun m σ H => ∃ O δ, Up O0 H0 O H ∧ EnvR X.K H0 O H σ δ ∧ Inv m δ, ⟨m, O, δ, u, env, hm⟩, ?_⟩
  rintro m σ1 H1 ⟨O1, δ1, u1, e1, w1⟩
  refine sc O1 H1 H0 σ1 δ1 _ _ _ u1.oh e1 (er.xe u1 e1) (fun v O2 H2 t u2 r2 g2 => ?_) (turn m δ1 w1)
  have r2 : v = t := r2
  subst r2
  cases v with
  | true =>
    refine ⟨fun σ3 H3 => ∃ O3 δ3, Up O0 H0 O3 H3 ∧ EnvR X.K H0 O3 H3 σ3 δ3 ∧ ∃ m', m' < m ∧ Inv m' δ3, fun σ3 H3 ⟨O3, δ3, u3, e3, m', hm, w3⟩ => ⟨m', hm, O3, δ3, u3, e3, w3⟩, ?_⟩
    exact sb O0 H0 O2 H2 σ1 δ1 _ { Dd with nx := fun δ2 => ∃ m', m' < m ∧ Inv m' δ2, ct := fun δ2 => ∃ m', m' < m ∧ Inv m' δ2, bk := Dd.nx } (u1.trans u2) (e1.up u2) ⟨fun O3 H3 σ3 δ3 u3 e3 w3 => ⟨O3, δ3, u3, e3, w3⟩, er.rt, er.nx, fun O3 H3 σ3 δ3 u3 e3 w3 => ⟨O3, δ3, u3, e3, w3⟩, er.ex⟩ g2
  | false => exact er.nx O2 H2 σ1 δ1 (u1.trans u2) (e1.up u2) g2
theorem js_for {tg iter : Expr} {b : List Stmt} {js : List Nat} {di : EI} {dg : EG} {db : ST} (hp : PassesOwn (model X.prog X.w) X.A X.env X.xe) (hc : X.calm = true) (hi : JI X W tg iter di) (hg : JG X js tg dg) (hb : JSs X W b db) (hs' : ∀ x, foldedSetIterable iter X.env x = pure x := by intro _; rfl) : JS X W (.For tg iter b [] pos) (sFor di dg db) := by
  obtain ⟨wi, pi, si⟩ := hi.cx
  obtain ⟨g, pg, sg⟩ := hg.ex
  obtain ⟨tb, pb, sb⟩ := hb.ex
  refine ⟨_, ps_for hp hc pi pg pb hs', fun O0 H0 O H σ δ D Dd u env er k => ?_⟩
  refine si O H H0 σ δ _ _ _ u.oh env (er.xe u env) (fun J O1 H1 ds u1 wk g1 => ?_) k
  obtain ⟨Inv, i0, hs, hd⟩ := g1
  have u01 := u.trans u1
  refine ⟨fun i m σ H => m = ds.length - i ∧ i ≤ ds.length ∧ ∃ O δ, Up O1 H0 O H ∧ EnvR X.K H0 O H σ δ ∧ Inv i δ, ⟨ds.length, rfl, Nat.zero_le _, O1, δ, ⟨Same.refl O1, u01.h, u01.oh, fun _ _ z => z⟩, env.up u1, i0⟩, ?_⟩
  rintro i m σ2 H2 ⟨rfl, hi, O2, δ2, u2, e2, w2⟩
  by_cases hlt : i < ds.length
  · refine .inr ⟨wk.go i H2 (u2.o.trans u2.oh) hlt, fun σ3 H3 => ∃ O3 δ3, Up O1 H0 O3 H3 ∧ EnvR X.K H0 O3 H3 σ3 δ3 ∧ Inv (i + 1) δ3, fun σ3 H3 z => ⟨ds.length - (i + 1), by omega, rfl, hlt, z⟩, fun y H3 hy => ?_⟩
    obtain ⟨d, hd'⟩ : ∃ d, ds[i]? = some d := ⟨_, List.getElem?_eq_getElem hlt⟩
    obtain ⟨O3, u3, ry⟩ := wk.yld i O2 H2 y H3 d u2.o u2.oh hd' hy
    have u23 := u2.trans u3
    refine sg H0 O3 H3 O3 H3 σ2 δ2 y (.val d) _ _ u23.h (e2.up u3) (.refl u3.oh) ry (fun σ4 O4 δ4 u4 e4 _ g4 => ?_) (hs i d δ2 hd' w2)
    have er1 : EndsR X.K X.mg W O1 H0 D Dd := er.swap u01
    exact sb O1 H0 O4 H3 σ4 δ4 _ { Dd with nx := Inv (i + 1), ct := Inv (i + 1), bk := Dd.nx } (u23.trans u4) e4 ⟨fun O5 H5 σ5 δ5 u5 e5 w5 => ⟨O5, δ5, u5, e5, w5⟩, er1.rt, er1.nx, fun O5 H5 σ5 δ5 u5 e5 w5 => ⟨O5, δ5, u5, e5, w5⟩, er1.ex⟩ g4
  · have e : i = ds.length := by omega
    subst e
    exact .inl ⟨wk.stop _ H2 (u2.o.trans u2.oh) (Nat.le_refl _), er.nx O2 H2 σ2 δ2 (u01.swap u2) e2 (hd δ2 w2)⟩
theorem EnvR.setOwn {K : PySem.W.Frag} {H0 O H : Hp} {σ : L2.St} {δ : List S} (r : EnvR K H0 O H σ δ) {i : Nat} {ds es : List D} {p : Addr} {ws : List V} (hi : lk δ i = .own ds) (hp : σ[i]? = some (some (.ref p))) (a : DpAll K O ws es) :
    EnvR K H0 O (upd H p (.lst ws)) σ (DL.put δ i (.own es)) := by
  have hl := lk_lt hi (by intro y; cases y)
  obtain ⟨p', vs', e1, n, o, z, _⟩ := r.own i ds hi
  rw [hp] at e1
  cases e1
  refine ⟨by rw [put_length]; exact r.len, fun j d h => ?_, fun j fs h => ?_, fun j k fs gs h1 h2 q => ?_, fun j a h => by
    have hj : j ≠ i := fun y => by rw [y, lk_put_same hl] at h; cases h
    rw [lk_put_ne hj] at h
    exact r.adr j a h, r.ob.setOwn _ hi hp, ⟨tabs_upd r.tt.t _ z, r.tt.n, r.tt.x⟩⟩
  · have hj : j ≠ i := fun y => by rw [y, lk_put_same hl] at h; cases h
    rw [lk_put_ne hj] at h
    exact r.val j d h
  · by_cases hj : j = i
    · subst hj
      rw [lk_put_same hl] at h
      cases h
      exact ⟨p, ws, hp, n, o, upd_same, a⟩
    · rw [lk_put_ne hj] at h
      obtain ⟨p2, vs2, q1, q2, q3, q4, q5⟩ := r.own j fs h
      refine ⟨p2, vs2, q1, q2, q3, ?_, q5⟩
      rw [upd_ne]
      · exact q4
      · rintro rfl
        exact hj (r.inj j i _ ds h hi (q1.trans hp.symm))
  · have key : ∀ j fs, lk (DL.put δ i (.own es)) j = .own fs → ∃ gs, lk δ j = .own gs := fun j fs h => by
      by_cases hj : j = i
      · exact ⟨ds, by rw [hj]; exact hi⟩
      · rw [lk_put_ne hj] at h
        exact ⟨fs, h⟩
    obtain ⟨_, k1⟩ := key j fs h1
    obtain ⟨_, k2⟩ := key k gs h2
    exact r.inj j k _ _ k1 k2 q
theorem js_app (i : Nat) {x : Str} {e : Expr} {de : ES} {p1 p2 pos' : Pos} (h : JE X W e de) (hs : swapsWith (.Call (.Attribute (.Name x p1) "append" p2) [e] [] pos') none pos.line X.env = pure false := by rfl)
    (hb : ∀ {te : TE}, PE X e te → PE X (.Call (.Attribute (.Name x p1) "append" p2) [e] [] pos') (tBM X.K "list" rAppend (tVar i) (tCons te tNil)) := by exact fun pe => pe_bm PySem.F.plainAttrs_list PySem.F.slot_list_append PySem.F.type_list_append mt_append (pv _) (pa_cons pe pa_nil)) :
    JS X W (.Expr (.Call (.Attribute (.Name x p1) "append" p2) [e] [] pos') pos) (sApp i de) := by
  obtain ⟨te, pe, s⟩ := h.ex
  refine ⟨_, ps_expr (hb pe) hs, fun O0 H0 O H σ δ D Dd u env er k => ?_⟩
  unfold sApp S.ow at k
  split at k
  · rename_i ds hi
    obtain ⟨p, vs, e1, n, o, z, r⟩ := env.own i ds hi
    refine ⟨.ref p, e1, .inl ⟨rfl, _, SqL.of z⟩, ?_⟩
    refine s O H H0 σ δ _ _ _ u.oh env (er.xe u env) (fun v O1 H1 t u1 r1 g1 => ?_) k
    obtain ⟨O2, d, u2, r2, g2, g3⟩ := r1.fr u1 g1
    have hH := u2.h.at z
    have hO := u2.nn p (by rw [z]; simp) o
    refine ⟨p, vs, v, rfl, rfl, hH, by rw [dpl_length r]; exact g2, ?_⟩
    exact er.nx O2 _ σ _ ((u.trans u2).mut n hO _ (fun t => tabs_upd t _ hH)) ((env.up u2).setOwn hi e1 (dpl_append (dpAll_mono u2.o r) (.cons r2 .nil))) g3
  all_goals exact k.elim
theorem js_item (i : Nat) {x : Str} {e k : Expr} {de : ES} {dk : ES} {p1 p2 : Pos} (h : JE X W e de) (hk : JE X W k dk)
    (hb : ∀ {te tk : TE}, PE X e te → PE X k tk → PS X (.Assign [.Subscript (.Name x p1) k p2] e pos) (tAsg te (gSub (tVar i) tk rSetL)) := by exact fun pe pk => ps_asg pe (pg_sub (pv _) pk set_list)) :
    JS X W (.Assign [.Subscript (.Name x p1) k p2] e pos) (sSet i dk de) := by
  obtain ⟨te, pe, s⟩ := h.ex
  obtain ⟨tk, pk, sk⟩ := hk.ex
  refine ⟨_, hb pe pk, fun O0 H0 O H σ δ D Dd u env er g => ?_⟩
  unfold sSet S.ow at g
  split at g
  · rename_i ds hi
    refine s O H H0 σ δ _ _ _ u.oh env (er.xe u env) (fun v O1 H1 t u1 r1 g1 => ?_) g
    obtain ⟨O2, d, u2, r2, g2⟩ := r1.fr u1 g1
    have env2 := env.up u2
    have u02 := u.trans u2
    obtain ⟨p, vs, e1, n, o, z, r⟩ := env2.own i ds hi
    refine ⟨.ref p, e1, ?_⟩
    refine sk O2 H1 H0 σ δ _ _ _ u2.oh env2 (er.xe u02 env2) (fun w O3 H3 t3 u3 r3 g3 => ?_) g2
    unfold S.nm setK at g3
    split at g3
    · rename_i n'
      cases r3
      obtain ⟨j, hj, g3⟩ := g3
      have hH := u3.h.at z
      have hO := u3.nn p (by rw [z]; simp) o
      refine ⟨p, vs, n', j, rfl, rfl, hH, by rw [dpl_length r]; exact hj, ?_⟩
      exact er.nx O3 _ σ _ ((u02.trans u3).mut n hO _ (fun t => tabs_upd t _ hH)) ((env2.up u3).setOwn hi e1 (dpl_set (dpAll_mono u3.o r) (dp_mono u3.o r2))) g3
    · exact g3.elim
  all_goals exact g.elim
end

theorem startD_obj {n : Nat} {ds : List D} {i : Nat} {v : V} {d : D} {fp : List Addr} : lk (startD n ds) i ≠ .obj v d fp := by
  have h1 : ∀ (l : List D) (r : List S) (i : Nat), (∀ j, lk r j ≠ .obj v d fp) → lk (l.map S.val ++ r) i ≠ .obj v d fp := by
    intro l
    induction l with
    | nil => intro r i h; exact h i
    | cons a l ih =>
      intro r i h
      cases i with
      | zero => intro z; cases z
      | succ i => exact ih r i h
  refine h1 ds _ i fun j => ?_
  have h2 : ∀ (m j : Nat), lk (List.replicate m S.no) j ≠ .obj v d fp := by
    intro m
    induction m with
    | zero => intro j z; cases z
    | succ m ih =>
      intro j
      cases j with
      | zero => intro z; cases z
      | succ j => exact ih j
  exact h2 _ j
theorem startD_own {n : Nat} {ds : List D} {i : Nat} {es : List D} : lk (startD n ds) i ≠ .own es := by
  have h1 : ∀ (l : List D) (r : List S) (i : Nat) (es : List D), (∀ j es, lk r j ≠ .own es) → lk (l.map S.val ++ r) i ≠ .own es := by
    intro l
    induction l with
    | nil => intro r i es h; exact h i es
    | cons a l ih =>
      intro r i es h
      cases i with
      | zero => intro z; cases z
      | succ i => exact ih r i es h
  refine h1 ds _ i es fun j es => ?_
  have h2 : ∀ (m j : Nat) (es : List D), lk (List.replicate m S.no) j ≠ .own es := by
    intro m
    induction m with
    | zero => intro j es z; cases z
    | succ m ih =>
      intro j es
      cases j with
      | zero => intro z; cases z
      | succ j => exact ih j es
  exact h2 _ j es
theorem startD_adr {n : Nat} {ds : List D} {i : Nat} {es : Addr} : lk (startD n ds) i ≠ .adr es := by
  have h1 : ∀ (l : List D) (r : List S) (i : Nat) (es : Addr), (∀ j es, lk r j ≠ .adr es) → lk (l.map S.val ++ r) i ≠ .adr es := by
    intro l
    induction l with
    | nil => intro r i es h; exact h i es
    | cons a l ih =>
      intro r i es h
      cases i with
      | zero => intro z; cases z
      | succ i => exact ih r i es h
  refine h1 ds _ i es fun j es => ?_
  have h2 : ∀ (m j : Nat) (es : Addr), lk (List.replicate m S.no) j ≠ .adr es := by
    intro m
    induction m with
    | zero => intro j es z; cases z
    | succ m ih =>
      intro j es
      cases j with
      | zero => intro z; cases z
      | succ j => exact ih j es
  exact h2 _ j es
theorem startD_val {K : PySem.W.Frag} {O : Hp} {N : List Str} {vs : List V} {ds : List D} (r : DpAll K O vs ds) {i : Nat} {d : D} (h : lk (startD N.length ds) i = .val d) : ∃ v, (L2.start N vs)[i]? = some (some v) ∧ Dp K O v d := by
  have h1 : ∀ (l : List D) (ws : List V) (m : Nat) (tl : List (Option V)) (i : Nat), DpAll K O ws l → lk (l.map S.val ++ List.replicate m S.no) i = .val d → ∃ v, (ws.map some ++ tl)[i]? = some (some v) ∧ Dp K O v d := by
    intro l
    induction l with
    | nil =>
      intro ws m tl i hr z
      exfalso
      have h2 : ∀ (m j : Nat), lk (List.replicate m S.no) j ≠ .val d := by
        intro m
        induction m with
        | zero => intro j z; cases z
        | succ m ih =>
          intro j
          cases j with
          | zero => intro z; cases z
          | succ j => exact ih j
      exact h2 m i z
    | cons a l ih =>
      intro ws m tl i hr z
      cases hr with
      | cons h1 h2 =>
        cases i with
        | zero => cases z; exact ⟨_, rfl, h1⟩
        | succ i => exact ih _ m tl i h2 z
  exact h1 ds vs _ _ i r h
theorem startD_length {n : Nat} {ds : List D} (h : ds.length ≤ n) : (startD n ds).length = n := by
  unfold startD
  rw [List.length_append, List.length_map, List.length_replicate]
  omega
theorem start_env {K : PySem.W.Frag} {O H : Hp} {N : List Str} {vs : List V} {ds : List D} (r : DpAll K O vs ds) (hl : ds.length ≤ N.length) (tt : TOk O H) : EnvR K H O H (L2.start N vs) (startD N.length ds) where
  tt := tt
  len := by
    rw [startD_length hl]
    unfold L2.start
    rw [List.length_append, List.length_map, List.length_replicate, dpl_length r]
    omega
  val := fun i d h => startD_val r h
  own := fun i es h => absurd h startD_own
  inj := fun i j es fs h => absurd h startD_own
  adr := fun i a h => absurd h startD_adr
  ob := ⟨fun i v d fp h => absurd h startD_obj, fun i j ds v d fp p h => absurd h startD_own, fun i j v d fp w e gp _ h => absurd h startD_obj⟩
section
open PyProof.Rows
variable {P : Program} {w : World} {K : PySem.W.Frag} {mg : Str → Option Value} {base : Heap}
abbrev WX0 (E : XK) : WX := fun cls d _ H => E cls d H
theorem fnD {x qual : Str} {st : Stmt} {f : Addr} {fd : FuncData} {N ps : List Str} {k : Nat} {p : DSp} {b : ST} (F : Fun K x qual st f fd) (S : FnScope N ps (defScope st)) (len : ∀ ds x q, p ds x q → ds.length = ps.length)
    (hb : ∀ (cdv : Value) (A : Around) (outer : List Env) (s : Shared) (H : Hp) (E : XK), Room k (A.deeper (envOfC qual (defScope st) s.heap.objs.size f cdv)) →
      JSs (cxOf (L2N.CX P w) P w K mg base N qual (defScope st) f cdv A outer s H E) (WX0 E) (defBody st) b)
    (ok : ∀ ds x q, p ds x q → bodyD N.length b ds x q) : FnOk P w K mg base (L2N.CX P w) (k + 1) f fd ps (spD K mg p) := by
  have hN : ps.length ≤ N.length := by
    have h := congrArg List.length S.pre
    rw [List.length_take] at h
    omega
  obtain ⟨oc, od, kV, doc, pm, an, cdv, ct, osl, rfl, lk, hcd⟩ := F.ex
  refine fn_of lk hcd S (fun vs H Q E h => ?_) (fun A outer s H vs Q E hr h => ?_)
  · obtain ⟨O, ds, x, q, _, _, r, g, _⟩ := h
    rw [dpl_length r]
    exact len ds x q g
  · obtain ⟨ts, ps', ss⟩ := (hb cdv A outer s H E hr).ex
    refine ⟨ts, ps', ?_⟩
    obtain ⟨O, ds, x, q, so, tt, r, g, h1, h2⟩ := h
    have hl := len ds x q g
    refine ss O H O H (L2.start N vs) (startD N.length ds) _ ⟨fun _ => q (.val .none), q, fun _ => False, fun _ => False, fun e _ => x e⟩ (.refl so) (start_env r (by omega) tt) ?_ (ok ds x q g)
    exact ⟨fun O' H' σ δ u _ z => h1 .non O' H' (.val .none) u .non z, fun O' H' v s u z y => h1 v O' H' s u z y, fun _ _ _ _ _ _ z => z.elim, fun _ _ _ _ _ _ z => z.elim, fun e c d O' H' σ δ u _ xr z => h2 e c d O' H' u xr z⟩
theorem takesD {f : Addr} {qual : Str} {sc : Scope} {cdv : Value} {A : Around} {outer : List Env} {s : Shared} {H : Hp} {E : XK} {N : List Str} : L2N.Takes (cxOf (L2N.CX P w) P w K mg base N qual sc f cdv A outer s H E) (WX0 E) := L2N.takes_of rfl rfl rfl rfl
theorem passesD {f : Addr} {qual : Str} {sc : Scope} {cdv : Value} {A : Around} {outer : List Env} {s : Shared} {H : Hp} {E : XK} {N : List Str} : PassesOwn (model P w) (cxOf (L2N.CX P w) P w K mg base N qual sc f cdv A outer s H E).A (cxOf (L2N.CX P w) P w K mg base N qual sc f cdv A outer s H E).env (cxOf (L2N.CX P w) P w K mg base N qual sc f cdv A outer s H E).xe := passes_of (X := cxOf (L2N.CX P w) P w K mg base N qual sc f cdv A outer s H E) rfl
end
def spLaw (C : List Int → Prop) : DSp
  | [.list xs], _, q => ∃ ns : List Int, xs = ns.map PyData.int ∧ C ns ∧ q (.val (.bool true))
  | _, _, _ => False
theorem dp_ints {K : PySem.W.Frag} {O : Hp} : ∀ ns : List Int, DpAll K O (ns.map V.int) (ns.map PyData.int)
  | [] => .nil
  | n :: ns => .cons (.int n) (dp_ints ns)
structure Script (ns : List Int) : Prop where
  len : ns.length ≤ 63
  bits : ∀ n ∈ ns, Builtin.Int.intBits n ≤ 2 ^ 20
end DL

namespace DL
variable [HotA]
open PySem L2 PyProof.Rows
section
variable {X : Cx} {W : WX} {a b c e : Expr} {es : List Expr} {pos : Pos}
def rNegD : R1D
  | .int i, q => q (.val (.int (-i)))
  | _, _ => False
theorem je_neg {da : EP} (h : JP X W a da) : JE X W (.UnaryOp .USub a pos) (eUn rNegD da) := by
  obtain ⟨te, p, s⟩ := h.ex
  refine ⟨_, pe_un un_neg p, fun O H H0 σ δ x q Q so env hx hq g => ?_⟩
  refine s O H H0 σ δ x _ _ so env hx (fun v O1 H1 d u1 r1 g1 => ?_) g
  unfold rNegD at g1
  split at g1
  · rename_i i
    cases r1
    exact ⟨i, rfl, hq _ O1 H1 (.val (.int (-i))) u1 (.int _) g1⟩
  · exact g1.elim
def eChain (r r' : R2D) (a b c : EP) : ES := fun x δ q => a x δ fun d => b x δ fun d2 => r d d2 fun s => s.bl fun k => if k = true then c x δ fun d3 => r' d2 d3 q else q (.val (.bool false))
end
end DL

namespace DL
open PySem L2 PySem.W PyProof.Rows
theorem script_ok {l : OpenLaw} (hn : l.most = some 63) {P : Params} {h : Heap} {args : List WData} {vals : List Value} (hpre : l.row.toRowW.claim.pre args = true) (hlay : WData.layableAll args = true) (hwl : WellAll P h vals args) :
    ∃ a vs ns, vals = [Value.ref a] ∧ args = [WData.list (ns.map WData.int)] ∧ h.get? a = some { cls := .type "list", data := .seq vs.toArray } ∧ IntsAre vs ns ∧ Script ns := by
  obtain ⟨a, vs, ns, rfl, rfl, h1, h2, h3⟩ := Att.script_of hn hpre hwl
  refine ⟨a, vs, ns, rfl, rfl, h1, h2, h3, fun n hm => ?_⟩
  have h4 : (WData.list (ns.map WData.int)).layable = true := by
    unfold WData.layableAll at hlay
    simpa using hlay
  have h5 := layableW_item h4 (.int n) (List.mem_map.mpr ⟨n, hm, rfl⟩)
  have h6 := (layableW_iff.mp h5).2.2
  unfold WData.weight at h6
  exact h6
theorem walkD {l : OpenLaw} {k : Nat} {q : Program} {loose : List Str} {XP : (Str → Option Value) → Heap → Prop} {YP : World → Heap → Prop} {d : DefRec} {K : Params → PySem.W.Frag} {x : Str}
    (hn : l.most = some 63) (hdf : d.params.defaults = []) (hr : Room k callerA) (hY : ∀ (w : World) (h : Heap), YP w h → (K w.params).In h)
    (F : ∀ (w : World) (mg : Str → Option Value) (fa : Addr) (h : Heap), (K w.params).In h → h.Ns mainGlobals mg → mg d.name = some (.ref fa) →
      ∃ fd : FuncData, (∀ (s : Shared) (u : Value), BindsTo s fd ⟨[u], []⟩ [(x, u)]) ∧ ∀ base : Heap, (K w.params).In base → base.Ns mainGlobals mg → FnOk l.prog w (K w.params) mg base (L2N.CX l.prog w) k fa fd [x] (spD (K w.params) mg (spLaw Script))) (nt : tabT = [] := by rfl) :
    PySem.W.WalkO q loose XP YP l.row.toRowW d [] (fun f vs => PySem.call f vs) := by
  intro w s₀ s₁ mg mb G Y fa o pm cd doc dV kV ho hd hcd hD hmg hg args vals as hpre hlay hrd hwl hlo
  obtain rfl : dV = .none := Dflts.none hD hdf
  obtain rfl : kV = .none := Dflts.noKw hD
  obtain ⟨a, vs, ns, rfl, rfl, hobj, hints, hsc⟩ := script_ok hn hpre hlay hwl
  have KX := hY w _ Y
  obtain ⟨fd, hb, hF⟩ := F w mg fa _ KX G.T.g hmg
  have call : codeAny (model l.prog w) callerA (.call (.ref fa) ⟨[.ref a], []⟩) (fun r s' => r = .ok (.ret (.bool true)) ∧ OldK s₁.heap s'.heap ∧ s'.os = s₁.os ∧ AllBare s'.gens) s₁ :=
    law_call KX G.T.g G.T.b G.T.builtins G.T.nolimit hg hobj hints (Nat.le_trans hsc.len (by decide)) hr hF hb (fun H hO hS => ⟨H, [.list (ns.map .int)], fun _ => False, fun s => s = .val (.bool true), Same.refl H, ⟨fun p hp => (by rw [nt] at hp; exact nomatch hp), fun p hp => (by rw [nt] at hp; exact nomatch hp), fun p hp => nomatch hp⟩, .cons (.lst hS (dp_ints ns)) .nil, ⟨ns, rfl, hsc, rfl⟩, fun v O' H' s u r z => by
      subst z
      cases r
      rfl, fun _ _ _ _ _ _ _ z => z⟩) fun H e s' h => by
      obtain ⟨_, _, _, _, _, _, _, _, _, _, _, _, z⟩ := h
      exact z.elim
  refine PySem.W.enter_call (codeAny_mono call fun r s' hq => ?_)
  obtain ⟨rfl, h2, h3, h4⟩ := hq
  exact ⟨.inl ⟨.bool true, .bool true, [], rfl, fun _ => rfl, .bool true, Att.post_true l _, fun _ => ⟨List.Pairwise.nil, fun _ hm => (nomatch hm)⟩⟩, h2, h3, h4⟩
structure Df (K : PySem.W.Frag) (mg : Str → Option Value) (x : Str) (st : Stmt) (ps : List Str) where
  a : Addr
  fd : FuncData
  F : Fun K x x st a fd
  m : mg x = some (.ref a)
  bd : ∀ us : List Value, us.length = ps.length → bindArgs fd ⟨us, []⟩ = pure (ps.zip us)
theorem Df.b {K : PySem.W.Frag} {mg : Str → Option Value} {x : Str} {st : Stmt} {ps : List Str} (D : Df K mg x st ps) : Binds K D.fd ps [] := .all D.bd
theorem df_mk {K : PySem.W.Frag} {mg : Str → Option Value} {h : Heap} {x : Str} {st : Stmt} {ps : List Str} {f : Addr} {oc : Value} {od an : Option Addr} {osl : Array (Option Value)} {kV doc pm cdv ct : Value} (X : K.In h) (G : h.Ns mainGlobals mg)
    (hb : ∀ (kV doc pm : Value) (an : Option Addr) (cdv ct : Value) (us : List Value), us.length = ps.length → bindArgs (fnOf x x (defArgs st) (defBody st) (defScope st) .none kV doc pm an cdv ct) ⟨us, []⟩ = pure (ps.zip us))
    (a : nsIn K mainGlobals x = some (some (.ref f))) (l : K.lookup f = some ⟨oc, od, .func (fnOf x x (defArgs st) (defBody st) (defScope st) .none kV doc pm an cdv ct), osl⟩) (c : codeIn K cdv x = true) (k : keepIn K (.ref f) = true) :
    Nonempty (Df K mg x st ps) := ⟨⟨f, _, fun_mk (st := st) l c k, mg_of X G a, hb _ _ _ _ _ _⟩⟩
theorem law_mk {P : Program} {w : World} {K : PySem.W.Frag} {mg : Str → Option Value} {st : Stmt} {x : Str} {fa : Addr} {k : Nat} {sp : Sp} (D : Df K mg "law" st [x]) (h : mg "law" = some (.ref fa)) (F : ∀ base : Heap, FnOk P w K mg base (L2N.CX P w) k D.a D.fd [x] sp) :
    ∃ fd : FuncData, (∀ (s : Shared) (u : Value), BindsTo s fd ⟨[u], []⟩ [(x, u)]) ∧ ∀ base : Heap, K.In base → base.Ns mainGlobals mg → FnOk P w K mg base (L2N.CX P w) k fa fd [x] sp := by
  have e := h.symm.trans D.m
  injection e with e
  injection e with e
  subst e
  exact ⟨D.fd, fun s u => .of_eq (D.bd [u] rfl), fun base _ _ => F base⟩
theorem hk_int : ∀ d, (kitB (tyD d) "int").isSome = true := by intro d; cases d <;> (show (kitB _ "int").isSome = true; first | exact (by decide +kernel : (kitB "NoneType" "int").isSome = true) | exact (by decide +kernel : (kitB "bool" "int").isSome = true) | exact (by decide +kernel : (kitB "int" "int").isSome = true) | exact (by decide +kernel : (kitB "str" "int").isSome = true) | exact (by decide +kernel : (kitB "list" "int").isSome = true) | exact (by decide +kernel : (kitB "tuple" "int").isSome = true) | exact (by decide +kernel : (kitB "dict" "int").isSome = true))
theorem hk_bool : ∀ d, (kitB (tyD d) "bool").isSome = true := by intro d; cases d <;> (show (kitB _ "bool").isSome = true; first | exact (by decide +kernel : (kitB "NoneType" "bool").isSome = true) | exact (by decide +kernel : (kitB "bool" "bool").isSome = true) | exact (by decide +kernel : (kitB "int" "bool").isSome = true) | exact (by decide +kernel : (kitB "str" "bool").isSome = true) | exact (by decide +kernel : (kitB "list" "bool").isSome = true) | exact (by decide +kernel : (kitB "tuple" "bool").isSome = true) | exact (by decide +kernel : (kitB "dict" "bool").isSome = true))
theorem hk_tuple : ∀ d, (kitB (tyD d) "tuple").isSome = true := by intro d; cases d <;> (show (kitB _ "tuple").isSome = true; first | exact (by decide +kernel : (kitB "NoneType" "tuple").isSome = true) | exact (by decide +kernel : (kitB "bool" "tuple").isSome = true) | exact (by decide +kernel : (kitB "int" "tuple").isSome = true) | exact (by decide +kernel : (kitB "str" "tuple").isSome = true) | exact (by decide +kernel : (kitB "list" "tuple").isSome = true) | exact (by decide +kernel : (kitB "tuple" "tuple").isSome = true) | exact (by decide +kernel : (kitB "dict" "tuple").isSome = true))
theorem isD_int (i : Int) : isD "int" (.int i) = true := by show (kitB "int" "int").getD false = true; decide +kernel
theorem isD_int_bool (i : Int) : isD "bool" (.int i) = false := by show (kitB "int" "bool").getD false = false; decide +kernel
theorem isD_tuple (l : List D) : isD "tuple" (.tuple l) = true := by show (kitB "tuple" "tuple").getD false = true; decide +kernel
theorem isD_list (l : List D) : isD "list" (.list l) = true := by show (kitB "list" "list").getD false = true; decide +kernel
theorem isD_str (l : Str) : isD "str" (.str l) = true := by show (kitB "str" "str").getD false = true; decide +kernel
abbrev Sz (n : Nat) (i : Int) : Prop := Builtin.Int.intBits i ≤ n
theorem DivOk.of {n : Nat} {j : Int} (h : j ≠ 0) (hz : Sz n j) (hn : n ≤ 9000) : DivOk j := by
  refine ⟨h, ?_⟩
  have e : (j == 0) = false := by simpa using h
  unfold Sz Builtin.Int.intBits at hz
  rw [e] at hz
  simp only [Bool.false_eq_true, if_false] at hz
  omega
instance {a b : Int} : Decidable (IntMulOk a b) := by unfold IntMulOk; exact inferInstance
theorem use {K : PySem.W.Frag} {mg : Str → Option Value} {h : Heap} {x : Str} {p : Prop} (X : K.In h) (G : h.Ns mainGlobals mg) (e : nsIn K mainGlobals x = some none) (k : mg x = none → p) : p := k (mg_none_of X G e)
theorem df_use {K : PySem.W.Frag} {mg : Str → Option Value} {h : Heap} {x : Str} {st : Stmt} {ps : List Str} {p : Prop} {f : Addr} {oc : Value} {od an : Option Addr} {osl : Array (Option Value)} {kV doc pm cdv ct : Value} (X : K.In h) (G : h.Ns mainGlobals mg)
    (hb : ∀ (kV doc pm : Value) (an : Option Addr) (cdv ct : Value) (us : List Value), us.length = ps.length → bindArgs (fnOf x x (defArgs st) (defBody st) (defScope st) .none kV doc pm an cdv ct) ⟨us, []⟩ = pure (ps.zip us))
    (a : nsIn K mainGlobals x = some (some (.ref f))) (l : K.lookup f = some ⟨oc, od, .func (fnOf x x (defArgs st) (defBody st) (defScope st) .none kV doc pm an cdv ct), osl⟩) (c : codeIn K cdv x = true) (k : keepIn K (.ref f) = true)
    (q : Df K mg x st ps → p) : p := (df_mk X G hb a l c k).elim q
abbrev p_law : DSp := spLaw Script
theorem len_law : ∀ ds x q, p_law ds x q → ds.length = 1 := by
  intro ds x q h
  unfold p_law spLaw at h
  split at h
  · rfl
  · exact h.elim
instance {a b : Int} : Decidable (CPow a b) := by unfold CPow; exact inferInstance
instance {a : Int} : Decidable (DivOk a) := by unfold DivOk; exact inferInstance
theorem CPow.of {i : Int} {j : Int} (h : 0 ≤ j ∧ j ≤ 1000000) (hi : Sz 64 i) : CPow i j := ⟨h.1, h.2, intBits_le_iff.mp hi⟩
theorem Sz.mono {m n : Nat} {i : Int} (h : Sz m i) (e : m ≤ n) : Sz n i := Nat.le_trans h e
end DL

namespace DL
open PySem L2
class Kq where
  k : S → Prop
class Ke where
  e : DL.Ends
def callK (p : DSp) (ds : List D) (x : XP) [K : Kq] : Prop := p ds x K.k
def ixK (o : Option D) [K : Kq] : Prop := optK o fun v => K.k (.val v)
theorem w_ixS {d : D} {K : Kq} : ixK (some d) = K.k (.val d) := (rfl)
section
variable {d c : D} {ds : List D} {i j : Int} {b : Bool} {k : D → Prop} {q : S → Prop} {kb : Bool → Prop} {kn : Int → Prop} {kl : List D → Prop} {x y : Str} {xs ys : List D}
theorem u_eVar {i : Nat} {x0 : XP} {δ : List S} {q : S → Prop} : eVar i x0 δ q = ((lk δ i).var q) := (rfl)
theorem u_pVar {i : Nat} {x0 : XP} {δ : List S} {q : D → Prop} : pVar i x0 δ q = ((lk δ i).pk q) := (rfl)
theorem u_pE {e : ES} {x : XP} {δ : List S} {q : D → Prop} : pE e x δ q = (e x δ fun s => s.fr q) := (rfl)
theorem u_eC {d : D} {x0 : XP} {δ0 : List S} {q : S → Prop} : eC d x0 δ0 q = (q (.val d)) := (rfl)
theorem u_eOp {r : R2D} {a b : EP} {x : XP} {δ : List S} {q : S → Prop} : eOp r a b x δ q = (a x δ fun c => b x δ fun d => r c d q) := (rfl)
theorem u_eUn {r : R1D} {a : EP} {x : XP} {δ : List S} {q : S → Prop} : eUn r a x δ q = (a x δ fun c => r c q) := (rfl)
theorem u_tV {e : ES} {x : XP} {δ : List S} {q : Bool → Prop} : tV e x δ q = (e x δ fun s => s.bl q) := (rfl)
theorem u_tAnd {t u : ET} {x : XP} {δ : List S} {q : Bool → Prop} : tAnd t u x δ q = (t x δ fun b => if b = true then u x δ q else q false) := (rfl)
theorem u_tOr {t u : ET} {x : XP} {δ : List S} {q : Bool → Prop} : tOr t u x δ q = (t x δ fun b => if b = true then q true else u x δ q) := (rfl)
theorem u_tNot {t : ET} {x : XP} {δ : List S} {q : Bool → Prop} : tNot t x δ q = (t x δ fun b => q (!b)) := (rfl)
theorem u_eAnd {t : ES} {u : ES} {x : XP} {δ : List S} {q : S → Prop} : eAnd t u x δ q = (t x δ fun s => s.bl fun b => if b = true then u x δ q else q (.val (.bool false))) := (rfl)
theorem u_eOr {t : ES} {u : ES} {x : XP} {δ : List S} {q : S → Prop} : eOr t u x δ q = (t x δ fun s => s.bl fun b => if b = true then q (.val (.bool true)) else u x δ q) := (rfl)
theorem u_eNot {t : ES} {x : XP} {δ : List S} {q : S → Prop} : eNot t x δ q = (t x δ fun s => s.bl fun b => q (.val (.bool (!b)))) := (rfl)
theorem u_eIf {t : ET} {a b : ES} {x : XP} {δ : List S} {q : S → Prop} : eIf t a b x δ q = (t x δ fun c => if c = true then a x δ q else b x δ q) := (rfl)
theorem u_aNil {x0 : XP} {δ0 : List S} {q : List D → Prop} : aNil  x0 δ0 q = (q []) := (rfl)
theorem u_aCons {e : ES} {r : EA} {x : XP} {δ : List S} {q : List D → Prop} : aCons e r x δ q = (e x δ fun s => s.fr fun d => r x δ fun ds => q (d :: ds)) := (rfl)
theorem u_apNil {x0 : XP} {δ0 : List S} {q : List D → Prop} : apNil  x0 δ0 q = (q []) := (rfl)
theorem u_apCons {e : EP} {r : EA} {x : XP} {δ : List S} {q : List D → Prop} : apCons e r x δ q = (e x δ fun d => r x δ fun ds => q (d :: ds)) := (rfl)
theorem u_eTup {a : EA} {x : XP} {δ : List S} {q : S → Prop} : eTup a x δ q = (a x δ fun ds => ds.length ≤ sizeLine ∧ q (.val (.tuple ds))) := (rfl)
theorem u_eLst {a : EA} {x : XP} {δ : List S} {q : S → Prop} : eLst a x δ q = (a x δ fun ds => ds.length ≤ sizeLine ∧ q (.own ds)) := (rfl)
theorem u_eCall {p : DSp} {a : EA} {x : XP} {δ : List S} {q : S → Prop} : eCall p a x δ q = (a x δ fun ds => @callK p ds x ⟨q⟩) := (rfl)
theorem u_eB {r : RD} {a : EA} {x : XP} {δ : List S} {q : S → Prop} : eB r a x δ q = (a x δ fun ds => r ds q) := (rfl)
theorem u_eCallP {p : DSp} {a : EA} {x : XP} {δ : List S} {q : S → Prop} : eCallP p a x δ q = (a x δ fun ds => @callK p ds (fun e => flatE e = true ∧ x e) ⟨fun s => s.flat = true ∧ q s⟩) := (rfl)
theorem u_sNext {D : DL.Ends} {δ : List S} : sNext  D δ = (D.nx δ) := (rfl)
theorem u_sSeq {t u : ST} {D : DL.Ends} {δ : List S} : sSeq t u D δ = (t { D with nx := u D } δ) := (rfl)
theorem u_gVar {i : Nat} {s : S} {δ : List S} {q : List S → Prop} : gVar i s δ q = (q (put δ i s)) := (rfl)
theorem u_gVal {i : Nat} {s : S} {δ : List S} {q : List S → Prop} : gVal i s δ q = (s.fr fun d => q (put δ i (.val d))) := (rfl)
theorem u_gNil {ds : List D} {δ : List S} {q : List S → Prop} : gNil  ds δ q = (ds = [] ∧ q δ) := (rfl)
theorem u_gTup {n : Nat} {g : EGs} {s : S} {δ : List S} {q : List S → Prop} : gTup n g s δ q = (s.fr fun d => tupK d fun ds => ds.length = n ∧ g ds δ q) := (rfl)
theorem u_sAsg {e : ES} {g : EG} {D : DL.Ends} {δ : List S} : sAsg e g D δ = (e (fun x => D.ex x δ) δ fun s => g s δ D.nx) := (rfl)
theorem u_sPar {i j : Nat} {a : EA} {D : DL.Ends} {δ : List S} : sPar i j a D δ = (a (fun x => D.ex x δ) δ fun ds => twoK ds fun c d => D.nx (put (put δ i (.val c)) j (.val d))) := (rfl)
theorem u_sDrop {e : ES} {D : DL.Ends} {δ : List S} : sDrop e D δ = (e (fun x => D.ex x δ) δ fun _ => D.nx δ) := (rfl)
theorem u_sRet {e : ES} {D : DL.Ends} {δ : List S} : sRet e D δ = (e (fun x => D.ex x δ) δ D.rt) := (rfl)
theorem u_sRetOwn {i : Nat} {D : DL.Ends} {δ : List S} : sRetOwn i D δ = ((lk δ i).any D.rt) := (rfl)
theorem u_sRetN {D : DL.Ends} {δ0 : List S} : sRetN  D δ0 = (D.rt (.val .none)) := (rfl)
theorem u_sIf {t : ET} {a b : ST} {D : DL.Ends} {δ : List S} : sIf t a b D δ = (t (fun x => D.ex x δ) δ fun c => if c = true then a D δ else b D δ) := (rfl)
theorem u_sBrk {D : DL.Ends} {δ : List S} : sBrk  D δ = (D.bk δ) := (rfl)
theorem u_sCont {D : DL.Ends} {δ : List S} : sCont  D δ = (D.ct δ) := (rfl)
theorem u_sRaise {c : Str} {D : DL.Ends} {δ : List S} : sRaise c D δ = (D.ex ⟨c, none⟩ δ) := (rfl)
theorem u_sRaise1 {c f : Str} {e : ES} {D : DL.Ends} {δ : List S} : sRaise1 c f e D δ = (e (fun x => D.ex x δ) δ fun s => s.fr fun d => D.ex ⟨c, some (f, d)⟩ δ) := (rfl)
theorem u_sFrz {i : Nat} {D : DL.Ends} {δ : List S} : sFrz i D δ = ((lk δ i).fr fun d => D.nx (put δ i (.val d))) := (rfl)
theorem u_sApp {i : Nat} {e : ES} {D : DL.Ends} {δ : List S} : sApp i e D δ = ((lk δ i).ow fun ds => e (fun x => D.ex x δ) δ fun s => s.fr fun d => ds.length < sizeLine ∧ D.nx (put δ i (.own (ds ++ [d])))) := (rfl)
theorem u_sSet {i : Nat} {k : ES} {e : ES} {D : DL.Ends} {δ : List S} : sSet i k e D δ = ((lk δ i).ow fun ds => e (fun x => D.ex x δ) δ fun s => s.fr fun d => k (fun x => D.ex x δ) δ fun t => t.nm fun n => setK ds n d fun es => D.nx (put δ i (.own es))) := (rfl)
theorem u_iVal {e : ES} {x : XP} {δ : List S} {q : List D → Prop} : iVal e x δ q = (e x δ fun s => s.fr fun d => seqK d q) := (rfl)
theorem u_iRng1 {a : EA} {x : XP} {δ : List S} {q : List D → Prop} : iRng1 a x δ q = (a x δ fun ds => numK ds fun n => (-(2 ^ 62) ≤ n ∧ n < 2 ^ 62) ∧ q (rngD 0 n.toNat)) := (rfl)
theorem u_iRng2 {a : EA} {x : XP} {δ : List S} {q : List D → Prop} : iRng2 a x δ q = (a x δ fun ds => num2K ds fun i j => (-(2 ^ 62) ≤ i ∧ i < 2 ^ 62 ∧ -(2 ^ 62) ≤ j ∧ j < 2 ^ 62) ∧ q (rngD i (j - i).toNat)) := (rfl)
theorem u_eIsi {T : String} {e : EP} {x : XP} {δ : List S} {q : S → Prop} : eIsi T e x δ q = (e x δ fun d => noDict d = true ∧ q (.val (.bool (isD T d)))) := (rfl)
theorem u_tYesD {x0 : XP} {δ0 : List S} {q : Bool → Prop} : tYesD  x0 δ0 q = (q true) := (rfl)
theorem u_eChain {r r' : R2D} {a b c : EP} {x : XP} {δ : List S} {q : S → Prop} : eChain r r' a b c x δ q = (a x δ fun d => b x δ fun d2 => r d d2 fun s => s.bl fun k => if k = true then c x δ fun d3 => r' d2 d3 q else q (.val (.bool false))) := (rfl)
theorem u_body {n : Nat} {b : ST} {ds : List D} {x : XP} {q : S → Prop} : bodyD n b ds x q = b ⟨fun _ => q (.val .none), q, fun _ => False, fun _ => False, fun e _ => x e⟩ (startD n ds) := (rfl)
def forK (g : EG) (b : ST) (δ : List S) (ds : List DL.D) [K : Ke] : Prop := ∃ Inv : Nat → List S → Prop, Inv 0 δ ∧
  (∀ i d δ', ds[i]? = some d → Inv i δ' → g (.val d) δ' fun δ2 => b { K.e with nx := Inv (i + 1), ct := Inv (i + 1), bk := K.e.nx } δ2) ∧ ∀ δ', Inv ds.length δ' → K.e.nx δ'
theorem u_sFor {src : EI} {g : EG} {b : ST} {D : DL.Ends} {δ : List S} : sFor src g b D δ = src (fun x => D.ex x δ) δ (fun ds => @forK g b δ ds ⟨D⟩) := (rfl)
def whileK (t : ET) (b : ST) (δ : List S) [K : Ke] : Prop := sWhile t b K.e δ
theorem u_sWhile {t : ET} {b : ST} {D : DL.Ends} {δ : List S} : sWhile t b D δ = @whileK t b δ ⟨D⟩ := (rfl)
def cutsK (t u : ST) (δ : List S) [K : Ke] : Prop := sCut t u K.e δ
theorem u_sCut {t u : ST} {D : DL.Ends} {δ : List S} : sCut t u D δ = @cutsK t u δ ⟨D⟩ := (rfl)
def compK (vs : List Nat) (g : EG) (t : ET) (e : ES) (δ : List S) (ds : List DL.D) [K : Kq] : Prop := ds.length ≤ 1000000 ∧ ∃ rs : List (Option D),
  All2 (fun d o => g (.val d) (wipeD δ vs) fun δ2 => t (fun _ => False) δ2 fun b => if b = true then e (fun _ => False) δ2 fun s => s.fr fun r => o = some r else o = none) ds rs ∧ K.k (.own (rs.filterMap id))
theorem u_eComp {src : EI} {vs : List Nat} {g : EG} {t : ET} {e : ES} {x : XP} {δ : List S} {q : S → Prop} : eComp src vs g t e x δ q = src x δ (fun ds => @compK vs g t e δ ds ⟨q⟩) := (rfl)
theorem while_ {t : ET} {b : ST} {D : DL.Ends} {δ : List S} (Inv : Nat → List S → Prop) (m : Nat) (h0 : Inv m δ) (hs : ∀ m δ', Inv m δ' →
  t (fun x => D.ex x δ') δ' fun c => if c = true then b { D with nx := fun δ2 => ∃ m', m' < m ∧ Inv m' δ2, ct := fun δ2 => ∃ m', m' < m ∧ Inv m' δ2, bk := D.nx } δ' else D.nx δ') : @whileK t b δ ⟨D⟩ := ⟨Inv, ⟨m, h0⟩, hs⟩
theorem w_pk1 : (S.val d).pk k = k d := (rfl)
theorem w_pk2 : (S.own ds).pk k = k (.list ds) := (rfl)
theorem w_fr1 : (S.val d).fr k = k d := (rfl)
theorem w_fr2 : (S.own ds).fr k = k (.list ds) := (rfl)
theorem w_var : (S.val d).var q = q (.val d) := (rfl)
theorem w_bl : (S.val (.bool b)).bl kb = kb b := (rfl)
theorem w_nm : (S.val (.int i)).nm kn = kn i := (rfl)
theorem w_ow : (S.own ds).ow kl = kl ds := (rfl)
theorem w_any1 : (S.val d).any q = q (.val d) := (rfl)
theorem w_any2 : (S.own ds).any q = q (.own ds) := (rfl)
theorem w_seq1 : seqK (.list ds) kl = kl ds := (rfl)
theorem w_seq2 : seqK (.tuple ds) kl = kl ds := (rfl)
theorem w_tup : tupK (.tuple ds) kl = kl ds := (rfl)
theorem w_num : numK [.int i] kn = kn i := (rfl)
theorem w_num2 {k2 : Int → Int → Prop} : num2K [.int i, .int j] k2 = k2 i j := (rfl)
theorem w_two {k2 : D → D → Prop} : twoK [c, d] k2 = k2 c d := (rfl)
theorem w_opt {α : Type} {a : α} {ka : α → Prop} : optK (some a) ka = ka a := (rfl)
theorem w_int {C : Int → Int → Prop} {g : Int → Int → D} : rIntD C g (.int i) (.int j) q = (C i j ∧ q (.val (g i j))) := (rfl)
theorem w_int0 {g : Int → Int → D} : rInt0D g (.int i) (.int j) q = q (.val (g i j)) := (rfl)
theorem w_add1 : rAddD (.int i) (.int j) q = q (.val (.int (i + j))) := (rfl)
theorem w_add2 : rAddD (.str x) (.str y) q = (x.length + y.length ≤ sizeLine ∧ q (.val (.str (x ++ y)))) := (rfl)
theorem w_add4 : rAddD (.list xs) (.list ys) q = (xs.length + ys.length ≤ sizeLine ∧ q (.own (xs ++ ys))) := (rfl)
theorem w_add3 : rAddD (.tuple xs) (.tuple ys) q = ((xs ≠ [] ∧ ys ≠ []) ∧ xs.length + ys.length ≤ sizeLine ∧ q (.val (.tuple (xs ++ ys)))) := (rfl)
theorem w_eq1 : rEqD (.int i) (.int j) q = q (.val (.bool (decide (i = j)))) := (rfl)
theorem w_eq2 : rEqD (.str x) (.str y) q = q (.val (.bool (decide (x = y)))) := (rfl)
theorem w_eq3 : rEqD (.tuple xs) d q = (shapedB (.tuple xs) = true ∧ shapedB d = true ∧ q (.val (.bool (PyData.eqv (.tuple xs) d)))) := by cases d <;> rfl
theorem w_eq4 : rEqD (.list xs) d q = (shapedB (.list xs) = true ∧ shapedB d = true ∧ q (.val (.bool (PyData.eqv (.list xs) d)))) := by cases d <;> rfl
theorem w_eq5 : rEqD (.int i) (.bool b) q = (shapedB (.int i) = true ∧ shapedB (.bool b) = true ∧ q (.val (.bool (PyData.eqv (.int i) (.bool b))))) := (rfl)
theorem w_eq6 : rEqD (.bool b) d q = (shapedB (.bool b) = true ∧ shapedB d = true ∧ q (.val (.bool (PyData.eqv (.bool b) d)))) := by cases d <;> rfl
theorem w_ne1 : rNeD (.int i) (.int j) q = q (.val (.bool (!decide (i = j)))) := (rfl)
theorem w_ne2 : rNeD (.str x) (.str y) q = q (.val (.bool (!decide (x = y)))) := (rfl)
theorem w_ne3 : rNeD (.tuple xs) d q = (shapedB (.tuple xs) = true ∧ shapedB d = true ∧ q (.val (.bool (!PyData.eqv (.tuple xs) d)))) := by cases d <;> rfl
theorem w_ne4 : rNeD (.list xs) d q = (shapedB (.list xs) = true ∧ shapedB d = true ∧ q (.val (.bool (!PyData.eqv (.list xs) d)))) := by cases d <;> rfl
theorem w_isN : rIsND d .none q = q (.val (.bool (isNon d))) := (rfl)
theorem w_notN : rNotND d .none q = q (.val (.bool (!isNon d))) := (rfl)
theorem w_ix1 : rIxD (.list xs) (.int i) q = @ixK (atI xs i) ⟨q⟩ := (rfl)
theorem w_ix2 : rIxD (.tuple xs) (.int i) q = @ixK (atI xs i) ⟨q⟩ := (rfl)
theorem w_ix3 : rIxD (.str x) (.int i) q = (x.length ≤ sizeLine ∧ optK (atI x.cps.toList i) fun c => q (.val (.str ⟨#[c]⟩))) := (rfl)
theorem w_len1 : rLenD [.list xs] q = q (.val (.int xs.length)) := (rfl)
theorem w_len2 : rLenD [.tuple xs] q = q (.val (.int xs.length)) := (rfl)
theorem w_len3 : rLenD [.str x] q = (x.length ≤ sizeLine ∧ q (.val (.int x.length))) := (rfl)
theorem w_abs : rAbsD [.int i] q = q (.val (.int i.natAbs)) := by
  show q (.val (.int (if i < 0 then -i else i))) = _
  have : (if i < 0 then -i else i) = (i.natAbs : Int) := by split <;> omega
  rw [this]
theorem w_max2 : rMax2D [.int i, .int j] q = q (.val (.int (max i j))) := by
  show q (.val (.int (if j > i then j else i))) = _
  have : (if j > i then j else i) = max i j := by split <;> omega
  rw [this]
theorem w_min2 : rMin2D [.int i, .int j] q = q (.val (.int (min i j))) := by
  show q (.val (.int (if j < i then j else i))) = _
  have : (if j < i then j else i) = min i j := by split <;> omega
  rw [this]
theorem w_all : rAllD [.list xs] q = optK (bools xs) fun bs => q (.val (.bool (bs.all id))) := by
  show (∃ bs, bools xs = some bs ∧ q (.val (.bool (bs.all id)))) = _
  cases bools xs with
  | none => exact propext ⟨fun ⟨_, e, _⟩ => (nomatch e), fun h => h.elim⟩
  | some bs => exact propext ⟨fun ⟨_, e, h⟩ => by cases e; exact h, fun h => ⟨bs, rfl, h⟩⟩
theorem w_anyb : rAnyD [.list xs] q = optK (bools xs) fun bs => q (.val (.bool (bs.any id))) := by
  show (∃ bs, bools xs = some bs ∧ q (.val (.bool (bs.any id)))) = _
  cases bools xs with
  | none => exact propext ⟨fun ⟨_, e, _⟩ => (nomatch e), fun h => h.elim⟩
  | some bs => exact propext ⟨fun ⟨_, e, h⟩ => by cases e; exact h, fun h => ⟨bs, rfl, h⟩⟩
theorem w_sum : rSumD [.list xs] q = optK (nums xs) fun bs => q (.val (.int bs.sum)) := by
  show (∃ bs, nums xs = some bs ∧ q (.val (.int bs.sum))) = _
  cases nums xs with
  | none => exact propext ⟨fun ⟨_, e, _⟩ => (nomatch e), fun h => h.elim⟩
  | some bs => exact propext ⟨fun ⟨_, e, h⟩ => by cases e; exact h, fun h => ⟨bs, rfl, h⟩⟩
theorem w_tuple : rTupleD [.list xs] q = q (.val (.tuple xs)) := (rfl)
theorem w_list1 : rListD [.list xs] q = q (.own xs) := (rfl)
theorem w_list2 : rListD [.tuple xs] q = q (.own xs) := (rfl)
theorem w_intc1 : rIntCD [.int i] q = q (.val (.int i)) := (rfl)
theorem w_intc2 : rIntCD [.bool b] q = q (.val (.int (if b then 1 else 0))) := (rfl)
theorem w_neg : rNegD (.int i) q = q (.val (.int (-i))) := (rfl)
theorem w_flat1 : (S.val (.int i)).flat = true := (rfl)
theorem w_flat2 : (S.val (.bool b)).flat = true := (rfl)
theorem w_flat3 : (S.val (.str x)).flat = true := (rfl)
theorem w_flat4 : (S.val .none).flat = true := (rfl)
theorem w_gcons {g : EG} {r : EGs} {δ : List S} {kq : List S → Prop} : gCons g r (d :: ds) δ kq = g (.val d) δ fun δ' => r ds δ' kq := (rfl)
theorem w_lk0 {s : S} {l : List S} : lk (s :: l) 0 = s := (rfl)
theorem w_lks {s : S} {l : List S} {n : Nat} : lk (s :: l) (n + 1) = lk l n := (rfl)
theorem w_put0 {s t : S} {l : List S} : put (s :: l) 0 t = t :: l := (rfl)
theorem w_puts {s t : S} {l : List S} {n : Nat} : put (s :: l) (n + 1) t = s :: put l n t := (rfl)
theorem w_wipe0 {l : List S} : wipeD l [] = l := (rfl)
theorem w_wipe1 {l : List S} {v : Nat} {vs : List Nat} : wipeD l (v :: vs) = put (wipeD l vs) v .no := (rfl)
theorem w_all2a {α β : Type} {P : α → β → Prop} : All2 P [] [] = True := (rfl)
theorem w_all2b {α β : Type} {P : α → β → Prop} {a : α} {b : β} {as : List α} {bs : List β} : All2 P (a :: as) (b :: bs) = (P a b ∧ All2 P as bs) := (rfl)
theorem w_id1 {α : Type} {a : α} {l : List (Option α)} : (some a :: l).filterMap id = a :: l.filterMap id := (rfl)
theorem w_id2 {α : Type} {l : List (Option α)} : (none :: l).filterMap id = l.filterMap id := (rfl)
theorem w_id3 {α : Type} : ([] : List (Option α)).filterMap id = [] := (rfl)
theorem filterMap_some {α β : Type} (f : α → β) (l : List α) : (l.map fun a => some (f a)).filterMap id = l.map f := by
  induction l with
  | nil => rfl
  | cons a l ih => show f a :: (l.map fun a => some (f a)).filterMap id = f a :: l.map f; rw [ih]
theorem filterMap_filter {α β : Type} (p : α → Bool) (f : α → β) (l : List α) : (l.map fun a => if p a = true then some (f a) else none).filterMap id = (l.filter p).map f := by
  induction l with
  | nil => rfl
  | cons a l ih =>
    by_cases h : p a = true
    · rw [List.filter_cons_of_pos h, List.map_cons, List.map_cons, if_pos h, ← ih]; rfl
    · rw [List.filter_cons_of_neg h, List.map_cons, if_neg h, ← ih]; rfl
theorem rng3 : rngD 0 (Int.toNat 3) = [.int 0, .int 1, .int 2] := rfl
theorem map_int_inj : ∀ {ns ms : List Int}, ns.map PyData.int = ms.map PyData.int → ns = ms
  | [], [], _ => rfl
  | [], _ :: _, h => by cases h
  | _ :: _, [], h => by cases h
  | n :: ns, m :: ms, h => by
    injection h with h1 h2
    injection h1 with h1
    rw [h1, map_int_inj h2]
theorem ints_inj {ns ms : List Int} : (ns.map PyData.int = ms.map PyData.int) = (ns = ms) := propext ⟨map_int_inj, fun h => by rw [h]⟩
theorem Sz.add {m n : Nat} {i j : Int} (h : Sz m i) (k : Sz n j) : Sz (max m n + 1) (i + j) := intBits_add_le h k
theorem Sz.sub {m n : Nat} {i j : Int} (h : Sz m i) (k : Sz n j) : Sz (max m n + 1) (i - j) := intBits_sub_le h k
theorem Sz.mul {m n : Nat} {i j : Int} (h : Sz m i) (k : Sz n j) : Sz (m + n) (i * j) := intBits_mul_le h k
theorem Sz.neg {m : Nat} {i : Int} (h : Sz m i) : Sz m (-i) := intBits_neg_le h
theorem Sz.fdiv {m : Nat} {i j : Int} (h : Sz m i) : Sz m (i.fdiv j) := intBits_fdiv_le h
theorem Sz.fmod {m n : Nat} {i j : Int} (h : Sz m i) (k : Sz n j) : Sz (max m n) (i.fmod j) := intBits_fmod_le h k
theorem Sz.ediv {m : Nat} {i j : Int} (h : Sz m i) : Sz m (i / j) := intBits_le_of_natAbs (by
  by_cases z : 0 ≤ j
  · rw [← Int.fdiv_eq_ediv_of_nonneg i z]
    exact natAbs_fdiv_le i j
  · have : i / j = -(i / (-j)) := by rw [Int.ediv_neg, Int.neg_neg]
    rw [this, Int.natAbs_neg, ← Int.fdiv_eq_ediv_of_nonneg i (by omega)]
    exact natAbs_fdiv_le i (-j)) h
theorem Sz.emod {n : Nat} {i j : Int} (h : 0 < j) (k : Sz n j) : Sz n (i % j) := by
  have h1 := Int.emod_nonneg i (show j ≠ 0 by omega)
  have h2 := Int.emod_lt_of_pos i h
  exact intBits_le_of_natAbs (by omega) k
theorem Sz.of_le {n : Nat} {i j : Int} (h : i.natAbs ≤ j.natAbs) (k : Sz n j) : Sz n i := intBits_le_of_natAbs h k
theorem Sz.pow {m : Nat} {i : Int} (h : Sz m i) (k : Nat) : Sz (m * k + 1) (i ^ k) := intBits_pow_le h k
theorem Sz.ite {m n : Nat} {c : Prop} [Decidable c] {i j : Int} (h : Sz m i) (k : Sz n j) : Sz (max m n) (if c then i else j) := intBits_ite_le h k
theorem w_fmod {a b : Int} (h : 0 ≤ b) : a.fmod b = a % b := Int.fmod_eq_emod_of_nonneg a h
theorem w_fdiv {a b : Int} (h : 0 ≤ b) : a.fdiv b = a / b := Int.fdiv_eq_ediv_of_nonneg a h
def rngI (lo : Int) (n : Nat) : List Int := (List.range n).map fun k : Nat => lo + k
theorem mem_rngI {lo i : Int} {n : Nat} : i ∈ rngI lo n ↔ lo ≤ i ∧ i < lo + n := by
  unfold rngI
  rw [List.mem_map]
  constructor
  · rintro ⟨k, hk, rfl⟩
    rw [List.mem_range] at hk
    omega
  · rintro ⟨h1, h2⟩
    exact ⟨(i - lo).toNat, List.mem_range.mpr (by omega), by omega⟩
theorem rngI_length {lo : Int} {n : Nat} : (rngI lo n).length = n := by unfold rngI; rw [List.length_map, List.length_range]
theorem rngI_succ {lo : Int} {n : Nat} : rngI lo (n + 1) = rngI lo n ++ [lo + n] := by unfold rngI; rw [List.range_succ, List.map_append]; rfl
theorem comp_maps {α : Type} {vs : List Nat} {g : EG} {t : ET} {e : ES} {δ : List S} {q : S → Prop} {as : List α} {en : α → D} (p : α → Bool) (f : α → D) (hl : as.length ≤ 1000000)
    (h : ∀ a ∈ as, g (.val (en a)) (wipeD δ vs) fun δ2 => t (fun _ => False) δ2 fun b => if b = true then e (fun _ => False) δ2 fun s => s.fr fun r => p a = true ∧ f a = r else p a = false) (hk : q (.own ((as.filter p).map f))) : @compK vs g t e δ (as.map en) ⟨q⟩ := by
  refine ⟨by rw [List.length_map]; exact hl, as.map fun a => if p a = true then some (f a) else none, ?_, by rw [filterMap_filter]; exact hk⟩
  clear hl hk
  induction as with
  | nil => exact True.intro
  | cons a as ih =>
    refine ⟨?_, ih fun b hb => h b (List.mem_cons_of_mem _ hb)⟩
    have z := h a List.mem_cons_self
    have e1 : ∀ b : Bool, ∀ δ2 : List S, (if b = true then e (fun _ => False) δ2 fun s => s.fr fun r => (if p a = true then some (f a) else none) = some r else (if p a = true then some (f a) else none) = (none : Option D)) = (if b = true then e (fun _ => False) δ2 fun s => s.fr fun r => p a = true ∧ f a = r else p a = false) := by
      intro b δ2
      cases hp : p a with
      | true => simp
      | false => simp
    simp only [e1]
    exact z
theorem comp_all {α : Type} {vs : List Nat} {g : EG} {e : ES} {δ : List S} {q : S → Prop} {as : List α} {en : α → D} (f : α → D) (hl : as.length ≤ 1000000)
    (h : ∀ a ∈ as, g (.val (en a)) (wipeD δ vs) fun δ2 => e (fun _ => False) δ2 fun s => s.fr fun r => f a = r) (hk : q (.own (as.map f))) : @compK vs g tYesD e δ (as.map en) ⟨q⟩ := by
  refine comp_maps (fun _ => true) f hl (fun a ha => ?_) (by rw [List.filter_eq_self.mpr fun _ _ => rfl]; exact hk)
  have z := h a ha
  simp only [tYesD, if_true, true_and]
  exact z
theorem w_bools {α : Type} {as : List α} {f : α → Bool} : bools (as.map fun a => PyData.bool (f a)) = some (as.map f) := by
  induction as with
  | nil => rfl
  | cons a as ih => show (bools (as.map fun a => PyData.bool (f a))).map (f a :: ·) = _; rw [ih]; rfl
theorem w_nums {as : List Int} : nums (as.map PyData.int) = some as := by
  induction as with
  | nil => rfl
  | cons a as ih => show (nums (as.map PyData.int)).map (a :: ·) = _; rw [ih]; rfl
theorem map_at {α : Type} {as : List α} {g : α → D} {i : Nat} {d : D} (h : (as.map g)[i]? = some d) : ∃ a, as[i]? = some a ∧ d = g a := by
  rw [List.getElem?_map] at h
  cases e : as[i]? with
  | none => rw [e] at h; cases h
  | some a => rw [e] at h; cases h; exact ⟨a, rfl, rfl⟩
theorem for_maps {α : Type} {as : List α} {en : α → D} {g : EG} {b : ST} {D : DL.Ends} {δ : List S} (I : List α → List α → List S → Prop) (h0 : I [] as δ)
    (hs : ∀ (l : List α) (a : α) (r : List α) (δ' : List S), as = l ++ a :: r → I l (a :: r) δ' → g (.val (en a)) δ' fun δ2 => b { D with nx := I (l ++ [a]) r, ct := I (l ++ [a]) r, bk := D.nx } δ2) (hd : ∀ δ', I as [] δ' → D.nx δ') : @forK g b δ (as.map en) ⟨D⟩ := by
  refine ⟨fun i δ' => I (as.take i) (as.drop i) δ', h0, fun i d δ' hd' w => ?_, fun δ' w => hd δ' (by rw [List.length_map, List.take_length, List.drop_length] at w; exact w)⟩
  obtain ⟨a, ha, rfl⟩ := map_at hd'
  obtain ⟨hl, rfl⟩ := List.getElem?_eq_some_iff.mp ha
  have e : as.drop i = as[i] :: as.drop (i + 1) := List.drop_eq_getElem_cons hl
  have w : I (as.take i) (as.drop i) δ' := w
  rw [e] at w
  have z := hs (as.take i) as[i] (as.drop (i + 1)) δ' (by rw [← e, List.take_append_drop]) w
  have e2 : as.take (i + 1) = as.take i ++ [as[i]] := by rw [List.take_succ, ha]; rfl
  rw [← e2] at z
  exact z
theorem for_rng {lo : Int} {n : Nat} {g : EG} {b : ST} {D : DL.Ends} {δ : List S} (I : Nat → List S → Prop) (h0 : I 0 δ)
    (hs : ∀ (i : Nat) (δ' : List S), i < n → I i δ' → g (.val (.int (lo + i))) δ' fun δ2 => b { D with nx := I (i + 1), ct := I (i + 1), bk := D.nx } δ2) (hd : ∀ δ', I n δ' → D.nx δ') : @forK g b δ (rngD lo n) ⟨D⟩ := by
  refine ⟨I, h0, fun i d δ' hd' w => ?_, fun δ' w => hd δ' (by rw [rngD_length] at w; exact w)⟩
  obtain ⟨rfl, hi⟩ := rngD_at hd'
  exact hs i δ' hi w
theorem cut_ {t u : ST} {D : DL.Ends} {δ : List S} (Mid : List S → Prop) (h1 : t { D with nx := Mid } δ) (h2 : ∀ δ', Mid δ' → u D δ') : @cutsK t u δ ⟨D⟩ := ⟨Mid, h1, h2⟩
theorem cut_int {t u : ST} {D : DL.Ends} {δ : List S} (i : Nat) (P : Int → Prop) (h1 : t { D with nx := fun δ' => ∃ n, P n ∧ δ' = put δ i (.val (.int n)) } δ) (h2 : ∀ n, P n → u D (put δ i (.val (.int n)))) : sCut t u D δ :=
  ⟨_, h1, fun δ' ⟨n, p, e⟩ => by rw [e]; exact h2 n p⟩
theorem w_ex1 {α : Type} {P : α → Prop} {a : α} : (∃ n, P n ∧ a = n) = P a := propext ⟨fun ⟨n, p, e⟩ => by rw [e]; exact p, fun p => ⟨a, p, rfl⟩⟩
theorem w_ex2 {α : Type} {a : α} : (∃ n, a = n) = True := propext ⟨fun _ => True.intro, fun _ => ⟨a, rfl⟩⟩
theorem w_ex3 {α β : Type} {P : α → β → Prop} {a : α} {b : β} : (∃ m n, P m n ∧ a = m ∧ b = n) = P a b := propext ⟨fun ⟨m, n, p, e, f⟩ => by rw [e, f]; exact p, fun p => ⟨a, b, p, rfl, rfl⟩⟩
theorem of_nums : ∀ {es : List D} {xs : List Int}, nums es = some xs → es = xs.map PyData.int
  | [], xs, h => by cases h; rfl
  | .int b :: r, xs, h => by
    unfold nums at h
    cases e : nums r with
    | none => rw [e] at h; cases h
    | some ys => rw [e] at h; cases h; rw [of_nums e]; rfl
  | .none :: _, _, h => by cases h
  | .bool _ :: _, _, h => by cases h
  | .str _ :: _, _, h => by cases h
  | .list _ :: _, _, h => by cases h
  | .tuple _ :: _, _, h => by cases h
  | .dict _ :: _, _, h => by cases h
theorem optK_nums {es : List D} {k : List Int → Prop} (h : optK (nums es) k) : ∃ xs : List Int, es = xs.map PyData.int ∧ k xs := by
  cases e : nums es with
  | none => rw [e] at h; exact h.elim
  | some xs => rw [e] at h; exact ⟨xs, of_nums e, h⟩
theorem w_bools1 : bools [] = some [] := (rfl)
theorem w_bools2 {b : Bool} {r : List D} : bools (.bool b :: r) = (bools r).map (b :: ·) := (rfl)
theorem w_nums1 : nums [] = some [] := (rfl)
theorem w_nums2 {b : Int} {r : List D} : nums (.int b :: r) = (nums r).map (b :: ·) := (rfl)
theorem rng_0 {i : Int} : rngD i 0 = [] := rfl
theorem rng_1 : rngD 0 1 = [.int 0] := rfl
theorem rng_2 : rngD 0 2 = [.int 0, .int 1] := rfl
theorem rng_3 : rngD 0 3 = [.int 0, .int 1, .int 2] := rfl
theorem rng_6 : rngD 0 6 = [.int 0, .int 1, .int 2, .int 3, .int 4, .int 5] := rfl
def elK (vs : List Nat) (g : EG) (e : ES) (δ : List S) (d r : D) : Prop := g (.val d) (wipeD δ vs) fun δ2 => e (fun _ => False) δ2 fun s => s.fr fun r' => r = r'
theorem u_elK {vs : List Nat} {g : EG} {e : ES} {δ : List S} {d r : D} : elK vs g e δ d r = g (.val d) (wipeD δ vs) fun δ2 => e (fun _ => False) δ2 fun s => s.fr fun r' => r = r' := (rfl)
theorem all2_el {vs : List Nat} {g : EG} {e : ES} {δ : List S} : ∀ {ds rs : List D}, All2 (elK vs g e δ) ds rs → All2 (fun d o => g (.val d) (wipeD δ vs) fun δ2 => tYesD (fun _ => False) δ2 fun b => if b = true then e (fun _ => False) δ2 fun s => s.fr fun r => o = some r else o = none) ds (rs.map some)
  | [], [], _ => True.intro
  | d :: ds, r :: rs, h => ⟨by
      have z := h.1
      unfold elK at z
      simp only [tYesD, if_true, Option.some.injEq]
      exact z, all2_el h.2⟩
  | [], _ :: _, h => h.elim
  | _ :: _, [], h => h.elim
theorem comp_lit {vs : List Nat} {g : EG} {e : ES} {δ : List S} {q : S → Prop} {ds : List D} (rs : List D) (hl : ds.length ≤ 1000000) (h : All2 (elK vs g e δ) ds rs) (hk : q (.own rs)) : @compK vs g tYesD e δ ds ⟨q⟩ :=
  ⟨hl, rs.map some, all2_el h, by rw [List.filterMap_map]; have : (id ∘ some : D → Option D) = some := rfl; rw [this, List.filterMap_some]; exact hk⟩
theorem eqvAll_ints_iff : ∀ xs ys : List Int, PyData.eqvAll (xs.map PyData.int) (ys.map PyData.int) = decide (xs = ys)
  | [], [] => by simp [PyData.eqvAll]
  | [], _ :: _ => by simp [PyData.eqvAll]
  | _ :: _, [] => by simp [PyData.eqvAll]
  | a :: xs, b :: ys => by rw [List.map_cons, List.map_cons, PyData.eqvAll, eqvAll_ints_iff xs ys]; by_cases h : a = b <;> by_cases k : xs = ys <;> simp [PyData.eqv, h, k]
def forL (g : EG) (b : ST) (D : DL.Ends) : List DL.D → List S → Prop
  | [], δ => D.nx δ
  | d :: ds, δ => g (.val d) δ fun δ2 => b { D with nx := forL g b D ds, ct := forL g b D ds, bk := D.nx } δ2
theorem for_lit {g : EG} {b : ST} {D : DL.Ends} {ds : List DL.D} {δ : List S} (h : forL g b D ds δ) : @forK g b δ ds ⟨D⟩ := by
  refine ⟨fun i δ' => forL g b D (ds.drop i) δ', h, fun i d δ' hd w => ?_, fun δ' w => by
    have w : forL g b D (ds.drop ds.length) δ' := w
    rw [List.drop_length] at w
    exact w⟩
  obtain ⟨hl, rfl⟩ := List.getElem?_eq_some_iff.mp hd
  have w : forL g b D (ds.drop i) δ' := w
  rw [List.drop_eq_getElem_cons hl] at w
  exact w
theorem w_forL0 {g : EG} {b : ST} {D : DL.Ends} {δ : List S} : forL g b D [] δ = D.nx δ := (rfl)
theorem w_forL1 {g : EG} {b : ST} {D : DL.Ends} {δ : List S} {d : DL.D} {ds : List DL.D} : forL g b D (d :: ds) δ = g (.val d) δ fun δ2 => b { D with nx := forL g b D ds, ct := forL g b D ds, bk := D.nx } δ2 := (rfl)
theorem lay_ints : ∀ xs : List Int, PyData.canLayAll0 (xs.map PyData.int) = true ∧ PyData.depthAll (xs.map PyData.int) ≤ 63
  | [] => ⟨by simp [PyData.canLayAll0], by simp [PyData.depthAll]⟩
  | a :: xs => by
    have h := lay_ints xs
    exact ⟨by rw [List.map_cons, PyData.canLayAll0]; simp [PyData.canLay0, h.1], by rw [List.map_cons, PyData.depthAll]; simp [PyData.depth]; omega⟩
theorem shaped_ints {xs : List Int} : shapedB (.list (xs.map PyData.int)) = true := by
  unfold shapedB SeqAt.shaped
  simp [PyData.canLay0, PyData.depth, lay_ints xs]
theorem shaped_intsT {xs : List Int} : shapedB (.tuple (xs.map PyData.int)) = true := by
  unfold shapedB SeqAt.shaped
  simp [PyData.canLay0, PyData.depth, lay_ints xs]
theorem setK_0 {a d : D} {l : List D} {k : List D → Prop} : setK (a :: l) 0 d k = k (d :: l) := by
  unfold setK
  have : ixN (a :: l).length 0 = some 0 := by unfold ixN; simp
  rw [this]
  exact propext ⟨fun ⟨j, e, h⟩ => by cases e; exact h, fun h => ⟨0, rfl, h⟩⟩
theorem setK_1 {a b d : D} {l : List D} {k : List D → Prop} : setK (a :: b :: l) 1 d k = k (a :: d :: l) := by
  unfold setK
  have : ixN (a :: b :: l).length 1 = some 1 := by unfold ixN; simp; omega
  rw [this]
  exact propext ⟨fun ⟨j, e, h⟩ => by cases e; exact h, fun h => ⟨1, rfl, h⟩⟩
theorem setK_2 {a b c d : D} {l : List D} {k : List D → Prop} : setK (a :: b :: c :: l) 2 d k = k (a :: b :: d :: l) := by
  unfold setK
  have : ixN (a :: b :: c :: l).length 2 = some 2 := by unfold ixN; simp; omega
  rw [this]
  exact propext ⟨fun ⟨j, e, h⟩ => by cases e; exact h, fun h => ⟨2, rfl, h⟩⟩
theorem eqv_i {i j : Int} : PyData.eqv (.int i) (.int j) = decide (i = j) := by rw [PyData.eqv]; by_cases h : i = j <;> simp [h]
theorem eqv_l {xs ys : List D} : PyData.eqv (.list xs) (.list ys) = PyData.eqvAll xs ys := by rw [PyData.eqv]
theorem eqv_t {xs ys : List D} : PyData.eqv (.tuple xs) (.tuple ys) = PyData.eqvAll xs ys := by rw [PyData.eqv]
theorem eqv_c {x y : D} {xs ys : List D} : PyData.eqvAll (x :: xs) (y :: ys) = (PyData.eqv x y && PyData.eqvAll xs ys) := by rw [PyData.eqvAll]
theorem eqv_n : PyData.eqvAll [] [] = true := by rw [PyData.eqvAll]
end
end DL

namespace DL
variable [HotA]
open PySem L2 PySem.W PyProof.Rows
section
variable {X : Cx} {W : WX} {pos : Pos}
structure ExD (K : PySem.W.Frag) (mg : Str → Option Value) (c : Str) where
  C : Addr
  n : ClsN K c C
  m : mg c = some (.ref C)
  x : excIn K C [.type "ValueError", .type "Exception", .type "BaseException", .type "object"] "ValueError.__new__" = true
  k : keepIn K (.ref C) = true
  b : subIn K (.ref C) (.type "BaseException") = some true
  t : typeIn K (.ref C) = some (.type "type")
theorem js_raise {c m : Str} {j : Nat} {p p2 pos' : Pos} (hc : X.calm = true) (tk : L2N.Takes X W) (C : ExD X.K X.mg c) (hg : Gl X c := by rfl) (hdb : (c == ("__debug__" : Str)) = false := by decide) :
    JS X W (.Raise (some (.Call (.Name c p) [.Constant (.str m) j p2] [] pos')) none pos) (sRaise c) :=
  ⟨_, L2N.ps_raise hc tk (L2N.pmk_own PySem.F.excBase_ValueError C.x C.m C.k (raises_own C.b C.t) hg hdb), fun O0 H0 O H σ δ D Dd u env er g => er.ex ⟨c, none⟩ (.ref C.C) none O H σ δ u env ⟨⟨C.C, C.n, rfl⟩, rfl⟩ g⟩
mutual
inductive CoV (K : PySem.W.Frag) : Value → D → Prop
  | int (i : Int) (t : Tok) : CoV K (.int i t) (.int i)
  | str (x : Str) (t : Tok) : CoV K (.str x t) (.str x)
  | tup {a : Addr} {its : Array Value} {n : Nat} {dd : Option Addr} {sl : Array (Option Value)} {ds : List D} : K.lookup a = some ⟨.type "tuple", dd, .seq its n, sl⟩ → its.size ≤ sizeLine → CoVs K its.toList ds → CoV K (.ref a) (.tuple ds)
inductive CoVs (K : PySem.W.Frag) : List Value → List D → Prop
  | nil : CoVs K [] []
  | cons {u : Value} {us : List Value} {d : D} {ds : List D} : CoV K u d → CoVs K us ds → CoVs K (u :: us) (d :: ds)
end
mutual
theorem CoV.dp {K : PySem.W.Frag} : ∀ {u : Value} {d : D}, CoV K u d → ∃ v, RelV v u ∧ ∀ O : Hp, Dp K O v d
  | _, _, .int i t => ⟨.int i, ⟨t, rfl⟩, fun _ => .int i⟩
  | _, _, .str x t => ⟨.str x, ⟨t, rfl⟩, fun _ => .str x⟩
  | _, _, .tup h1 h2 h3 => by
    obtain ⟨vs, r, z⟩ := CoVs.dp h3
    exact ⟨.ref _, rfl, fun O => .tup (.inr ⟨_, _, _, h1, rfl, rfl, h2, r⟩) (z O)⟩
theorem CoVs.dp {K : PySem.W.Frag} : ∀ {us : List Value} {ds : List D}, CoVs K us ds → ∃ vs, Vals vs us ∧ ∀ O : Hp, DpAll K O vs ds
  | _, _, .nil => ⟨[], .nil, fun _ => .nil⟩
  | _, _, .cons a b => by
    obtain ⟨v, r, z⟩ := CoV.dp a
    obtain ⟨vs, r2, z2⟩ := CoVs.dp b
    exact ⟨v :: vs, .cons r r2, fun O => .cons (z O) (z2 O)⟩
end
structure CoD (K : PySem.W.Frag) (mg : Str → Option Value) (x : Str) (d : D) : Prop where
  ex : ∃ u v, mg x = some u ∧ RelV v u ∧ ∀ O : Hp, Dp K O v d
theorem co_use {K : PySem.W.Frag} {mg : Str → Option Value} {h : Heap} {x : Str} {d : D} {u : Value} {p : Prop} (X : K.In h) (G : h.Ns mainGlobals mg) (a : nsIn K mainGlobals x = some (some u)) (v : CoV K u d) (q : CoD K mg x d → p) : p :=
  q (let ⟨w, r, z⟩ := v.dp; ⟨u, w, mg_of X G a, r, z⟩)
theorem je_const {x : Str} {p : Pos} {d : D} (C : CoD X.K X.mg x d) (hg : Gl X x := by rfl) (hd : (x == ("__debug__" : Str)) = false := by decide) : JE X W (.Name x p) (eC d) := by
  obtain ⟨u, v, m, r, z⟩ := C.ex
  exact ⟨_, pe_glob hg m r hd, fun O H H0 σ δ x q Q so env hx hq g => hq v O H (.val d) (.refl so) (z O) g⟩
def rng3D (lo c : Int) (n : Nat) : List D := (List.range n).map fun k : Nat => .int (lo + k * c)
def num3K : List D → (Int → Int → Int → Prop) → Prop
  | [.int i, .int j, .int c], k => k i j c
  | _, _ => False
def iRng3 (a : EA) : EI := fun x δ q => a x δ fun ds => num3K ds fun i j c => ∃ n, RgC i j c n ∧ q (rng3D i c n)
theorem u_iRng3 {a : EA} {x : XP} {δ : List S} {q : List D → Prop} : DL.iRng3 a x δ q = a x δ fun ds => num3K ds fun i j c => ∃ n, RgC i j c n ∧ q (rng3D i c n) := (rfl)
theorem w_num3 {i j c : Int} {k : Int → Int → Int → Prop} : num3K [.int i, .int j, .int c] k = k i j c := (rfl)
def revK : D → (List D → Prop) → Prop
  | .list ds, q => q ds.reverse
  | _, _ => False
def iRevD (e : ES) : EI := fun x δ q => e x δ fun s => s.fr fun d => revK d q
theorem w_rev {ds : List D} {q : List D → Prop} : revK (.list ds) q = q ds.reverse := (rfl)
theorem u_iRevD {e : ES} {x : XP} {δ : List S} {q : List D → Prop} : iRevD e x δ q = e x δ fun s => s.fr fun d => revK d q := (rfl)
def cutD (ds : List D) (lo hi : Option Int) : List D := (ds.drop (HT.sIx ds.length 0 lo)).take (HT.sIx ds.length ds.length hi - HT.sIx ds.length 0 lo)
def oNo : XP → List S → (Option Int → Prop) → Prop := fun _ _ q => q none
def oSome (e : ES) : XP → List S → (Option Int → Prop) → Prop := fun x δ q => e x δ fun s => s.nm fun n => q (some n)
def cutK : D → Option Int → Option Int → (S → Prop) → Prop
  | .list ds, lo, hi, q => q (.own (cutD ds lo hi))
  | .tuple ds, lo, hi, q => ¬ (HT.sIx ds.length 0 lo = 0 ∧ HT.sIx ds.length ds.length hi = ds.length) ∧ q (.val (.tuple (cutD ds lo hi)))
  | .str z, lo, hi, q => z.length ≤ sizeLine ∧ q (.val (.str (cutS z lo hi)))
  | _, _, _, _ => False
def eSlice (a : EP) (lo hi : XP → List S → (Option Int → Prop) → Prop) : ES := fun x δ q => a x δ fun d => lo x δ fun i => hi x δ fun j => cutK d i j q
theorem u_oNo {x : XP} {δ : List S} {q : Option Int → Prop} : oNo x δ q = q none := (rfl)
theorem u_oSome {e : ES} {x : XP} {δ : List S} {q : Option Int → Prop} : oSome e x δ q = e x δ fun s => s.nm fun n => q (some n) := (rfl)
theorem u_eSlice {a : EP} {lo hi : XP → List S → (Option Int → Prop) → Prop} {x : XP} {δ : List S} {q : S → Prop} : eSlice a lo hi x δ q = a x δ fun d => lo x δ fun i => hi x δ fun j => cutK d i j q := (rfl)
theorem w_cut1 {ds : List D} {lo hi : Option Int} {q : S → Prop} : cutK (.list ds) lo hi q = q (.own (cutD ds lo hi)) := (rfl)
theorem w_cut2 {ds : List D} {lo hi : Option Int} {q : S → Prop} : cutK (.tuple ds) lo hi q = (¬ (HT.sIx ds.length 0 lo = 0 ∧ HT.sIx ds.length ds.length hi = ds.length) ∧ q (.val (.tuple (cutD ds lo hi)))) := (rfl)
theorem w_cut3 {z : Str} {lo hi : Option Int} {q : S → Prop} : cutK (.str z) lo hi q = (z.length ≤ sizeLine ∧ q (.val (.str (cutS z lo hi)))) := (rfl)
theorem rng_9 : rngD 0 9 = [.int 0, .int 1, .int 2, .int 3, .int 4, .int 5, .int 6, .int 7, .int 8] := rfl
theorem rng_4 : rngD 0 4 = [.int 0, .int 1, .int 2, .int 3] := rfl
theorem rng_5 : rngD 0 5 = [.int 0, .int 1, .int 2, .int 3, .int 4] := rfl
end
end DL

namespace DL
variable [HotA]
open PySem PySem.Spec PyProof.Rows L2
theorem excO_ok {P : Program} {w : World} {H : Hp} {h : Heap} {a C : Addr} {d : Option Addr} {oe : Obj} {vs : Array Value} (e : h.get? a = some oe) (z : L2N.Zn (.ref C) d oe) (dd : oe.data = .fields vs) : ObjOk P w H h a (excO C d a) :=
  ⟨⟨oe, vs, e, z, dd⟩, ⟨oe, e⟩, fun _ _ ⟨o, v, q, r⟩ k => ⟨o, v, k o q, r⟩⟩
theorem inv_track {X : Cx} {pins : List (Addr × Obj)} {σ : L2.St} {H : Hp} {s : Shared} {a : Addr} {o : HO} (I : Inv X pins σ H s) (n0 : X.s_0.heap.get? a = none) (hn : H a = none) (hL : a ≠ X.env.locals)
    (hC : ∀ x c, X.env.cells.lookup x = some c → c ≠ a) (hP : ∀ p ∈ X.pn ++ pins, p.1 ≠ a) (new : ObjOk X.prog X.w (upd H a o) s.heap a o) : Inv X pins σ (upd H a o) s where
  ok := I.ok
  os := I.os
  bare := I.bare
  base := {
    keep := I.base.keep
    slot := I.base.slot
    free := fun b u e n hx => by rw [upd_ne (fun z => by rw [z, n0] at e; cases e)]; exact I.base.free b u e n hx
    there := I.base.there
    tups := fun b xs e => by have q := I.base.tups b xs e; rw [upd_ne (ne_of_none q hn)]; exact q
    frzs := fun b u xs e => by have q := I.base.frzs b u xs e; rw [upd_ne (ne_of_none q hn)]; exact q
    tbls := fun b ps e => by obtain ⟨m, q⟩ := I.base.tbls b ps e; exact ⟨m, by rw [upd_ne (ne_of_none q hn)]; exact q⟩ }
  loc := I.loc
  cell := I.cell
  free := by rw [upd_ne (Ne.symm hL)]; exact I.free
  freeC := fun x c e => by rw [upd_ne (hC x c e)]; exact I.freeC x c e
  pin := fun p hp => by obtain ⟨a1, a2, a3⟩ := I.pin p hp; exact ⟨a1, by rw [upd_ne (hP p hp)]; exact a2, a3⟩
  hok := I.hok.laidN (fun _ _ e => e) hn new
  len := I.len
def sOf (K : PySem.W.Frag) (mg : Str → Option Value) (W : WX) (ds : ST) : TS := fun D σ H => ∃ (O0 H0 O : Hp) (δ : List S) (Dd : DL.Ends), Up O0 H0 O H ∧ EnvR K H0 O H σ δ ∧ EndsR K mg W O0 H0 D Dd ∧ ds Dd δ
theorem sOf_snd {K : PySem.W.Frag} {mg : Str → Option Value} {W : WX} {ds : ST} : SndS K mg W (sOf K mg W ds) ds := fun O0 H0 O H σ δ D Dd u env er g => ⟨O0, H0, O, δ, Dd, u, env, er, g⟩
theorem JSs.can {X : Cx} {W : WX} {st : List Stmt} {ds : ST} (h : JSs X W st ds) : PSs X st (sOf X.K X.mg W ds) := by
  obtain ⟨ts, p, z⟩ := h.ex
  exact ⟨fun pins s σ H D I ⟨O0, H0, O, δ, Dd, u, env, er, g⟩ => p.run pins s σ H D I (z O0 H0 O H σ δ D Dd u env er g)⟩
def subE (c T : Str) : Bool := c == T || T == "CurveError" || T == "ValueError"
def EasyA (A : Around) : Prop := A.handled = none ∨ ∃ p, HotA.h = some p ∧ A.handled = some (.ref p.1)
omit [HotA] in
def EasyH (A : Around) (H : Hp) : Prop := A.handled = none ∨ ∃ p : Addr × Addr × Option Addr, A.handled = some (.ref p.1) ∧ H p.1 = some (excO p.2.1 p.2.2 p.1)
theorem EasyA.at {A : Around} {O H : Hp} (e : EasyA A) (t : TOk O H) (so : Same O H) : EasyH A H := e.imp_right fun ⟨p, h1, h2⟩ => ⟨p, h2, so _ _ (t.x p h1)⟩
theorem EnvR.hot {K : PySem.W.Frag} {H0 O H : Hp} {σ : L2.St} {δ : List S} (r : EnvR K H0 O H σ δ) (h2 : Option (Addr × Addr × Option Addr)) (hx : ∀ p, h2 = some p → O p.1 = some (excO p.2.1 p.2.2 p.1)) : @EnvR ⟨h2⟩ K H0 O H σ δ :=
  @EnvR.mk ⟨h2⟩ K H0 O H σ δ r.len r.val r.own r.inj r.adr r.ob (@TOk.mk ⟨h2⟩ O H r.tt.t r.tt.n hx)
structure Cl where
  R : List Str
  T : Str
  i : Option Nat
  s : ST
def atE : Option Nat → Exc → List S → List S
  | some i, e, δ => put δ i (.val (excD e))
  | none, _, δ => δ
def goneE : Option Nat → List S → List S
  | some i, δ => put δ i .no
  | none, δ => δ
def afterE (o : Option Nat) (D : DL.Ends) : DL.Ends where
  nx := fun δ => D.nx (goneE o δ)
  rt := D.rt
  bk := fun δ => D.bk (goneE o δ)
  ct := fun δ => D.ct (goneE o δ)
  ex := fun _ _ => False
def hands : List Cl → Exc → DL.Ends → List S → Prop
  | [], e, D, δ => D.ex e δ
  | k :: r, e, D, δ => e.cls ∈ k.R ∧ if subE e.cls k.T = true then k.s (afterE k.i D) (atE k.i e δ) else hands r e D δ
def sTry (b : ST) (cs : List Cl) : ST := fun D δ => b { D with ex := fun e δ' => hands cs e D δ' } δ
structure ExT (K : PySem.W.Frag) (mg : Str → Option Value) (R : List Str) (T : Str) : Prop where
  ex : ∃ v : Value, ((mg T = some v) ∨ (mg T = none ∧ bootBuiltins T = some v ∧ T ≠ "__name__")) ∧ ∀ c ∈ R, ∀ C, ClsN K c C → PySem.W.exmOne K (.ref C) v = some (subE c T)
def onSlot (X : Cx) (o : Option Str) (i : Option Nat) : Prop := match o, i with
  | some n, some i => X.N[i]? = some n ∧ X.env.kindOf n = some .local
  | none, none => True
  | _, _ => False
inductive HdsD (X : Cx) : List ExceptHandler → List Cl → Prop
  | nil : HdsD X [] []
  | cons {x : Str} {n : Option Str} {i : Option Nat} {b0 : Stmt} {suite : List Stmt} {np pos' : Pos} {hds : List ExceptHandler} {R : List Str} {ds : ST} {cs : List Cl} (hx : ExT X.K X.mg R x) (hg : Gl X x) (hd : (x == ("__debug__" : Str)) = false) (hi : onSlot X n i)
      (hs : ∀ (i2 : HotA) (a : Addr) (pn : List (Addr × Obj)), @EasyA i2 (X.suite a pn).A → @JSs i2 (X.suite a pn) WF (b0 :: suite) ds) (r : HdsD X hds cs) : HdsD X (.ExceptHandler (some (.Name x np)) n (b0 :: suite) pos' :: hds) (⟨R, x, i, ds⟩ :: cs)
theorem Inv.inSuite {X : Cx} {pins : List (Addr × Obj)} {σ : L2.St} {H : Hp} {s : Shared} (I : Inv X pins σ H s) (a : Addr) : Inv (X.suite a (X.pn ++ pins)) [] σ H s :=
  ⟨I.ok.suite _ _, I.os, I.bare, I.base, I.loc, I.cell, I.free, I.freeC, fun p hp => by rw [List.append_nil] at hp; exact I.pin p hp, I.hok, I.len⟩
theorem Inv.outSuite {X : Cx} {pins pn' : List (Addr × Obj)} {σ : L2.St} {H : Hp} {s : Shared} {a : Addr} (I : Inv (X.suite a (X.pn ++ pins)) pn' σ H s) (ok : X.Ok) : Inv X pins σ H s :=
  ⟨ok, I.os, I.bare, I.base, I.loc, I.cell, I.free, I.freeC, fun p hp => I.pin p (List.mem_append_left _ hp), I.hok, I.len⟩
theorem exc_known {K : PySem.W.Frag} {mg : Str → Option Value} {O H : Hp} {e : Exc} {cls : Value} {d : Option Addr} {a : Addr} (so : Same O H) (na : H a = none) (r : XRep K mg O H e cls d) :
    ∃ C, cls = .ref C ∧ Up O H (upd O a (excO C d a)) (upd H a (excO C d a)) ∧ Dp K (upd O a (excO C d a)) (.ref a) (excD e) := by
  obtain ⟨⟨C, hC, rfl⟩, r⟩ := r
  have up := Up.new so na (excO C d a)
  refine ⟨C, rfl, up, ?_⟩
  obtain ⟨c, arg⟩ := e
  cases arg with
  | none =>
    have r : d = none := r
    subst r
    exact .exc0 hC upd_same
  | some y =>
    obtain ⟨f, u⟩ := y
    obtain ⟨dd, v, rfl, h1, h2⟩ := r
    exact .exc1 hC upd_same (up.o _ _ h1) (dp_mono up.o h2)
section
variable {X : Cx} {W : WX} {pos : Pos}
theorem EndsR.hot {K : PySem.W.Frag} {mg : Str → Option Value} {O0 H0 O : Hp} {H : Hp} {D : L2.Ends} {Dd : DL.Ends} (er : EndsR K mg W O0 H0 D Dd) (u : Up O0 H0 O H) (h2 : Option (Addr × Addr × Option Addr)) (tt : TOk O H) : @EndsR ⟨h2⟩ K mg W O H0 D Dd := by
  have er := er.swap u
  have b : ∀ {O' H' : Hp} {σ : L2.St} {δ : List S}, Up O H0 O' H' → @EnvR ⟨h2⟩ K H0 O' H' σ δ → EnvR K H0 O' H' σ δ := fun u' r => @EnvR.hot ⟨h2⟩ _ _ _ _ _ _ r HotA.h fun p hp => u'.o _ _ (tt.x p hp)
  exact @EndsR.mk ⟨h2⟩ K mg W O H0 D Dd (fun O' H' σ δ u' r z => er.nx O' H' σ δ u' (b u' r) z) er.rt (fun O' H' σ δ u' r z => er.bk O' H' σ δ u' (b u' r) z) (fun O' H' σ δ u' r z => er.ct O' H' σ δ u' (b u' r) z) (fun e c d O' H' σ δ u' r xr z => er.ex e c d O' H' σ δ u' (b u' r) xr z)
theorem hands_go {hds : List ExceptHandler} {cs : List Cl} {B : Heap} {sI s' : Shared} {pins : List (Addr × Obj)} {σ' : L2.St} {H' O0 H0 O' : Hp} {δ' : List S} {D : L2.Ends} {Dd : DL.Ends} {a : Addr} {cls : Value} {d : Option Addr} {e : Exc} {h3 : Heap}
    (hs : X.stack = X.env :: X.outer) (hf : X.env.frame = some X.env.locals) (hx0 : X.ex = []) (hN : X.N.Nodup) (tk : L2N.Takes X W) (J : Inv X pins σ' H' sI) (nb : ∀ b o, sI.heap.get? b = some o → b ∉ frs X.stack → B.get? b = some o)
    (fl : HandSPX.FlyingZ B (X.env :: X.outer) a (L2N.Zn cls d) h3) (up : sI.heap.UpToSlots h3) (na : H' a = none) (os : s'.os = sI.os) (ag : AllBare s'.gens)
    (u : Up O0 H0 O' H') (env : EnvR X.K H0 O' H' σ' δ') (er : EndsR X.K X.mg W O0 H0 D Dd) (xr : XRep X.K X.mg O' H' e cls d) (hk : HdsD X hds cs) : hands cs e Dd δ' →
    wpAny (model X.prog X.w) X.A (handleBy (.ref a) X.env hds) (SP X pins D) X.xe { s' with heap := h3 } := by
  have ok := J.ok
  have J3 : Inv X pins σ' H' { s' with heap := h3 } := J.landed nb fl.1 up os ag
  obtain ⟨o3, v3, g3, z3, d3⟩ := fl.there
  have aF : a ∉ frs (X.env :: X.outer) := fun hm => by
    obtain ⟨_, o', e', hnf⟩ := fl.2.2.1.mem hm
    rw [g3] at e'
    cases e'
    exact hnf _ d3
  have aL : a ≠ X.env.locals := fun z => aF (List.mem_filterMap.mpr ⟨X.env, List.mem_cons_self, by rw [hf, z]⟩)
  -- the state ahead of the exception doesn't hold its object
  have aI : sI.heap.get? a = none := by
    cases q : sI.heap.get? a with
    | none => rfl
    | some o =>
      have z := nb a o q (by rw [hs]; exact aF)
      rw [fl.2.1] at z
      cases z
  have a0 : X.s_0.heap.get? a = none := by
    cases q : X.s_0.heap.get? a with
    | none => rfl
    | some o =>
      obtain ⟨o', q'⟩ := J.base.there a o q (by rw [hx0]; exact fun z => nomatch z)
      rw [aI] at q'
      cases q'
  have aC : ∀ x c, X.env.cells.lookup x = some c → c ≠ a := fun x c hc z => by
    obtain ⟨v, o, q, _⟩ := J.cell x c hc
    rw [z, aI] at q
    cases q
  have aP : ∀ p ∈ X.pn ++ pins, p.1 ≠ a := fun p hp z => by
    have q := (J.pin p hp).1
    rw [z, aI] at q
    cases q
  obtain ⟨C, hcls, uK, rK⟩ := exc_known u.oh na xr
  subst hcls
  have track : ∀ {h4 : Heap}, HandSPX.FlyingZ B (X.env :: X.outer) a (L2N.Zn (.ref C) d) h4 → h3.UpToSlots h4 → Inv X pins σ' (upd H' a (excO C d a)) { s' with heap := h4 } := fun {h4} fl4 up4 => by
    obtain ⟨o4, v4, g4, z4, d4⟩ := fl4.there
    exact inv_track (J.landed nb fl4.1 (up.trans up4) os ag) a0 na aL aC aP (excO_ok g4 z4 d4)
  induction hk with
  | nil =>
    intro w
    refine wpAny_handleBy_nil ?_
    obtain ⟨_, _, _, oe, vs, T, oT, ts', he, _, hd, h1, _⟩ := id fl
    unfold PySem.passOn
    refine wpAny_bind (wpAny_field he hd h1 ?_)
    rw [if_neg (by simp : ¬ ((Value.ref T == Value.none) = true))]
    have out : wpAny (model X.prog X.w) X.A (setFlight (.ref a) X.env.frame) (fun _ s4 => wpAny (model X.prog X.w) X.A (throw (.ref a) : Sem Flow) (SP X pins D) X.xe s4) X.xe { s' with heap := h3 } := by
      rw [hf]
      exact HandSPX.setFlight_upZ fl fun h4 hh4 up4 => wpAny_throw (tk _ _ ⟨a, B, sI, pins, σ', H', .ref C, d, rfl, J, nb, up.trans up4, .inr (.inr (by rw [hs]; exact hh4)), na, os, ag, er.ex e (.ref C) d O' H' σ' δ' u env xr w⟩)
    first
      | exact wpAny_bind (wpAny_pure (wpAny_bind out))
      | exact wpAny_bind out
  | @cons x n i b0 suite np pos' hds R ds cs hx hg hdb hi hsu r ih =>
    intro w
    obtain ⟨hR, w⟩ := w
    obtain ⟨v, hv, hex⟩ := hx.ex
    have hb := hex e.cls hR C (by obtain ⟨⟨C', hC', eC⟩, _⟩ := xr; cases eC; exact hC')
    refine wpAny_handleBy_cons (codeAny_handlers_test ?_) (by intro q; cases q)
    have LT : PySem.W.Looks (model X.prog X.w) h3 (typeOf (.ref a)) (.ref C) := fun A Q E s k q => wpAny_typeOf_ref (k _ _ g3) (by rw [z3.1]; exact q)
    have LM := PySem.W.exm_one (M := model X.prog X.w) J3.kIn LT hb
    have S3 := Inv.inSuite J3 a
    have test : ∀ {Q E : Value → Shared → Prop}, Q v { s' with heap := h3 } → wpAny (model X.prog X.w) (X.A.mark (some (.ref a))) (eval (.Name x np) X.env) Q E { s' with heap := h3 } := fun {Q E} q => by
      rcases hv with hm | ⟨hm, hv, hnn⟩
      · exact ld_glob (X := X.suite a (X.pn ++ pins)) S3 hg hm q hdb
      · exact ld_blt (X := X.suite a (X.pn ++ pins)) S3 hg hm hv q hnn hdb
    refine test (LM.here ?_)
    cases hsub : subE e.cls x with
    | false =>
      rw [hsub] at w
      exact ih (by simpa using w)
    | true =>
      rw [hsub] at w
      have w : ds (afterE i Dd) (atE i e δ') := by simpa using w
      have env2 := env.up uK
      have u2 := u.trans uK
      have ez : @EasyA ⟨some (a, C, d)⟩ (X.suite a (X.pn ++ pins)).A := .inr ⟨(a, C, d), rfl, rfl⟩
      have known : ∀ p, some (a, C, d) = some p → (upd O' a (excO C d a)) p.1 = some (excO p.2.1 p.2.2 p.1) := fun p hp => by
        obtain rfl : (a, C, d) = p := Option.some.inj hp
        exact upd_same
      have u0 : Up (upd O' a (excO C d a)) H0 (upd O' a (excO C d a)) (upd H' a (excO C d a)) := ⟨Same.refl _, u2.h, u2.oh, fun _ _ z => z⟩
      cases n with
      | none =>
        cases i with
        | some _ => exact hi.elim
        | none =>
          refine codeAny_handlers_suite ?_
          refine HandSPX.lands_againZ fl fun h4 fl4 up4 => ?_
          have S4 := Inv.inSuite (track fl4 up4) a
          have e1 : EndsR X.K X.mg WF O0 H0 D (afterE none Dd) := ⟨er.nx, er.rt, er.bk, er.ct, fun _ _ _ _ _ _ _ _ _ _ z => z.elim⟩
          refine wpAny_mono ((@JSs.can ⟨some (a, C, d)⟩ _ _ _ _ (hsu ⟨some (a, C, d)⟩ a (X.pn ++ pins) ez)).run [] _ σ' _ D S4 ⟨_, H0, _, δ', _, u0, env2.hot _ known, e1.hot u2 _ env2.tt, w⟩) (fun f s6 hsp => ?_) (fun _ _ z => False.elim z)
          cases f with
          | next => obtain ⟨σ6, H6, S6, q6⟩ := hsp; exact ⟨σ6, H6, Inv.outSuite S6 ok, q6⟩
          | brk => obtain ⟨σ6, H6, S6, q6⟩ := hsp; exact ⟨σ6, H6, Inv.outSuite S6 ok, q6⟩
          | cont => obtain ⟨σ6, H6, S6, q6⟩ := hsp; exact ⟨σ6, H6, Inv.outSuite S6 ok, q6⟩
          | ret y => obtain ⟨v6, σ6, H6, S6, r6, q6⟩ := hsp; exact ⟨v6, σ6, H6, Inv.outSuite S6 ok, r6, q6⟩
      | some n =>
        cases i with
        | none => exact hi.elim
        | some i =>
          obtain ⟨hi, hln⟩ := hi
          refine codeAny_handlers_suite_as ?_
          refine HandSPX.lands_againZ fl fun h4 fl4 up4 => ?_
          have S4 := Inv.inSuite (track fl4 up4) a
          refine store_ok (X := X.suite a (X.pn ++ pins)) (v := .ref a) S4 hN hi (.inl hln) rfl (fun s5 S5 => ?_) (.inr hln)
          let D2 : L2.Ends := { nx := fun σ6 H6 => D.nx (σ6.set i none) H6, rt := D.rt, bk := fun σ6 H6 => D.bk (σ6.set i none) H6, ct := fun σ6 H6 => D.ct (σ6.set i none) H6 }
          have gone : ∀ {s6 : Shared} {σ6 : L2.St} {H6 : Hp} {Q : Shared → Prop}, Inv (X.suite a (X.pn ++ pins)) [] σ6 H6 s6 → (∀ s7, Inv X pins (σ6.set i none) H6 s7 → Q s7) →
              wpAny (model X.prog X.w) X.A (do bindName X.env n .none; unbindBehindTheSuite X.env n pos') (fun _ s7 => Q s7) X.xe s6 := fun S6 hq => gone_ok (Inv.outSuite S6 ok) hN hi hln hq
          have e2 : EndsR X.K X.mg WF O0 H0 D2 (afterE (some i) Dd) := ⟨fun O H σ δ u e z => er.nx O H _ _ u (e.wipe1 i) z, er.rt, fun O H σ δ u e z => er.bk O H _ _ u (e.wipe1 i) z, fun O H σ δ u e z => er.ct O H _ _ u (e.wipe1 i) z, fun _ _ _ _ _ _ _ _ _ _ z => z.elim⟩
          refine wpAny_mono ((@JSs.can ⟨some (a, C, d)⟩ _ _ _ _ (hsu ⟨some (a, C, d)⟩ a (X.pn ++ pins) ez)).run [] s5 _ _ D2 S5 ⟨_, H0, _, _, _, u0, (env2.put i rK).hot _ known, e2.hot u2 _ env2.tt, w⟩) (fun f s6 hsp => ?_) (fun _ _ z => False.elim z)
          cases f with
          | next => obtain ⟨σ6, H6, S6, q6⟩ := hsp; exact gone S6 fun s7 J7 => ⟨_, H6, J7, q6⟩
          | brk => obtain ⟨σ6, H6, S6, q6⟩ := hsp; exact gone S6 fun s7 J7 => ⟨_, H6, J7, q6⟩
          | cont => obtain ⟨σ6, H6, S6, q6⟩ := hsp; exact gone S6 fun s7 J7 => ⟨_, H6, J7, q6⟩
          | ret y => obtain ⟨v6, σ6, H6, S6, r6, q6⟩ := hsp; exact gone S6 fun s7 J7 => ⟨v6, _, H6, J7, r6, q6⟩
theorem js_try {body : List Stmt} {h0 : ExceptHandler} {hds : List ExceptHandler} {db : ST} {cs : List Cl} (hs : X.stack = X.env :: X.outer) (hf : X.env.frame = some X.env.locals) (hx0 : X.ex = []) (hN : X.N.Nodup) (tk : L2N.Takes X W)
    (hb : ∀ (W' : WX) (pn : List (Addr × Obj)) (xe : Value → Shared → Prop), L2N.Takes (X.tr pn xe) W' → PassesOwn (model X.prog X.w) X.A X.env xe → JSs (X.tr pn xe) W' body db) (hh : HdsD X (h0 :: hds) cs) : JS X W (.Try body (h0 :: hds) [] [] pos) (sTry db cs) := by
  refine ⟨sOf X.K X.mg W (sTry db cs), ⟨fun pins s σ H D I h => ?_⟩, sOf_snd⟩
  obtain ⟨O0, H0, O, δ, Dd, u, env, er, h⟩ := h
  have ok := I.ok
  have hfr : X.A.frames = some (X.env :: X.outer) := by rw [ok.frames, hs]
  refine wpAny_Try_except ?_
  let W' : WX := fun cls d σ' H' => ∃ e O' δ', Up O0 H0 O' H' ∧ EnvR X.K H0 O' H' σ' δ' ∧ XRep X.K X.mg O' H' e cls d ∧ hands cs e Dd δ'
  let xe : Value → Shared → Prop := fun e s1 => wpAny (model X.prog X.w) X.A (noteFrame e X.env) (fun _ s2 => wpAny (model X.prog X.w) X.A (setFlight e none) (fun _ s3 => wpAny (model X.prog X.w) X.A (handleBy e X.env (h0 :: hds)) (SP X pins D) X.xe s3) X.xe s2) X.xe s1
  have tk' : L2N.Takes (X.tr (X.pn ++ pins) xe) W' := fun y s' xx => by
    obtain ⟨a, B, sI, pins', σ', H', cls, d, rfl, J', nb, up, sky, na, os, ag, e, O', δ', u', env', xr, w⟩ := xx
    have J : Inv X pins σ' H' sI := J'.ofTry ok
    have sky' : Sky B (X.env :: X.outer) a (L2N.Zn cls d) X.env.locals s'.heap := by rw [← hs]; exact sky
    refine L2N.Sky.land L2N.Zn.steady hfr hf sky' fun h3 fl3 up3 => ?_
    exact hands_go hs hf hx0 hN tk J nb fl3 (up.trans up3) na os ag u' env' er xr hh w
  refine wpAny_mono ((hb W' (X.pn ++ pins) xe tk' PassesOwn.looking).can.run [] s σ H D (I.toTry _) ⟨O0, H0, O, δ, { Dd with ex := fun e δ' => hands cs e Dd δ' }, u, env, ⟨er.nx, er.rt, er.bk, er.ct, fun e cls d O' H' σ' δ' u' env' xr z => ⟨e, O', δ', u', env', xr, z⟩⟩, h⟩) (fun f s1 hsp => ?_) (fun e s1 he => he)
  cases f with
  | next => obtain ⟨σ', H', J', q⟩ := hsp; exact wpAny_execs_nil ⟨σ', H', J'.ofTry ok, q⟩
  | brk => obtain ⟨σ', H', J', q⟩ := hsp; exact ⟨σ', H', J'.ofTry ok, q⟩
  | cont => obtain ⟨σ', H', J', q⟩ := hsp; exact ⟨σ', H', J'.ofTry ok, q⟩
  | ret y => obtain ⟨v, σ', H', J', r, q⟩ := hsp; exact ⟨v, σ', H', J'.ofTry ok, r, q⟩
end
end DL

namespace DL
variable [HotA]
open PySem PySem.Spec PyProof.Rows L2
structure FnC (P : Program) (w : World) (K : PySem.W.Frag) (mg : Str → Option Value) (base : Heap) (k : Nat) (f : Addr) (fd : FuncData) (ps : List Str) (sp : Sp) : Prop where
  len : ∀ vs H Q E, sp vs H Q E → vs.length = ps.length
  run : ∀ (A : Around) (outer : List Env) (s : Shared) (H : Hp) (args : Args) (us : List Value) (vs : List V) (Q : VK) (E : XK), L2H.RoomH k A → EasyA A → Env0 P w K mg base A outer s H → BindsTo s fd args (ps.zip us) → Vals vs us → sp vs H Q E →
    codeAny (model P w) A (.call (.ref f) args) (CR (L2N.CX P w) outer P w H s Q E) s
theorem FnC.ok {P : Program} {w : World} {K : PySem.W.Frag} {mg : Str → Option Value} {base : Heap} {k : Nat} {f : Addr} {fd : FuncData} {ps : List Str} {sp : Sp} (F : FnC P w K mg base k f fd ps sp) : FnOk P w K mg base (L2N.CX P w) k f fd ps sp :=
  ⟨F.len, fun A outer s H args us vs Q E hr => F.run A outer s H args us vs Q E (L2H.roomH_of hr) (.inl hr.hd)⟩
section
variable {P : Program} {w : World} {K : PySem.W.Frag} {mg : Str → Option Value} {base : Heap}
end
section
variable {X : Cx} {W : WX} {e : Expr} {es : List Expr} {pos : Pos}
structure ExI (K : PySem.W.Frag) (C : Addr) : Prop where
  cl : (PySem.W.clsIn K C).isSome = true
  ga : PySem.W.findIn K (.ref C) "__getattribute__" = some (some (.builtin "BaseException.__getattribute__"))
  gt : PySem.W.findIn K (.ref C) "__getattr__" = some none
  sb : PySem.W.subIn K (.ref C) (.type "BaseException") = some true
  ca : PySem.W.findIn K (.ref C) "__class__" = some (some (.builtin "object.__class__"))
  cn : PySem.W.specialIn K (.builtin "object.__class__") "__get__" = some (some (.builtin "getset_descriptor.__get__"))
  tk : PySem.W.takesIn K (.builtin "object.__class__") = some true
  mr : PySem.W.mroIn K C (.type "object") = some true
  hd : PySem.W.hasDictIn K C = true
def rIsX (K : PySem.W.Frag) : List V → Hp → VK → Prop := fun xs H Q => ∃ (a C : Addr) (d : Option Addr) (c : V) (cv : Value) (b : Bool), xs = [.ref a, c] ∧ (∀ u, RelV c u → u = cv) ∧ H a = some (excO C d a) ∧ (∀ dd, d = some dd → ∃ fs, H dd = some (.xd fs)) ∧ ExI K C ∧
  PySem.W.kitOne K (.ref C) cv = some b ∧ Q (.bl b) H
theorem exc_at {X : Cx} {pins : List (Addr × Obj)} {σ : L2.St} {H : Hp} {s : Shared} (I : Inv X pins σ H s) {a C : Addr} {d : Option Addr} (ha : H a = some (excO C d a)) (hd : ∀ dd, d = some dd → ∃ fs, H dd = some (.xd fs)) : ∃ oe od, PySem.W.InstAt s.heap a oe C od ∧
    match d with | none => od = none | some dd => ∃ o, od = some o ∧ s.heap.get? dd = some o := by
  obtain ⟨⟨oe, vs, ho, hz, hv⟩, _, _⟩ := I.hok a _ ha
  have nc : PySem.W.notCls oe = true := by unfold PySem.W.notCls; rw [hv]
  cases d with
  | none => exact ⟨oe, none, ⟨ho, hz.1, nc, by rw [hz.2.1]; exact True.intro⟩, rfl⟩
  | some dd =>
    obtain ⟨fs, hf⟩ := hd dd rfl
    obtain ⟨mA, hns, _⟩ := (show ObjOk X.prog X.w H s.heap dd (.xd fs) from I.hok dd _ hf)
    obtain ⟨o, h1, _⟩ := lookIn_ns hns
    exact ⟨oe, some o, ⟨ho, hz.1, nc, by rw [hz.2.1]; exact h1⟩, o, rfl, h1⟩
theorem call_isX : CallR X (.builtin "isinstance") (rIsX X.K) := by
  intro pins s σ H xs us Q I r h
  obtain ⟨a, C, d, c, cv, b, rfl, hcv, ha, hd, T, e, q⟩ := h
  obtain ⟨u1, u2, rfl, r1, r2⟩ := vals2 r
  obtain rfl : u1 = Value.ref a := r1
  have ec := hcv _ r2
  subst ec
  obtain ⟨oe, od, J, _⟩ := exc_at I ha hd
  exact PySem.W.kia_one (PySem.W.kitx_exc T.cl T.ga T.gt T.sb T.ca T.cn T.tk T.mr) I.kIn J e (fun z => nomatch z) fun tk => ⟨.bl b, H, I.tok tk, rfl, q⟩
structure IsT (K : PySem.W.Frag) (mg : Str → Option Value) (R : List Str) (T : Str) : Prop where
  ex : ∃ (c : V) (v : Value), ((mg T = some v ∧ RelV c v) ∨ (mg T = none ∧ bootBuiltins T = some v ∧ RelV c v ∧ T ≠ "__name__")) ∧ (∀ u, RelV c u → u = v) ∧ ∀ k ∈ R, ∀ C, ClsN K k C → PySem.W.kitOne K (.ref C) v = some (subE k T)
structure ExIs (K : PySem.W.Frag) (R : List Str) : Prop where
  ex : ∀ k ∈ R, ∀ C, ClsN K k C → ExI K C
def excK (R : List Str) : D → (Str → Prop) → Prop
  | .dict ((.str c, _) :: _), q => c ∈ R ∧ q c
  | _, _ => False
def eIsE (R : List Str) (T : Str) (e : ES) : ES := fun x δ q => e x δ fun s => s.fr fun d => excK R d fun c => q (.val (.bool (subE c T)))
theorem je_isE {R : List Str} {T : Str} {p1 p2 : Pos} {de : ES} (hm : X.mg "isinstance" = none) (hI : ExIs X.K R) (hT : IsT X.K X.mg R T) (h : JE X W e de) (hg : Gl X "isinstance" := by rfl) (hgT : Gl X T := by rfl) (hdT : (T == ("__debug__" : Str)) = false := by decide)
    (hs : starEach (e :: [.Name T p2]) X.env = (false, eval e X.env) :: starEach [.Name T p2] X.env := by rfl) (hs2 : starEach [.Name T p2] X.env = (false, eval (.Name T p2) X.env) :: starEach [] X.env := by rfl)
    (hpl : (backTo pos (starEach [.Name T p2] X.env)).any (·.1) = false := by rfl) : JE X W (.Call (.Name "isinstance" p1) [e, .Name T p2] [] pos) (eIsE R T de) := by
  obtain ⟨te, p, s⟩ := h.ex
  obtain ⟨c, v, hv, hcv, hR⟩ := hT.ex
  have pT : PE X (.Name T p2) (fun σ H Q => Q c H) := by
    rcases hv with ⟨m, r⟩ | ⟨m, bb, r, nn⟩
    · exact pe_glob hgT m r hdT
    · exact pe_bltn hgT m bb r nn hdT
  refine ⟨_, pe_callB call_isX hg hm (by decide +kernel) (pa_cons p (pa_cons pT pa_nil hs2) hs) (by decide) (by decide) hs hpl, fun O H H0 σ δ x q Q so env hx hq g => ?_⟩
  refine s O H H0 σ δ x _ _ so env hx (fun y O1 H1 t u1 r1 g1 => ?_) g
  obtain ⟨O2, d, u2, r2, g2⟩ := r1.fr u1 g1
  unfold excK at g2
  split at g2
  · rename_i k tl rest
    obtain ⟨hk, g2⟩ := g2
    cases r2 with
    | exc0 hC ha =>
      have hI := hI.ex k hk _ hC
      have hkit := hR k hk _ hC
      exact ⟨_, _, none, c, v, subE k T, rfl, hcv, u2.oh _ _ ha, (fun _ z => nomatch z), hI, hkit, hq _ O2 H1 (.val (.bool _)) u2 (.bl _) g2⟩
    | exc1 hC ha hd _ =>
      have hI := hI.ex k hk _ hC
      have hkit := hR k hk _ hC
      exact ⟨_, _, some _, c, v, subE k T, rfl, hcv, u2.oh _ _ ha, (fun _ z => by cases z; exact ⟨_, u2.oh _ _ hd⟩), hI, hkit, hq _ O2 H1 (.val (.bool _)) u2 (.bl _) g2⟩
  · exact g2.elim
structure FldT (K : PySem.W.Frag) (R : List Str) (f : Str) : Prop where
  ex : ∀ k ∈ R, ∀ C, ClsN K k C → PySem.W.findIn K (.ref C) f = some none
def fldK (R : List Str) (f : Str) : D → (D → Prop) → Prop
  | .dict [(.str c, .str g), (.str _, u)], q => c ∈ R ∧ f = g ∧ q u
  | _, _ => False
def eFld (R : List Str) (f : Str) (e : ES) : ES := fun x δ q => e x δ fun s => s.fr fun d => fldK R f d fun u => q (.val u)
def tFld (K : PySem.W.Frag) (f : Str) (te : TE) : TE := fun σ H Q => te σ H fun x H1 => ∃ (a C dd : Addr) (v : V), x = .ref a ∧ H1 a = some (excO C (some dd) a) ∧ H1 dd = some (.xd [(f, v)]) ∧ ExI K C ∧ PySem.W.findIn K (.ref C) f = some none ∧ Q v H1
theorem pe_fld {f : Str} {te : TE} (he : PE X e te) (hb : attributeBase e f X.env (eval e X.env) = eval e X.env := by rfl) : PE X (.Attribute e f pos) (tFld X.K f te) := by
  refine ⟨fun pins s σ H Q I h => attr_of hb (thn (he.run pins s σ H _ I h) fun u s1 hh => ?_)⟩
  obtain ⟨x, H1, I1, rx, a, C, dd, v, rfl, ha, hd, T, hno, q⟩ := hh
  obtain rfl : u = Value.ref a := rx
  obtain ⟨oe, od, J, h2⟩ := exc_at I1 ha (fun _ z => by cases z; exact ⟨_, hd⟩)
  obtain ⟨o, rfl, ho⟩ := h2
  obtain ⟨mA, hns, hr⟩ := (show ObjOk X.prog X.w H1 s1.heap dd (.xd [(f, v)]) from I1.hok dd _ hd)
  obtain ⟨od', ho', hl⟩ := lookIn_ns hns
  rw [ho] at ho'
  cases ho'
  obtain ⟨y, hy, ry⟩ := RelO.some_of (v := v) (o := mA f) (by have z := hr f; rw [List.lookup_cons_self] at z; exact z)
  exact HandSPX.exc_get I1.kIn J T.ga T.gt T.sb (PySem.W.findObj_own T.hd hno rfl (by rw [hl, hy])) (handed_of ry) ⟨v, H1, I1.tok _, ry, q⟩
theorem je_fld {R R' : List Str} {f : Str} {de : ES} (hI : ExIs X.K R') (T : FldT X.K R f) (hRR : ∀ k ∈ R, k ∈ R') (h : JE X W e de) (hb : attributeBase e f X.env (eval e X.env) = eval e X.env := by rfl) : JE X W (.Attribute e f pos) (eFld R f de) := by
  obtain ⟨te, p, s⟩ := h.ex
  refine ⟨_, pe_fld p hb, fun O H H0 σ δ x q Q so env hx hq g => ?_⟩
  refine s O H H0 σ δ x _ _ so env hx (fun y O1 H1 t u1 r1 g1 => ?_) g
  obtain ⟨O2, d, u2, r2, g2⟩ := r1.fr u1 g1
  unfold fldK at g2
  split at g2
  · rename_i c g' f' u
    obtain ⟨hc, rfl, g2⟩ := g2
    cases r2 with
    | exc1 hC ha hd hu =>
      have hI := hI.ex c (hRR c hc) _ hC
      have hno := T.ex c hc _ hC
      exact ⟨_, _, _, _, rfl, u2.oh _ _ ha, u2.oh _ _ hd, hI, hno, hq _ O2 H1 (.val u) u2 hu g2⟩
  · exact g2.elim
def lstK : D → (List D → Prop) → Prop
  | .list xs, k => k xs
  | _, _ => False
def blK : D → (Bool → Prop) → Prop
  | .bool b, k => k b
  | _, _ => False
def eCnt (a e : EP) : ES := fun x δ q => a x δ fun d => lstK d fun xs => e x δ fun c => blK c fun b => optK (bools xs) fun bs => q (.val (.int ((bs.count b : Nat) : Int)))
def rBitLenD : R1D
  | .int i, q => q (.val (.int ((Builtin.Int.intBits i : Nat) : Int)))
  | _, _ => False
theorem je_bitlen {o : Expr} {p1 : Pos} {da : EP} (h : JP X W o da) (hbase : attributeBase o "bit_length" X.env (eval o X.env) = eval o X.env := by rfl) (hline : (p1.endLine == pos.line) = true := by rfl) : JE X W (.Call (.Attribute o "bit_length" p1) [] [] pos) (eUn rBitLenD da) := by
  obtain ⟨te, p, s⟩ := h.ex
  refine ⟨_, pe_bits p hbase hline, fun O H H0 σ δ x q Q so env hx hq g => ?_⟩
  refine s O H H0 σ δ x _ _ so env hx (fun v O1 H1 d u1 r1 g1 => ?_) g
  unfold rBitLenD at g1
  split at g1
  · cases r1
    exact ⟨_, rfl, hq _ O1 H1 (.val (.int _)) u1 (.int _) g1⟩
  · exact g1.elim
theorem w_bitlen {i : Int} {q : S → Prop} : rBitLenD (.int i) q = q (.val (.int ((Builtin.Int.intBits i : Nat) : Int))) := (rfl)
theorem u_sTry {b : ST} {cs : List Cl} {D : DL.Ends} {δ : List S} : sTry b cs D δ = b { D with ex := fun e δ' => hands cs e D δ' } δ := (rfl)
theorem w_hands0 {e : Exc} {D : DL.Ends} {δ : List S} : hands [] e D δ = D.ex e δ := (rfl)
theorem w_hands1 {R : List Str} {T : Str} {i : Option Nat} {s : ST} {r : List Cl} {e : Exc} {D : DL.Ends} {δ : List S} : hands (⟨R, T, i, s⟩ :: r) e D δ = (e.cls ∈ R ∧ if subE e.cls T = true then s (afterE i D) (atE i e δ) else hands r e D δ) := (rfl)
theorem w_atE1 {i : Nat} {e : Exc} {δ : List S} : atE (some i) e δ = put δ i (.val (excD e)) := (rfl)
theorem w_atE0 {e : Exc} {δ : List S} : atE none e δ = δ := (rfl)
theorem w_afterE {o : Option Nat} {D : DL.Ends} : afterE o D = ⟨fun δ => D.nx (goneE o δ), D.rt, fun δ => D.bk (goneE o δ), fun δ => D.ct (goneE o δ), fun _ _ => False⟩ := (rfl)
theorem w_goneE1 {i : Nat} {δ : List S} : goneE (some i) δ = put δ i .no := (rfl)
theorem w_goneE0 {δ : List S} : goneE none δ = δ := (rfl)
theorem w_excD0 {c : Str} : excD ⟨c, none⟩ = .dict [(.str c, .none)] := (rfl)
theorem w_excD1 {c f : Str} {u : D} : excD ⟨c, some (f, u)⟩ = .dict [(.str c, .str f), (.str f, u)] := (rfl)
theorem u_eIsE {R : List Str} {T : Str} {e : ES} {x : XP} {δ : List S} {q : S → Prop} : eIsE R T e x δ q = e x δ fun s => s.fr fun d => excK R d fun c => q (.val (.bool (subE c T))) := (rfl)
theorem w_excK {R : List Str} {c : Str} {u : D} {l : List (D × D)} {q : Str → Prop} : excK R (.dict ((.str c, u) :: l)) q = (c ∈ R ∧ q c) := (rfl)
theorem u_eFld {R : List Str} {f : Str} {e : ES} {x : XP} {δ : List S} {q : S → Prop} : eFld R f e x δ q = e x δ fun s => s.fr fun d => fldK R f d fun u => q (.val u) := (rfl)
theorem w_fldK {R : List Str} {f c g h : Str} {u : D} {q : D → Prop} : fldK R f (.dict [(.str c, .str g), (.str h, u)]) q = (c ∈ R ∧ f = g ∧ q u) := (rfl)
theorem u_eCnt {a e : EP} {x : XP} {δ : List S} {q : S → Prop} : eCnt a e x δ q = a x δ fun d => lstK d fun xs => e x δ fun c => blK c fun b => optK (bools xs) fun bs => q (.val (.int ((bs.count b : Nat) : Int))) := (rfl)
theorem w_lstK {xs : List D} {k : List D → Prop} : lstK (.list xs) k = k xs := (rfl)
theorem w_blK {b : Bool} {k : Bool → Prop} : blK (.bool b) k = k b := (rfl)
theorem nd_i {i : Int} : noDict (.int i) = true := (rfl)
theorem nd_b {i : Bool} : noDict (.bool i) = true := (rfl)
theorem nd_s {i : Str} : noDict (.str i) = true := (rfl)
theorem nd_l {i : List D} : noDict (.list i) = true := (rfl)
theorem nd_t {i : List D} : noDict (.tuple i) = true := (rfl)
theorem nd_n : noDict .none = true := (rfl)
end
end DL

namespace DL
variable [HotA]
open PySem PySem.Spec PyProof.Rows L2
class HasUn (R : Nat → Around → Prop) : Prop where
  un : ∀ k A, R k A → A.units + 64 < cLine
instance : HasUn Room := ⟨fun _ _ r => r.units⟩
instance : HasUn L2H.RoomH := ⟨fun k A r => by have := r.un; omega⟩
theorem units_ok {R : Nat → Around → Prop} [h : HasUn R] {k : Nat} {A : Around} (r : R k A) : A.units + 64 < cLine := h.un k A r
theorem on_as {X : Cx} {n : Str} (i : Nat) (h1 : X.N[i]? = some n) (h2 : X.env.kindOf n = some .local) : onSlot X (some n) (some i) := ⟨h1, h2⟩
inductive RAll (P : Str → Prop) : List Str → Prop
  | nil : RAll P []
  | cons {c : Str} {r : List Str} : P c → RAll P r → RAll P (c :: r)
theorem RAll.at {P : Str → Prop} : ∀ {R : List Str}, RAll P R → ∀ c ∈ R, P c
  | _, .nil, _, h => by cases h
  | _, .cons h r, c, hc => by
    rcases List.mem_cons.mp hc with e | e
    · rw [e]; exact h
    · exact r.at c e
theorem ClsN.eq {K : PySem.W.Frag} {c : Str} {C C' : Addr} (h : ClsN K c C) (h' : ClsN K c C') : C = C' := by
  have e := h.symm.trans h'
  injection e with e
  injection e with e
  injection e
section
variable {K : PySem.W.Frag} {mg : Str → Option Value} {h : Heap} {p : Prop} {R : List Str} {T c : Str} {C : Addr} {v : Value}
theorem exd_use (X : K.In h) (G : h.Ns mainGlobals mg) (a : PySem.W.nsIn K mainGlobals c = some (some (.ref C))) (x : PySem.W.excIn K C [.type "ValueError", .type "Exception", .type "BaseException", .type "object"] "ValueError.__new__" = true) (k : PySem.W.keepIn K (.ref C) = true)
    (b : PySem.W.subIn K (.ref C) (.type "BaseException") = some true) (t : PySem.W.typeIn K (.ref C) = some (.type "type")) (q : ExD K mg c → p) : p := q ⟨C, a, PySem.W.mg_of X G a, x, k, b, t⟩
theorem ext_use (X : K.In h) (G : h.Ns mainGlobals mg) (a : PySem.W.nsIn K mainGlobals T = some (some (.ref C))) (hb : PySem.W.subIn K (.ref C) (.type "BaseException") = some true) (hd : PySem.W.hasDictIn K C = true) (ty : PySem.W.typeIn K (.ref C) = some (.type "type"))
    (f : RAll (fun c => ∃ C' b, PySem.W.nsIn K mainGlobals c = some (some (.ref C')) ∧ PySem.W.subIn K (.ref C') (.ref C) = some b ∧ subE c T = b) R) (q : ExT K mg R T → p) : p :=
  q ⟨.ref C, .inl (PySem.W.mg_of X G a), fun c hc C' hC' => by
    obtain ⟨C2, b, h1, h2, h3⟩ := f.at c hc
    rw [hC'.eq h1, h3]
    exact PySem.W.exm_ref hb hd ty h2⟩
theorem ist_use (X : K.In h) (G : h.Ns mainGlobals mg) (a : PySem.W.nsIn K mainGlobals T = some (some (.ref C))) (cl : PySem.W.isClsIn K C = true) (ty : PySem.W.typeIn K (.ref C) = some (.type "type")) (ss : PySem.W.subIn K (.ref C) (.ref C) = some true)
    (f : RAll (fun c => ∃ C' b, PySem.W.nsIn K mainGlobals c = some (some (.ref C')) ∧ PySem.W.subIn K (.ref C') (.ref C) = some b ∧ subE c T = b) R) (q : IsT K mg R T → p) : p :=
  q ⟨.ref C, .ref C, .inl ⟨PySem.W.mg_of X G a, rfl⟩, fun u r => r, fun c hc C' hC' => by
    obtain ⟨C2, b, h1, h2, h3⟩ := f.at c hc
    rw [hC'.eq h1, h3]
    unfold PySem.W.kitOne
    split
    · rename_i z
      have z := beq_iff_eq.mp z
      rw [z, ss] at h2
      exact h2
    · unfold PySem.W.kitCls
      have cl' : (PySem.W.clsIn K C).isSome = true := cl
      show (if ((PySem.W.clsIn K C).isSome && PySem.W.typeIn K (.ref C) == some (.type "type")) = true then PySem.W.subIn K (.ref C2) (.ref C) else none) = some b
      rw [if_pos (by rw [cl', ty]; rfl)]
      exact h2⟩
theorem ist_useB {n : String} (X : K.In h) (G : h.Ns mainGlobals mg) (a : PySem.W.nsIn K mainGlobals T = some none) (bb : bootBuiltins T = some (.type n)) (nn : T ≠ "__name__") (km : PySem.W.kitMeta n = true)
    (f : RAll (fun c => ∃ C' b, PySem.W.nsIn K mainGlobals c = some (some (.ref C')) ∧ PySem.W.subIn K (.ref C') (.type n) = some b ∧ subE c T = b) R) (q : IsT K mg R T → p) : p :=
  q ⟨.ty n, .type n, .inr ⟨PySem.W.mg_none_of X G a, bb, rfl, nn⟩, fun u r => r, fun c hc C' hC' => by
    obtain ⟨C2, b, h1, h2, h3⟩ := f.at c hc
    rw [hC'.eq h1, h3]
    unfold PySem.W.kitOne
    rw [if_neg (by simp)]
    show (if PySem.W.kitMeta n = true then PySem.W.subIn K (.ref C2) (.type n) else none) = some b
    rw [if_pos km]
    exact h2⟩
theorem exi_mk (cl : PySem.W.isClsIn K C = true) (ga : PySem.W.findIn K (.ref C) "__getattribute__" = some (some (.builtin "BaseException.__getattribute__"))) (gt : PySem.W.findIn K (.ref C) "__getattr__" = some none) (sb : PySem.W.subIn K (.ref C) (.type "BaseException") = some true)
    (ca : PySem.W.findIn K (.ref C) "__class__" = some (some (.builtin "object.__class__"))) (cn : PySem.W.specialIn K (.builtin "object.__class__") "__get__" = some (some (.builtin "getset_descriptor.__get__"))) (tk : PySem.W.takesIn K (.builtin "object.__class__") = some true)
    (mr : PySem.W.mroIn K C (.type "object") = some true) (hd : PySem.W.hasDictIn K C = true) : ExI K C := ⟨cl, ga, gt, sb, ca, cn, tk, mr, hd⟩
theorem exi_use (X : K.In h) (f : RAll (fun c => ∃ C, PySem.W.nsIn K mainGlobals c = some (some (.ref C)) ∧ ExI K C) R) (q : ExIs K R → p) : p :=
  q ⟨fun c hc C' hC' => by
    obtain ⟨C2, h1, h2⟩ := f.at c hc
    rw [hC'.eq h1]
    exact h2⟩
theorem fld_use {g : Str} (X : K.In h) (f : RAll (fun c => ∃ C, PySem.W.nsIn K mainGlobals c = some (some (.ref C)) ∧ PySem.W.findIn K (.ref C) g = some none) R) (q : FldT K R g → p) : p :=
  q ⟨fun c hc C' hC' => by
    obtain ⟨C2, h1, h2⟩ := f.at c hc
    rw [hC'.eq h1]
    exact h2⟩
end
section
variable {X : Cx} {W : WX} {e : Expr} {es : List Expr} {pos p1 p2 : Pos} {ta : TA}
structure BaseI (K : PySem.W.Frag) (mg : Str → Option Value) (B : Str) where
  C : Addr
  m : mg B = some (.ref C)
  r : ClX.CRead K C (.type "type")
  f : PySem.W.findCls K (.ref C) (.type "type") "__init__" = some (.val (.builtin "ValueError.__init__"))
theorem pe_binit {B : Str} {pl : Sem Bool} (T : BaseI X.K X.mg B) (hg : Gl X B) (hdb : (B == ("__debug__" : Str)) = false) (ha : PA X (e :: es) ta)
    (hc : eval (.Call (.Attribute (.Name B p1) "__init__" p2) (e :: es) [] pos) X.env = (do
      let ov ← eval (.Name B p1) X.env
      standAt p2.atName
      let (f, first) ← holding [ov] (getMethod ov "__init__" pl)
      callWith pos f first (backTo pos (starEach (e :: es) X.env)) (backToKw pos (keywordEach [] X.env))) := by rfl)
    (he : starEach (e :: es) X.env = (false, eval e X.env) :: starEach es X.env := by rfl) (hpl : (backTo pos (starEach es X.env)).any (·.1) = false := by rfl) :
    PE X (.Call (.Attribute (.Name B p1) "__init__" p2) (e :: es) [] pos) (tVeI X.K ta) := by
  refine ⟨fun pins s σ H Q I h => PySem.W.methodCall_KW (ld_glob I hg T.m ?_ hdb) hc⟩
  refine PySem.W.method_cls I.kIn T.r.ga (PySem.W.cls_value I.kIn T.r.rd T.f rfl ?_)
  refine PyProof.Rows.callWith_method1 (id := "ValueError.__init__") (first := []) (thn (ha.run pos pins _ σ H _ (I.tok _) h) fun us s1 ⟨vs, H1, I1, r1, a, C, ws, ev, hl, T, ea, q⟩ => ?_) he hpl
  subst ev
  cases r1 with
  | @cons _ u0 _ ur ra rw' =>
    obtain rfl : u0 = Value.ref a := ra
    exact oinit_ok T I1 ea (by rw [← Paired.length rw', sizeLine_eq]; omega) fun s' J => ⟨.non, H1, J, rfl, q⟩
def spInit (K : PySem.W.Frag) (f : Str) : Sp := fun vs H Q _ => ∃ (a C : Addr) (v : V), vs = [.ref a, v] ∧ OexC K C ∧ PySem.W.findIn K (.ref C) f = some none ∧ H a = some (exo a C none) ∧
  ∀ dx, H dx = none → dx ≠ a → Q .non (upd (upd H dx (exd dx [(f, v)])) a (exo a C (some dx)))
theorem init_ok {P : Program} {w : World} {K : PySem.W.Frag} {mg : Str → Option Value} {base : Heap} {qual B f m : Str} {st : Stmt} {fI : Addr} {fd : FuncData} (F : Fun K "__init__" qual st fI fd) (S : FnScope ["self", f] ["self", f] (defScope st)) (TB : BaseI K mg B)
    (hb : ∀ (cdv : Value) (A : Around) (outer : List Env) (s : Shared) (H : Hp) (E : XK), ∃ ts, PSs (cxOf (L2N.CX P w) P w K mg base ["self", f] qual (defScope st) fI cdv A outer s H E) (defBody st) ts ∧
      ∀ (D : L2.Ends) (σ : L2.St) (H : Hp), tSeq (tDrop (tVeI K (tCons (tVar 0) (tCons (tC (.str m)) tNil)))) (tOst K f (tVar 0) (tVar 1)) D σ H → ts D σ H) :
    FnOk P w K mg base (L2N.CX P w) 1 fI fd ["self", f] (spInit K f) := by
  obtain ⟨oc, od, kV, doc, pm, an, cdv, ct, osl, rfl, lk, hcd⟩ := F.ex
  refine fn_of lk hcd S (fun vs H Q E h => by obtain ⟨a, C, v, rfl, _⟩ := h; rfl) (fun A outer s H vs Q E hr h => ?_)
  obtain ⟨ts, p, z⟩ := hb cdv A outer s H E
  refine ⟨ts, p, z _ _ _ ?_⟩
  obtain ⟨a, C, v, rfl, T, hno, ha, q⟩ := h
  exact ⟨.ref a, rfl, a, C, [.str m], rfl, (by show 1 ≤ 1000; decide), T, ha, v, rfl, .ref a, rfl, a, C, rfl, T, hno, .inl ⟨ha, fun dx h n => q dx h n⟩⟩
theorem pmk_init {x : Str} {C fI : Addr} {k : Nat} {fd : FuncData} {ps : List Str} {sp : Sp} {p : Pos} (T : OexC X.K C) (iC : PySem.W.findIn X.K (.ref C) "__init__" = some (some (.ref fI))) (tI : PySem.W.typeIn X.K (.ref fI) = some (.type "function"))
    (F1 : FnOk X.prog X.w X.K X.mg X.base (L2N.CX X.prog X.w) k fI fd ps sp) (hr : Room (k + 1) X.A) (hb : Binds X.K fd ps []) (hg : Gl X x) (hm : X.mg x = some (.ref C)) (ha : PA X (e :: es) ta)
    (hdb : (x == ("__debug__" : Str)) = false) (he : starEach (e :: es) X.env = (false, eval e X.env) :: starEach es X.env := by rfl) (hpl : (backTo pos (starEach es X.env)).any (·.1) = false := by rfl) :
    L2N.PMk X (.Call (.Name x p) (e :: es) [] pos) (tMkO C sp [] ta) := by
  intro pins s σ H Q I h
  obtain ⟨nm, q, N, bs, bm, sn, sub, ab, col, dd, k0, k1, k2, k3, k5, hC, hbm⟩ := T.cls
  refine wpAny_Call_Name_kw (ld_glob I hg hm ?_ hdb)
  refine PySem.W.callWith_K (h₀ := X.base) I.ok.mod.kin T.kC (thn (ha.run pos pins s σ H _ I h) fun us s1 ⟨vs, H1, I1, r1, hz, q1⟩ => ⟨I1.kIn, ?_⟩) he hpl
  show wpAny _ _ (call (.ref C) us) _ _ _
  obtain ⟨hp, g, dr, tk, os⟩ := s1
  let a : Addr := hp.objs.size + 1
  let h2 : Heap := (hp.push (PySem.W.kdv_tup us)).push (PySem.HandSPX.excO C hp.objs.size)
  have hsz : hp.objs.size ≤ a := Nat.le_succ _
  have hn : H1 a = none := I1.hok.fresh hsz
  have hq := q1 a hn
  rw [List.append_nil] at hq
  have kk : ∀ b o, hp.get? b = some o → h2.get? b = some o := fun b o z => Heap.get?_push_of_some _ (Heap.get?_push_of_some _ z)
  have hget : h2.get? a = some (PySem.HandSPX.excO C hp.objs.size) := by show ((hp.push (PySem.W.kdv_tup us)).push (PySem.HandSPX.excO C hp.objs.size)).get? (hp.objs.size + 1) = _; heap_get
  have I2 : Inv X pins σ (upd H1 a (exo a C none)) ⟨h2, g, dr, tk, os⟩ := I1.laid (t' := tk) (a := a) (o := exo a C none) (h' := h2) kk hsz (exo_ok hget)
  have hl : (Value.ref a :: us).length = ps.length := by
    have z := F1.len _ _ _ _ hq
    rw [← z, List.length_cons, List.length_cons, Paired.length r1]
  have b2 := hb ⟨h2, g, dr, tk, os⟩ (Value.ref a :: us) I2.kIn (by rw [List.append_nil]; exact hl)
  rw [List.append_nil] at b2
  have hus : us.length ≤ sizeLine := by
    rw [← Paired.length r1, sizeLine_eq]
    omega
  refine wpAny_call (PySem.HandSPX.call_own F.excBase_ValueError (fun Y => PySem.HandSPX.refsVE_contains Y bm hbm) (I1.kIn _ _ hC) (PySem.W.looks_findIn I1.kIn iC) (fun self => PySem.W.bind_fn I1.kIn self tI) hus
    (codeAny_mono (F1.run _ X.stack _ _ ⟨Value.ref a :: us, []⟩ (Value.ref a :: us) (V.ref a :: vs) _ (fun _ _ _ => False) (hr.make C us []) (I2.env0.make C us []) b2 (.cons rfl r1) hq) fun r s' hq' => ?_))
  match r, hq' with
  | .error er, hq' =>
    obtain ⟨_, _, _, _, _, _, _, _, _, _, _, _, z⟩ := hq'
    exact z.elim
  | .ok (.ret u), hq' =>
    obtain ⟨v, H2, os2, bare2, un2, hok2, rv, ev, d, fs, ea, ed, hd1, q2⟩ := hq'
    subst ev
    obtain ⟨h3, g2, d2, t2, os'⟩ := s'
    obtain ⟨t0, G, J, kG, ge, hoe, na⟩ := mk_end0 (d2 := d2) (t2 := t2) I1 hsz kk un2 hok2 os2 bare2 ea ed hd1
    exact ⟨rv, a, _, _, ⟨G, g2, d2, t2, os'⟩, _, .ref C, some d, rfl, J, kG, ge, hoe, ⟨rfl, rfl, fun vs hv => by cases hv; rfl⟩, rfl, rfl, na, rfl, bare2, raises_own T.exC T.tyC, q2⟩
  | .ok .next, hq' => exact hq'.elim
  | .ok .brk, hq' => exact hq'.elim
  | .ok .cont, hq' => exact hq'.elim
structure ExD1 (P : Program) (w : World) (K : PySem.W.Frag) (mg : Str → Option Value) (base : Heap) (c f : Str) where
  C : Addr
  fI : Addr
  fd : FuncData
  n : ClsN K c C
  m : mg c = some (.ref C)
  T : OexC K C
  iC : PySem.W.findIn K (.ref C) "__init__" = some (some (.ref fI))
  tI : PySem.W.typeIn K (.ref fI) = some (.type "function")
  F1 : FnOk P w K mg base (L2N.CX P w) 1 fI fd ["self", f] (spInit K f)
  hb : Binds K fd ["self", f] []
  hno : PySem.W.findIn K (.ref C) f = some none
theorem js_raise1 {c f : Str} {p : Pos} {de : ES} (hc : X.calm = true) (tk : L2N.Takes X W) (C : ExD1 X.prog X.w X.K X.mg X.base c f) (hr : Room 2 X.A) (h : JE X W e de) (hg : Gl X c := by rfl) (hdb : (c == ("__debug__" : Str)) = false := by decide)
    (he : starEach [e] X.env = (false, eval e X.env) :: starEach [] X.env := by rfl) (hpl : (backTo pos (starEach [] X.env)).any (·.1) = false := by rfl) {pos' : Pos} :
    JS X W (.Raise (some (.Call (.Name c p) [e] [] pos)) none pos') (sRaise1 c f de) := by
  obtain ⟨te, pe, s⟩ := h.ex
  refine ⟨_, L2N.ps_raise hc tk (pmk_init C.T C.iC C.tI C.F1 hr C.hb hg C.m (pa_cons pe pa_nil he) hdb he hpl), fun O0 H0 O H σ δ D Dd u env er g => ?_⟩
  refine s O H H0 σ δ _ _ _ u.oh env (er.xe u env) (fun v O1 H1 t u1 r1 g1 => ?_) g
  obtain ⟨O2, d, u2, r2, g2⟩ := r1.fr u1 g1
  refine ⟨by show 1 ≤ 1000; decide, fun a ha => ⟨a, C.C, v, rfl, C.T, C.hno, upd_same, fun dx hdx hne => ⟨rfl, dx, [(f, v)], upd_same, by rw [upd_ne hne, upd_same], ?_, ?_⟩⟩⟩
  · rw [upd_ne hne] at hdx; exact hdx
  rw [upd_ne hne] at hdx
  have e : upd (del (upd (upd (upd H1 a (exo a C.C none)) dx (exd dx [(f, v)])) a (exo a C.C (some dx))) a) dx (.xd [(f, v)]) = upd H1 dx (.xd [(f, v)]) := by
    funext b
    by_cases h1 : b = dx
    · rw [h1, upd_same, upd_same]
    · rw [upd_ne h1, upd_ne h1]
      by_cases h2 : b = a
      · rw [h2, del_same, ha]
      · rw [del_ne h2, upd_ne h2, upd_ne h1, upd_ne h2]
  rw [e]
  have un := Up.new u2.oh hdx (.xd [(f, v)])
  exact er.ex ⟨c, some (f, d)⟩ (.ref C.C) (some dx) _ _ σ δ ((u.trans u2).trans un) (env.up (u2.trans un)) ⟨⟨C.C, C.n, rfl⟩, dx, v, rfl, upd_same, dp_mono un.o r2⟩ g2
end
end DL

namespace DL
open PySem L2
theorem copr_dvd {a b c : Int} (h : Int.gcd a b = 1) (d : a ∣ b * c) : a ∣ c := by
  have h2 : a.natAbs ∣ b.natAbs * c.natAbs := by rw [← Int.natAbs_mul]; exact Int.natAbs_dvd_natAbs.mpr d
  exact Int.natAbs_dvd_natAbs.mp (Nat.Coprime.dvd_of_dvd_mul_left (show Nat.Coprime a.natAbs b.natAbs from h) h2)
theorem natAbs_le_of_dvd {d n : Int} (h : d ∣ n) (hn : n ≠ 0) : d.natAbs ≤ n.natAbs := Nat.le_of_dvd (by omega) (Int.natAbs_dvd_natAbs.mpr h)
theorem Sz.of_dvd {k : Nat} {d n : Int} (h : d ∣ n) (hn : n ≠ 0) (hz : Sz k n) : Sz k d := Sz.of_le (natAbs_le_of_dvd h hn) hz
structure Pr (p : Int) : Prop where
  two : 2 ≤ p
  no : ∀ d : Int, 2 ≤ d → d < p → ¬ d ∣ p
theorem Pr.pos {p : Int} (h : Pr p) : 0 < p := by have := h.two; omega
theorem Pr.gcd {p a : Int} (h : Pr p) : p ∣ a ∨ Int.gcd p a = 1 := by
  have h1 : (Int.gcd p a : Int) ∣ p := Int.gcd_dvd_left ..
  have h2 : (Int.gcd p a : Int) ∣ a := Int.gcd_dvd_right ..
  have hp := h.two
  have h3 : (Int.gcd p a : Int) ≤ p := Int.le_of_dvd (by omega) h1
  have h0 : 0 < Int.gcd p a := Int.gcd_pos_of_ne_zero_left a (by omega)
  rcases Int.lt_or_le (Int.gcd p a : Int) 2 with z | z
  · exact .inr (by omega)
  · rcases Int.lt_or_le (Int.gcd p a : Int) p with y | y
    · exact absurd h1 (h.no _ z y)
    · have : (Int.gcd p a : Int) = p := by omega
      rw [this] at h2
      exact .inl h2
theorem Pr.euclid {p a b : Int} (h : Pr p) (d : p ∣ a * b) : p ∣ a ∨ p ∣ b := by
  rcases h.gcd (a := a) with z | z
  · exact .inl z
  · exact .inr (copr_dvd z d)
theorem Pr.not_one {p : Int} (h : Pr p) : ¬ p ∣ 1 := fun z => by
  have := Int.le_of_dvd (by decide) z
  have := h.two
  omega
theorem Pr.pow {p a : Int} (h : Pr p) : ∀ {n : Nat}, p ∣ a ^ n → p ∣ a
  | 0, d => absurd (by rw [Int.pow_zero] at d; exact d) h.not_one
  | n + 1, d => by
    rw [Int.pow_succ] at d
    rcases h.euclid d with z | z
    · exact Pr.pow h z
    · exact z
theorem Pr.eq {p q : Int} (h : Pr p) (k : Pr q) (d : p ∣ q) : p = q := by
  have h1 := Int.le_of_dvd k.pos d
  rcases Int.lt_or_le p q with z | z
  · exact absurd d (k.no p h.two z)
  · omega
theorem pr_of {n m : Int} (h2 : 2 ≤ n) (hm : 0 ≤ m) (hs : ∀ d : Int, 2 ≤ d → d < m → ¬ d ∣ n) (hn : n < m * m) : Pr n := by
  refine ⟨h2, fun d h d2 dv => ?_⟩
  obtain ⟨e, he⟩ := dv
  have he0 : 0 < e := by
    rcases Int.lt_or_le 0 e with z | z
    · exact z
    · have := Int.mul_nonneg_of_nonpos_of_nonpos (show -d ≤ 0 by omega) z
      have : -d * e = -(d * e) := Int.neg_mul ..
      omega
  have he1 : 2 ≤ e := by
    rcases Int.lt_or_le e 2 with z | z
    · have : e = 1 := by omega
      rw [this] at he
      omega
    · exact z
  rcases Int.lt_or_le d m with z | z
  · exact hs d h z ⟨e, he⟩
  · rcases Int.lt_or_le e m with y | y
    · exact hs e he1 y ⟨d, by rw [he, Int.mul_comm]⟩
    · have := Int.mul_le_mul z y hm (by omega)
      omega
theorem pr_exists : ∀ (k : Nat) {n : Int}, n.toNat ≤ k → 2 ≤ n → ∃ p, Pr p ∧ p ∣ n
  | 0, n, h, h2 => by omega
  | k + 1, n, h, h2 => by
    by_cases hp : ∃ d : Int, 2 ≤ d ∧ d < n ∧ d ∣ n
    · obtain ⟨d, h1, h3, h4⟩ := hp
      obtain ⟨p, q1, q2⟩ := pr_exists k (n := d) (by omega) h1
      exact ⟨p, q1, Int.dvd_trans q2 h4⟩
    · exact ⟨n, ⟨h2, fun d h1 h3 h4 => hp ⟨d, h1, h3, h4⟩⟩, Int.dvd_refl n⟩
theorem pr_factor {n : Int} (h : 2 ≤ n) : ∃ p, Pr p ∧ p ∣ n := pr_exists n.toNat (Nat.le_refl _) h
theorem pow_dvd_pow {p : Int} {a b : Nat} (h : a ≤ b) : p ^ a ∣ p ^ b := ⟨p ^ (b - a), by rw [← Int.pow_add]; congr 1; omega⟩
theorem pow_pos' {p : Int} (h : 0 < p) (n : Nat) : 0 < p ^ n := by
  induction n with
  | zero => rw [Int.pow_zero]; decide
  | succ n ih => rw [Int.pow_succ]; exact Int.mul_pos ih h
abbrev Part := Int × Int
def prodL : List Part → Int
  | [] => 1
  | (p, e) :: r => p ^ e.toNat * prodL r
theorem prodL_append : ∀ (l r : List Part), prodL (l ++ r) = prodL l * prodL r
  | [], r => by show prodL r = 1 * prodL r; rw [Int.one_mul]
  | (p, e) :: l, r => by
    show p ^ e.toNat * prodL (l ++ r) = p ^ e.toNat * prodL l * prodL r
    rw [prodL_append l r, Int.mul_assoc]
structure Parts (l : List Part) : Prop where
  pr : ∀ x ∈ l, Pr x.1 ∧ 1 ≤ x.2
  up : l.Pairwise fun x y => x.1 < y.1
structure PP (n : Int) (l : List Part) : Prop extends Parts l where
  eq : prodL l = n
theorem Parts.pos {l : List Part} (h : Parts l) : 0 < prodL l := by
  have : ∀ l : List Part, (∀ x ∈ l, Pr x.1 ∧ 1 ≤ x.2) → 0 < prodL l := by
    intro l
    induction l with
    | nil => intro _; decide
    | cons x l ih =>
      intro h
      exact Int.mul_pos (pow_pos' (h x List.mem_cons_self).1.pos _) (ih fun y hy => h y (List.mem_cons_of_mem _ hy))
  exact this l h.pr
theorem mem_of_dvd {p : Int} (hp : Pr p) : ∀ {l : List Part}, (∀ x ∈ l, Pr x.1 ∧ 1 ≤ x.2) → p ∣ prodL l → ∃ e, (p, e) ∈ l
  | [], _, d => absurd d hp.not_one
  | (q, e) :: l, h, d => by
    rcases hp.euclid (a := q ^ e.toNat) (b := prodL l) d with z | z
    · have := hp.eq (h (q, e) List.mem_cons_self).1 (hp.pow z)
      rw [this]
      exact ⟨e, List.mem_cons_self⟩
    · obtain ⟨f, hf⟩ := mem_of_dvd hp (fun x hx => h x (List.mem_cons_of_mem _ hx)) z
      exact ⟨f, List.mem_cons_of_mem _ hf⟩
theorem split_of_mem {x : Part} {l : List Part} (h : x ∈ l) : ∃ a b, l = a ++ x :: b := List.append_of_mem h
theorem Parts.times {l : List Part} (h : Parts l) {p e : Int} (hm : (p, e) ∈ l) : p ^ e.toNat ∣ prodL l ∧ ¬ p ^ (e.toNat + 1) ∣ prodL l := by
  obtain ⟨a, b, rfl⟩ := split_of_mem hm
  have hp := (h.pr _ hm).1
  rw [prodL_append]
  have e1 : prodL a * prodL ((p, e) :: b) = p ^ e.toNat * (prodL a * prodL b) := by
    show prodL a * (p ^ e.toNat * prodL b) = _
    grind
  rw [e1]
  refine ⟨Int.dvd_mul_right .., fun d => ?_⟩
  rw [Int.pow_succ] at d
  have d2 : p ∣ prodL a * prodL b := Int.dvd_of_mul_dvd_mul_left (Int.ne_of_gt (pow_pos' hp.pos e.toNat)) d
  have hab : ∀ x ∈ a ++ b, Pr x.1 ∧ 1 ≤ x.2 := fun x hx => h.pr x (by
    rcases List.mem_append.mp hx with z | z
    · exact List.mem_append_left _ z
    · exact List.mem_append_right _ (List.mem_cons_of_mem _ z))
  rw [← prodL_append] at d2
  obtain ⟨f, hf⟩ := mem_of_dvd hp hab d2
  have hup := List.pairwise_append.mp h.up
  rcases List.mem_append.mp hf with z | z
  · have := hup.2.2 _ z _ List.mem_cons_self
    exact absurd this (Int.lt_irrefl _)
  · have := (List.pairwise_cons.mp hup.2.1).1 _ z
    exact absurd this (Int.lt_irrefl _)
theorem Parts.mem_iff {l : List Part} (h : Parts l) {p e : Int} : (p, e) ∈ l ↔ Pr p ∧ 1 ≤ e ∧ p ^ e.toNat ∣ prodL l ∧ ¬ p ^ (e.toNat + 1) ∣ prodL l := by
  constructor
  · intro hm
    exact ⟨(h.pr _ hm).1, (h.pr _ hm).2, h.times hm⟩
  · rintro ⟨hp, he, h1, h2⟩
    have hd : p ∣ prodL l := Int.dvd_trans (by have := pow_dvd_pow (p := p) (show 1 ≤ e.toNat by omega); rw [Int.pow_succ, Int.pow_zero, Int.one_mul] at this; exact this) h1
    obtain ⟨f, hf⟩ := mem_of_dvd hp h.pr hd
    have k := h.times hf
    have hf1 := (h.pr _ hf).2
    have : e = f := by
      rcases Int.lt_trichotomy e f with z | z | z
      · exact absurd (Int.dvd_trans (pow_dvd_pow (by omega)) k.1) h2
      · exact z
      · exact absurd (Int.dvd_trans (pow_dvd_pow (by omega)) h1) k.2
    rw [this]
    exact hf
theorem sorted_ext : ∀ {l r : List Part}, l.Pairwise (fun x y => x.1 < y.1) → r.Pairwise (fun x y => x.1 < y.1) → (∀ x, x ∈ l ↔ x ∈ r) → l = r
  | [], [], _, _, _ => rfl
  | [], y :: r, _, _, h => by have := (h y).mpr List.mem_cons_self; cases this
  | x :: l, [], _, _, h => by have := (h x).mp List.mem_cons_self; cases this
  | x :: l, y :: r, hl, hr, h => by
    obtain ⟨hx, hl⟩ := List.pairwise_cons.mp hl
    obtain ⟨hy, hr'⟩ := List.pairwise_cons.mp hr
    have e : x = y := by
      rcases List.mem_cons.mp ((h x).mp List.mem_cons_self) with z | z
      · exact z
      · rcases List.mem_cons.mp ((h y).mpr List.mem_cons_self) with w | w
        · exact w.symm
        · have a := hy x z
          have b := hx y w
          omega
    subst e
    refine congrArg (x :: ·) (sorted_ext hl hr' fun z => ?_)
    constructor
    · intro hz
      rcases List.mem_cons.mp ((h z).mp (List.mem_cons_of_mem _ hz)) with w | w
      · have := hx z hz
        rw [w] at this
        omega
      · exact w
    · intro hz
      rcases List.mem_cons.mp ((h z).mpr (List.mem_cons_of_mem _ hz)) with w | w
      · have := hy z hz
        rw [w] at this
        omega
      · exact w
theorem PP.unique {n : Int} {l r : List Part} (h : PP n l) (k : PP n r) : l = r := sorted_ext h.up k.up fun x => by
  obtain ⟨p, e⟩ := x
  rw [h.toParts.mem_iff, k.toParts.mem_iff, h.eq, k.eq]
structure SqF (c : Int) : Prop where
  ne : c ≠ 0
  no : ∀ d : Int, 2 ≤ d → ¬ d * d ∣ c
theorem SqF.of_pr {c : Int} (hc : c ≠ 0) (h : ∀ p, Pr p → ¬ p * p ∣ c) : SqF c := ⟨hc, fun d hd dv => by
  obtain ⟨p, hp, q⟩ := pr_factor hd
  exact h p hp (Int.dvd_trans (Int.mul_dvd_mul q q) dv)⟩
theorem SqF.neg {c : Int} (h : SqF c) : SqF (-c) := ⟨by have := h.ne; omega, fun d hd dv => h.no d hd (Int.dvd_neg.mp dv)⟩
structure Core (n c r : Int) : Prop where
  eq : n = c * r * r
  pos : 1 ≤ r
  sf : SqF c
def coreL : List Part → Int
  | [] => 1
  | (p, e) :: l => if e % 2 = 1 then p * coreL l else coreL l
def rootL : List Part → Int
  | [] => 1
  | (p, e) :: l => p ^ (e / 2).toNat * rootL l
theorem coreL_dvd {p : Int} (hp : Pr p) : ∀ {l : List Part}, (∀ x ∈ l, Pr x.1 ∧ 1 ≤ x.2) → p ∣ coreL l → ∃ e, (p, e) ∈ l
  | [], _, d => absurd d hp.not_one
  | (q, e) :: l, h, d => by
    have rest := fun x hx => h x (List.mem_cons_of_mem (q, e) hx)
    unfold coreL at d
    split at d
    · rcases hp.euclid d with z | z
      · rw [hp.eq (h (q, e) List.mem_cons_self).1 z]
        exact ⟨e, List.mem_cons_self⟩
      · obtain ⟨f, hf⟩ := coreL_dvd hp rest z
        exact ⟨f, List.mem_cons_of_mem _ hf⟩
    · obtain ⟨f, hf⟩ := coreL_dvd hp rest d
      exact ⟨f, List.mem_cons_of_mem _ hf⟩
theorem Parts.tail {x : Part} {l : List Part} (h : Parts (x :: l)) : Parts l := ⟨fun y hy => h.pr y (List.mem_cons_of_mem _ hy), (List.pairwise_cons.mp h.up).2⟩
theorem coreL_sf : ∀ {l : List Part}, Parts l → 0 < coreL l ∧ ∀ p, Pr p → ¬ p * p ∣ coreL l
  | [], _ => ⟨by decide, fun p hp d => hp.not_one (Int.dvd_trans (Int.dvd_mul_right ..) d)⟩
  | (q, e) :: l, h => by
    have ih := coreL_sf h.tail
    have hq := (h.pr (q, e) List.mem_cons_self).1
    unfold coreL
    split
    · refine ⟨Int.mul_pos hq.pos ih.1, fun p hp d => ?_⟩
      have out : ¬ q ∣ coreL l := fun z => by
        obtain ⟨f, hf⟩ := coreL_dvd hq (fun x hx => h.pr x (List.mem_cons_of_mem _ hx)) z
        have := (List.pairwise_cons.mp h.up).1 _ hf
        exact absurd this (Int.lt_irrefl _)
      by_cases e : p = q
      · subst e
        exact out (Int.dvd_of_mul_dvd_mul_left (by have := hp.pos; omega) d)
      · have g : Int.gcd (p * p) q = 1 := by
          rcases hq.gcd (a := p * p) with z | z
          · rcases hq.euclid z with y | y
            · exact absurd (hq.eq hp y).symm e
            · exact absurd (hq.eq hp y).symm e
          · rw [Int.gcd_comm]; exact z
        exact ih.2 p hp (copr_dvd g d)
    · exact ih
theorem core_root : ∀ {l : List Part}, (∀ x ∈ l, Pr x.1 ∧ 1 ≤ x.2) → prodL l = coreL l * rootL l * rootL l
  | [], _ => by decide
  | (p, e) :: l, h => by
    have ih := core_root (l := l) fun x hx => h x (List.mem_cons_of_mem _ hx)
    have he := (h (p, e) List.mem_cons_self).2
    have he : 1 ≤ e := he
    show p ^ e.toNat * prodL l = (if e % 2 = 1 then p * coreL l else coreL l) * (p ^ (e / 2).toNat * rootL l) * (p ^ (e / 2).toNat * rootL l)
    rw [ih]
    split
    · have e1 : e.toNat = (e / 2).toNat + (e / 2).toNat + 1 := by omega
      rw [e1, Int.pow_succ, Int.pow_add]
      grind
    · have e1 : e.toNat = (e / 2).toNat + (e / 2).toNat := by omega
      rw [e1, Int.pow_add]
      grind
theorem rootL_pos : ∀ {l : List Part}, (∀ x ∈ l, Pr x.1 ∧ 1 ≤ x.2) → 1 ≤ rootL l
  | [], _ => by decide
  | (p, e) :: l, h => by
    have h1 := pow_pos' (h (p, e) List.mem_cons_self).1.pos (e / 2).toNat
    have h2 := rootL_pos (l := l) fun x hx => h x (List.mem_cons_of_mem _ hx)
    have : 0 < p ^ (e / 2).toNat * rootL l := Int.mul_pos h1 (show 0 < rootL l by omega)
    show 1 ≤ p ^ (e / 2).toNat * rootL l
    omega
theorem PP.core {n : Int} {l : List Part} (h : PP n l) : Core n (coreL l) (rootL l) :=
  ⟨by rw [← h.eq]; exact core_root h.pr, rootL_pos h.pr, .of_pr (by have := (coreL_sf h.toParts).1; omega) (coreL_sf h.toParts).2⟩
theorem Core.neg {n c r : Int} (h : Core n c r) : Core (-n) (-c) r := ⟨by rw [h.eq]; grind, h.pos, h.sf.neg⟩
theorem Core.unique {n c r c' r' : Int} (h : Core n c r) (k : Core n c' r') : c = c' ∧ r = r' := by
  have e := h.eq.symm.trans k.eq
  have p1 := h.pos
  have p2 := k.pos
  -- the shared part
  have hg : 0 < Int.gcd r r' := Int.gcd_pos_of_ne_zero_left r' (by omega)
  obtain ⟨a, ha⟩ : (Int.gcd r r' : Int) ∣ r := Int.gcd_dvd_left ..
  obtain ⟨b, hb⟩ : (Int.gcd r r' : Int) ∣ r' := Int.gcd_dvd_right ..
  have cop : Int.gcd a b = 1 := by
    have z : Int.gcd ((Int.gcd r r' : Int) * a) ((Int.gcd r r' : Int) * b) = (Int.gcd r r' : Int).natAbs * Int.gcd a b := Int.gcd_mul_left ..
    rw [← ha, ← hb, Int.natAbs_natCast] at z
    have z2 : Int.gcd r r' * 1 = Int.gcd r r' * Int.gcd a b := by omega
    exact (Nat.eq_of_mul_eq_mul_left hg z2).symm
  generalize (Int.gcd r r' : Int) = g at ha hb
  have g0 : g ≠ 0 := fun z => by rw [z, Int.zero_mul] at ha; omega
  have e2 : c * (a * a) = c' * (b * b) := by
    have : g * g * (c * (a * a)) = g * g * (c' * (b * b)) := by rw [ha, hb] at e; grind
    exact Int.eq_of_mul_eq_mul_left (Int.mul_ne_zero g0 g0) this
  have sq : ∀ {x y : Int}, Int.gcd x y = 1 → Int.gcd (x * x) (y * y) = 1 := fun {x y} z => by
    have n : Nat.Coprime x.natAbs y.natAbs := z
    have : Nat.Coprime (x.natAbs * x.natAbs) (y.natAbs * y.natAbs) := Nat.Coprime.mul_left (n.mul_right n) (n.mul_right n)
    show Nat.gcd (x * x).natAbs (y * y).natAbs = 1
    rw [Int.natAbs_mul, Int.natAbs_mul]
    exact this
  have one : ∀ {x y c c' : Int}, c * (x * x) = c' * (y * y) → Int.gcd x y = 1 → SqF c' → x.natAbs = 1 := fun {x y c c'} z cp sf => by
    have d : x * x ∣ (y * y) * c' := ⟨c, by rw [Int.mul_comm (y * y), ← z, Int.mul_comm]⟩
    have d2 := copr_dvd (sq cp) d
    have hx : (x.natAbs : Int) * x.natAbs = x * x := by rw [← Int.natCast_mul, ← Int.natAbs_mul]; exact Int.natAbs_of_nonneg (by rcases Int.le_total 0 x with w | w; exact Int.mul_nonneg w w; exact Int.mul_nonneg_of_nonpos_of_nonpos w w)
    rw [← hx] at d2
    have n2 : ¬ (2 : Int) ≤ x.natAbs := fun w => sf.no _ w d2
    have n0 : x.natAbs ≠ 0 := fun w => by
      have x0 : x = 0 := by omega
      rw [x0, Int.zero_mul, Int.mul_zero] at z
      rcases Int.mul_eq_zero.mp z.symm with q | q
      · exact sf.ne q
      · rcases Int.mul_eq_zero.mp q with q | q <;> (rw [x0, q] at cp; exact absurd cp (by decide))
    omega
  have ha1 := one e2 cop k.sf
  have hb1 := one e2.symm (by rw [Int.gcd_comm]; exact cop) h.sf
  have aa : a * a = 1 := by rcases Int.natAbs_eq a with z | z <;> rw [z, ha1] <;> decide
  have bb : b * b = 1 := by rcases Int.natAbs_eq b with z | z <;> rw [z, hb1] <;> decide
  refine ⟨by rw [aa, bb] at e2; omega, ?_⟩
  have hr : r.natAbs = r'.natAbs := by rw [ha, hb, Int.natAbs_mul, Int.natAbs_mul, ha1, hb1]
  omega
def encP (x : Part) : D := .tuple [.int x.1, .int x.2]
theorem encP_mk {p e : Int} : encP (p, e) = .tuple [.int p, .int e] := rfl
theorem parts_inj : ∀ {l r : List Part}, (l.map encP = r.map encP) = (l = r)
  | [], [] => by simp
  | [], _ :: _ => by simp
  | _ :: _, [] => by simp
  | (p, e) :: l, (p', e') :: r => by
    have ih := parts_inj (l := l) (r := r)
    rw [List.map_cons, List.map_cons, List.cons.injEq, List.cons.injEq, ih]
    have : (encP (p, e) = encP (p', e')) = ((p, e) = (p', e')) := by
      show (PyData.tuple [.int p, .int e] = PyData.tuple [.int p', .int e']) = _
      simp
    rw [this]
end DL

namespace DL
open PySem PySem.Spec PyProof.Rows L2
structure ExE1 (K : PySem.W.Frag) (mg : Str → Option Value) (c f qual : Str) (st : Stmt) where
  C : Addr
  fI : Addr
  fd : FuncData
  n : ClsN K c C
  m : mg c = some (.ref C)
  T : OexC K C
  iC : PySem.W.findIn K (.ref C) "__init__" = some (some (.ref fI))
  tI : PySem.W.typeIn K (.ref fI) = some (.type "function")
  F : Fun K "__init__" qual st fI fd
  hb : Binds K fd ["self", f] []
  hno : PySem.W.findIn K (.ref C) f = some none
def ExE1.made {P : Program} {w : World} {K : PySem.W.Frag} {mg : Str → Option Value} {base : Heap} {c f qual : Str} {st : Stmt} (E : ExE1 K mg c f qual st) (F1 : FnOk P w K mg base (L2N.CX P w) 1 E.fI E.fd ["self", f] (spInit K f)) : ExD1 P w K mg base c f :=
  ⟨E.C, E.fI, E.fd, E.n, E.m, E.T, E.iC, E.tI, F1, E.hb, E.hno⟩
section
variable {K : PySem.W.Frag} {mg : Str → Option Value} {h : Heap} {p : Prop} {c f B qual : Str} {C : Addr}
theorem binit_use (X : K.In h) (G : h.Ns mainGlobals mg) (a : PySem.W.nsIn K mainGlobals B = some (some (.ref C))) (rd : PySem.W.readsIn K C (.type "type") = true) (ga : PySem.W.specialIn K (.ref C) "__getattribute__" = some (some (.builtin "type.__getattribute__")))
    (fi : PySem.W.findCls K (.ref C) (.type "type") "__init__" = some (.val (.builtin "ValueError.__init__"))) (q : BaseI K mg B → p) : p := q ⟨C, PySem.W.mg_of X G a, ⟨rd, ga⟩, fi⟩
theorem exe1_use {st : Stmt} {fI CB : Addr} {oc : Value} {od an : Option Addr} {osl : Array (Option Value)} {kV doc pm cdv ct : Value} {nm q' : Str} {N : Addr} {bs : List Value} {sn : List Str} {sub : List Value} {ab : Bool} {col : Option Bool} {dd : Option Addr} {k0 k1 k2 k3 k5 : Option Value} (X : K.In h) (G : h.Ns mainGlobals mg)
    (hbd : ∀ (kV doc pm : Value) (an : Option Addr) (cdv ct : Value) (us : List Value), us.length = (["self", f] : List Str).length → bindArgs (PySem.W.fnOf "__init__" qual (defArgs st) (defBody st) (defScope st) .none kV doc pm an cdv ct) ⟨us, []⟩ = pure ((["self", f] : List Str).zip us))
    (a : PySem.W.nsIn K mainGlobals c = some (some (.ref C)))
    (lk : K.lookup C = some (excClassObj nm q' C N bs [.ref CB, .type "ValueError", .type "Exception", .type "BaseException", .type "object"] true sn sub ab col dd k0 k1 k2 k3 k5 "ValueError.__new__"))
    (sa : PySem.W.findIn K (.ref C) "__setattr__" = some (some (.builtin "object.__setattr__"))) (ex : PySem.W.subIn K (.ref C) (.type "BaseException") = some true) (ty : PySem.W.typeIn K (.ref C) = some (.type "type")) (kc : PySem.W.keepIn K (.ref C) = true)
    (iC : PySem.W.findIn K (.ref C) "__init__" = some (some (.ref fI))) (tI : PySem.W.typeIn K (.ref fI) = some (.type "function")) (hno : PySem.W.findIn K (.ref C) f = some none)
    (l : K.lookup fI = some ⟨oc, od, .func (PySem.W.fnOf "__init__" qual (defArgs st) (defBody st) (defScope st) .none kV doc pm an cdv ct), osl⟩) (cd : PySem.W.codeIn K cdv qual = true) (ki : PySem.W.keepIn K (.ref fI) = true)
    (q : ExE1 K mg c f qual st → p) : p :=
  q ⟨C, fI, _, a, PySem.W.mg_of X G a, ⟨⟨nm, q', N, bs, _, sn, sub, ab, col, dd, k0, k1, k2, k3, k5, lk, rfl⟩, sa, ex, ty, kc⟩, iC, tI, fun_mk (st := st) l cd ki, .all (hbd kV doc pm an cdv ct), hno⟩
end
end DL

namespace DL
open PySem L2
theorem shp {d : D} (h1 : PyData.canLay0 d = true) (h2 : d.depth ≤ 64) : shapedB d = true := by
  unfold shapedB SeqAt.shaped
  rw [h1, decide_eq_true h2]
  rfl
theorem cl_i {i : Int} : PyData.canLay0 (.int i) = true := by rw [PyData.canLay0]
theorem cl_b {i : Bool} : PyData.canLay0 (.bool i) = true := by rw [PyData.canLay0]
theorem cl_n : PyData.canLay0 .none = true := by rw [PyData.canLay0]
theorem cl_s {x : Str} (h : PyData.canLay0 (.str x) = true) : PyData.canLay0 (.str x) = true := h
theorem cl_l {xs : List D} (h : PyData.canLayAll0 xs = true) : PyData.canLay0 (.list xs) = true := by rw [PyData.canLay0]; exact h
theorem cl_t {xs : List D} (h : PyData.canLayAll0 xs = true) : PyData.canLay0 (.tuple xs) = true := by rw [PyData.canLay0]; exact h
theorem cl_0 : PyData.canLayAll0 [] = true := by rw [PyData.canLayAll0]
theorem cl_c {x : D} {xs : List D} (h : PyData.canLay0 x = true) (h2 : PyData.canLayAll0 xs = true) : PyData.canLayAll0 (x :: xs) = true := by rw [PyData.canLayAll0, h, h2]; rfl
theorem cl_m {α : Type} {f : α → D} : ∀ {xs : List α}, (∀ x ∈ xs, PyData.canLay0 (f x) = true) → PyData.canLayAll0 (xs.map f) = true
  | [], _ => cl_0
  | x :: xs, h => cl_c (h x List.mem_cons_self) (cl_m fun y hy => h y (List.mem_cons_of_mem _ hy))
theorem dp_m {α : Type} {f : α → D} {k : Nat} : ∀ {xs : List α}, (∀ x ∈ xs, (f x).depth ≤ k) → PyData.depthAll (xs.map f) ≤ k
  | [], _ => by rw [List.map_nil, PyData.depthAll]; exact Nat.zero_le _
  | x :: xs, h => by
    rw [List.map_cons, PyData.depthAll]
    have := h x List.mem_cons_self
    have := dp_m fun y hy => h y (List.mem_cons_of_mem _ hy)
    omega
theorem eqv_b {i j : Bool} : PyData.eqv (.bool i) (.bool j) = decide (i = j) := by rw [PyData.eqv]; cases i <;> cases j <;> rfl
theorem eqv_s {i j : Str} : PyData.eqv (.str i) (.str j) = decide (i = j) := by rw [PyData.eqv]; exact Bool.eq_iff_iff.mpr (by rw [beq_iff_eq, decide_eq_true_eq])
theorem eqv_nn : PyData.eqv .none .none = true := by rw [PyData.eqv]
theorem eqv_cn {x : D} {xs : List D} : PyData.eqvAll (x :: xs) [] = false := by rw [PyData.eqvAll]
theorem eqv_nc {x : D} {xs : List D} : PyData.eqvAll [] (x :: xs) = false := by rw [PyData.eqvAll]
end DL

namespace DL
open PySem L2
def ls (l : List Int) : Int := l.foldr (· + ·) 0
def lp (l : List Int) : Int := l.foldr (· * ·) 1
theorem ls_cons (a : Int) (l : List Int) : ls (a :: l) = a + ls l := rfl
theorem lp_cons (a : Int) (l : List Int) : lp (a :: l) = a * lp l := rfl
theorem ls_perm {l m : List Int} (h : l.Perm m) : ls l = ls m := by
  induction h with
  | nil => rfl
  | cons x _ ih => rw [ls_cons, ls_cons, ih]
  | swap x y l => rw [ls_cons, ls_cons, ls_cons, ls_cons]; omega
  | trans _ _ h1 h2 => exact h1.trans h2
theorem lp_perm {l m : List Int} (h : l.Perm m) : lp l = lp m := by
  induction h with
  | nil => rfl
  | cons x _ ih => rw [lp_cons, lp_cons, ih]
  | swap x y l => rw [lp_cons, lp_cons, lp_cons, lp_cons]; grind
  | trans _ _ h1 h2 => exact h1.trans h2
theorem ls_add {α : Type} (f g : α → Int) : ∀ l : List α, ls (l.map fun x => f x + g x) = ls (l.map f) + ls (l.map g)
  | [] => rfl
  | a :: l => by rw [List.map_cons, List.map_cons, List.map_cons, ls_cons, ls_cons, ls_cons, ls_add f g l]; omega
theorem ls_zero {α : Type} : ∀ l : List α, ls (l.map fun _ => 0) = 0
  | [] => rfl
  | a :: l => by rw [List.map_cons, ls_cons, ls_zero l]; rfl
theorem ls_const {α : Type} (c : Int) : ∀ l : List α, ls (l.map fun _ => c) = c * l.length
  | [] => by rw [List.length_nil]; show (0 : Int) = _; simp
  | a :: l => by rw [List.map_cons, ls_cons, ls_const c l, List.length_cons, Int.natCast_add, Int.mul_add]; simp; omega
theorem lp_mul {α : Type} (f g : α → Int) : ∀ l : List α, lp (l.map fun x => f x * g x) = lp (l.map f) * lp (l.map g)
  | [] => rfl
  | a :: l => by rw [List.map_cons, List.map_cons, List.map_cons, lp_cons, lp_cons, lp_cons, lp_mul f g l]; grind
theorem lp_const {α : Type} (c : Int) : ∀ l : List α, lp (l.map fun _ => c) = c ^ l.length
  | [] => (Int.pow_zero c).symm
  | a :: l => by rw [List.map_cons, lp_cons, lp_const c l, List.length_cons, Int.pow_succ, Int.mul_comm]
theorem ls_par {α : Type} {f g : α → Int} : ∀ {l : List α}, (∀ x ∈ l, (f x - g x) % 2 = 0) → (ls (l.map f) - ls (l.map g)) % 2 = 0
  | [], _ => rfl
  | a :: l, h => by
    rw [List.map_cons, List.map_cons, ls_cons, ls_cons]
    have h1 := h a List.mem_cons_self
    have h2 := ls_par fun x hx => h x (List.mem_cons_of_mem a hx)
    omega
theorem ls_ext {α : Type} {f g : α → Int} {l : List α} (h : ∀ x ∈ l, f x = g x) : ls (l.map f) = ls (l.map g) := by rw [List.map_congr_left h]
theorem dvd_mul_sub {n a b c d : Int} (h : n ∣ a - b) (k : n ∣ c - d) : n ∣ a * c - b * d := by
  have : a * c - b * d = (a - b) * c + b * (c - d) := by grind
  rw [this]
  exact Int.dvd_add (Int.dvd_mul_of_dvd_left h) (Int.dvd_mul_of_dvd_right k)
theorem lp_cong {α : Type} {n : Int} {f g : α → Int} : ∀ {l : List α}, (∀ x ∈ l, n ∣ f x - g x) → n ∣ lp (l.map f) - lp (l.map g)
  | [], _ => by show n ∣ 1 - 1; simp
  | a :: l, h => by
    rw [List.map_cons, List.map_cons, lp_cons, lp_cons]
    exact dvd_mul_sub (h a List.mem_cons_self) (lp_cong fun x hx => h x (List.mem_cons_of_mem a hx))
theorem ls_swap {α β : Type} (f : α → β → Int) : ∀ (l : List α) (m : List β), ls (l.map fun x => ls (m.map fun y => f x y)) = ls (m.map fun y => ls (l.map fun x => f x y))
  | [], m => by rw [show (m.map fun y => ls (([] : List α).map fun x => f x y)) = m.map fun _ => (0 : Int) from rfl, ls_zero]; rfl
  | a :: l, m => by
    rw [List.map_cons, ls_cons, ls_swap f l m, ← ls_add]
    rfl
theorem perm_of_nodup : ∀ {l m : List Int}, l.Nodup → l.length = m.length → (∀ x ∈ l, x ∈ m) → l.Perm m
  | [], m, _, hl, _ => by
    have : m = [] := List.length_eq_zero_iff.mp hl.symm
    rw [this]
  | a :: l, m, hn, hl, hs => by
    obtain ⟨s, t, rfl⟩ := List.append_of_mem (hs a List.mem_cons_self)
    obtain ⟨ha, hn⟩ := List.nodup_cons.mp hn
    have : l.Perm (s ++ t) := by
      refine perm_of_nodup hn ?_ fun x hx => ?_
      · rw [List.length_append, List.length_cons] at hl
        rw [List.length_append]
        rw [List.length_cons] at hl
        omega
      · have := hs x (List.mem_cons_of_mem _ hx)
        rcases List.mem_append.mp this with h | h
        · exact List.mem_append_left _ h
        · rcases List.mem_cons.mp h with h | h
          · rw [h] at hx; exact absurd hx ha
          · exact List.mem_append_right _ h
    exact (this.cons a).trans List.perm_middle.symm
theorem nodup_map {f : Int → Int} : ∀ {l : List Int}, l.Nodup → (∀ x ∈ l, ∀ y ∈ l, f x = f y → x = y) → (l.map f).Nodup
  | [], _, _ => List.nodup_nil
  | a :: l, hn, h => by
    obtain ⟨ha, hn⟩ := List.nodup_cons.mp hn
    rw [List.map_cons, List.nodup_cons]
    refine ⟨fun z => ?_, nodup_map hn fun x hx y hy => h x (List.mem_cons_of_mem _ hx) y (List.mem_cons_of_mem _ hy)⟩
    obtain ⟨y, hy, e⟩ := List.mem_map.mp z
    have := h y (List.mem_cons_of_mem _ hy) a List.mem_cons_self e
    rw [this] at hy
    exact ha hy
theorem rngI_nodup (lo : Int) : ∀ n : Nat, (rngI lo n).Nodup
  | 0 => List.nodup_nil
  | n + 1 => by
    rw [rngI_succ, List.nodup_append]
    refine ⟨rngI_nodup lo n, by simp, fun x hx y hy e => ?_⟩
    rw [mem_rngI] at hx
    rw [List.mem_singleton] at hy
    omega
theorem ls_snoc (l : List Int) (a : Int) : ls (l ++ [a]) = ls l + a := by
  induction l with
  | nil => show a + 0 = 0 + a; omega
  | cons b l ih => rw [List.cons_append, ls_cons, ls_cons, ih]; omega
def sg (k : Int) : Int := if k % 2 = 0 then 1 else -1
theorem sg_add (a b : Int) : sg (a + b) = sg a * sg b := by
  unfold sg
  split <;> split <;> split <;> first | rfl | omega
theorem sg_par {a b : Int} (h : (a - b) % 2 = 0) : sg a = sg b := by
  unfold sg
  by_cases z : a % 2 = 0
  · rw [if_pos z, if_pos (by omega)]
  · rw [if_neg z, if_neg (by omega)]
theorem sg_sq (a : Int) : sg a * sg a = 1 := by unfold sg; split <;> rfl
theorem sg_or (a : Int) : sg a = 1 ∨ sg a = -1 := by unfold sg; split <;> simp
def half (n : Int) : Nat := (n / 2).toNat
def HL (n : Int) : List Int := rngI 1 (half n)
theorem mem_HL {n x : Int} (hn : 0 < n) : x ∈ HL n ↔ 1 ≤ x ∧ 2 * x ≤ n := by
  unfold HL half
  rw [mem_rngI]
  omega
def big (n y : Int) : Int := if 2 * (y % n) < n then 0 else 1
def ab (n y : Int) : Int := if 2 * (y % n) < n then y % n else n - y % n
def cnt (a n : Int) : Int := ls ((HL n).map fun x => big n (a * x))
def G (a n : Int) : Int := sg (cnt a n)
structure Odd (n : Int) : Prop where
  pos : 0 < n
  odd : n % 2 = 1
theorem rest_ne {a n x : Int} (hn : Odd n) (hg : Int.gcd a n = 1) (hx : x ∈ HL n) : (a * x) % n ≠ 0 := fun z => by
  have hp := hn.pos
  have ho := hn.odd
  have hx := (mem_HL hp).mp hx
  have d : n ∣ a * x := Int.dvd_of_emod_eq_zero z
  have d2 := copr_dvd (by rw [Int.gcd_comm]; exact hg) d
  have := Int.le_of_dvd (by omega) d2
  omega
theorem ab_mem {n y : Int} (hn : Odd n) (h : y % n ≠ 0) : ab n y ∈ HL n := by
  have hp := hn.pos
  have ho := hn.odd
  have h1 := Int.emod_nonneg y (show n ≠ 0 by omega)
  have h2 := Int.emod_lt_of_pos y hp
  rw [mem_HL hp]
  unfold ab
  split <;> omega
theorem ab_dvd {n y : Int} : n ∣ y - (1 - 2 * big n y) * ab n y := by
  have h := Int.emod_def y n
  unfold ab big
  split
  · exact ⟨y / n, by omega⟩
  · refine ⟨y / n + 1, ?_⟩
    rw [Int.mul_add]
    omega
theorem ab_inj {a n x y : Int} (hn : Odd n) (hg : Int.gcd a n = 1) (hx : x ∈ HL n) (hy : y ∈ HL n) (e : ab n (a * x) = ab n (a * y)) : x = y := by
  have hp := hn.pos
  have ho := hn.odd
  have hx := (mem_HL hp).mp hx
  have hy := (mem_HL hp).mp hy
  have h1 := @ab_dvd n (a * x)
  have h2 := @ab_dvd n (a * y)
  rw [e] at h1
  have cop : Int.gcd n a = 1 := by rw [Int.gcd_comm]; exact hg
  have b1 : big n (a * x) = 0 ∨ big n (a * x) = 1 := by unfold big; split <;> simp
  have b2 : big n (a * y) = 0 ∨ big n (a * y) = 1 := by unfold big; split <;> simp
  generalize ab n (a * y) = c at *
  have same : n ∣ a * (x - y) → x = y := fun d => by
    have d := copr_dvd cop d
    obtain ⟨k, hk⟩ := d
    rcases Int.lt_trichotomy k 0 with z | z | z
    · have : n * k ≤ n * (-1) := Int.mul_le_mul_of_nonneg_left (by omega) (by omega)
      omega
    · rw [z] at hk; omega
    · have : n * 1 ≤ n * k := Int.mul_le_mul_of_nonneg_left (by omega) (by omega)
      omega
  have opp : n ∣ a * (x + y) → x = y := fun d => by
    have d := copr_dvd cop d
    have := Int.le_of_dvd (by omega) d
    omega
  rcases b1 with b1 | b1 <;> rcases b2 with b2 | b2 <;> rw [b1] at h1 <;> rw [b2] at h2
  · refine same ?_
    have := Int.dvd_sub h1 h2
    rw [show a * x - (1 - 2 * 0) * c - (a * y - (1 - 2 * 0) * c) = a * (x - y) by grind] at this
    exact this
  · refine opp ?_
    have := Int.dvd_add h1 h2
    rw [show a * x - (1 - 2 * 0) * c + (a * y - (1 - 2 * 1) * c) = a * (x + y) by grind] at this
    exact this
  · refine opp ?_
    have := Int.dvd_add h1 h2
    rw [show a * x - (1 - 2 * 1) * c + (a * y - (1 - 2 * 0) * c) = a * (x + y) by grind] at this
    exact this
  · refine same ?_
    have := Int.dvd_sub h1 h2
    rw [show a * x - (1 - 2 * 1) * c - (a * y - (1 - 2 * 1) * c) = a * (x - y) by grind] at this
    exact this
theorem ab_perm {a n : Int} (hn : Odd n) (hg : Int.gcd a n = 1) : ((HL n).map fun x => ab n (a * x)).Perm (HL n) := by
  refine perm_of_nodup (nodup_map (rngI_nodup 1 _) fun x hx y hy e => ab_inj hn hg hx hy e) (by rw [List.length_map]) fun x hx => ?_
  obtain ⟨y, hy, rfl⟩ := List.mem_map.mp hx
  exact ab_mem hn (rest_ne hn hg hy)
theorem big_neg {n y : Int} (hn : Odd n) (h : y % n ≠ 0) : big n (-y) = 1 - big n y := by
  have hp := hn.pos
  have ho := hn.odd
  have h1 := Int.emod_nonneg y (show n ≠ 0 by omega)
  have h2 := Int.emod_lt_of_pos y hp
  have e : (-y) % n = n - y % n := by
    have : -y = (n - y % n) + n * (-(y / n) - 1) := by
      have := Int.emod_def y n
      grind
    rw [this, Int.add_mul_emod_self_left, Int.emod_eq_of_lt (by omega) (by omega)]
  unfold big
  rw [e]
  split <;> split <;> omega
theorem big_cong {n y z : Int} (h : n ∣ y - z) : big n y = big n z := by
  unfold big
  rw [Int.emod_eq_emod_iff_emod_sub_eq_zero.mpr (Int.emod_eq_zero_of_dvd h)]
theorem G_mul {a b n : Int} (hn : Odd n) (ha : Int.gcd a n = 1) (hb : Int.gcd b n = 1) : G (a * b) n = G a n * G b n := by
  unfold G
  rw [← sg_add]
  refine sg_par ?_
  have e1 : cnt a n = ls ((HL n).map fun x => big n (a * ab n (b * x))) := by
    have := ls_perm ((ab_perm hn hb).map fun y => big n (a * y))
    rw [List.map_map] at this
    exact this.symm
  rw [e1]
  unfold cnt
  rw [← ls_add]
  refine ls_par fun x hx => ?_
  have hr := rest_ne hn hb hx
  have hab := ab_mem hn hr
  have ne2 := rest_ne hn ha hab
  have d := @ab_dvd n (b * x)
  have b2 : big n (b * x) = 0 ∨ big n (b * x) = 1 := by unfold big; split <;> simp
  rcases b2 with z | z
  · rw [z] at d ⊢
    have : big n (a * b * x) = big n (a * ab n (b * x)) := big_cong (by
      rw [show a * b * x - a * ab n (b * x) = a * (b * x - (1 - 2 * 0) * ab n (b * x)) by grind]
      exact Int.dvd_mul_of_dvd_right d)
    rw [this]
    omega
  · rw [z] at d ⊢
    have : big n (a * b * x) = big n (-(a * ab n (b * x))) := big_cong (by
      rw [show a * b * x - -(a * ab n (b * x)) = a * (b * x - (1 - 2 * 1) * ab n (b * x)) by grind]
      exact Int.dvd_mul_of_dvd_right d)
    rw [this, big_neg hn ne2]
    omega
theorem G_cong {a b n : Int} (h : n ∣ a - b) : G a n = G b n := by
  unfold G cnt
  rw [ls_ext fun x _ => big_cong (y := a * x) (z := b * x) (by rw [show a * x - b * x = (a - b) * x by grind]; exact Int.dvd_mul_of_dvd_left h)]
theorem G_or (a n : Int) : G a n = 1 ∨ G a n = -1 := sg_or _
theorem G_neg {n : Int} (hn : Odd n) : G (-1) n = sg (n / 2) := by
  have hp := hn.pos
  have ho := hn.odd
  unfold G cnt
  rw [ls_ext (g := fun _ => 1) fun x hx => ?_, ls_const]
  · unfold HL
    rw [rngI_length]
    unfold half
    congr 1
    omega
  · have hx := (mem_HL hp).mp hx
    have e : (-1 * x) % n = n - x := by
      rw [show -1 * x = (n - x) + n * (-1) by omega, Int.add_mul_emod_self_left, Int.emod_eq_of_lt (by omega) (by omega)]
    unfold big
    rw [e, if_neg (by omega)]
theorem count2 {h : Int} (h0 : 0 ≤ h) : ∀ m : Nat, ls ((rngI 1 m).map fun x => if 2 * x ≤ h then 0 else 1) = if (m : Int) ≤ h / 2 then 0 else m - h / 2
  | 0 => by rw [if_pos (by omega)]; rfl
  | m + 1 => by
    rw [rngI_succ, List.map_append, List.map_cons, List.map_nil, ls_snoc, count2 h0 m]
    split <;> split <;> split <;> omega
theorem G_two {n : Int} (hn : Odd n) : G 2 n = if n % 8 = 3 ∨ n % 8 = 5 then -1 else 1 := by
  have hp := hn.pos
  have ho := hn.odd
  have e : cnt 2 n = n / 2 - n / 2 / 2 := by
    unfold cnt
    rw [ls_ext (g := fun x => if 2 * x ≤ n / 2 then 0 else 1) fun x hx => ?_]
    · unfold HL
      rw [count2 (by omega)]
      unfold half
      split <;> omega
    · have hx := (mem_HL hp).mp hx
      unfold big
      rw [Int.emod_eq_of_lt (by omega) (by omega)]
      split <;> split <;> omega
  unfold G
  rw [e]
  unfold sg
  split <;> split <;> omega
def F (a n : Int) : Int := ls ((HL n).map fun x => a * x / n)
theorem HL_sum_par {a n : Int} (hn : Odd n) (ha : a % 2 = 1) (hg : Int.gcd a n = 1) : (cnt a n - F a n) % 2 = 0 := by
  have ho := hn.odd
  have e1 : ls ((HL n).map fun x => ab n (a * x)) = ls (HL n) := ls_perm (ab_perm hn hg)
  have e2 : ls ((HL n).map fun x => x) = ls (HL n) := by rw [List.map_id']
  have h := ls_par (f := fun x => x) (g := fun x => a * x / n + (ab n (a * x) + big n (a * x))) (l := HL n) fun x hx => by
    have d := Int.emod_add_mul_ediv (a * x) n
    have p1 : (a * x) % 2 = x % 2 := by rw [Int.mul_emod, ha]; omega
    have p2 : (n * (a * x / n)) % 2 = (a * x / n) % 2 := by rw [Int.mul_emod, ho]; omega
    show (x - (a * x / n + (ab n (a * x) + big n (a * x)))) % 2 = 0
    unfold ab big
    generalize a * x = y at *
    generalize n * (y / n) = w at *
    split <;> omega
  rw [ls_add, ls_add, e1, e2] at h
  unfold F cnt
  omega
theorem count_le {n z : Int} (hn : 0 < n) (hz : 0 ≤ z) (hd : ¬ n ∣ z) : ∀ m : Nat, ls ((rngI 1 m).map fun y => if n * y < z then 1 else 0) = if z / n ≤ m then z / n else m
  | 0 => by
    have := Int.ediv_nonneg hz (show 0 ≤ n by omega)
    split
    · show 0 = _; omega
    · rfl
  | m + 1 => by
    rw [rngI_succ, List.map_append, List.map_cons, List.map_nil, ls_snoc, count_le hn hz hd m]
    have k : n * (1 + (m : Int)) < z ↔ (m : Int) + 1 ≤ z / n := by
      rw [Int.le_ediv_iff_mul_le hn, Int.mul_comm, Int.add_comm 1]
      constructor
      · omega
      · intro h
        rcases Int.lt_or_eq_of_le h with w | w
        · exact w
        · exact absurd ⟨(m : Int) + 1, by rw [← w, Int.mul_comm]⟩ hd
    by_cases w : n * (1 + (m : Int)) < z
    · rw [if_pos w]
      have := k.mp w
      split <;> split <;> omega
    · rw [if_neg w]
      have := fun z => w (k.mpr z)
      split <;> split <;> omega
theorem F_count {a n : Int} (ha : Odd a) (hn : Odd n) (hg : Int.gcd a n = 1) : F a n = ls ((HL n).map fun x => ls ((HL a).map fun y => if n * y < a * x then 1 else 0)) := by
  unfold F
  refine ls_ext fun x hx => ?_
  have hp := hn.pos
  have ap := ha.pos
  have ho := hn.odd
  have ao := ha.odd
  have hx' := (mem_HL hp).mp hx
  have hz : 0 ≤ a * x := Int.mul_nonneg (by omega) (by omega)
  have nd : ¬ n ∣ a * x := fun d => rest_ne hn hg hx (Int.emod_eq_zero_of_dvd d)
  have hle : a * x / n ≤ (half a : Int) := by
    unfold half
    have h1 : a * x / n * n ≤ a * x := Int.ediv_mul_le _ (by omega)
    have h2 : a * (2 * x) ≤ a * (n - 1) := Int.mul_le_mul_of_nonneg_left (by omega) (by omega)
    have h3 : a * x / n * (2 * n) ≤ a * (n - 1) := by
      have : a * x / n * (2 * n) = 2 * (a * x / n * n) := by grind
      have : a * (2 * x) = 2 * (a * x) := by grind
      omega
    generalize a * x / n = q at *
    rcases Int.lt_or_le q (a / 2 + 1) with z | z
    · omega
    · exfalso
      have h4 : (a / 2 + 1) * (2 * n) ≤ q * (2 * n) := Int.mul_le_mul_of_nonneg_right z (by omega)
      have h5 : (a / 2 + 1) * (2 * n) = (a + 1) * n := by
        have : a = 2 * (a / 2) + 1 := by omega
        generalize a / 2 = b at *
        subst this
        grind
      have h6 : (a + 1) * n = a * n + n := by grind
      have h7 : a * (n - 1) = a * n - a := by grind
      omega
  show a * x / n = ls ((rngI 1 (half a)).map fun y => if n * y < a * x then 1 else 0)
  rw [count_le hp hz nd, if_pos hle]
theorem F_both {a n : Int} (ha : Odd a) (hn : Odd n) (hg : Int.gcd a n = 1) : F a n + F n a = (a / 2) * (n / 2) := by
  rw [F_count ha hn hg, F_count hn ha (by rw [Int.gcd_comm]; exact hg), ls_swap, ← ls_add]
  have : ∀ y ∈ HL a, (ls ((HL n).map fun x => if n * y < a * x then 1 else 0) + ls ((HL n).map fun x => if a * x < n * y then 1 else 0)) = n / 2 := fun y hy => by
    rw [← ls_add, ls_ext (g := fun _ => 1) fun x hx => ?_, ls_const]
    · unfold HL
      rw [rngI_length]
      unfold half
      have := hn.pos
      omega
    · have ne : n * y ≠ a * x := fun e => by
        have := rest_ne hn hg hx
        rw [← e] at this
        exact this (Int.mul_emod_right ..)
      split <;> split <;> omega
  rw [ls_ext this, ls_const]
  unfold HL
  rw [rngI_length]
  unfold half
  have := ha.pos
  rw [show (((a / 2).toNat : Nat) : Int) = a / 2 by omega, Int.mul_comm]
theorem G_turn {a n : Int} (ha : Odd a) (hn : Odd n) (hg : Int.gcd a n = 1) : G a n = G n a * sg ((a / 2) * (n / 2)) := by
  have h1 := HL_sum_par hn ha.odd hg
  have h2 := HL_sum_par ha hn.odd (by rw [Int.gcd_comm]; exact hg)
  have h3 := F_both ha hn hg
  unfold G
  rw [← sg_add]
  exact sg_par (by omega)
def J (a n : Int) : Int := if Int.gcd a n = 1 then G a n else 0
theorem gcd_cong {a b n : Int} (h : n ∣ a - b) : Int.gcd a n = Int.gcd b n := by
  obtain ⟨k, hk⟩ := h
  have : a = b + n * k := by omega
  rw [this]
  exact Int.gcd_add_mul_left_left ..
theorem J_cong {a b n : Int} (h : n ∣ a - b) : J a n = J b n := by
  unfold J
  rw [gcd_cong h, G_cong h]
theorem J_mod {a n : Int} : J (a % n) n = J a n := J_cong ⟨-(a / n), by have := Int.emod_def a n; grind⟩
theorem gcd_mul_one {a b n : Int} : Int.gcd (a * b) n = 1 ↔ Int.gcd a n = 1 ∧ Int.gcd b n = 1 := by
  show Nat.gcd (a * b).natAbs n.natAbs = 1 ↔ Nat.gcd a.natAbs n.natAbs = 1 ∧ Nat.gcd b.natAbs n.natAbs = 1
  rw [Int.natAbs_mul]
  constructor
  · intro h
    exact ⟨Nat.Coprime.coprime_mul_right h, Nat.Coprime.coprime_mul_left h⟩
  · rintro ⟨h1, h2⟩
    exact Nat.Coprime.mul_left h1 h2
theorem J_mul {a b n : Int} (hn : Odd n) : J (a * b) n = J a n * J b n := by
  unfold J
  by_cases h1 : Int.gcd a n = 1 <;> by_cases h2 : Int.gcd b n = 1
  · rw [if_pos (gcd_mul_one.mpr ⟨h1, h2⟩), if_pos h1, if_pos h2, G_mul hn h1 h2]
  · rw [if_neg (fun z => h2 (gcd_mul_one.mp z).2), if_neg h2, Int.mul_zero]
  · rw [if_neg (fun z => h1 (gcd_mul_one.mp z).1), if_neg h1, Int.zero_mul]
  · rw [if_neg (fun z => h2 (gcd_mul_one.mp z).2), if_neg h2, Int.mul_zero]
theorem J_turn {a n : Int} (ha : Odd a) (hn : Odd n) : J a n = J n a * sg ((a / 2) * (n / 2)) := by
  unfold J
  rw [Int.gcd_comm n a]
  split
  · rename_i h
    exact G_turn ha hn h
  · rw [Int.zero_mul]
theorem J_by_one (a : Int) : J a 1 = 1 := by
  unfold J
  rw [if_pos (Int.gcd_one_right a)]
  rfl
theorem J_zero {n : Int} (hn : Odd n) (h : n ≠ 1) : J 0 n = 0 := by
  unfold J
  rw [if_neg]
  rw [Int.gcd_zero_left]
  have := hn.pos
  omega
theorem J_two {n : Int} (hn : Odd n) : J 2 n = if n % 8 = 3 ∨ n % 8 = 5 then -1 else 1 := by
  unfold J
  have : Int.gcd 2 n = 1 := by
    have h1 : (Int.gcd 2 n : Int) ∣ 2 := Int.gcd_dvd_left ..
    have h2 : (Int.gcd 2 n : Int) ∣ n := Int.gcd_dvd_right ..
    have h3 := Int.le_of_dvd (by decide) h1
    have h4 : 0 < Int.gcd 2 n := Int.gcd_pos_of_ne_zero_left n (by decide)
    have h5 : (Int.gcd 2 n : Int) = 1 ∨ (Int.gcd 2 n : Int) = 2 := by omega
    rcases h5 with h | h
    · omega
    · rw [h] at h2
      have := hn.odd
      omega
  rw [if_pos this, G_two hn]
theorem J_neg {n : Int} (hn : Odd n) : J (-1) n = sg (n / 2) := by
  unfold J
  rw [if_pos (by rw [Int.neg_gcd, Int.gcd_one_left]), G_neg hn]
theorem J_or (a n : Int) : J a n = 1 ∨ J a n = 0 ∨ J a n = -1 := by
  unfold J
  split
  · rcases G_or a n with h | h <;> simp [h]
  · simp
theorem J_ne {a n : Int} : J a n ≠ 0 ↔ Int.gcd a n = 1 := by
  unfold J
  split
  · rename_i h
    exact ⟨fun _ => h, fun _ => by rcases G_or a n with z | z <;> rw [z] <;> decide⟩
  · rename_i h
    exact ⟨fun z => absurd rfl z, fun z => absurd z h⟩
theorem J_sq {a n : Int} (hn : Odd n) (h : Int.gcd a n = 1) : J (a * a) n = 1 := by
  rw [J_mul hn]
  have := J_ne.mpr h
  rcases J_or a n with z | z | z
  · rw [z]; rfl
  · exact absurd z this
  · rw [z]; rfl
theorem Odd.mul {n m : Int} (hn : Odd n) (hm : Odd m) : Odd (n * m) := ⟨Int.mul_pos hn.pos hm.pos, by rw [Int.mul_emod, hn.odd, hm.odd]; rfl⟩
end DL

namespace DL
open PySem L2
theorem pair_prod {n a : Int} (f : Int → Int) : ∀ (k : Nat) {l : List Int}, l.length ≤ k → l.Nodup → (∀ x ∈ l, f x ∈ l ∧ f x ≠ x ∧ f (f x) = x ∧ n ∣ x * f x - a) → ∃ m : Nat, l.length = 2 * m ∧ n ∣ lp l - a ^ m
  | _, [], _, _, _ => ⟨0, rfl, by show n ∣ 1 - a ^ 0; rw [Int.pow_zero]; simp⟩
  | 0, x :: l, h, _, _ => by simp at h
  | k + 1, x :: l, hl, hn, h => by
    obtain ⟨hx, hn2⟩ := List.nodup_cons.mp hn
    obtain ⟨h1, h2, h3, h4⟩ := h x List.mem_cons_self
    have hf : f x ∈ l := by
      rcases List.mem_cons.mp h1 with e | e
      · exact absurd e h2
      · exact e
    obtain ⟨s, t, rfl⟩ := List.append_of_mem hf
    have pm : (s ++ f x :: t).Perm (f x :: (s ++ t)) := List.perm_middle
    have hn3 := pm.nodup_iff.mp hn2
    obtain ⟨hfx, hn4⟩ := List.nodup_cons.mp hn3
    have sub : ∀ y, y ∈ s ++ t → y ∈ s ++ f x :: t := fun y hy => pm.mem_iff.mpr (List.mem_cons_of_mem _ hy)
    obtain ⟨m, e1, e2⟩ := pair_prod f k (l := s ++ t) (by
      rw [List.length_cons, List.length_append, List.length_cons] at hl
      rw [List.length_append]
      omega) hn4 fun y hy => by
      obtain ⟨g1, g2, g3, g4⟩ := h y (List.mem_cons_of_mem _ (sub y hy))
      refine ⟨?_, g2, g3, g4⟩
      rcases List.mem_cons.mp g1 with e | e
      · exfalso
        rw [e] at g3
        rw [g3] at hfx
        exact hfx hy
      · rcases List.mem_cons.mp (pm.mem_iff.mp e) with e | e
        · exfalso
          have : y = x := by rw [← g3, e, h3]
          rw [this] at hy
          exact hx (sub x hy)
        · exact e
    refine ⟨m + 1, by
      rw [List.length_cons, List.length_append, List.length_cons]
      rw [List.length_append] at e1
      omega, ?_⟩
    have : lp (x :: (s ++ f x :: t)) = (x * f x) * lp (s ++ t) := by
      rw [lp_cons, lp_perm pm, lp_cons]
      grind
    rw [this, Int.pow_succ, Int.mul_comm (a ^ m)]
    exact dvd_mul_sub h4 e2
theorem small_dvd {p d : Int} (h : p ∣ d) (h1 : -p < d) (h2 : d < p) : d = 0 := by
  obtain ⟨k, hk⟩ := h
  rcases Int.lt_trichotomy k 0 with z | z | z
  · have : p * k ≤ p * (-1) := Int.mul_le_mul_of_nonneg_left (by omega) (by omega)
    omega
  · rw [z] at hk; omega
  · have : p * 1 ≤ p * k := Int.mul_le_mul_of_nonneg_left (by omega) (by omega)
    omega
theorem back_exists {p a x : Int} (hp : Pr p) (hx : ¬ p ∣ x) (ha : ¬ p ∣ a) : ∃ y, 1 ≤ y ∧ y < p ∧ p ∣ x * y - a := by
  have pp := hp.two
  have cop : Int.gcd p x = 1 := by
    rcases hp.gcd (a := x) with h | h
    · exact absurd h hx
    · exact h
  let l := rngI 1 (p - 1).toNat
  have ml : ∀ y, y ∈ l ↔ 1 ≤ y ∧ y < p := fun y => by show y ∈ rngI 1 (p - 1).toNat ↔ _; rw [mem_rngI]; omega
  have pm : (l.map fun y => (x * y) % p).Perm l := by
    refine perm_of_nodup (nodup_map (rngI_nodup 1 _) fun y hy z hz e => ?_) (by rw [List.length_map]) fun w hw => ?_
    · have hy := (ml y).mp hy
      have hz := (ml z).mp hz
      have d : p ∣ x * (y - z) := by
        have := Int.dvd_of_emod_eq_zero (Int.emod_eq_emod_iff_emod_sub_eq_zero.mp e)
        rw [show x * (y - z) = x * y - x * z by grind]
        exact this
      have := small_dvd (copr_dvd cop d) (by omega) (by omega)
      omega
    · obtain ⟨y, hy, rfl⟩ := List.mem_map.mp hw
      have hy := (ml y).mp hy
      refine (ml _).mpr ?_
      have h1 := Int.emod_nonneg (x * y) (show p ≠ 0 by omega)
      have h2 := Int.emod_lt_of_pos (x * y) (show 0 < p by omega)
      have h3 : (x * y) % p ≠ 0 := fun z => by
        have := Int.le_of_dvd (by omega) (copr_dvd cop (Int.dvd_of_emod_eq_zero z))
        omega
      omega
  have hm : a % p ∈ l := (ml _).mpr (by
    have h1 := Int.emod_nonneg a (show p ≠ 0 by omega)
    have h2 := Int.emod_lt_of_pos a (show 0 < p by omega)
    have h3 : a % p ≠ 0 := fun z => ha (Int.dvd_of_emod_eq_zero z)
    omega)
  obtain ⟨y, hy, e⟩ := List.mem_map.mp (pm.mem_iff.mpr hm)
  have hy := (ml y).mp hy
  exact ⟨y, hy.1, hy.2, Int.dvd_of_emod_eq_zero (Int.emod_eq_emod_iff_emod_sub_eq_zero.mp e)⟩
open Classical in
noncomputable def finv (p a x : Int) : Int := if h : ∃ y, 1 ≤ y ∧ y < p ∧ p ∣ x * y - a then Classical.choose h else 0
theorem finv_spec {p a x : Int} (hp : Pr p) (hx : ¬ p ∣ x) (ha : ¬ p ∣ a) : 1 ≤ finv p a x ∧ finv p a x < p ∧ p ∣ x * finv p a x - a := by
  have h := back_exists hp hx ha
  unfold finv
  rw [dif_pos h]
  exact Classical.choose_spec h
theorem not_dvd_small {p x : Int} (h1 : 1 ≤ x) (h2 : x < p) : ¬ p ∣ x := fun d => by
  have := Int.le_of_dvd (by omega) d
  omega
theorem back_unique {p a x y z : Int} (hp : Pr p) (hx : ¬ p ∣ x) (hy : 1 ≤ y ∧ y < p ∧ p ∣ x * y - a) (hz : 1 ≤ z ∧ z < p ∧ p ∣ x * z - a) : y = z := by
  have d := Int.dvd_sub hy.2.2 hz.2.2
  rw [show x * y - a - (x * z - a) = x * (y - z) by grind] at d
  rcases hp.euclid d with h | h
  · exact absurd h hx
  · have := small_dvd h (by omega) (by omega)
    omega
theorem finv_finv {p a x : Int} (hp : Pr p) (h1 : 1 ≤ x) (h2 : x < p) (ha : ¬ p ∣ a) : finv p a (finv p a x) = x := by
  have s1 := finv_spec hp (not_dvd_small h1 h2) ha
  have nx := not_dvd_small s1.1 s1.2.1
  have s2 := finv_spec hp nx ha
  exact back_unique hp nx s2 ⟨h1, h2, by rw [Int.mul_comm]; exact s1.2.2⟩
theorem prod_non {p a : Int} (hp : Pr p) (ha : ¬ p ∣ a) (hn : ∀ y, ¬ p ∣ y * y - a) : ∃ m : Nat, (p - 1).toNat = 2 * m ∧ p ∣ lp (rngI 1 (p - 1).toNat) - a ^ m := by
  obtain ⟨m, e1, e2⟩ := pair_prod (n := p) (a := a) (finv p a) (p - 1).toNat (l := rngI 1 (p - 1).toNat) (by rw [rngI_length]; exact Nat.le_refl _) (rngI_nodup 1 _) fun x hx => by
    rw [mem_rngI] at hx
    have s := finv_spec hp (not_dvd_small (show 1 ≤ x by omega) (by omega)) ha
    refine ⟨by rw [mem_rngI]; omega, fun e => ?_, finv_finv hp (by omega) (by omega) ha, s.2.2⟩
    rw [e] at s
    exact hn x s.2.2
  rw [rngI_length] at e1
  exact ⟨m, e1, e2⟩
theorem lp_append (l m : List Int) : lp (l ++ m) = lp l * lp m := by
  induction l with
  | nil => exact (Int.one_mul _).symm
  | cons a l ih => rw [List.cons_append, lp_cons, lp_cons, ih, Int.mul_assoc]
theorem rngI_cons (lo : Int) : ∀ n : Nat, rngI lo (n + 1) = lo :: rngI (lo + 1) n
  | 0 => by show [lo + ((0 : Nat) : Int)] = [lo]; simp
  | n + 1 => by
    rw [rngI_succ, rngI_cons lo n, rngI_succ, List.cons_append]
    congr 3
    omega
theorem wilson {p : Int} (hp : Pr p) (h3 : 3 ≤ p) : p ∣ lp (rngI 1 (p - 1).toNat) + 1 := by
  have n1 : ¬ p ∣ 1 := hp.not_one
  obtain ⟨m, e1, e2⟩ := pair_prod (n := p) (a := 1) (finv p 1) (p - 3).toNat (l := rngI 2 (p - 3).toNat) (by rw [rngI_length]; exact Nat.le_refl _) (rngI_nodup 2 _) fun x hx => by
    rw [mem_rngI] at hx
    have hx1 : 2 ≤ x ∧ x ≤ p - 2 := by omega
    have s := finv_spec hp (not_dvd_small (show 1 ≤ x by omega) (by omega)) n1
    have ne1 : finv p 1 x ≠ 1 := fun e => by
      rw [e, Int.mul_one] at s
      have := small_dvd s.2.2 (by omega) (by omega)
      omega
    have ne2 : finv p 1 x ≠ p - 1 := fun e => by
      rw [e] at s
      have d := Int.dvd_sub (Int.dvd_mul_right p x) s.2.2
      rw [show p * x - (x * (p - 1) - 1) = x + 1 by grind] at d
      have := Int.le_of_dvd (by omega) d
      omega
    refine ⟨by rw [mem_rngI]; omega, fun e => ?_, finv_finv hp (by omega) (by omega) n1, s.2.2⟩
    rw [e] at s
    have d := s.2.2
    rw [show x * x - 1 = (x - 1) * (x + 1) by grind] at d
    rcases hp.euclid d with h | h
    · have := small_dvd h (by omega) (by omega)
      omega
    · have := Int.le_of_dvd (by omega) h
      omega
  rw [Int.one_pow] at e2
  have e : rngI 1 (p - 1).toNat = 1 :: (rngI 2 (p - 3).toNat ++ [p - 1]) := by
    have h1 : (p - 1).toNat = ((p - 3).toNat + 1) + 1 := by omega
    rw [h1, rngI_cons, show (1 : Int) + 1 = 2 from rfl, rngI_succ]
    congr 3
    omega
  rw [e, lp_cons, lp_append, Int.one_mul]
  show p ∣ lp (rngI 2 (p - 3).toNat) * ((p - 1) * 1) + 1
  have h1 := Int.dvd_mul_of_dvd_left (c := p - 1) e2
  have h2 := Int.dvd_add h1 (Int.dvd_refl p)
  rw [show (lp (rngI 2 (p - 3).toNat) - 1) * (p - 1) + p = lp (rngI 2 (p - 3).toNat) * ((p - 1) * 1) + 1 by grind] at h2
  exact h2
theorem Pr.odd {p : Int} (hp : Pr p) (h : p ≠ 2) : Odd p := by
  have h2 := hp.two
  refine ⟨by omega, ?_⟩
  have := hp.no 2 (by decide) (by omega)
  have : ¬ p % 2 = 0 := fun z => this (Int.dvd_of_emod_eq_zero z)
  omega
theorem euler_non {p a : Int} (hp : Pr p) (h2 : p ≠ 2) (ha : ¬ p ∣ a) (hn : ∀ y, ¬ p ∣ y * y - a) : p ∣ a ^ half p + 1 := by
  obtain ⟨m, e1, e2⟩ := prod_non hp ha hn
  have ho := (hp.odd h2).odd
  have h3 := hp.two
  have w := wilson hp (by omega)
  have hm : half p = m := by unfold half; omega
  rw [hm]
  have := Int.dvd_sub w e2
  rw [show lp (rngI 1 (p - 1).toNat) + 1 - (lp (rngI 1 (p - 1).toNat) - a ^ m) = a ^ m + 1 by omega] at this
  exact this
theorem lp_not_dvd {p : Int} (hp : Pr p) : ∀ {l : List Int}, (∀ x ∈ l, ¬ p ∣ x) → ¬ p ∣ lp l
  | [], _, d => hp.not_one d
  | a :: l, h, d => by
    rcases hp.euclid (a := a) (b := lp l) d with z | z
    · exact h a List.mem_cons_self z
    · exact lp_not_dvd hp (fun x hx => h x (List.mem_cons_of_mem _ hx)) z
theorem lp_sg {α : Type} (f : α → Int) (hf : ∀ x, f x = 0 ∨ f x = 1) : ∀ l : List α, lp (l.map fun x => 1 - 2 * f x) = sg (ls (l.map f))
  | [] => rfl
  | a :: l => by
    rw [List.map_cons, List.map_cons, lp_cons, ls_cons, sg_add, lp_sg f hf l]
    congr 1
    rcases hf a with h | h <;> rw [h] <;> rfl
theorem gauss {p a : Int} (hp : Pr p) (h2 : p ≠ 2) (ha : ¬ p ∣ a) : p ∣ a ^ half p - G a p := by
  have ho := hp.odd h2
  have hg : Int.gcd a p = 1 := by
    rw [Int.gcd_comm]
    rcases hp.gcd (a := a) with h | h
    · exact absurd h ha
    · exact h
  have e1 : lp ((HL p).map fun x => a * x) = a ^ half p * lp (HL p) := by
    rw [lp_mul, lp_const, List.map_id']
    unfold HL
    rw [rngI_length]
  have e2 : lp ((HL p).map fun x => (1 - 2 * big p (a * x)) * ab p (a * x)) = G a p * lp (HL p) := by
    rw [lp_mul, lp_perm (ab_perm ho hg)]
    have := lp_sg (fun x => big p (a * x)) (fun x => by unfold big; split <;> simp) (HL p)
    rw [this]
    rfl
  have d := lp_cong (n := p) (f := fun x => a * x) (g := fun x => (1 - 2 * big p (a * x)) * ab p (a * x)) (l := HL p) fun x _ => ab_dvd
  rw [e1, e2, show a ^ half p * lp (HL p) - G a p * lp (HL p) = (a ^ half p - G a p) * lp (HL p) by grind] at d
  rcases hp.euclid d with h | h
  · exact h
  · refine absurd h (lp_not_dvd hp fun x hx => ?_)
    have hx := (mem_HL ho.pos).mp hx
    exact not_dvd_small hx.1 (by have := ho.odd; omega)
theorem J_dvd {p a : Int} (hp : Pr p) (h : p ∣ a) : J a p = 0 := by
  unfold J
  rw [if_neg]
  intro z
  have : p ∣ (Int.gcd a p : Int) := Int.dvd_coe_gcd h (Int.dvd_refl p)
  rw [z] at this
  exact hp.not_one this
theorem gcd_one_of {p a : Int} (hp : Pr p) (h : ¬ p ∣ a) : Int.gcd a p = 1 := by
  rw [Int.gcd_comm]
  rcases hp.gcd (a := a) with z | z
  · exact absurd z h
  · exact z
theorem J_square {p a y : Int} (hp : Pr p) (h2 : p ≠ 2) (ha : ¬ p ∣ a) (hy : p ∣ y * y - a) : J a p = 1 := by
  have hy' : ¬ p ∣ y := fun d => ha (by
    have := Int.dvd_sub (Int.dvd_mul_of_dvd_left (c := y) d) hy
    rw [show y * y - (y * y - a) = a by omega] at this
    exact this)
  rw [← J_cong hy]
  exact J_sq (hp.odd h2) (gcd_one_of hp hy')
theorem J_no_square {p a : Int} (hp : Pr p) (h2 : p ≠ 2) (ha : ¬ p ∣ a) (hn : ∀ y, ¬ p ∣ y * y - a) : J a p = -1 := by
  have g := gauss hp h2 ha
  have e := euler_non hp h2 ha hn
  have d := Int.dvd_sub e g
  rw [show a ^ half p + 1 - (a ^ half p - G a p) = 1 + G a p by omega] at d
  unfold J
  rw [if_pos (gcd_one_of hp ha)]
  rcases G_or a p with h | h
  · rw [h] at d
    have := Int.le_of_dvd (by decide) d
    have := hp.two
    omega
  · exact h
theorem J_prime {p a : Int} (hp : Pr p) (h2 : p ≠ 2) : (p ∣ a ∧ J a p = 0) ∨ (¬ p ∣ a ∧ (∃ y, p ∣ y * y - a) ∧ J a p = 1) ∨ (¬ p ∣ a ∧ (∀ y, ¬ p ∣ y * y - a) ∧ J a p = -1) := by
  by_cases h : p ∣ a
  · exact .inl ⟨h, J_dvd hp h⟩
  · by_cases k : ∃ y, p ∣ y * y - a
    · obtain ⟨y, hy⟩ := k
      exact .inr (.inl ⟨h, ⟨y, hy⟩, J_square hp h2 h hy⟩)
    · have k : ∀ y, ¬ p ∣ y * y - a := fun y hy => k ⟨y, hy⟩
      exact .inr (.inr ⟨h, k, J_no_square hp h2 h k⟩)
theorem J_power {p a : Int} (hp : Pr p) (h2 : p ≠ 2) : p ∣ a ^ half p - J a p := by
  by_cases h : p ∣ a
  · rw [J_dvd hp h, Int.sub_zero]
    have : half p ≠ 0 := by unfold half; have := hp.two; omega
    obtain ⟨k, hk⟩ := Nat.exists_eq_succ_of_ne_zero this
    rw [hk, Int.pow_succ]
    exact Int.dvd_mul_of_dvd_right h
  · have := gauss hp h2 h
    unfold J
    rw [if_pos (gcd_one_of hp h)]
    exact this
end DL

namespace DL
variable [HotA]
open PySem L2
theorem flat_ints : ∀ ns : List Int, (ns.map V.int).all flatV = true
  | [] => rfl
  | _ :: ns => by rw [List.map_cons, List.all_cons, flat_ints ns]; rfl
theorem in_ints (i : Int) : ∀ ns : List Int, inV (.int i) (ns.map V.int) = decide (i ∈ ns)
  | [] => rfl
  | n :: ns => by
    unfold inV
    rw [List.map_cons, List.any_cons]
    have ih := in_ints i ns
    unfold inV at ih
    rw [ih]
    have : eqV (.int n) (.int i) = decide (i = n) := by
      show (n == i) = _
      exact Bool.eq_iff_iff.mpr (by rw [beq_iff_eq, decide_eq_true_eq]; exact eq_comm)
    rw [this]
    exact Bool.eq_iff_iff.mpr (by simp)
def seqNum : D → (List Int → Prop) → Prop
  | .list xs, k => optK (nums xs) k
  | .tuple xs, k => optK (nums xs) k
  | _, _ => False
def rInD : R2D
  | .int i, d, q => seqNum d fun ns => q (.val (.bool (decide (i ∈ ns))))
  | _, _, _ => False
def rNotInD : R2D
  | .int i, d, q => seqNum d fun ns => q (.val (.bool (!decide (i ∈ ns))))
  | _, _, _ => False
section
variable {X : Cx}
theorem seq_num {K : PySem.W.Frag} {O H : Hp} {w : V} {d : D} {k : List Int → Prop} (r : PRep K O H w d) (h : seqNum d k) : ∃ p ns, w = .ref p ∧ (SqL K H p (ns.map V.int) ∨ SqT K H p (ns.map V.int)) ∧ k ns := by
  unfold seqNum at h
  split at h
  · obtain ⟨ns, hn, h⟩ := optK_iff h
    obtain ⟨p, vs, rfl, qa, za⟩ := r
    have e := nums_of za hn
    subst e
    exact ⟨p, ns, rfl, .inl qa, h⟩
  · obtain ⟨ns, hn, h⟩ := optK_iff h
    obtain ⟨p, vs, rfl, qa, za⟩ := r
    have e := nums_of za hn
    subst e
    exact ⟨p, ns, rfl, .inr qa, h⟩
  · exact h.elim
theorem os_in : OpS X (compareOp .In) rInD := by
  refine ⟨_, op_in_seq, fun O H v w c d q Q so rc rd hq g1 => ?_⟩
  unfold rInD at g1
  split at g1
  · rename_i i
    cases rc
    obtain ⟨p, ns, rfl, hs, g⟩ := seq_num rd g1
    refine ⟨p, ns.map V.int, rfl, hs, rfl, flat_ints ns, ?_⟩
    rw [in_ints]
    exact hq _ O H (.val (.bool _)) (.refl so) (.bl _) g
  · exact g1.elim
def rSortedD : RD
  | [.list xs], q => ∃ ns, nums xs = some ns ∧ ∀ ms : List Int, ms.Perm ns → ms.Pairwise (· ≤ ·) → q (.own (ms.map PyData.int))
  | _, _ => False
theorem cs_sorted : CallS X (.builtin "sorted") rSortedD := by
  refine ⟨_, cr_sortedI, fun O H vs ds q Q so ra hq g1 => ?_⟩
  unfold rSortedD at g1
  split at g1
  · rename_i xs
    obtain ⟨v, rfl, a, ws, rfl, qa, za⟩ := pall1 ra
    obtain ⟨ns, hn, g⟩ := g1
    have e := nums_of za hn
    subst e
    refine ⟨a, ns, rfl, qa, fun ms p h1 h2 hp => ?_⟩
    have dp : ∀ (O : Hp) (l : List Int), DpAll X.K O (l.map V.int) (l.map PyData.int) := fun O l => by
      induction l with
      | nil => exact .nil
      | cons i l ih => exact .cons (.int i) ih
    exact hq _ O _ (.own (ms.map PyData.int)) (.own so hp _) ⟨p, _, rfl, hp, so.free hp, upd_same, dp O ms⟩ (g ms h1 h2)
  · exact g1.elim
end
theorem w_in {i : Int} {d : D} {q : S → Prop} : rInD (.int i) d q = seqNum d fun ns => q (.val (.bool (decide (i ∈ ns)))) := (rfl)
theorem w_notin {i : Int} {d : D} {q : S → Prop} : rNotInD (.int i) d q = seqNum d fun ns => q (.val (.bool (!decide (i ∈ ns)))) := (rfl)
theorem w_seqNum1 {xs : List D} {k : List Int → Prop} : seqNum (.list xs) k = optK (nums xs) k := (rfl)
theorem w_seqNum2 {xs : List D} {k : List Int → Prop} : seqNum (.tuple xs) k = optK (nums xs) k := (rfl)
theorem w_sorted {xs : List D} {q : S → Prop} : rSortedD [.list xs] q = ∃ ns, nums xs = some ns ∧ ∀ ms : List Int, ms.Perm ns → ms.Pairwise (· ≤ ·) → q (.own (ms.map PyData.int)) := (rfl)
theorem ix_lit {xs : List Int} {k : Int} (h0 : 0 ≤ k) (h1 : k < (xs.length : Int)) : ∃ v, v ∈ xs ∧ atI (xs.map PyData.int) k = some (.int v) := by
  refine ⟨xs.getD k.toNat 0, ?_, ?_⟩
  · rw [List.getD_eq_getElem?_getD, List.getElem?_eq_getElem (by omega)]
    exact List.getElem_mem _
  · have e : k = ((k.toNat : Nat) : Int) := by omega
    rw [e]
    refine atI_nat ?_
    rw [List.getElem?_map, List.getElem?_eq_getElem (by omega), Int.toNat_natCast, List.getD_eq_getElem?_getD, List.getElem?_eq_getElem (by omega)]
    rfl
theorem rng_15 : rngD 0 15 = [.int 0, .int 1, .int 2, .int 3, .int 4, .int 5, .int 6, .int 7, .int 8, .int 9, .int 10, .int 11, .int 12, .int 13, .int 14] := rfl
def eCall0 (p : DSp) : ES := fun _ _ q => @callK p [] (fun _ => False) ⟨q⟩
theorem u_eCall0 {p : DSp} {x : XP} {δ : List S} {q : S → Prop} : eCall0 p x δ q = @callK p [] (fun _ => False) ⟨q⟩ := (rfl)
end DL

namespace DL
variable [HotA]
open PySem PySem.Spec PyProof.Rows L2
inductive DetL : List V → List Value → Prop
  | nil : DetL [] []
  | cons {c : V} {v : Value} {cs : List V} {vs : List Value} : (∀ u, RelV c u → u = v) → DetL cs vs → DetL (c :: cs) (v :: vs)
theorem DetL.eq {cs : List V} {vs us : List Value} (h : DetL cs vs) : Vals cs us → us = vs := by
  induction h generalizing us with
  | nil => intro r; cases r; rfl
  | cons h1 _ ih => intro r; cases r with | cons a b => rw [h1 _ a, ih b]
section
variable {X : Cx} {W : WX} {e : Expr} {es : List Expr} {pos p1 p2 : Pos} {R : List Str}
def eIsEs (R : List Str) (Ts : List Str) (e : ES) : ES := fun x δ q => e x δ fun s => s.fr fun d => excK R d fun c => q (.val (.bool (Ts.any (subE c))))
theorem u_eIsEs {Ts : List Str} {e : ES} {x : XP} {δ : List S} {q : S → Prop} : eIsEs R Ts e x δ q = e x δ fun s => s.fr fun d => excK R d fun c => q (.val (.bool (Ts.any (subE c)))) := (rfl)
end
def lstK2 : D → (List D → Prop) → Prop
  | .list ds, k => k ds
  | _, _ => False
def gTupL (n : Nat) (g : EGs) : EG := fun s δ q => s.fr fun d => lstK2 d fun ds => ds.length = n ∧ g ds δ q
theorem u_gTupL {n : Nat} {g : EGs} {s : S} {δ : List S} {q : List S → Prop} : gTupL n g s δ q = (s.fr fun d => lstK2 d fun ds => ds.length = n ∧ g ds δ q) := (rfl)
theorem w_lstK2 {ds : List D} {k : List D → Prop} : lstK2 (.list ds) k = k ds := (rfl)
section
variable {X : Cx} {pos : Pos}
theorem jg_lst {es : List Expr} {k n : Nat} {js : List Nat} {dg : EGs} (hc : X.calm = true) (h : JGs X js es dg) (hn : (assignEach es X.env).length = n := by rfl) (hst : (assignEach es X.env).findIdx? (·.1) = none := by rfl) : JG X js (.Tuple es k pos) (gTupL n dg) := by
  obtain ⟨g, p, s⟩ := h.ex
  refine ⟨_, pg_lst hc p hn hst, fun H0 O H O1 H1 σ δ v s' q Q h0 env u r hq d => ?_⟩
  obtain ⟨O2, dd, u2, r2, d2⟩ := r.fr u d
  unfold lstK2 at d2
  cases dd with
  | list ds =>
    cases r2 with
    | lst qa za =>
      refine ⟨_, _, rfl, u2.oh.seq qa, by rw [dpl_length za]; exact d2.1, ?_⟩
      exact s H0 O2 H1 σ δ _ _ q Q (h0.trans u2.h) u2.oh (env.up u2) za (fun σ' O3 δ' u3 e3 w k => hq σ' O3 δ' (u2.trans u3) e3 w k) d2.2
  | none => exact d2.elim
  | bool _ => exact d2.elim
  | int _ => exact d2.elim
  | str _ => exact d2.elim
  | tuple _ => exact d2.elim
  | dict _ => exact d2.elim
end
def threeK : List D → (D → D → D → Prop) → Prop
  | [a, b, c], k => k a b c
  | _, _ => False
theorem w_three {a b c : D} {k : D → D → D → Prop} : threeK [a, b, c] k = k a b c := (rfl)
def sPar3 (i j l : Nat) (a : EA) : ST := fun D δ => a (fun x => D.ex x δ) δ fun ds => threeK ds fun c d e => D.nx (put (put (put δ i (.val c)) j (.val d)) l (.val e))
theorem u_sPar3 {i j l : Nat} {a : EA} {D : DL.Ends} {δ : List S} : sPar3 i j l a D δ = (a (fun x => D.ex x δ) δ fun ds => threeK ds fun c d e => D.nx (put (put (put δ i (.val c)) j (.val d)) l (.val e))) := (rfl)
section
variable {X : Cx} {W : WX} {pos : Pos}
end
end DL

namespace DL
open PySem L2
def ptF : Nat → Int → Int → Nat × Int
  | 0, _, a => (0, a)
  | n + 1, p, a => if a % p = 0 then ((ptF n p (a / p)).1 + 1, (ptF n p (a / p)).2) else (0, a)
def pt (p a : Int) : Nat × Int := ptF a.natAbs p a
structure Pt (p a : Int) (i : Nat) (u : Int) : Prop where
  eq : a = p ^ i * u
  no : ¬ p ∣ u
theorem ptF_ok {p : Int} (hp : 2 ≤ p) : ∀ (n : Nat) (a : Int), a ≠ 0 → a.natAbs ≤ n → Pt p a (ptF n p a).1 (ptF n p a).2
  | 0, a, h, hn => absurd (Int.natAbs_eq_zero.mp (by omega)) h
  | n + 1, a, h, hn => by
    unfold ptF
    by_cases c : a % p = 0
    · rw [if_pos c]
      obtain ⟨k, rfl⟩ := Int.dvd_of_emod_eq_zero c
      have e : p * k / p = k := Int.mul_ediv_cancel_left k (by omega)
      rw [e]
      have k0 : k ≠ 0 := fun z => h (by rw [z, Int.mul_zero])
      have lt : k.natAbs < (p * k).natAbs := by
        rw [Int.natAbs_mul]
        have : 2 * k.natAbs ≤ p.natAbs * k.natAbs := Nat.mul_le_mul_right _ (by omega)
        omega
      have ih := ptF_ok hp n k k0 (by omega)
      refine ⟨?_, ih.no⟩
      show p * k = p ^ ((ptF n p k).1 + 1) * (ptF n p k).2
      rw [Int.pow_succ, Int.mul_comm _ p, Int.mul_assoc, ← ih.eq]
    · rw [if_neg c]
      exact ⟨by show a = p ^ 0 * a; rw [Int.pow_zero, Int.one_mul], fun d => c (Int.emod_eq_zero_of_dvd d)⟩
theorem pt_ok {p a : Int} (hp : 2 ≤ p) (ha : a ≠ 0) : Pt p a (pt p a).1 (pt p a).2 := ptF_ok hp _ a ha (Nat.le_refl _)
theorem pow_ne' {p : Int} (hp : 2 ≤ p) (i : Nat) : p ^ i ≠ 0 := by have := pow_pos' (show 0 < p by omega) i; omega
theorem Pt.le {p a u v : Int} {i j : Nat} (hp : 2 ≤ p) (h : Pt p a i u) (k : Pt p a j v) (hl : i ≤ j) : i = j ∧ u = v := by
  obtain ⟨d, rfl⟩ := Nat.exists_eq_add_of_le hl
  have e : p ^ i * u = p ^ i * (p ^ d * v) := by rw [← h.eq, k.eq, Int.pow_add, Int.mul_assoc]
  have e := Int.eq_of_mul_eq_mul_left (pow_ne' hp i) e
  cases d with
  | zero => exact ⟨rfl, by rw [e, Int.pow_zero, Int.one_mul]⟩
  | succ d => exact absurd ⟨p ^ d * v, by rw [e, Int.pow_succ, Int.mul_comm _ p, Int.mul_assoc]⟩ h.no
theorem Pt.unique {p a u v : Int} {i j : Nat} (hp : 2 ≤ p) (h : Pt p a i u) (k : Pt p a j v) : i = j ∧ u = v := by
  rcases Nat.le_total i j with z | z
  · exact h.le hp k z
  · obtain ⟨e1, e2⟩ := k.le hp h z
    exact ⟨e1.symm, e2.symm⟩
theorem Pt.pt {p a u : Int} {i : Nat} (hp : 2 ≤ p) (h : Pt p a i u) : pt p a = (i, u) := by
  have a0 : a ≠ 0 := fun z => by
    have e := h.eq
    rw [z] at e
    rcases Int.mul_eq_zero.mp e.symm with y | y
    · exact pow_ne' hp i y
    · exact h.no (by rw [y]; exact Int.dvd_zero p)
  obtain ⟨e1, e2⟩ := (pt_ok hp a0).unique hp h
  exact Prod.ext e1 e2
theorem Pt.mul {p a b u v : Int} {i j : Nat} (hp : Pr p) (h : Pt p a i u) (k : Pt p b j v) : Pt p (a * b) (i + j) (u * v) :=
  ⟨by rw [h.eq, k.eq, Int.pow_add]; grind, fun d => by
    rcases hp.euclid d with z | z
    · exact h.no z
    · exact k.no z⟩
theorem Pt.neg {p a u : Int} {i : Nat} (h : Pt p a i u) : Pt p (0 - a) i (0 - u) :=
  ⟨by rw [h.eq]; grind, fun d => h.no (by
    have := Int.dvd_sub (Int.dvd_zero p) d
    rw [show 0 - (0 - u) = u by omega] at this
    exact this)⟩
theorem Pt.zero {p a : Int} (h : ¬ p ∣ a) : Pt p a 0 a := ⟨by rw [Int.pow_zero, Int.one_mul], h⟩
def HO (p : Int) (i : Nat) (u : Int) (j : Nat) (v : Int) : Int := sg ((i : Int) * j * ((p - 1) / 2)) * (if j % 2 = 1 then J u p else 1) * (if i % 2 = 1 then J v p else 1)
def H2 (i : Nat) (u : Int) (j : Nat) (v : Int) : Int := sg ((u - 1) / 2 * ((v - 1) / 2) + i * ((v * v - 1) / 8) + j * ((u * u - 1) / 8))
theorem J_unit {p u : Int} (hp : Pr p) (h : ¬ p ∣ u) : J u p = 1 ∨ J u p = -1 := by
  have h1 := J_ne.mpr (gcd_one_of hp h)
  rcases J_or u p with z | z | z
  · exact .inl z
  · exact absurd z h1
  · exact .inr z
theorem pm_mul {a b : Int} (h : a = 1 ∨ a = -1) (k : b = 1 ∨ b = -1) : a * b = 1 ∨ a * b = -1 := by
  rcases h with rfl | rfl <;> rcases k with rfl | rfl <;> decide
theorem pm_if {a : Int} {c : Prop} [Decidable c] (h : a = 1 ∨ a = -1) : (if c then a else 1) = 1 ∨ (if c then a else 1) = -1 := by
  split
  · exact h
  · exact .inl rfl
theorem HO_or {p u v : Int} {i j : Nat} (hp : Pr p) (hu : ¬ p ∣ u) (hv : ¬ p ∣ v) : HO p i u j v = 1 ∨ HO p i u j v = -1 :=
  pm_mul (pm_mul (sg_or _) (pm_if (J_unit hp hu))) (pm_if (J_unit hp hv))
theorem par_if {x : Int} (h : x = 1 ∨ x = -1) (j k : Nat) : (if (j + k) % 2 = 1 then x else 1) = (if j % 2 = 1 then x else 1) * (if k % 2 = 1 then x else 1) := by
  rcases (by omega : j % 2 = 0 ∨ j % 2 = 1) with a | a <;> rcases (by omega : k % 2 = 0 ∨ k % 2 = 1) with b | b
  · rw [if_neg (by omega), if_neg (by omega), if_neg (by omega)]; rfl
  · rw [if_pos (by omega), if_neg (by omega), if_pos (by omega), Int.one_mul]
  · rw [if_pos (by omega), if_pos (by omega), if_neg (by omega), Int.mul_one]
  · rw [if_neg (by omega), if_pos (by omega), if_pos (by omega)]
    rcases h with rfl | rfl <;> decide
theorem HO_mul {p u v w : Int} {i j k : Nat} (hp : Pr p) (h2 : p ≠ 2) (hu : ¬ p ∣ u) : HO p i u (j + k) (v * w) = HO p i u j v * HO p i u k w := by
  unfold HO
  have e : (i : Int) * ((j + k : Nat) : Int) * ((p - 1) / 2) = (i : Int) * j * ((p - 1) / 2) + (i : Int) * k * ((p - 1) / 2) := by
    rw [Int.natCast_add]; grind
  rw [e, sg_add, par_if (J_unit hp hu), J_mul (hp.odd h2)]
  split <;> grind
theorem HO_comm {p u v : Int} {i j : Nat} : HO p i u j v = HO p j v i u := by
  unfold HO
  rw [Int.mul_comm (i : Int) j]
  grind
theorem HO_neg {p u : Int} {i : Nat} (hp : Pr p) (h2 : p ≠ 2) (hu : ¬ p ∣ u) : HO p i u i (0 - u) = 1 := by
  unfold HO
  have ho := hp.odd h2
  have hodd := ho.odd
  rcases (by omega : i % 2 = 0 ∨ i % 2 = 1) with a | a
  · rw [if_neg (by omega), if_neg (by omega), Int.mul_one, Int.mul_one]
    obtain ⟨m, hm⟩ : ∃ m : Int, (i : Int) = 2 * m := ⟨(i : Int) / 2, by omega⟩
    rw [hm]
    unfold sg
    rw [if_pos (by rw [show 2 * m * (2 * m) * ((p - 1) / 2) = 2 * (m * (2 * m) * ((p - 1) / 2)) by grind]; omega)]
  · rw [if_pos a, if_pos a, Int.mul_assoc, ← J_mul ho]
    have e1 : u * (0 - u) = -1 * (u * u) := by grind
    rw [e1, J_mul ho, J_sq ho (gcd_one_of hp hu), Int.mul_one, J_neg ho]
    obtain ⟨m, hm⟩ : ∃ m : Int, (i : Int) = 2 * m + 1 := ⟨(i : Int) / 2, by omega⟩
    have e2 : (p - 1) / 2 = p / 2 := by omega
    rw [e2, hm]
    have e3 : sg ((2 * m + 1) * (2 * m + 1) * (p / 2)) = sg (p / 2) := sg_par (by
      rw [show (2 * m + 1) * (2 * m + 1) * (p / 2) - p / 2 = 2 * ((2 * m * m + 2 * m) * (p / 2)) by grind]
      omega)
    rw [e3, sg_sq]
theorem sq8 {u : Int} (h : u % 2 = 1) : ∃ m s : Int, u = 2 * m + 1 ∧ u * u = 8 * s + 1 := by
  obtain ⟨m, hm⟩ : ∃ m : Int, u = 2 * m + 1 := ⟨u / 2, by omega⟩
  rcases (by omega : m % 2 = 0 ∨ m % 2 = 1) with a | a
  · obtain ⟨k, hk⟩ : ∃ k : Int, m = 2 * k := ⟨m / 2, by omega⟩
    exact ⟨m, 2 * k * k + k, hm, by rw [hm, hk]; grind⟩
  · obtain ⟨k, hk⟩ : ∃ k : Int, m = 2 * k + 1 := ⟨m / 2, by omega⟩
    exact ⟨m, 2 * k * k + 3 * k + 1, hm, by rw [hm, hk]; grind⟩
theorem H2_eq {u v m n r s : Int} {i j : Nat} (h1 : u = 2 * m + 1) (h2 : u * u = 8 * r + 1) (h3 : v = 2 * n + 1) (h4 : v * v = 8 * s + 1) : H2 i u j v = sg (m * n + i * s + j * r) := by
  unfold H2
  have a : (u - 1) / 2 = m := by omega
  have b : (v - 1) / 2 = n := by omega
  have c : (v * v - 1) / 8 = s := by omega
  have d : (u * u - 1) / 8 = r := by omega
  rw [a, b, c, d]
theorem H2_mul {u v w : Int} {i j k : Nat} (hu : u % 2 = 1) (hv : v % 2 = 1) (hw : w % 2 = 1) : H2 i u (j + k) (v * w) = H2 i u j v * H2 i u k w := by
  obtain ⟨m, r, a1, a2⟩ := sq8 hu
  obtain ⟨n, s, b1, b2⟩ := sq8 hv
  obtain ⟨l, t, c1, c2⟩ := sq8 hw
  have d1 : v * w = 2 * (2 * n * l + n + l) + 1 := by rw [b1, c1]; grind
  have d2 : v * w * (v * w) = 8 * (8 * s * t + s + t) + 1 := by
    rw [show v * w * (v * w) = (v * v) * (w * w) by grind, b2, c2]; grind
  rw [H2_eq a1 a2 d1 d2, H2_eq a1 a2 b1 b2, H2_eq a1 a2 c1 c2, ← sg_add]
  refine sg_par ?_
  rw [Int.natCast_add, show m * (2 * n * l + n + l) + (i : Int) * (8 * s * t + s + t) + ((j : Int) + k) * r - (m * n + i * s + j * r + (m * l + i * t + k * r)) = 2 * (m * n * l + 4 * (i * s * t)) by grind]
  omega
theorem H2_comm {u v : Int} {i j : Nat} : H2 i u j v = H2 j v i u := by
  unfold H2
  congr 1
  grind
theorem H2_or (i : Nat) (u : Int) (j : Nat) (v : Int) : H2 i u j v = 1 ∨ H2 i u j v = -1 := sg_or _
theorem H2_neg {u : Int} {i : Nat} (hu : u % 2 = 1) : H2 i u i (0 - u) = 1 := by
  obtain ⟨m, r, a1, a2⟩ := sq8 hu
  rw [H2_eq a1 a2 (show 0 - u = 2 * (0 - m - 1) + 1 by omega) (show (0 - u) * (0 - u) = 8 * r + 1 by rw [← a2]; grind)]
  unfold sg
  rw [if_pos ?_]
  rcases (by omega : m % 2 = 0 ∨ m % 2 = 1) with a | a
  · obtain ⟨k, hk⟩ : ∃ k : Int, m = 2 * k := ⟨m / 2, by omega⟩
    rw [show m * (0 - m - 1) + (i : Int) * r + i * r = 2 * (k * (0 - m - 1) + i * r) by rw [hk]; grind]
    omega
  · obtain ⟨k, hk⟩ : ∃ k : Int, m = 2 * k + 1 := ⟨m / 2, by omega⟩
    rw [show m * (0 - m - 1) + (i : Int) * r + i * r = 2 * (m * (0 - k - 1) + i * r) by rw [hk]; grind]
    omega
theorem H2_one {u : Int} {i : Nat} (hi : i ≠ 0) (hu : u % 2 = 1) : H2 i u 0 (1 - 2 ^ i * u) = 1 := by
  obtain ⟨m, r, a1, a2⟩ := sq8 hu
  have fin : ∀ n s : Int, 1 - 2 ^ i * u = 2 * n + 1 → (1 - 2 ^ i * u) * (1 - 2 ^ i * u) = 8 * s + 1 → (m * n + i * s) % 2 = 0 → H2 i u 0 (1 - 2 ^ i * u) = 1 := fun n s h1 h2 h3 => by
    rw [H2_eq a1 a2 h1 h2]
    unfold sg
    rw [if_pos (by simpa using h3)]
  rcases (by omega : i = 1 ∨ i = 2 ∨ 3 ≤ i) with e | e | e
  · subst e
    refine fin (0 - u) (u * m) (by omega) (by rw [a1]; grind) ?_
    rw [show m * (0 - u) + ((1 : Nat) : Int) * (u * m) = 0 by simp; grind]
    rfl
  · subst e
    refine fin (0 - 2 * u) (u * (2 * u - 1)) (by omega) (by grind) ?_
    rw [show m * (0 - 2 * u) + ((2 : Nat) : Int) * (u * (2 * u - 1)) = 2 * (0 - m * u + u * (2 * u - 1)) by simp; grind]
    omega
  · obtain ⟨k, rfl⟩ := Nat.exists_eq_add_of_le e
    have e8 : (2 : Int) ^ (3 + k) * u = 8 * (2 ^ k * u) := by rw [Int.pow_add]; grind
    generalize (2 : Int) ^ k * u = c at e8
    rw [e8] at fin ⊢
    refine fin (0 - 4 * c) (c * (8 * c - 2)) (by omega) (by grind) ?_
    rw [show m * (0 - 4 * c) + ((3 + k : Nat) : Int) * (c * (8 * c - 2)) = 2 * (0 - 2 * (m * c) + ((3 + k : Nat) : Int) * (c * (4 * c - 1))) by grind]
    omega
def hil (p a b : Int) : Int := if p = 0 then (if a < 0 ∧ b < 0 then -1 else 1) else if p = 2 then H2 (pt 2 a).1 (pt 2 a).2 (pt 2 b).1 (pt 2 b).2 else HO p (pt p a).1 (pt p a).2 (pt p b).1 (pt p b).2
theorem pr_two : Pr 2 := ⟨by decide, fun d h1 h2 => by omega⟩
theorem odd_of {u : Int} (h : ¬ (2 : Int) ∣ u) : u % 2 = 1 := by
  have : ¬ u % 2 = 0 := fun z => h (Int.dvd_of_emod_eq_zero z)
  omega
theorem hil_mul {p a b c : Int} (hp : p = 0 ∨ Pr p) (ha : a ≠ 0) (hb : b ≠ 0) (hc : c ≠ 0) : hil p a (b * c) = hil p a b * hil p a c := by
  unfold hil
  by_cases h0 : p = 0
  · rw [if_pos h0, if_pos h0, if_pos h0]
    rcases Int.lt_or_gt_of_ne hb with b1 | b1 <;> rcases Int.lt_or_gt_of_ne hc with c1 | c1
    · have := Int.mul_pos_of_neg_of_neg b1 c1
      by_cases a1 : a < 0
      · rw [if_neg (by omega), if_pos ⟨a1, b1⟩, if_pos ⟨a1, c1⟩]; rfl
      · rw [if_neg (by omega), if_neg (by omega), if_neg (by omega)]; rfl
    · have := Int.mul_neg_of_neg_of_pos b1 c1
      by_cases a1 : a < 0
      · rw [if_pos ⟨a1, this⟩, if_pos ⟨a1, b1⟩, if_neg (by omega)]; rfl
      · rw [if_neg (by omega), if_neg (by omega), if_neg (by omega)]; rfl
    · have := Int.mul_neg_of_pos_of_neg b1 c1
      by_cases a1 : a < 0
      · rw [if_pos ⟨a1, this⟩, if_neg (by omega), if_pos ⟨a1, c1⟩]; rfl
      · rw [if_neg (by omega), if_neg (by omega), if_neg (by omega)]; rfl
    · have := Int.mul_pos b1 c1
      rw [if_neg (by omega), if_neg (by omega), if_neg (by omega)]; rfl
  have hp : Pr p := hp.resolve_left h0
  have A := pt_ok hp.two ha
  have B := pt_ok hp.two hb
  have C := pt_ok hp.two hc
  have BC := (B.mul hp C).pt hp.two
  rw [if_neg h0, if_neg h0, if_neg h0]
  by_cases h2 : p = 2
  · subst h2
    rw [if_pos rfl, if_pos rfl, if_pos rfl, BC]
    exact H2_mul (odd_of A.no) (odd_of B.no) (odd_of C.no)
  · rw [if_neg h2, if_neg h2, if_neg h2, BC]
    exact HO_mul hp h2 A.no
theorem hil_comm {p a b : Int} : hil p a b = hil p b a := by
  unfold hil
  split
  · by_cases h : a < 0 ∧ b < 0
    · rw [if_pos h, if_pos ⟨h.2, h.1⟩]
    · rw [if_neg h, if_neg fun z => h ⟨z.2, z.1⟩]
  split
  · exact H2_comm
  · exact HO_comm
theorem hil_or {p a b : Int} (hp : p = 0 ∨ Pr p) (ha : a ≠ 0) (hb : b ≠ 0) : hil p a b = 1 ∨ hil p a b = -1 := by
  unfold hil
  split
  · split <;> simp
  rename_i h0
  have hp : Pr p := hp.resolve_left h0
  split
  · exact H2_or ..
  · exact HO_or hp (pt_ok hp.two ha).no (pt_ok hp.two hb).no
theorem hil_neg {p a : Int} (hp : p = 0 ∨ Pr p) (ha : a ≠ 0) : hil p a (0 - a) = 1 := by
  unfold hil
  by_cases h0 : p = 0
  · rw [if_pos h0, if_neg (by omega)]
  have hp : Pr p := hp.resolve_left h0
  have A := pt_ok hp.two ha
  rw [if_neg h0]
  by_cases h2 : p = 2
  · subst h2
    rw [if_pos rfl, (A.neg).pt hp.two]
    exact H2_neg (odd_of A.no)
  · rw [if_neg h2, (A.neg).pt hp.two]
    exact HO_neg hp h2 A.no
theorem hil_sq {p a b c : Int} (hp : p = 0 ∨ Pr p) (ha : a ≠ 0) (hb : b ≠ 0) (hc : c ≠ 0) : hil p a (b * c * c) = hil p a b := by
  rw [hil_mul hp ha (Int.mul_ne_zero hb hc) hc, hil_mul hp ha hb hc]
  rcases hil_or hp ha hc with e | e <;> rw [e] <;> omega
end DL

namespace DL
open PySem L2
def ownK : S → (List D → Prop) → Prop
  | .own ds, k => k ds
  | _, _ => False
theorem w_ownK {ds : List D} {k : List D → Prop} : ownK (.own ds) k = k ds := (rfl)
def eRep (n : Int) (e : ES) : ES := fun x δ q => e x δ fun s => ownK s fun ds => ds.length * n.toNat ≤ sizeLine ∧ q (.own (List.replicate n.toNat ds).flatten)
theorem u_eRep {n : Int} {e : ES} {x : XP} {δ : List S} {q : S → Prop} : eRep n e x δ q = e x δ fun s => ownK s fun ds => ds.length * n.toNat ≤ sizeLine ∧ q (.own (List.replicate n.toNat ds).flatten) := (rfl)
theorem dpl_rep {K : PySem.W.Frag} {O : Hp} {vs : List V} {ds : List D} (h : DpAll K O vs ds) : ∀ n : Nat, DpAll K O (List.replicate n vs).flatten (List.replicate n ds).flatten
  | 0 => .nil
  | n + 1 => by
    rw [List.replicate_succ, List.replicate_succ, List.flatten_cons, List.flatten_cons]
    exact dpl_append h (dpl_rep h n)
section
variable {X : Cx} {W : WX} {a : Expr} {pos p2 : Pos}
end
theorem shaped_parts {l : List Part} : shapedB (.list (l.map encP)) = true := by
  refine shp (cl_l (cl_m fun x _ => cl_t (cl_c cl_i (cl_c cl_i cl_0)))) ?_
  rw [PyData.depth]
  have : PyData.depthAll (l.map encP) ≤ 10 := dp_m fun x _ => by unfold encP; simp [PyData.depth, PyData.depthAll]
  omega
end DL

namespace DL
open PySem L2
def gcdL (xs : List Int) : Int := ((xs.foldl (fun g x => Nat.gcd g x.natAbs) 0 : Nat) : Int)
def gcdN (xs : List Int) : Nat := xs.foldl (fun g x => Nat.gcd g x.natAbs) 0
theorem gcd_fold (xs : List Int) : ∀ g : Nat, xs.foldl (fun g x => Nat.gcd g x.natAbs) g = Nat.gcd g (gcdN xs) := by
  induction xs with
  | nil => intro g; exact (Nat.gcd_zero_right g).symm
  | cons a xs ih =>
    intro g
    unfold gcdN
    rw [List.foldl_cons, List.foldl_cons, ih, ih, Nat.gcd_zero_left, Nat.gcd_assoc]
theorem gcdN_cons (a : Int) (xs : List Int) : gcdN (a :: xs) = Nat.gcd a.natAbs (gcdN xs) := by
  show (a :: xs).foldl _ 0 = _
  rw [List.foldl_cons, gcd_fold, Nat.gcd_zero_left]
theorem gcdN_dvd : ∀ {xs : List Int} {x : Int}, x ∈ xs → (gcdN xs : Int) ∣ x
  | a :: xs, x, h => by
    rw [gcdN_cons]
    rcases List.mem_cons.mp h with e | e
    · rw [e]; exact Int.ofNat_dvd_left.mpr (Nat.gcd_dvd_left _ _)
    · exact Int.dvd_trans (Int.natCast_dvd_natCast.mpr (Nat.gcd_dvd_right _ _)) (gcdN_dvd e)
theorem gcdL_dvd {xs : List Int} {x : Int} (h : x ∈ xs) : gcdL xs ∣ x := gcdN_dvd h
theorem dvd_gcdN : ∀ {xs : List Int} {d : Nat}, (∀ x ∈ xs, (d : Int) ∣ x) → d ∣ gcdN xs
  | [], _, _ => Nat.dvd_zero _
  | a :: xs, d, h => by
    rw [gcdN_cons]
    exact Nat.dvd_gcd (Int.ofNat_dvd_left.mp (h a List.mem_cons_self)) (dvd_gcdN fun x hx => h x (List.mem_cons_of_mem _ hx))
theorem gcdN_mul (c : Int) : ∀ xs : List Int, gcdN (xs.map fun x => c * x) = c.natAbs * gcdN xs
  | [] => rfl
  | a :: xs => by rw [List.map_cons, gcdN_cons, gcdN_cons, gcdN_mul c xs, Int.natAbs_mul, Nat.gcd_mul_left]
theorem gcdN_pos {xs : List Int} {x : Int} (h : x ∈ xs) (hx : x ≠ 0) : 0 < gcdN xs := by
  rcases Nat.eq_zero_or_pos (gcdN xs) with e | e
  · have := gcdN_dvd h
    rw [e] at this
    exact absurd (Int.zero_dvd.mp this) hx
  · exact e
def nz (xs : List Int) : List Int := xs.filter fun x => decide (¬ x = 0)
def fst0 (xs : List Int) : Int := (nz xs).headD 0
def lowS (xs : List Int) : Int := if fst0 xs < 0 then 0 - gcdL xs else gcdL xs
def lowP (xs : List Int) : List Int := xs.map fun x => x.fdiv (lowS xs)
structure Low (ys : List Int) : Prop where
  g : gcdL ys = 1
  f : 0 < fst0 ys
theorem nz_mul {c : Int} (hc : c ≠ 0) : ∀ ys : List Int, nz (ys.map fun y => c * y) = (nz ys).map fun y => c * y
  | [] => rfl
  | a :: ys => by
    have ih := nz_mul hc ys
    unfold nz at ih ⊢
    rw [List.map_cons, List.filter_cons, List.filter_cons, ih]
    by_cases h : a = 0
    · simp [h]
    · simp [h, hc]
theorem fst0_mul {c : Int} (hc : c ≠ 0) (ys : List Int) : fst0 (ys.map fun y => c * y) = c * fst0 ys := by
  unfold fst0
  rw [nz_mul hc]
  cases nz ys with
  | nil => simp
  | cons a l => rfl
theorem low_unique {c : Int} (hc : c ≠ 0) {ys : List Int} (h : Low ys) : lowS (ys.map fun y => c * y) = c ∧ lowP (ys.map fun y => c * y) = ys := by
  have e : lowS (ys.map fun y => c * y) = c := by
    unfold lowS
    rw [fst0_mul hc]
    have hg : gcdL (ys.map fun y => c * y) = c.natAbs := by
      show ((gcdN (ys.map fun y => c * y) : Nat) : Int) = _
      have h1 : gcdN ys = 1 := by have := h.g; unfold gcdL at this; unfold gcdN; omega
      rw [gcdN_mul, h1, Nat.mul_one]
    rw [hg]
    have hf := h.f
    rcases Int.lt_or_gt_of_ne hc with z | z
    · rw [if_pos (Int.mul_neg_of_neg_of_pos z hf)]; omega
    · rw [if_neg (by have := Int.mul_pos z hf; omega)]; omega
  refine ⟨e, ?_⟩
  unfold lowP
  rw [e, List.map_map]
  have : ((fun x : Int => x.fdiv c) ∘ fun y => c * y) = id := by
    funext y
    show (c * y).fdiv c = y
    exact Int.mul_fdiv_cancel_left _ hc
  rw [this, List.map_id]
theorem nz_some {xs : List Int} (h : ∃ x ∈ xs, x ≠ 0) : ∃ a l, nz xs = a :: l ∧ a ∈ xs ∧ a ≠ 0 := by
  obtain ⟨x, hx, h0⟩ := h
  cases e : nz xs with
  | nil =>
    have : x ∈ nz xs := List.mem_filter.mpr ⟨hx, by simpa using h0⟩
    rw [e] at this
    cases this
  | cons a l =>
    have : a ∈ nz xs := by rw [e]; exact List.mem_cons_self
    have := List.mem_filter.mp this
    exact ⟨a, l, rfl, this.1, by simpa using this.2⟩
theorem low_spec {xs : List Int} (h : ∃ x ∈ xs, x ≠ 0) : lowS xs ≠ 0 ∧ xs = (lowP xs).map (fun y => lowS xs * y) ∧ Low (lowP xs) := by
  obtain ⟨a, l, e, ha, a0⟩ := nz_some h
  have hp := gcdN_pos ha a0
  have hn : (lowS xs).natAbs = gcdN xs := by
    unfold lowS
    have : gcdL xs = (gcdN xs : Int) := rfl
    split <;> omega
  have hs : lowS xs ≠ 0 := by omega
  have hd : ∀ x ∈ xs, lowS xs ∣ x := fun x hx => by
    have := gcdN_dvd hx
    rw [← hn] at this
    exact Int.natAbs_dvd.mp this
  have ex : xs = (lowP xs).map (fun y => lowS xs * y) := by
    unfold lowP
    rw [List.map_map]
    have : ∀ l : List Int, (∀ x ∈ l, lowS xs ∣ x) → l = l.map ((fun y => lowS xs * y) ∘ fun x => x.fdiv (lowS xs)) := by
      intro l
      induction l with
      | nil => intro _; rfl
      | cons b l ih =>
        intro hl
        rw [List.map_cons, ← ih fun x hx => hl x (List.mem_cons_of_mem _ hx)]
        have : ((fun y => lowS xs * y) ∘ fun x => x.fdiv (lowS xs)) b = b := Int.mul_fdiv_cancel' (hl b List.mem_cons_self)
        rw [this]
    exact this xs hd
  refine ⟨hs, ex, ?_, ?_⟩
  · have e1 := gcdN_mul (lowS xs) (lowP xs)
    rw [← ex, hn] at e1
    have : gcdN (lowP xs) = 1 := Nat.eq_of_mul_eq_mul_left hp (by omega)
    show ((gcdN (lowP xs) : Nat) : Int) = 1
    rw [this]; rfl
  · have e1 := fst0_mul hs (lowP xs)
    rw [← ex] at e1
    have hf : fst0 xs = a := by unfold fst0; rw [e]; rfl
    have hl : lowS xs = if a < 0 then 0 - gcdL xs else gcdL xs := by unfold lowS; rw [hf]
    rw [hf] at e1
    have hg : gcdL xs = (gcdN xs : Int) := rfl
    rcases Int.lt_trichotomy (fst0 (lowP xs)) 0 with z | z | z
    · exfalso
      split at hl
      · have := Int.mul_pos_of_neg_of_neg (show lowS xs < 0 by omega) z
        omega
      · have := Int.mul_neg_of_pos_of_neg (show 0 < lowS xs by omega) z
        omega
    · rw [z, Int.mul_zero] at e1
      exact absurd e1 a0
    · exact z
def wor (a b c d e f x y z : Int) : Int := a * x * x + b * y * y + c * z * z + d * y * z + e * x * z + f * x * y
theorem wor_sz {n : Nat} {a b c d e f x y z : Int} (ha : Sz n a) (hb : Sz n b) (hc : Sz n c) (hd : Sz n d) (he : Sz n e) (hf : Sz n f) (hx : Sz n x) (hy : Sz n y) (hz : Sz n z) : Sz (3 * n + 6) (wor a b c d e f x y z) := by
  unfold wor
  exact Sz.mono (((((((ha.mul hx).mul hx).add ((hb.mul hy).mul hy)).add ((hc.mul hz).mul hz)).add ((hd.mul hy).mul hz)).add ((he.mul hx).mul hz)).add ((hf.mul hx).mul hy)) (by omega)
def cro (a b c d e f x y z u v w : Int) : Int := wor a b c d e f (x + u) (y + v) (z + w) - wor a b c d e f x y z - wor a b c d e f u v w
theorem cro_eq {a b c d e f x y z u v w : Int} : cro a b c d e f x y z u v w = 2 * a * x * u + 2 * b * y * v + 2 * c * z * w + d * (y * w + z * v) + e * (x * w + z * u) + f * (x * v + y * u) := by
  unfold cro wor
  grind
def siz (a b c d e f : Int) : Int := 4 * a * b * c + d * e * f - a * d * d - b * e * e - c * f * f
theorem low3v {a b c : Int} (h : a ≠ 0 ∨ b ≠ 0 ∨ c ≠ 0) : ∃ s d e f : Int, s ≠ 0 ∧ a = s * d ∧ b = s * e ∧ c = s * f ∧ Low [d, e, f] ∧ lowP [a, b, c] = [d, e, f] := by
  have hx : ∃ x ∈ [a, b, c], x ≠ 0 := by
    rcases h with h | h | h
    · exact ⟨a, by simp, h⟩
    · exact ⟨b, by simp, h⟩
    · exact ⟨c, by simp, h⟩
  obtain ⟨h1, h2, h3⟩ := low_spec hx
  have e : lowP [a, b, c] = [a.fdiv (lowS [a, b, c]), b.fdiv (lowS [a, b, c]), c.fdiv (lowS [a, b, c])] := rfl
  rw [e] at h2 h3
  simp only [List.map_cons, List.map_nil, List.cons.injEq, and_true] at h2
  exact ⟨lowS [a, b, c], _, _, _, h1, h2.1, h2.2.1, h2.2.2, h3, e⟩
def det9 (a b c d e f g h i : Int) : Int := a * (e * i - f * h) + b * (f * g - d * i) + c * (d * h - e * g)
theorem det9_mul (a b c d e f g h i p q r s t u v w x : Int) :
    det9 (a * p + b * s + c * v) (a * q + b * t + c * w) (a * r + b * u + c * x) (d * p + e * s + f * v) (d * q + e * t + f * w) (d * r + e * u + f * x) (g * p + h * s + i * v) (g * q + h * t + i * w) (g * r + h * u + i * x) =
      det9 a b c d e f g h i * det9 p q r s t u v w x := by
  unfold det9
  grind
theorem det9_turn (a b c d e f g h i : Int) : det9 a d g b e h c f i = det9 a b c d e f g h i := by
  unfold det9
  grind
theorem siz_det (a b c d e f : Int) : 2 * siz a b c d e f = det9 (2 * a) f e f (2 * b) d e d (2 * c) := by
  unfold siz det9
  grind
theorem det9_cong {a b c d e f g h i a' b' c' d' e' f' g' h' i' : Int} (h1 : a = a') (h2 : b = b') (h3 : c = c') (h4 : d = d') (h5 : e = e') (h6 : f = f') (h7 : g = g') (h8 : h = h') (h9 : i = i') : det9 a b c d e f g h i = det9 a' b' c' d' e' f' g' h' i' := by
  subst h1 h2 h3 h4 h5 h6 h7 h8 h9
  rfl
theorem siz_changed (a b c d e f x1 y1 z1 x2 y2 z2 x3 y3 z3 : Int) :
    siz (wor a b c d e f x1 y1 z1) (wor a b c d e f x2 y2 z2) (wor a b c d e f x3 y3 z3) (cro a b c d e f x2 y2 z2 x3 y3 z3) (cro a b c d e f x1 y1 z1 x3 y3 z3) (cro a b c d e f x1 y1 z1 x2 y2 z2) =
      siz a b c d e f * det9 x1 x2 x3 y1 y2 y3 z1 z2 z3 * det9 x1 x2 x3 y1 y2 y3 z1 z2 z3 := by
  have h1 := siz_det (wor a b c d e f x1 y1 z1) (wor a b c d e f x2 y2 z2) (wor a b c d e f x3 y3 z3) (cro a b c d e f x2 y2 z2 x3 y3 z3) (cro a b c d e f x1 y1 z1 x3 y3 z3) (cro a b c d e f x1 y1 z1 x2 y2 z2)
  have h2 := det9_mul (2 * a) f e f (2 * b) d e d (2 * c) x1 x2 x3 y1 y2 y3 z1 z2 z3
  have h3 := det9_mul x1 y1 z1 x2 y2 z2 x3 y3 z3 (2 * a * x1 + f * y1 + e * z1) (2 * a * x2 + f * y2 + e * z2) (2 * a * x3 + f * y3 + e * z3) (f * x1 + 2 * b * y1 + d * z1) (f * x2 + 2 * b * y2 + d * z2) (f * x3 + 2 * b * y3 + d * z3) (e * x1 + d * y1 + 2 * c * z1) (e * x2 + d * y2 + 2 * c * z2) (e * x3 + d * y3 + 2 * c * z3)
  rw [h2, ← siz_det, det9_turn x1 x2 x3 y1 y2 y3 z1 z2 z3] at h3
  have h4 : 2 * siz (wor a b c d e f x1 y1 z1) (wor a b c d e f x2 y2 z2) (wor a b c d e f x3 y3 z3) (cro a b c d e f x2 y2 z2 x3 y3 z3) (cro a b c d e f x1 y1 z1 x3 y3 z3) (cro a b c d e f x1 y1 z1 x2 y2 z2) = det9 x1 x2 x3 y1 y2 y3 z1 z2 z3 * (2 * siz a b c d e f * det9 x1 x2 x3 y1 y2 y3 z1 z2 z3) := by
    rw [h1, ← h3]
    apply det9_cong <;> (try rw [cro_eq]) <;> (try unfold wor) <;> grind
  have h5 : 2 * siz (wor a b c d e f x1 y1 z1) (wor a b c d e f x2 y2 z2) (wor a b c d e f x3 y3 z3) (cro a b c d e f x2 y2 z2 x3 y3 z3) (cro a b c d e f x1 y1 z1 x3 y3 z3) (cro a b c d e f x1 y1 z1 x2 y2 z2) = 2 * (siz a b c d e f * det9 x1 x2 x3 y1 y2 y3 z1 z2 z3 * det9 x1 x2 x3 y1 y2 y3 z1 z2 z3) := by
    rw [h4]; grind
  omega
end DL

namespace DL
variable [HotA]
open PySem L2
theorem wor_mix {a b c d e f s t x y z u v w : Int} : wor a b c d e f (s * x + t * u) (s * y + t * v) (s * z + t * w) = s * s * wor a b c d e f x y z + s * t * cro a b c d e f x y z u v w + t * t * wor a b c d e f u v w := by
  rw [cro_eq]
  unfold wor
  grind
theorem mss {t : Int} (h : t * t = 0) : t = 0 := by rcases Int.mul_eq_zero.mp h with e | e <;> exact e
def way3 (x y z m n : Int) : Int × Int × Int := if z ≠ 0 then (m, n, 0) else if y ≠ 0 then (m, 0, n) else (0, m, n)
theorem Low.ne {x y z : Int} (h : Low [x, y, z]) : x ≠ 0 ∨ y ≠ 0 ∨ z ≠ 0 := by
  refine Classical.byContradiction fun k => ?_
  have : x = 0 ∧ y = 0 ∧ z = 0 := by omega
  have hf := h.f
  rw [this.1, this.2.1, this.2.2] at hf
  exact absurd hf (by decide)
theorem Low.same {x y z u v w s t : Int} (h : Low [x, y, z]) (k : Low [u, v, w]) (hs : s ≠ 0) (ht : t ≠ 0) (e1 : s * x = t * u) (e2 : s * y = t * v) (e3 : s * z = t * w) : x = u ∧ y = v ∧ z = w := by
  have a := (low_unique hs h).2
  have b := (low_unique ht k).2
  simp only [List.map_cons, List.map_nil] at a b
  rw [e1, e2, e3, b] at a
  simp only [List.cons.injEq, and_true] at a
  exact ⟨a.1.symm, a.2.1.symm, a.2.2.symm⟩
def eTupC (e : ES) : ES := fun x δ q => e x δ fun s => s.fr fun d => seqK d fun xs => q (.val (.tuple xs))
theorem u_eTupC {e : ES} {x : XP} {δ : List S} {q : S → Prop} : eTupC e x δ q = e x δ fun s => s.fr fun d => seqK d fun xs => q (.val (.tuple xs)) := (rfl)
section
variable {X : Cx} {W : WX} {e : Expr} {pos p1 : Pos}
end
end DL

namespace DL
open PySem L2
theorem can0 {s t : Int} (h : s ≠ 0) (e : s * t = 0) : t = 0 := (Int.mul_eq_zero.mp e).resolve_left h
theorem way3_mul {x y z m n T : Int} (h : T ≠ 0) : way3 (T * x) (T * y) (T * z) m n = way3 x y z m n := by
  have e : ∀ s : Int, (T * s ≠ 0) = (s ≠ 0) := fun s => propext ⟨fun k z => k (by rw [z, Int.mul_zero]), fun k => Int.mul_ne_zero h k⟩
  unfold way3
  simp only [e]
theorem wor_T {a b c d e f x y z T : Int} : wor a b c d e f (T * x) (T * y) (T * z) = T * T * wor a b c d e f x y z := by unfold wor; grind
theorem cro_T {a b c d e f x y z u v w T : Int} : cro a b c d e f (T * x) (T * y) (T * z) u v w = T * cro a b c d e f x y z u v w := by rw [cro_eq, cro_eq]; grind
def NumOf (a b c d e f x y z u v w m n : Int) : Prop :=
  (∃ s t : Int, s ≠ 0 ∧ t ≠ 0 ∧ s * x = t * u ∧ s * y = t * v ∧ s * z = t * w) ∧ cro a b c d e f x y z (way3 x y z m n).1 (way3 x y z m n).2.1 (way3 x y z m n).2.2 = 0 ∨
  ∃ l i j : Int, l ≠ 0 ∧ j ≠ 0 ∧ l * u = i * x + j * (way3 x y z m n).1 ∧ l * v = i * y + j * (way3 x y z m n).2.1 ∧ l * w = i * z + j * (way3 x y z m n).2.2
theorem NumOf.mul {a b c d e f x y z u v w m n s t : Int} (hs : s ≠ 0) (ht : t ≠ 0) (h : NumOf a b c d e f x y z u v w m n) : NumOf a b c d e f (s * x) (s * y) (s * z) (t * u) (t * v) (t * w) m n := by
  unfold NumOf at h ⊢
  rw [way3_mul hs, cro_T]
  rcases h with ⟨⟨s', t', h1, h2, e1, e2, e3⟩, h⟩ | ⟨l, i, j, h1, h2, e1, e2, e3⟩
  · refine .inl ⟨⟨s' * t, t' * s, Int.mul_ne_zero h1 ht, Int.mul_ne_zero h2 hs, by grind, by grind, by grind⟩, by rw [h, Int.mul_zero]⟩
  · exact .inr ⟨l * s, i * t, j * s * t, Int.mul_ne_zero h1 hs, Int.mul_ne_zero (Int.mul_ne_zero h2 hs) ht, by grind, by grind, by grind⟩
theorem Low.ne2 {x y : Int} (h : Low [x, y]) : x ≠ 0 ∨ y ≠ 0 := by
  refine Classical.byContradiction fun k => ?_
  have : x = 0 ∧ y = 0 := by omega
  have hf := h.f
  rw [this.1, this.2] at hf
  exact absurd hf (by decide)
theorem w_ne5 {b : Bool} {d : D} {q : S → Prop} : rNeD (.bool b) d q = (shapedB (.bool b) = true ∧ shapedB d = true ∧ q (.val (.bool (!PyData.eqv (.bool b) d)))) := by cases d <;> rfl
end DL

namespace DL
open PySem L2
abbrev Tri := Int × Int × Int
abbrev t3 (o : Tri) : D := .tuple [.int o.1, .int o.2.1, .int o.2.2]
abbrev t2 (o : Int × Int) : D := .tuple [.int o.1, .int o.2]
def lex3 (p q : Tri) : Bool := if p.1 = q.1 then (if p.2.1 = q.2.1 then decide (p.2.2 < q.2.2) else decide (p.2.1 < q.2.1)) else decide (p.1 < q.1)
def IsTrip (h : Heap) (v : Value) (p : Tri) : Prop := ∃ a o t u w n, v = .ref a ∧ h.get? a = some o ∧ o.cls = .type "tuple" ∧ o.data = .seq #[.int p.1 t, .int p.2.1 u, .int p.2.2 w] n
theorem IsTrip.uniq {h : Heap} {v : Value} {p q : Tri} (i : IsTrip h v p) (j : IsTrip h v q) : p = q := by
  obtain ⟨a, o, t, u, w, n, rfl, ho, hc, hd⟩ := i
  obtain ⟨a', o', t', u', w', n', e, ho', hc', hd'⟩ := j
  cases e
  rw [ho] at ho'
  cases ho'
  rw [hd] at hd'
  simp only [Data.seq.injEq] at hd'
  have := hd'.1
  simp at this
  exact Prod.ext this.1.1 (Prod.ext this.2.1.1 this.2.2.1)
section
open PySem.Spec PyProof.Rows
variable {prog : Program} {w : World} {A : Around} {s : Shared}
end
open Classical in
section
open PySem.Spec PyProof.Rows
variable {X : Cx}
def rSorted3D : RD
  | [.list xs], q => ∃ ts : List Tri, xs = ts.map t3 ∧ ∀ us : List Tri, us.Perm ts → us.Pairwise (fun x y => lex3 y x = false) → q (.own (us.map t3))
  | _, _ => False
def rLtTD : R2D
  | .tuple [.int a, .int b, .int c], .tuple [.int d, .int e, .int f], q => q (.val (.bool (lex3 (a, b, c) (d, e, f))))
  | _, _, _ => False
end
theorem w_sorted3 {xs : List D} {q : S → Prop} : rSorted3D [.list xs] q = ∃ ts : List Tri, xs = ts.map t3 ∧ ∀ us : List Tri, us.Perm ts → us.Pairwise (fun x y => lex3 y x = false) → q (.own (us.map t3)) := (rfl)
theorem w_ltT {a b c d e f : Int} {q : S → Prop} : rLtTD (.tuple [.int a, .int b, .int c]) (.tuple [.int d, .int e, .int f]) q = q (.val (.bool (lex3 (a, b, c) (d, e, f)))) := (rfl)
end DL

namespace DL
open PySem L2
theorem sq_part {s n r : Int} (h : s ≠ 0) (e : r * r = s * s * n) : ∃ r, r * r = n := by
  have d : s.natAbs ^ 2 ∣ r.natAbs ^ 2 := by
    rw [Nat.pow_two, Nat.pow_two]
    refine Int.natCast_dvd_natCast.mp ?_
    rw [Int.natCast_mul, Int.natCast_mul, Int.natAbs_mul_self', Int.natAbs_mul_self']
    exact ⟨n, e⟩
  have d := (Nat.pow_dvd_pow_iff (by decide)).mp d
  obtain ⟨k, rfl⟩ := Int.natAbs_dvd_natAbs.mp d
  refine ⟨k, Int.eq_of_mul_eq_mul_left (a := s * s) (Int.mul_ne_zero h h) ?_⟩
  rw [← e]
  grind
def adj (a b c d e f k l m : Int) : Int := (4 * b * c - d * d) * (k * k) + (4 * a * c - e * e) * (l * l) + (4 * a * b - f * f) * (m * m) + 2 * (e * f - 2 * a * d) * (l * m) + 2 * (d * f - 2 * b * e) * (k * m) + 2 * (d * e - 2 * c * f) * (k * l)
theorem adj_mul {a b c d e f k l m t : Int} : adj a b c d e f (t * k) (t * l) (t * m) = t * t * adj a b c d e f k l m := by unfold adj; grind
theorem disc_adj (a b c d e f x y z u v w : Int) : cro a b c d e f x y z u v w * cro a b c d e f x y z u v w - 4 * wor a b c d e f x y z * wor a b c d e f u v w = - adj a b c d e f (y * w - z * v) (z * u - x * w) (x * v - y * u) := by
  rw [cro_eq]
  unfold wor adj
  grind
def Cnt (D : Int) (n : Int) : Prop := (n = 1 ∧ D = 0) ∨ (n = 2 ∧ D ≠ 0 ∧ ∃ r, r * r = D) ∨ (n = 0 ∧ D ≠ 0 ∧ ¬ ∃ r, r * r = D)
theorem Cnt.uniq {D m n : Int} (h : Cnt D m) (k : Cnt D n) : m = n := by
  rcases h with ⟨rfl, h⟩ | ⟨rfl, h, h2⟩ | ⟨rfl, h, h2⟩ <;> rcases k with ⟨rfl, k⟩ | ⟨rfl, k, k2⟩ | ⟨rfl, k, k2⟩ <;> first | rfl | contradiction
theorem Cnt.of {D E s t n : Int} (h : s * s * D = t * t * E) (hs : s ≠ 0) (ht : t ≠ 0) (c : Cnt D n) : Cnt E n := by
  have s2 := Int.mul_ne_zero hs hs
  have t2 := Int.mul_ne_zero ht ht
  have z : D = 0 ↔ E = 0 := ⟨fun k => by rw [k, Int.mul_zero] at h; exact can0 t2 h.symm, fun k => by rw [k, Int.mul_zero] at h; exact can0 s2 h⟩
  have q : (∃ r, r * r = D) ↔ ∃ r, r * r = E :=
    ⟨fun ⟨r, k⟩ => sq_part ht (r := s * r) (by rw [← h, ← k]; grind), fun ⟨r, k⟩ => sq_part hs (r := t * r) (by rw [h, ← k]; grind)⟩
  unfold Cnt at *
  simp only [ne_eq, z, q] at c ⊢
  exact c
structure Ends2 (k l m : Int) (u v : Tri) : Prop where
  hu : k * u.1 + l * u.2.1 + m * u.2.2 = 0
  hv : k * v.1 + l * v.2.1 + m * v.2.2 = 0
  cr : ∃ s t : Int, s ≠ 0 ∧ t ≠ 0 ∧ s * (u.2.1 * v.2.2 - u.2.2 * v.2.1) = t * k ∧ s * (u.2.2 * v.1 - u.1 * v.2.2) = t * l ∧ s * (u.1 * v.2.1 - u.2.1 * v.1) = t * m
  sp : ∀ x y z : Int, k * x + l * y + m * z = 0 → ∃ r i j : Int, r ≠ 0 ∧ r * x = i * u.1 + j * v.1 ∧ r * y = i * u.2.1 + j * v.2.1 ∧ r * z = i * u.2.2 + j * v.2.2
theorem cnt_cross {a b c d e f k l m n p q r s t w S T : Int} (S0 : S ≠ 0) (T0 : T ≠ 0) (e1 : S * (q * w - r * t) = T * k) (e2 : S * (r * s - p * w) = T * l) (e3 : S * (p * t - q * s) = T * m)
    (h : Cnt (cro a b c d e f p q r s t w * cro a b c d e f p q r s t w - 4 * wor a b c d e f p q r * wor a b c d e f s t w) n) : Cnt (- adj a b c d e f k l m) n := by
  rw [disc_adj] at h
  refine h.of (s := S) (t := T) ?_ S0 T0
  have h1 := adj_mul (a := a) (b := b) (c := c) (d := d) (e := e) (f := f) (t := S) (k := q * w - r * t) (l := r * s - p * w) (m := p * t - q * s)
  rw [e1, e2, e3, adj_mul] at h1
  rw [Int.mul_neg, Int.mul_neg, h1]
theorem Ends2.cnt {a b c d e f k l m n : Int} {u v : Tri} (E : Ends2 k l m u v) (h : Cnt (cro a b c d e f u.1 u.2.1 u.2.2 v.1 v.2.1 v.2.2 * cro a b c d e f u.1 u.2.1 u.2.2 v.1 v.2.1 v.2.2 - 4 * wor a b c d e f u.1 u.2.1 u.2.2 * wor a b c d e f v.1 v.2.1 v.2.2) n) : Cnt (- adj a b c d e f k l m) n := by
  obtain ⟨s, t, s0, t0, e1, e2, e3⟩ := E.cr
  exact cnt_cross s0 t0 e1 e2 e3 h
theorem Ends2.free {k l m : Int} {u v : Tri} (E : Ends2 k l m u v) (h : k ≠ 0 ∨ l ≠ 0 ∨ m ≠ 0) : u.2.1 * v.2.2 - u.2.2 * v.2.1 ≠ 0 ∨ u.2.2 * v.1 - u.1 * v.2.2 ≠ 0 ∨ u.1 * v.2.1 - u.2.1 * v.1 ≠ 0 := by
  obtain ⟨s, t, s0, t0, e1, e2, e3⟩ := E.cr
  rcases h with h | h | h
  · exact .inl fun z => absurd e1 (by rw [z, Int.mul_zero]; exact fun y => Int.mul_ne_zero t0 h y.symm)
  · exact .inr (.inl fun z => absurd e2 (by rw [z, Int.mul_zero]; exact fun y => Int.mul_ne_zero t0 h y.symm))
  · exact .inr (.inr fun z => absurd e3 (by rw [z, Int.mul_zero]; exact fun y => Int.mul_ne_zero t0 h y.symm))
def mix (p : Int × Int) (u v : Tri) : Tri := (p.1 * u.1 + p.2 * v.1, p.1 * u.2.1 + p.2 * v.2.1, p.1 * u.2.2 + p.2 * v.2.2)
theorem Ends2.par {k l m : Int} {u v : Tri} (E : Ends2 k l m u v) (h : k ≠ 0 ∨ l ≠ 0 ∨ m ≠ 0) {p q : Int × Int} {s t : Int} (hs : s ≠ 0) (e1 : s * (mix p u v).1 = t * (mix q u v).1) (e2 : s * (mix p u v).2.1 = t * (mix q u v).2.1) (e3 : s * (mix p u v).2.2 = t * (mix q u v).2.2) : p.1 * q.2 = p.2 * q.1 := by
  have f := E.free h
  unfold mix at e1 e2 e3
  simp only at e1 e2 e3
  have w : ∀ D : Int, D ≠ 0 → (s * p.1 - t * q.1) * D = 0 → (s * p.2 - t * q.2) * D = 0 → p.1 * q.2 = p.2 * q.1 := fun D D0 h1 h2 => by
    have h1 : s * p.1 - t * q.1 = 0 := can0 D0 (by rw [Int.mul_comm]; exact h1)
    have h2 : s * p.2 - t * q.2 = 0 := can0 D0 (by rw [Int.mul_comm]; exact h2)
    have := can0 hs (show s * (p.1 * q.2 - p.2 * q.1) = 0 by grind)
    omega
  rcases f with f | f | f
  · exact w _ f (by grind) (by grind)
  · exact w _ f (by grind) (by grind)
  · exact w _ f (by grind) (by grind)
theorem Ends2.nz {k l m : Int} {u v : Tri} (E : Ends2 k l m u v) (h : k ≠ 0 ∨ l ≠ 0 ∨ m ≠ 0) {p : Int × Int} (hp : p.1 ≠ 0 ∨ p.2 ≠ 0) : (mix p u v).1 ≠ 0 ∨ (mix p u v).2.1 ≠ 0 ∨ (mix p u v).2.2 ≠ 0 := by
  refine Classical.byContradiction fun k => ?_
  have k : (mix p u v).1 = 0 ∧ (mix p u v).2.1 = 0 ∧ (mix p u v).2.2 = 0 := by omega
  have z : ∀ q : Int × Int, p.1 * q.2 = p.2 * q.1 := fun q => E.par h (s := 1) (t := 0) (by decide) (by rw [k.1]; simp) (by rw [k.2.1]; simp) (by rw [k.2.2]; simp)
  have z1 := z (1, 0)
  have z2 := z (0, 1)
  simp at z1 z2
  omega
structure Roots (A B C : Int) (ps : List (Int × Int)) : Prop where
  snd : ∀ p ∈ ps, (p.1 ≠ 0 ∨ p.2 ≠ 0) ∧ A * p.1 * p.1 + B * p.1 * p.2 + C * p.2 * p.2 = 0
  cmp : ∀ i j : Int, (i ≠ 0 ∨ j ≠ 0) → A * i * i + B * i * j + C * j * j = 0 → ∃ p ∈ ps, i * p.2 = j * p.1
  pw : ps.Pairwise fun p q => p.1 * q.2 ≠ p.2 * q.1
  cnt : Cnt (B * B - 4 * A * C) ps.length
theorem Roots.a {C : Int} (h : C ≠ 0) : Roots 0 0 C [(1, 0)] := by
  refine ⟨fun p hp => ?_, fun i j _ e => ⟨(1, 0), List.mem_singleton.mpr rfl, ?_⟩, .cons (fun _ h => nomatch h) .nil, .inl ⟨rfl, by simp⟩⟩
  · rw [List.mem_singleton.mp hp]
    exact ⟨.inl (by decide), by simp⟩
  · have : j = 0 := mss (can0 h (show C * (j * j) = 0 by grind))
    subst this
    simp
theorem Roots.b {B C : Int} (h : B ≠ 0) : Roots 0 B C [(1, 0), (C, 0 - B)] := by
  refine ⟨fun p hp => ?_, fun i j _ e => ?_, .cons (fun q hq => ?_) (.cons (fun _ h => nomatch h) .nil), .inr (.inl ⟨rfl, ?_, B, by simp⟩)⟩
  · simp only [List.mem_cons, List.not_mem_nil, or_false] at hp
    rcases hp with rfl | rfl
    · exact ⟨.inl (by decide), by simp⟩
    · exact ⟨.inr (by omega), by grind⟩
  · have e : j * (B * i + C * j) = 0 := by grind
    rcases Int.mul_eq_zero.mp e with rfl | e
    · exact ⟨(1, 0), List.mem_cons_self, by simp⟩
    · exact ⟨(C, 0 - B), by simp, by grind⟩
  · rw [List.mem_singleton.mp hq]
    simp only
    omega
  · have := Int.mul_ne_zero h h
    simp only [Int.mul_zero, Int.zero_mul, Int.sub_zero]
    exact this
theorem quad_sq {A B C i j : Int} (e : A * i * i + B * i * j + C * j * j = 0) : (2 * A * i + B * j) * (2 * A * i + B * j) = j * j * (B * B - 4 * A * C) := by grind
theorem Roots.no {A B C : Int} (h : A ≠ 0) (n : ¬ ∃ r, r * r = B * B - 4 * A * C) : Roots A B C [] := by
  refine ⟨fun _ h => (nomatch h), fun i j ij e => ?_, .nil, .inr (.inr ⟨rfl, fun z => n ⟨0, by rw [z]; rfl⟩, n⟩)⟩
  by_cases j0 : j = 0
  · subst j0
    have : i = 0 := mss (can0 h (show A * (i * i) = 0 by grind))
    omega
  · exact (n (sq_part j0 (quad_sq e))).elim
theorem Roots.one {A B C : Int} (h : A ≠ 0) (e : B * B - 4 * A * C = 0) : Roots A B C [(0 - B, 2 * A)] := by
  refine ⟨fun p hp => ?_, fun i j _ g => ⟨_, List.mem_singleton.mpr rfl, ?_⟩, .cons (fun _ h => nomatch h) .nil, .inl ⟨rfl, e⟩⟩
  · rw [List.mem_singleton.mp hp]
    exact ⟨.inr (by show 2 * A ≠ 0; omega), by simp only; grind⟩
  · have g := quad_sq g
    rw [e, Int.mul_zero] at g
    have g := mss g
    simp only
    grind
theorem Roots.two {A B C r : Int} (h : A ≠ 0) (e : r * r = B * B - 4 * A * C) (r0 : r ≠ 0) : Roots A B C [(r - B, 2 * A), (0 - r - B, 2 * A)] := by
  refine ⟨fun p hp => ?_, fun i j _ g => ?_, .cons (fun q hq => ?_) (.cons (fun _ h => nomatch h) .nil), .inr (.inl ⟨rfl, ?_, r, e⟩)⟩
  · simp only [List.mem_cons, List.not_mem_nil, or_false] at hp
    rcases hp with rfl | rfl
    · exact ⟨.inr (by show 2 * A ≠ 0; omega), by simp only; grind⟩
    · exact ⟨.inr (by show 2 * A ≠ 0; omega), by simp only; grind⟩
  · have g := quad_sq g
    have g : (2 * A * i + B * j - r * j) * (2 * A * i + B * j + r * j) = 0 := by grind
    rcases Int.mul_eq_zero.mp g with g | g
    · exact ⟨_, List.mem_cons_self, by simp only; grind⟩
    · exact ⟨(0 - r - B, 2 * A), by simp, by simp only; grind⟩
  · rw [List.mem_singleton.mp hq]
    simp only
    have : r * A ≠ 0 := Int.mul_ne_zero r0 h
    intro k
    have : r * A = 0 := by grind
    contradiction
  · rw [← e]
    exact Int.mul_ne_zero r0 r0
structure Met (a b c d e f k l m : Int) (P : Tri) : Prop where
  low : Low [P.1, P.2.1, P.2.2]
  ln : k * P.1 + l * P.2.1 + m * P.2.2 = 0
  cv : wor a b c d e f P.1 P.2.1 P.2.2 = 0
theorem Met.mul {a b c d e f k l m t : Int} {P : Tri} (t0 : t ≠ 0) : Met a b c d e f (k * t) (l * t) (m * t) P ↔ Met a b c d e f k l m P :=
  ⟨fun ⟨h1, h2, h3⟩ => ⟨h1, can0 t0 (by grind), h3⟩, fun ⟨h1, h2, h3⟩ => ⟨h1, by grind, h3⟩⟩
end DL

namespace DL
open PySem L2
def iRevR1 (e : ES) : EI := fun x δ q => e x δ fun s => s.fr fun d => numK [d] fun n => (0 ≤ n ∧ n < 2 ^ 62) ∧ q (rng3D (n - 1) (-1) n.toNat)
theorem u_iRevR1 {e : ES} {x : XP} {δ : List S} {q : List D → Prop} : iRevR1 e x δ q = e x δ fun s => s.fr fun d => numK [d] fun n => (0 ≤ n ∧ n < 2 ^ 62) ∧ q (rng3D (n - 1) (-1) n.toNat) := (rfl)
section
variable {X : Cx} {W : WX} {pos : Pos}
end
end DL

namespace DL
open PySem L2
def Nm (a b : Int) : Prop := ∃ x y z : Int, z ≠ 0 ∧ x * x - a * (y * y) = b * (z * z)
def Sol (a b : Int) : Prop := ∃ x y z : Int, (x ≠ 0 ∨ y ≠ 0 ∨ z ≠ 0) ∧ x * x = a * (y * y) + b * (z * z)
theorem sqn (x : Int) : 0 ≤ x * x := by
  rcases Int.le_total 0 x with z | z
  · exact Int.mul_nonneg z z
  · exact Int.mul_nonneg_of_nonpos_of_nonpos z z
theorem Sol.symm {a b : Int} (h : Sol a b) : Sol b a := by
  obtain ⟨x, y, z, h, e⟩ := h
  exact ⟨x, z, y, by omega, by omega⟩
theorem sq_one {a r : Int} (h : SqF a) (e : r * r = a) : a = 1 := by
  have n := h.no (r.natAbs : Int)
  have e2 : (r.natAbs : Int) * (r.natAbs : Int) = a := by rw [Int.natAbs_mul_self', e]
  rw [e2] at n
  have : r.natAbs < 2 := by
    refine Classical.byContradiction fun k => n (by omega) (Int.dvd_refl a)
  have ne := h.ne
  have : r.natAbs = 0 ∨ r.natAbs = 1 := by omega
  rcases this with k | k <;> rw [k] at e2 <;> omega
theorem sqf_norm {a x y : Int} (h : SqF a) (h1 : a ≠ 1) (e : x * x = a * (y * y)) : x = 0 ∧ y = 0 := by
  have y0 : y = 0 := Classical.byContradiction fun k => by
    obtain ⟨r, hr⟩ := sq_part k (show x * x = y * y * a by rw [e, Int.mul_comm])
    exact h1 (sq_one h hr)
  subst y0
  exact ⟨mss (by rw [e]; simp), rfl⟩
theorem Sol.nm {a b : Int} (h : SqF a) (s : Sol a b) : Nm a b := by
  by_cases h1 : a = 1
  · subst h1
    exact ⟨b + 1, b - 1, 2, by decide, by grind⟩
  obtain ⟨x, y, z, h0, e⟩ := s
  refine ⟨x, y, z, fun k => ?_, by omega⟩
  subst k
  have := sqf_norm h h1 (show x * x = a * (y * y) by omega)
  omega
theorem Nm.sol {a b : Int} (h : Nm a b) : Sol a b := by
  obtain ⟨x, y, z, h, e⟩ := h
  exact ⟨x, y, z, .inr (.inr h), by omega⟩
theorem Nm.mul {a b c : Int} (h : Nm a b) (k : Nm a c) : Nm a (b * c) := by
  obtain ⟨x, y, z, h, e⟩ := h
  obtain ⟨u, v, w, k, f⟩ := k
  refine ⟨x * u + a * (y * v), x * v + y * u, z * w, Int.mul_ne_zero h k, ?_⟩
  have : b * c * (z * w * (z * w)) = (b * (z * z)) * (c * (w * w)) := by grind
  rw [this, ← e, ← f]
  grind
theorem Nm.unsq {a b t : Int} (t0 : t ≠ 0) (h : Nm a (b * (t * t))) : Nm a b := by
  obtain ⟨x, y, z, h, e⟩ := h
  exact ⟨x, y, z * t, Int.mul_ne_zero h t0, by rw [e]; grind⟩
theorem Nm.sq {a b t : Int} (h : Nm a b) : Nm a (b * (t * t)) := by
  obtain ⟨x, y, z, h, e⟩ := h
  refine ⟨x * t, y * t, z, h, ?_⟩
  have : b * (t * t) * (z * z) = (b * (z * z)) * (t * t) := by grind
  rw [this, ← e]
  grind
theorem Nm.div {a b c : Int} (b0 : b ≠ 0) (h : Nm a b) (k : Nm a (b * c)) : Nm a c := by
  refine Nm.unsq b0 (b := c) ?_
  have := h.mul k
  rwa [show b * (b * c) = c * (b * b) by grind] at this
theorem Nm.of {a b c u w : Int} (u0 : u ≠ 0) (e : w * w - a = b * c * (u * u)) : Nm a (b * c) := ⟨w, 1, u, u0, by rw [← e]; simp⟩
theorem Low.no_pr {x y z p : Int} (h : Low [x, y, z]) (hp : Pr p) : ¬ (p ∣ x ∧ p ∣ y ∧ p ∣ z) := by
  intro ⟨h1, h2, h3⟩
  have e : ((p.toNat : Nat) : Int) = p := by have := hp.pos; omega
  have d : p.toNat ∣ gcdN [x, y, z] := dvd_gcdN fun t ht => by
    rw [e]
    simp only [List.mem_cons, List.not_mem_nil, or_false] at ht
    rcases ht with rfl | rfl | rfl <;> assumption
  have g : gcdN [x, y, z] = 1 := by have := h.g; unfold gcdL at this; unfold gcdN; omega
  rw [g] at d
  have := Nat.le_of_dvd (by decide) d
  have := hp.two
  omega
inductive Stp where
  | turn
  | down (w c u : Int)
def lastP (a b : Int) : Prop := a = 1 ∨ b = 1 ∨ a + b = 0
instance {a b : Int} : Decidable (lastP a b) := by unfold lastP; infer_instance
inductive Chn (a b : Int) : List (Stp × Int × Int) → Int → Int → Prop
  | nil : Chn a b [] a b
  | turn {L : List (Stp × Int × Int)} {a' b' : Int} : Chn a b L a' b' → ¬ lastP a' b' → b'.natAbs < a'.natAbs → Chn a b (L ++ [(.turn, a', b')]) b' a'
  | down {L : List (Stp × Int × Int)} {a' b' w c u : Int} : Chn a b L a' b' → ¬ lastP a' b' → a'.natAbs ≤ b'.natAbs → 0 ≤ w → 2 * w ≤ b'.natAbs → w * w - a' = b' * c * (u * u) → 1 ≤ u → SqF c → 2 ≤ b'.natAbs → 4 * c.natAbs ≤ b'.natAbs + 4 → Chn a b (L ++ [(.down w c u, a', b')]) a' c
theorem Chn.sqf {a b a' b' : Int} {L : List (Stp × Int × Int)} (h : Chn a b L a' b') (ha : SqF a) (hb : SqF b) : SqF a' ∧ SqF b' := by
  induction h with
  | nil => exact ⟨ha, hb⟩
  | turn _ _ _ ih => exact ⟨ih.2, ih.1⟩
  | down _ _ _ _ _ _ _ sc _ _ ih => exact ⟨ih.1, sc⟩
theorem Chn.sol {a b a' b' : Int} {L : List (Stp × Int × Int)} (h : Chn a b L a' b') (ha : SqF a) (hb : SqF b) (s : Sol a b) : Sol a' b' := by
  induction h with
  | nil => exact s
  | turn _ _ _ ih => exact ih.symm
  | down h _ _ _ _ e u1 _ _ _ ih =>
    have q := h.sqf ha hb
    exact ((ih.nm q.1).div q.2.ne (Nm.of (by omega) e)).sol
def bt (n : Nat) : Nat := if h : n = 0 then 0 else bt (n / 2) + 1
termination_by n
decreasing_by omega
theorem bt_mono : ∀ (k : Nat) {m n : Nat}, n ≤ k → m ≤ n → bt m ≤ bt n
  | 0, m, n, h, l => by
    have : m = 0 ∧ n = 0 := by omega
    rw [this.1, this.2]
    exact Nat.le_refl _
  | k + 1, m, n, h, l => by
    rw [bt.eq_1 m, bt.eq_1 n]
    split
    · exact Nat.zero_le _
    · rw [dif_neg (by omega)]
      have := bt_mono k (m := m / 2) (n := n / 2) (by omega) (by omega)
      omega
theorem bt_half {m n : Nat} (h : 2 * m ≤ n) (h0 : 0 < n) : bt m < bt n := by
  rw [bt.eq_1 n, dif_neg (by omega)]
  have := bt_mono _ (Nat.le_refl (n / 2)) (show m ≤ n / 2 by omega)
  omega
theorem bt_down {b c : Nat} (h2 : 2 ≤ b) (h : 4 * c ≤ b + 4) : bt c < bt b := bt_half (by omega) (by omega)
def wgt (a b : Int) : Nat := 2 * (bt a.natAbs + bt b.natAbs) + if b.natAbs < a.natAbs then 1 else 0
theorem wgt_turn {a b : Int} (h : b.natAbs < a.natAbs) : wgt b a + 1 = wgt a b := by
  unfold wgt
  rw [if_neg (by omega), if_pos h]
  omega
theorem wgt_down {a b c : Int} (h2 : 2 ≤ b.natAbs) (h : 4 * c.natAbs ≤ b.natAbs + 4) : wgt a c < wgt a b := by
  unfold wgt
  have := bt_down h2 h
  split <;> split <;> omega
theorem Chn.len {a b a' b' : Int} {L : List (Stp × Int × Int)} (h : Chn a b L a' b') : L.length + wgt a' b' ≤ wgt a b := by
  induction h with
  | nil => rw [List.length_nil]; omega
  | turn _ _ l ih =>
    rw [List.length_append, List.length_singleton]
    have := wgt_turn l
    omega
  | @down L a1 b1 w c u h _ _ _ _ _ _ _ h2 l ih =>
    rw [List.length_append, List.length_singleton]
    have := wgt_down (a := a1) h2 l
    omega
def lowT (P : Tri) : Tri := match lowP [P.1, P.2.1, P.2.2] with
  | [x, y, z] => (x, y, z)
  | _ => (0, 0, 0)
theorem lowT_eq {P : Tri} {x y z : Int} (h : lowP [P.1, P.2.1, P.2.2] = [x, y, z]) : lowT P = (x, y, z) := by unfold lowT; rw [h]
def backP (s : Stp) (a b : Int) (P : Tri) : Tri := match s with
  | .turn => (P.1, P.2.2, P.2.1)
  | .down w c u => lowT (w * P.1 + a * P.2.1, P.1 + w * P.2.1, c * u * P.2.2)
def bkL (L : List (Stp × Int × Int)) (P : Tri) : Tri := L.foldr (fun s P => backP s.1 s.2.1 s.2.2 P) P
structure OnP (a b : Int) (P : Tri) : Prop where
  nz : P.1 ≠ 0 ∨ P.2.1 ≠ 0 ∨ P.2.2 ≠ 0
  on : P.1 * P.1 = a * (P.2.1 * P.2.1) + b * (P.2.2 * P.2.2)
theorem OnP.low {a b : Int} {P : Tri} (h : OnP a b P) : OnP a b (lowT P) ∧ Low [(lowT P).1, (lowT P).2.1, (lowT P).2.2] := by
  obtain ⟨s, d, e, f, s0, h1, h2, h3, hL, eq⟩ := low3v h.nz
  rw [lowT_eq eq]
  refine ⟨⟨hL.ne, ?_⟩, hL⟩
  have on := h.on
  rw [h1, h2, h3] at on
  have := can0 (Int.mul_ne_zero s0 s0) (show s * s * (d * d - a * (e * e) - b * (f * f)) = 0 by grind)
  show d * d = a * (e * e) + b * (f * f)
  omega
theorem down_on {a b c u w x y z : Int} (ha : SqF a) (a1 : a ≠ 1) (e : w * w - a = b * c * (u * u)) (h : OnP a c (x, y, z)) : OnP a b (w * x + a * y, x + w * y, c * u * z) := by
  have on := h.on
  simp only at on
  refine ⟨?_, ?_⟩
  · refine Classical.byContradiction fun k => ?_
    have k1 : w * x + a * y = 0 := by simp only at k; omega
    have k2 : x + w * y = 0 := by simp only at k; omega
    have k3 : c * u * z = 0 := by simp only at k; omega
    have wa : w * w - a ≠ 0 := fun k => a1 (sq_one ha (show w * w = a by omega))
    have y0 : y = 0 := can0 wa (show (w * w - a) * y = 0 by grind)
    subst y0
    have x0 : x = 0 := by omega
    subst x0
    rw [e] at wa
    have z0 : z = 0 := by
      refine (Int.mul_eq_zero.mp k3).resolve_left fun cu => wa ?_
      have : b * c * (u * u) = b * u * (c * u) := by grind
      rw [this, cu, Int.mul_zero]
    have := h.nz
    simp only at this
    omega
  · simp only
    have e1 : (w * x + a * y) * (w * x + a * y) - a * ((x + w * y) * (x + w * y)) = (w * w - a) * (x * x - a * (y * y)) := by grind
    have e2 : x * x - a * (y * y) = c * (z * z) := by omega
    rw [e, e2] at e1
    have e3 : b * (c * u * z * (c * u * z)) = b * c * (u * u) * (c * (z * z)) := by grind
    rw [e3]
    omega
theorem bkL_append {L M : List (Stp × Int × Int)} {P : Tri} : bkL (L ++ M) P = bkL L (bkL M P) := by unfold bkL; rw [List.foldr_append]
theorem Chn.back {a b a' b' : Int} {L : List (Stp × Int × Int)} (h : Chn a b L a' b') (ha : SqF a) (hb : SqF b) : ∀ {P : Tri}, OnP a' b' P → OnP a b (bkL L P) := by
  induction h with
  | nil => exact fun h => h
  | turn _ _ _ ih =>
    intro P hP
    rw [bkL_append]
    refine ih ⟨?_, ?_⟩
    · show P.1 ≠ 0 ∨ P.2.2 ≠ 0 ∨ P.2.1 ≠ 0
      have := hP.nz
      omega
    · show P.1 * P.1 = _ * (P.2.2 * P.2.2) + _ * (P.2.1 * P.2.1)
      have := hP.on
      omega
  | down h nl _ _ _ e _ _ _ _ ih =>
    intro P hP
    rw [bkL_append]
    exact ih (down_on (h.sqf ha hb).1 (fun k => nl (.inl k)) e (x := P.1) (y := P.2.1) (z := P.2.2) hP).low.1
def lastT (a b : Int) : Tri := if a = 1 then (1, 1, 0) else if b = 1 then (1, 0, 1) else (0, 1, 1)
theorem lastT_on {a b : Int} (h : lastP a b) : OnP a b (lastT a b) := by
  unfold lastT
  split
  · rename_i e; subst e; exact ⟨.inl (by decide), by simp⟩
  · split
    · rename_i _ e; subst e; exact ⟨.inl (by decide), by simp⟩
    · refine ⟨.inr (.inl (by decide)), ?_⟩
      unfold lastP at h
      simp only
      omega
theorem OnP.sol {a b : Int} {P : Tri} (h : OnP a b P) : Sol a b := ⟨_, _, _, h.nz, h.on⟩
theorem Chn.sz {a b a' b' : Int} {M : Nat} {L : List (Stp × Int × Int)} (h : Chn a b L a' b') (ha : a.natAbs ≤ M) (hb : b.natAbs ≤ M) : a'.natAbs ≤ M ∧ b'.natAbs ≤ M := by
  induction h with
  | nil => exact ⟨ha, hb⟩
  | turn _ _ _ ih => exact ⟨ih.2, ih.1⟩
  | down _ _ _ _ _ _ _ _ h2 l ih => exact ⟨ih.1, by omega⟩
def prC (p : Int) : Bool := decide (2 ≤ p) && (List.range p.toNat).all fun d => decide (d < 2) || decide (p % (d : Int) ≠ 0)
theorem prC_ok {p : Int} (h : prC p = true) : Pr p := by
  unfold prC at h
  obtain ⟨h1, h2⟩ := (Bool.and_eq_true _ _).mp h
  refine ⟨by simpa using h1, fun d k1 k2 k3 => ?_⟩
  have w := List.all_eq_true.mp h2 d.toNat (List.mem_range.mpr (by omega))
  have e : ((d.toNat : Nat) : Int) = d := by omega
  rw [e] at w
  simp only [Bool.or_eq_true, decide_eq_true_eq] at w
  rcases w with z | z
  · omega
  · exact z (Int.emod_eq_zero_of_dvd k3)
theorem SqF.mul_pr {n p : Int} (h : SqF n) (hp : Pr p) (d : ¬ p ∣ n) : SqF (n * p) := by
  refine SqF.of_pr (Int.mul_ne_zero h.ne (by have := hp.pos; omega)) fun q hq k => ?_
  by_cases e : q = p
  · subst e
    obtain ⟨t, ht⟩ := k
    refine d ⟨t, ?_⟩
    have := hq.pos
    exact Int.eq_of_mul_eq_mul_right (a := q) (by omega) (by rw [ht]; grind)
  · refine h.no q hq.two ?_
    have hg : Int.gcd q p = 1 := by
      rcases hq.gcd (a := p) with z | z
      · exact absurd (hq.eq hp z) e
      · exact z
    obtain ⟨t, ht⟩ := k
    have q1 : q ∣ n := by
      refine copr_dvd hg (c := n) ?_
      exact ⟨q * t, by rw [Int.mul_comm p n, ht]; grind⟩
    obtain ⟨m, rfl⟩ := q1
    have q2 : q ∣ p * m := by
      refine ⟨t, Int.eq_of_mul_eq_mul_left (a := q) (by have := hq.pos; omega) ?_⟩
      rw [show q * (p * m) = q * m * p by grind, ht]
      grind
    exact Int.mul_dvd_mul (Int.dvd_refl q) (copr_dvd hg q2)
theorem SqF.one : SqF 1 := SqF.of_pr (by decide) fun p hp k => by
  have := Int.le_of_dvd (by decide) k
  have := hp.two
  have := Int.mul_le_mul_of_nonneg_left hp.two (show 0 ≤ p by omega)
  omega
end DL

namespace DL
open PySem L2
inductive OneS (a b : Int) : Stp × Int × Int → Int → Int → Prop
  | turn : ¬ lastP a b → b.natAbs < a.natAbs → OneS a b (.turn, a, b) b a
  | down {w c u : Int} : ¬ lastP a b → a.natAbs ≤ b.natAbs → 0 ≤ w → 2 * w ≤ b.natAbs → w * w - a = b * c * (u * u) → 1 ≤ u → SqF c → 2 ≤ b.natAbs → 4 * c.natAbs ≤ b.natAbs + 4 → OneS a b (.down w c u, a, b) a c
theorem snoc_one {α : Type} {L : List α} {x s : α} (e : L ++ [x] = [s]) : L = [] ∧ x = s := by
  cases L with
  | nil => simpa using e
  | cons y l => simp at e
theorem Chn.nil_iff {a b a' b' : Int} {N : List (Stp × Int × Int)} (h : Chn a b N a' b') (e : N = []) : a' = a ∧ b' = b := by
  cases h with
  | nil => exact ⟨rfl, rfl⟩
  | turn _ _ _ => simp at e
  | down _ _ _ _ _ _ _ _ _ _ => simp at e
theorem Chn.one {a b a' b' : Int} {N : List (Stp × Int × Int)} {s : Stp × Int × Int} (h : Chn a b N a' b') (e : N = [s]) : OneS a b s a' b' := by
  cases h with
  | nil => cases e
  | turn h nl l =>
    obtain ⟨e1, rfl⟩ := snoc_one e
    obtain ⟨rfl, rfl⟩ := h.nil_iff e1
    exact .turn nl l
  | down h nl l w0 w2 e3 u1 sc b2' l4 =>
    obtain ⟨e1, rfl⟩ := snoc_one e
    obtain ⟨rfl, rfl⟩ := h.nil_iff e1
    exact .down nl l w0 w2 e3 u1 sc b2' l4
end DL

namespace DL
open PySem PySem.Spec PyProof.Rows L2
abbrev set0 (w : World) : Obj := { cls := .type "set", dict := none, data := .set #[] 0 (.fresh 0 0 (!w.params.followText "set-order")) }
section
variable {P : Program} {w : World} {A : Around} {E : Value → Shared → Prop} {s : Shared}
theorem call_set_lst {l : Addr} {us : Array Value} (ks : List Int) {Q : Value → Shared → Prop} (free : A.handled = none) (il : s.heap.IsList l us) (ii : IntsAre us.toList ks) (few : ks.length + 1 < scanBound)
    (fin : ∀ (g : Heap) (tk c : Nat), SetR w g s.heap.objs.size (fun j => decide (j ∈ ks)) c → c ≤ ks.length → (∀ b o, s.heap.get? b = some o → g.get? b = some o) → Q (.ref s.heap.objs.size) { s with heap := g, toks := tk }) : wpAny (model P w) A (call (.type "set") [.ref l]) Q E s := by
  have zu : us.size = ks.length := by rw [← Array.length_toList]; exact IntsAre.length ii
  obtain ⟨c, tl, hmro⟩ := F.called_set.mro; have hmade := F.called_set.made; have hsub := F.called_set.sub
  refine wpAny_call (codeAny_of_tree ?_); show wpAny _ _ (callAny (.type "set") _) _ _ _
  refine wpAny_pure ⟨Code.quiet_builtin _ (by decide +kernel), codeAny_builtin F.entry_type_call ?_⟩; rw [Around.under_plain (weight_type_call_type "set" [.ref l] []) rfl]
  have h1 := F.called_set.notType; have h2 := F.called_set.canCreate; have hct := F.typeCall_set_1 (.ref l)
  repeat (any_goals (first | assumption | wp_step))
  refine codeAny_mono (code_set_led1 (.ref l) (E := E) (Q₁ := fun v t => v = .ref s.heap.objs.size ∧ t = { s with heap := s.heap.push (set0 w) }) ⟨rfl, rfl⟩) fun r t hr => ?_
  cases r with
  | error e => exact hr
  | ok fl =>
    cases fl with
    | ret v =>
      obtain ⟨rfl, rfl⟩ := hr
      have got : (s.heap.push (set0 w)).get? s.heap.objs.size = some (set0 w) := Heap.get?_push_size _ rfl
      have ty : Shared.TypeIs { s with heap := s.heap.push (set0 w) } (.ref s.heap.objs.size) "set" := ⟨_, got, rfl⟩
      have hli := F.called_set.init.lookup; have hbi := F.called_set.init.bind (.ref s.heap.objs.size)
      repeat (any_goals (first | assumption | wp_step))
      refine codeAny_mono (codeAny_call_builtin (R := wants (fun r t => r = .none ∧ ∃ g tk c, t = { s with heap := g, toks := tk } ∧ SetR w g s.heap.objs.size (fun j => decide (j ∈ ks)) c ∧ c ≤ ks.length ∧ (∀ b o, s.heap.get? b = some o → g.get? b = some o)) E) F.called_set.init.plain F.entry_set_init (check_set_init_1 ty ?_)) fun r2 t2 hr2 => ?_
      · obtain ⟨⟨lc, ld, lx, ls⟩, hol, hcl, nl, hdl⟩ := il
        simp only at hcl hdl; subst hcl; subst hdl
        have hol' : (s.heap.push (set0 w)).get? l = some { cls := .type "list", dict := ld, data := .seq us nl, slots := ls } := Heap.get?_push_of_some _ hol
        have n1 := F.sub_list_set; have n2 := F.sub_list_frozenset; have n3 : (Value.type "list" == Value.type "dict") = false := by decide
        have il1 : (s.heap.push (set0 w)).IsList l us := ⟨_, hol', rfl, nl, rfl⟩
        unfold Builtin.«set.__init__» noKeywords Builtin.Frozenset.updateFrom
        generalize hPI : pyIter = PI; wp_walk; subst hPI
        refine wpAny_pyIter_list il1 (wpAny_bind (wpAny_runValue ?_))
        have lt0 : l < s.heap.objs.size := Heap.lt_size hol
        have sz1 : (s.heap.push (set0 w)).objs.size = s.heap.objs.size + 1 := Heap.size_push ..
        refine set_update_ints ((Walks.list (show A.in1.in1.in1.handled = none by simp [free]) _ l (by rw [sz1]; exact Nat.ne_of_lt (Nat.lt_succ_of_lt lt0)) us).toS) s.heap.objs.size (by rw [sz1]; simp only [List.mem_cons, List.mem_singleton, List.not_mem_nil, or_false, not_or]; exact ⟨Nat.ne_of_lt (Nat.lt_succ_self _), Nat.ne_of_gt lt0⟩) ks zu few (fun i v hv => ?val) (us.size - 0) 0 _ (by omega) (Nat.zero_le _) ⟨⟨_, Heap.get?_push_size _ rfl, rfl, rfl⟩, (il1.push _)⟩ ?first ?last
        case val =>
          have hi : i < ks.length := by rw [← zu]; exact (Array.getElem?_eq_some_iff.mp hv).1
          obtain ⟨t, e⟩ := PyProof.Rows.IntsAre.int_at ii i v (by rw [Array.getElem?_toList]; exact hv)
          exact ⟨ks[i], t, List.getElem?_eq_getElem hi, by rw [e, List.getD_eq_getElem?_getD, List.getElem?_eq_getElem hi] <;> rfl⟩
        case first => exact ⟨0, Nat.le_refl 0, setR_new_at (Heap.get?_push_of_some _ got)⟩
        case last =>
          intro t c' hm hc' hS'
          obtain ⟨g, g2, d2, tk, o2⟩ := t
          obtain rfl : g2 = s.gens := hm.gens
          obtain rfl : d2 = s.drawn := hm.drawn
          obtain rfl : o2 = s.os := hm.os
          show wpAny _ _ _ _ _ _
          refine wpAny_pure ?_; show wpAny _ _ (ret Value.none) _ _ _
          refine wpAny_pure ⟨rfl, g, tk, c', rfl, hS', by omega, fun b o e => ?_⟩
          have lb : b < s.heap.objs.size := Heap.lt_size e
          exact hm.heap b o (by rw [sz1]; simp only [List.mem_cons, List.mem_singleton, List.not_mem_nil, or_false, not_or]; exact ⟨Nat.ne_of_lt lb, Nat.ne_of_lt (Nat.lt_succ_of_lt lb)⟩) (Heap.get?_push_of_some _ (Heap.get?_push_of_some _ e))
      · cases r2 with
        | error e => exact hr2
        | ok f2 =>
          cases f2 with
          | ret r =>
            obtain ⟨rfl, g, tk, c', rfl, hS', hc', hk'⟩ := hr2
            repeat (any_goals (first | assumption | wp_step))
            exact fin _ _ _ hS' hc' hk'
          | _ => exact hr2.elim
    | _ => exact hr.elim
end
end DL

namespace DL
open PySem PySem.Spec PyProof.Rows L2
def tSrtSet (K : PySem.W.Frag) (ta : TE) : TE := fun σ H Q => ta σ H fun x H1 => ∃ (l : Addr) (ks : List Int), x = .ref l ∧ SqL K H1 l (ks.map V.int) ∧ ks.length < 64 ∧ ∀ (ms : List Int) (p : Addr), ms.Pairwise (· < ·) → (∀ k, k ∈ ms ↔ k ∈ ks) → H1 p = none → Q (.ref p) (upd H1 p (.lst (ms.map V.int)))
theorem pe_srtSet {X : Cx} {a : Expr} {ta : TE} {p p2 q pos : Pos} (free : X.calm = true) (hm : X.mg "sorted" = none) (hm2 : X.mg "set" = none) (ha : PE X a ta) (hg : Gl X "sorted" := by rfl) (hg2 : Gl X "set" := by rfl)
    (n1 : starEach [a] X.env = (false, eval a X.env) :: starEach [] X.env := by rfl) : PE X (.Call (.Name "sorted" p) [.Call (.Name "set" p2) [a] [] q] [] pos) (tSrtSet X.K ta) := by
  refine ⟨fun pins s σ H Q I h => Call_ (ld_blt I hg hm boot_sorted (PyProof.Rows.callWith_builtin1 (PyProof.Rows.args_cons (Call_ (ld_blt I hg2 hm2 boot_set (PyProof.Rows.callWith_type1 (PyProof.Rows.args_cons (thn (ha.run pins s σ H _ I h) fun v s1 ⟨x, H1, I1, r1, q1⟩ => PyProof.Rows.args_nil ?_) n1) n1 rfl))) rfl) rfl rfl))⟩
  obtain ⟨l, ks, rfl, hl, few, fin⟩ := q1
  cases r1
  obtain ⟨its, rv, il, _⟩ := I1.list hl
  have nh := I1.ok.hd free
  refine call_set_lst ks nh (show s1.heap.IsList l its.toArray from il.isList) (ints_of_vals rv) (by unfold scanBound; omega) fun g tk c R hc keep => PyProof.Rows.args_nil ?_
  refine sorted_set R nh (by omega) fun t b out n ms k2 e1 e2 hb2 hg3 hi up hmem hml => ?_
  have kk : ∀ b o, s1.heap.get? b = some o → t.heap.get? b = some o := fun b o e => k2 b o (keep b o e)
  have le0 : s1.heap.objs.size ≤ b := by
    have := R.lt
    exact Nat.le_trans (Nat.le_of_lt this) hb2
  have vac : H1 b = none := I1.hok.fresh le0
  have lm : (ms.map V.int).length ≤ sizeLine := by rw [List.length_map, hml, sizeLine_eq]; omega
  have J : Inv X pins σ (upd H1 b (.lst (ms.map V.int))) { s1 with heap := t.heap, gens := t.gens, drawn := t.drawn, toks := t.toks } :=
    I1.call (ch := []) (Un.laid kk le0 vac) (I1.hok.laid kk le0 ⟨lm, out.toList, n, vals_of_ints hi, hg3⟩) (by rw [e1]; exact I1.bare) (fun _ z => nomatch z)
  have et : t = { s1 with heap := t.heap, gens := t.gens, drawn := t.drawn, toks := t.toks } := by
    cases t; cases s1; cases e2; rfl
  rw [et]
  exact ⟨.ref b, _, J, rfl, fin ms b up (fun k => (hmem k).trans decide_eq_true_iff) vac⟩
def eSrtSet (e : EP) : ES := fun x δ q => e x δ fun d => lstK d fun es => optK (nums es) fun ks => ks.length < 64 ∧ ∀ ms : List Int, ms.Pairwise (· < ·) → (∀ k, k ∈ ms ↔ k ∈ ks) → q (.own (ms.map PyData.int))
theorem u_eSrtSet {e : EP} {x : XP} {δ : List S} {q : S → Prop} : eSrtSet e x δ q = e x δ fun d => lstK d fun es => optK (nums es) fun ks => ks.length < 64 ∧ ∀ ms : List Int, ms.Pairwise (· < ·) → (∀ k, k ∈ ms ↔ k ∈ ks) → q (.own (ms.map PyData.int)) := (rfl)
theorem dpl_ints {K : PySem.W.Frag} (O : Hp) : ∀ l : List Int, DpAll K O (l.map V.int) (l.map PyData.int)
  | [] => .nil
  | i :: l => .cons (.int i) (dpl_ints O l)
theorem je_srtSet {X : Cx} {W : WX} {a : Expr} {da : EP} {p p2 q pos : Pos} (free : X.calm = true) (hm : X.mg "sorted" = none) (hm2 : X.mg "set" = none) (ha : JP X W a da) (hg : Gl X "sorted" := by rfl) (hg2 : Gl X "set" := by rfl)
    (n1 : starEach [a] X.env = (false, eval a X.env) :: starEach [] X.env := by rfl) : JE X W (.Call (.Name "sorted" p) [.Call (.Name "set" p2) [a] [] q] [] pos) (eSrtSet da) := by
  obtain ⟨ta, pa, sa⟩ := ha.ex
  refine ⟨_, pe_srtSet free hm hm2 pa hg hg2 n1, fun O H H0 σ δ x q Q so env hx hq g => ?_⟩
  refine sa O H H0 σ δ x _ _ so env hx (fun v O1 H1 d u1 r1 g1 => ?_) g
  unfold lstK at g1
  split at g1
  · obtain ⟨b, ys, rfl, qa, za⟩ := r1
    obtain ⟨ks, hk, few, fin⟩ := optK_iff g1
    have e := nums_of za hk
    subst e
    refine ⟨b, ks, rfl, qa, few, fun ms p up hm hp => ?_⟩
    have u2 := Up.own u1.oh hp (.lst (ms.map V.int))
    exact hq _ O1 _ (.own (ms.map PyData.int)) (u1.trans u2) ⟨p, _, rfl, u1.h.free hp, u1.oh.free hp, upd_same, dpl_ints _ ms⟩ (fin ms up hm)
  · exact g1.elim
end DL

namespace DL
open PySem L2
theorem H2_par {i i' j j' : Nat} {u u' v v' : Int} (hi : (i : Int) % 2 = (i' : Int) % 2) (hj : (j : Int) % 2 = (j' : Int) % 2) (hu : u % 8 = u' % 8) (hv : v % 8 = v' % 8) (ou : u' % 2 = 1) (ov : v' % 2 = 1) : H2 i u j v = H2 i' u' j' v' := by
  obtain ⟨m, r, a1, a2⟩ := sq8 ou
  obtain ⟨n, s, b1, b2⟩ := sq8 ov
  obtain ⟨a, rfl⟩ : ∃ a, u = u' + 8 * a := ⟨(u - u') / 8, by omega⟩
  obtain ⟨b, rfl⟩ : ∃ b, v = v' + 8 * b := ⟨(v - v') / 8, by omega⟩
  obtain ⟨x, hx⟩ : ∃ x, (i : Int) = i' + 2 * x := ⟨(i - i') / 2, by omega⟩
  obtain ⟨y, hy⟩ : ∃ y, (j : Int) = j' + 2 * y := ⟨(j - j') / 2, by omega⟩
  rw [H2_eq (show u' + 8 * a = 2 * (m + 4 * a) + 1 by omega) (show (u' + 8 * a) * (u' + 8 * a) = 8 * (r + 2 * a * u' + 8 * a * a) + 1 by grind) (show v' + 8 * b = 2 * (n + 4 * b) + 1 by omega) (show (v' + 8 * b) * (v' + 8 * b) = 8 * (s + 2 * b * v' + 8 * b * b) + 1 by grind), H2_eq a1 a2 b1 b2, hx, hy]
  refine sg_par ?_
  rw [show (m + 4 * a) * (n + 4 * b) + ((i' : Int) + 2 * x) * (s + 2 * b * v' + 8 * b * b) + ((j' : Int) + 2 * y) * (r + 2 * a * u' + 8 * a * a) - (m * n + i' * s + j' * r) = 2 * (2 * m * b + 2 * a * n + 8 * a * b + i' * (b * v' + 4 * b * b) + x * (s + 2 * b * v' + 8 * b * b) + j' * (a * u' + 4 * a * a) + y * (r + 2 * a * u' + 8 * a * a)) by grind]
  omega
theorem sg_even {x : Int} (h : x % 2 = 0) : sg x = 1 := by unfold sg; rw [if_pos h]
theorem HO_even {p u v : Int} {i j : Nat} (hi : i % 2 = 0) (h : j % 2 = 0 ∨ J u p = 1) : HO p i u j v = 1 := by
  unfold HO
  obtain ⟨m, hm⟩ : ∃ m : Int, (i : Int) = 2 * m := ⟨(i : Int) / 2, by omega⟩
  rw [sg_even (by rw [hm, show 2 * m * (j : Int) * ((p - 1) / 2) = 2 * (m * j * ((p - 1) / 2)) by grind]; omega), if_neg (by omega : ¬ i % 2 = 1)]
  rcases h with h | h
  · rw [if_neg (by omega)]; rfl
  · rw [h]; split <;> rfl
theorem parts_lt {p u v w : Int} {i j k : Nat} (hp : Pr p) (A : ¬ p ∣ u) (C : ¬ p ∣ w) (hl : i < j) (e : p ^ i * u + p ^ j * v = p ^ k * w * (p ^ k * w)) : i = 2 * k ∧ u + p ^ (j - i) * v = w * w := by
  have n : ¬ p ∣ u + p ^ (j - i) * v := fun h => A (by
    have d : p ∣ p ^ (j - i) * v := Int.dvd_mul_of_dvd_left ⟨p ^ (j - i - 1), by
      have : p ^ (j - i) = p ^ (j - i - 1 + 1) := by congr 1; omega
      rw [this, Int.pow_succ, Int.mul_comm]⟩
    have := Int.dvd_sub h d
    rwa [show u + p ^ (j - i) * v - p ^ (j - i) * v = u by omega] at this)
  have nw : ¬ p ∣ w * w := fun h => C (by rcases hp.euclid h with z | z <;> exact z)
  have P1 : Pt p (p ^ i * (u + p ^ (j - i) * v)) i (u + p ^ (j - i) * v) := ⟨rfl, n⟩
  have P2 : Pt p (p ^ i * (u + p ^ (j - i) * v)) (2 * k) (w * w) := ⟨by
    have : p ^ j = p ^ i * p ^ (j - i) := by rw [← Int.pow_add]; congr 1; omega
    rw [Int.mul_add, ← Int.mul_assoc, ← this, e, show p ^ (2 * k) = p ^ k * p ^ k by rw [← Int.pow_add]; congr 1; omega]
    grind, nw⟩
  exact P1.unique hp.two P2
theorem parts_eq {p u v w : Int} {i k : Nat} (hp : Pr p) (w0 : w ≠ 0) (C : ¬ p ∣ w) (e : p ^ i * u + p ^ i * v = p ^ k * w * (p ^ k * w)) : ∃ d : Nat, i + d = 2 * k ∧ u + v = p ^ d * (w * w) := by
  have nw : ¬ p ∣ w * w := fun h => C (by rcases hp.euclid h with z | z <;> exact z)
  have e2 : p ^ i * (u + v) = p ^ (2 * k) * (w * w) := by
    rw [Int.mul_add, e, show p ^ (2 * k) = p ^ k * p ^ k by rw [← Int.pow_add]; congr 1; omega]
    grind
  have n0 : u + v ≠ 0 := fun z => by
    rw [z, Int.mul_zero] at e2
    have := Int.mul_ne_zero (pow_ne' hp.two (2 * k)) (Int.mul_ne_zero w0 w0)
    omega
  have T := pt_ok hp.two n0
  have P1 : Pt p (p ^ i * (u + v)) (i + (pt p (u + v)).1) (pt p (u + v)).2 := ⟨by
    rw [Int.pow_add, Int.mul_assoc, ← T.eq], T.no⟩
  have P2 : Pt p (p ^ i * (u + v)) (2 * k) (w * w) := ⟨e2, nw⟩
  obtain ⟨h1, h2⟩ := P1.unique hp.two P2
  refine ⟨_, h1, ?_⟩
  rw [← h2]
  exact T.eq
theorem H2_add1 {u v w : Int} {i j k : Nat} (hl : i < j) (ov : v % 2 = 1) (ow : w % 2 = 1) (e1 : i = 2 * k) (e2 : u + 2 ^ (j - i) * v = w * w) : H2 i u j v = 1 := by
  obtain ⟨m, q, _, hq⟩ := sq8 ow
  have od : (1 - 2 ^ (j - i) * v) % 2 = 1 := by
    have : (2 : Int) ^ (j - i) = 2 * 2 ^ (j - i - 1) := by
      rw [Int.mul_comm, ← Int.pow_succ]; congr 1; omega
    rw [this, Int.mul_assoc]
    omega
  have h1 := H2_one (i := j - i) (u := v) (by omega) ov
  rw [H2_comm, H2_par (i' := j - i) (u' := v) (j' := 0) (v' := 1 - 2 ^ (j - i) * v) (by omega) (by omega) rfl (by omega) ov od]
  exact h1
theorem H2_add2 {u v w : Int} {i k d : Nat} (ou : u % 2 = 1) (ov : v % 2 = 1) (ow : w % 2 = 1) (e1 : i + d = 2 * k) (e2 : u + v = 2 ^ d * (w * w)) : H2 i u i v = 1 := by
  obtain ⟨m, q, _, hq⟩ := sq8 ow
  rw [hq] at e2
  have cs : d = 0 ∨ d = 1 ∨ d = 2 ∨ 3 ≤ d := by omega
  have c4 : u % 8 = 1 ∨ u % 8 = 3 ∨ u % 8 = 5 ∨ u % 8 = 7 := by omega
  rcases cs with rfl | rfl | rfl | h3
  · rw [Int.pow_zero] at e2
    omega
  · rw [Int.pow_one] at e2
    rcases c4 with c | c | c | c
    · rw [H2_par (i' := 1) (j' := 1) (u' := 1) (v' := 1) (by omega) (by omega) (by omega) (by omega) rfl rfl]; decide
    · rw [H2_par (i' := 1) (j' := 1) (u' := 3) (v' := 7) (by omega) (by omega) (by omega) (by omega) rfl rfl]; decide
    · rw [H2_par (i' := 1) (j' := 1) (u' := 5) (v' := 5) (by omega) (by omega) (by omega) (by omega) rfl rfl]; decide
    · rw [H2_par (i' := 1) (j' := 1) (u' := 7) (v' := 3) (by omega) (by omega) (by omega) (by omega) rfl rfl]; decide
  · have e2 : u + v = 4 * (8 * q + 1) := e2
    rcases c4 with c | c | c | c
    · rw [H2_par (i' := 0) (j' := 0) (u' := 1) (v' := 3) (by omega) (by omega) (by omega) (by omega) rfl rfl]; decide
    · rw [H2_par (i' := 0) (j' := 0) (u' := 3) (v' := 1) (by omega) (by omega) (by omega) (by omega) rfl rfl]; decide
    · rw [H2_par (i' := 0) (j' := 0) (u' := 5) (v' := 7) (by omega) (by omega) (by omega) (by omega) rfl rfl]; decide
    · rw [H2_par (i' := 0) (j' := 0) (u' := 7) (v' := 5) (by omega) (by omega) (by omega) (by omega) rfl rfl]; decide
  · obtain ⟨l, rfl⟩ := Nat.exists_eq_add_of_le h3
    rw [Int.pow_add, Int.mul_assoc] at e2
    generalize (2 : Int) ^ l * (8 * q + 1) = c at e2
    have e2 : u + v = 8 * c := e2
    rw [H2_par (i' := i) (j' := i) (u' := u) (v' := 0 - u) rfl rfl rfl (by omega) ou (by omega)]
    exact H2_neg ou
theorem hil_add {p u v w : Int} (hp : p = 0 ∨ Pr p) (hu : u ≠ 0) (hv : v ≠ 0) (hw : w ≠ 0) (e : u + v = w * w) : hil p u v = 1 := by
  rcases hp with rfl | hp
  · unfold hil
    rw [if_pos rfl, if_neg]
    have := sqn w
    omega
  have A := pt_ok hp.two hu
  have B := pt_ok hp.two hv
  have C := pt_ok hp.two hw
  have w0 : (pt p w).2 ≠ 0 := fun z => C.no (by rw [z]; exact Int.dvd_zero p)
  have e' : p ^ (pt p u).1 * (pt p u).2 + p ^ (pt p v).1 * (pt p v).2 = p ^ (pt p w).1 * (pt p w).2 * (p ^ (pt p w).1 * (pt p w).2) := by rw [← A.eq, ← B.eq, ← C.eq]; exact e
  unfold hil
  have p0 := hp.pos
  rw [if_neg (by omega)]
  by_cases h2 : p = 2
  · subst h2
    rw [if_pos rfl]
    generalize (pt 2 u).1 = i at *
    generalize (pt 2 u).2 = a at *
    generalize (pt 2 v).1 = j at *
    generalize (pt 2 v).2 = b at *
    generalize (pt 2 w).1 = k at *
    generalize (pt 2 w).2 = c at *
    have an := A.no
    have bn := B.no
    have cn := C.no
    clear A B C
    have oa := odd_of an
    have ob := odd_of bn
    have oc := odd_of cn
    rcases Nat.lt_trichotomy i j with hl | rfl | hl
    · obtain ⟨e1, e2⟩ := parts_lt hp an cn hl e'
      exact H2_add1 hl ob oc e1 e2
    · obtain ⟨d, e1, e2⟩ := parts_eq hp w0 cn e'
      exact H2_add2 oa ob oc e1 e2
    · obtain ⟨e1, e2⟩ := parts_lt hp bn cn hl (by rw [Int.add_comm]; exact e')
      rw [H2_comm]
      exact H2_add1 hl oa oc e1 e2
  · rw [if_neg h2]
    generalize (pt p u).1 = i at *
    generalize (pt p u).2 = a at *
    generalize (pt p v).1 = j at *
    generalize (pt p v).2 = b at *
    generalize (pt p w).1 = k at *
    generalize (pt p w).2 = c at *
    have an := A.no
    have bn := B.no
    have cn := C.no
    clear A B C
    have near : ∀ {x y : Int} {d : Nat}, ¬ p ∣ x → 1 ≤ d → x + p ^ d * y = c * c → J x p = 1 := fun {x y d} hx hd ex => by
      refine J_square hp h2 hx (y := c) ?_
      rw [← ex, show x + p ^ d * y - x = p ^ d * y by omega]
      refine Int.dvd_mul_of_dvd_left ⟨p ^ (d - 1), ?_⟩
      have : p ^ d = p ^ (d - 1 + 1) := by congr 1; omega
      rw [this, Int.pow_succ, Int.mul_comm]
    rcases Nat.lt_trichotomy i j with hl | rfl | hl
    · obtain ⟨e1, e2⟩ := parts_lt hp an cn hl e'
      exact HO_even (by omega) (.inr (near an (by omega) e2))
    · obtain ⟨d, e1, e2⟩ := parts_eq hp w0 cn e'
      by_cases d0 : d = 0
      · exact HO_even (by omega) (.inl (by omega))
      · have dv : p ∣ b - (0 - a) := by
          rw [show b - (0 - a) = a + b by omega, e2]
          refine Int.dvd_mul_of_dvd_left ⟨p ^ (d - 1), ?_⟩
          have : p ^ d = p ^ (d - 1 + 1) := by congr 1; omega
          rw [this, Int.pow_succ, Int.mul_comm]
        have hn := HO_neg (i := i) hp h2 an
        unfold HO at hn ⊢
        rw [J_cong dv]
        exact hn
    · obtain ⟨e1, e2⟩ := parts_lt hp bn cn hl (by rw [Int.add_comm]; exact e')
      rw [HO_comm]
      exact HO_even (by omega) (.inr (near bn (by omega) e2))
theorem hil_by_one {p a : Int} (hp : p = 0 ∨ Pr p) (ha : a ≠ 0) : hil p a 1 = 1 := by
  have h := hil_mul (b := 1) (c := 1) hp ha (by decide) (by decide)
  rw [Int.one_mul] at h
  rcases hil_or (b := 1) hp ha (by decide) with k | k
  · exact k
  · rw [k] at h
    exact absurd h (by decide)
theorem hil_norm {p a w v : Int} (hp : p = 0 ∨ Pr p) (ha : a ≠ 0) (hv : v ≠ 0) (e : w * w - a = v) : hil p a v = 1 := by
  by_cases w0 : w = 0
  · subst w0
    have : v = 0 - a := by omega
    rw [this]
    exact hil_neg hp ha
  · exact hil_add hp ha hv w0 (by omega)
theorem hil_sq' {p a b c : Int} (hp : p = 0 ∨ Pr p) (ha : a ≠ 0) (hb : b ≠ 0) (hc : c ≠ 0) : hil p a (b * (c * c)) = hil p a b := by
  rw [← Int.mul_assoc]
  exact hil_sq hp ha hb hc
theorem Sol.hil {a b p : Int} (hp : p = 0 ∨ Pr p) (ha : SqF a) (hb : SqF b) (s : Sol a b) : hil p a b = 1 := by
  by_cases a1 : a = 1
  · subst a1
    rw [hil_comm]
    exact hil_by_one hp hb.ne
  obtain ⟨x, y, z, z0, e⟩ := s.nm ha
  have a0 := ha.ne
  have b0 := hb.ne
  by_cases y0 : y = 0
  · subst y0
    have e : x * x = b * (z * z) := by omega
    obtain ⟨r, hr⟩ := sq_part z0 (show x * x = z * z * b by rw [e, Int.mul_comm])
    rw [sq_one hb hr]
    exact hil_by_one hp a0
  have bz := Int.mul_ne_zero b0 (Int.mul_ne_zero z0 z0)
  have ay := Int.mul_ne_zero a0 (Int.mul_ne_zero y0 y0)
  have h : DL.hil p (a * (y * y)) (b * (z * z)) = 1 := by
    by_cases x0 : x = 0
    · subst x0
      have : b * (z * z) = 0 - a * (y * y) := by omega
      rw [this]
      exact hil_neg hp ay
    · exact hil_add hp ay bz x0 (by omega)
  rw [hil_sq' hp ay b0 z0, hil_comm, hil_sq' hp b0 a0 y0, hil_comm] at h
  exact h
theorem Chn.hil {a b a' b' p : Int} {L : List (Stp × Int × Int)} (hp : p = 0 ∨ Pr p) (h : Chn a b L a' b') (ha : SqF a) (hb : SqF b) : hil p a' b' = hil p a b := by
  induction h with
  | nil => rfl
  | turn _ _ _ ih => rw [hil_comm]; exact ih
  | @down L a1 b1 w c u h nl _ _ _ e u1 sc _ _ ih =>
    have q := h.sqf ha hb
    have bc := Int.mul_ne_zero q.2.ne sc.ne
    have n0 : b1 * c * (u * u) ≠ 0 := Int.mul_ne_zero bc (Int.mul_ne_zero (by omega) (by omega))
    have h1 := hil_norm hp q.1.ne n0 e
    rw [hil_sq' hp q.1.ne bc (by omega), hil_mul hp q.1.ne q.2.ne sc.ne, ih] at h1
    rcases hil_or (a := a) (b := b) hp ha.ne hb.ne with k | k <;> rw [k] at h1 ⊢ <;> omega
theorem hil_none {p a b : Int} (hp : Pr p) (hb : SqF b) (d : p ∣ b) (hn : ∀ y, ¬ p ∣ y * y - a) : p ≠ 2 ∧ hil p a b = -1 := by
  have pa : ¬ p ∣ a := fun k => hn 0 (by rw [show (0 : Int) * 0 - a = -a by omega]; exact Int.dvd_neg.mpr k)
  have p2 : p ≠ 2 := fun k => by
    subst k
    refine hn a ?_
    obtain ⟨m, hm⟩ : ∃ m, a = 2 * m ∨ a = 2 * m + 1 := ⟨a / 2, by omega⟩
    rcases hm with rfl | rfl
    · exact ⟨2 * m * m - m, by grind⟩
    · exact ⟨2 * m * m + m, by grind⟩
  refine ⟨p2, ?_⟩
  obtain ⟨v, rfl⟩ := d
  have pv : ¬ p ∣ v := fun k => hb.no p hp.two (Int.mul_dvd_mul (Int.dvd_refl p) k)
  have P1 : Pt p (p * v) 1 v := ⟨by rw [Int.pow_one], pv⟩
  have := hp.pos
  unfold DL.hil
  rw [if_neg (by omega), if_neg p2, (Pt.zero pa).pt hp.two, P1.pt hp.two]
  unfold HO
  rw [J_no_square hp p2 pa hn]
  simp
  decide
theorem hil_away {p a b : Int} (hp : Pr p) (p2 : p ≠ 2) (ha : ¬ p ∣ a) (hb : ¬ p ∣ b) : hil p a b = 1 := by
  have := hp.pos
  unfold hil
  rw [if_neg (by omega), if_neg p2, (Pt.zero ha).pt hp.two, (Pt.zero hb).pt hp.two]
  exact HO_even rfl (.inl rfl)
end DL

namespace DL
open PySem L2
def S.ob : S → (V → D → List Addr → Prop) → Prop
  | .obj v d fp, k => k v d fp
  | _, _ => False
theorem w_ob {v : V} {d : D} {fp : List Addr} {k : V → D → List Addr → Prop} : (S.obj v d fp).ob k = k v d fp := (rfl)
theorem w_fr3 {v : V} {d : D} {fp : List Addr} {k : D → Prop} : (S.obj v d fp).fr k = (isDct d = false ∧ k d) := (rfl)
theorem w_any3 {v : V} {d : D} {fp : List Addr} {k : S → Prop} : (S.obj v d fp).any k = k (.obj v d fp) := (rfl)
def eNst (n : Nat) : ES := fun _ _ q => ∀ v fp, q (.obj v (.list (List.replicate n (.list []))) fp)
theorem u_eNst {n : Nat} {x : XP} {δ : List S} {q : S → Prop} : eNst n x δ q = ∀ v fp, q (.obj v (.list (List.replicate n (.list []))) fp) := (rfl)
section
variable {X : Cx} {W : WX} {pos : Pos}
end
theorem OwAll.snoc {K : PySem.W.Frag} {O H : Hp} : ∀ {vs : List V} {ds : List D} {fp : List Addr} {y : V} {c : D}, OwAll K O H vs ds fp → Dp K O y c → noLst c = true → OwAll K O H (vs ++ [y]) (ds ++ [c]) fp
  | _, _, _, _, _, .nil, h, n => OwAll.cons (f := []) (.dat h n) .nil
  | _, _, _, _, _, @OwAll.cons _ _ _ v vs d ds f g h a, k, n => OwAll.cons (f := f) (g := g) h (OwAll.snoc a k n)
theorem OwAll.length {K : PySem.W.Frag} {O H : Hp} : ∀ {vs : List V} {ds : List D} {fp : List Addr}, OwAll K O H vs ds fp → vs.length = ds.length
  | _, _, _, .nil => rfl
  | _, _, _, .cons _ a => congrArg (· + 1) a.length
theorem OwAll.at {K : PySem.W.Frag} {O H : Hp} : ∀ {vs : List V} {ds : List D} {fp : List Addr}, OwAll K O H vs ds fp → ∀ {j : Nat} {r : List D}, ds[j]? = some (.list r) → ∃ b ws, vs[j]? = some (.ref b) ∧ H b = some (.lst ws) ∧ ws.length = r.length ∧ b ∈ fp
  | _, _, _, .nil, j, _, e => by simp at e
  | _, _, _, @OwAll.cons _ _ _ v vs d ds f g h a, 0, r, e => by
    simp only [List.getElem?_cons_zero, Option.some.injEq] at e
    subst e
    cases h with
    | dat _ z => unfold noLst at z; cases z
    | lst hb aw => exact ⟨_, _, rfl, hb, aw.length, List.mem_append_left _ List.mem_cons_self⟩
  | _, _, _, @OwAll.cons _ _ _ v vs d ds f g h a, j + 1, r, e => by
    simp only [List.getElem?_cons_succ] at e
    obtain ⟨b, ws, h1, h2, h3, h4⟩ := OwAll.at a e
    exact ⟨b, ws, by simpa using h1, h2, h3, List.mem_append_right _ h4⟩
def sAppN (i : Nat) (k e : ES) : ST := fun D δ => (lk δ i).ob fun v d fp => k (fun x => D.ex x δ) δ fun t => t.nm fun n => lstK d fun rows => ∃ j r, ixN rows.length n = some j ∧ rows[j]? = some (.list r) ∧ e (fun x => D.ex x δ) δ fun s => s.fr fun c => noLst c = true ∧ r.length < sizeLine ∧ D.nx (put δ i (.obj v (.list (rows.set j (.list (r ++ [c])))) fp))
theorem u_sAppN {i : Nat} {k e : ES} {D : DL.Ends} {δ : List S} : sAppN i k e D δ = (lk δ i).ob fun v d fp => k (fun x => D.ex x δ) δ fun t => t.nm fun n => lstK d fun rows => ∃ j r, ixN rows.length n = some j ∧ rows[j]? = some (.list r) ∧ e (fun x => D.ex x δ) δ fun s => s.fr fun c => noLst c = true ∧ r.length < sizeLine ∧ D.nx (put δ i (.obj v (.list (rows.set j (.list (r ++ [c])))) fp)) := (rfl)
section
variable {X : Cx} {W : WX} {pos : Pos}
end
end DL

namespace DL
open PySem L2
def gM : List Nat → List D → List S → (List S → Prop) → Prop
  | [], [], δ, q => q δ
  | i :: is, d :: ds, δ, q => if isFlat d = true then gM is ds (put δ i (.val d)) q else ∀ v f, gM is ds (put δ i (.obj v d f)) q
  | _, _, _, _ => False
theorem w_gM0 {δ : List S} {q : List S → Prop} : gM [] [] δ q = q δ := (rfl)
theorem w_gM1 {i : Nat} {is : List Nat} {d : D} {ds : List D} {δ : List S} {q : List S → Prop} : gM (i :: is) (d :: ds) δ q = if isFlat d = true then gM is ds (put δ i (.val d)) q else ∀ v f, gM is ds (put δ i (.obj v d f)) q := (rfl)
theorem w_flatI {n : Int} : isFlat (.int n) = true := (rfl)
theorem w_flatL {ds : List D} : isFlat (.list ds) = false := (rfl)
theorem w_flatT {ds : List D} : isFlat (.tuple ds) = false := (rfl)
def gTupM (n : Nat) (is : List Nat) : EG := fun s δ q => s.ob fun v d fp => tupK d fun ds => ds.length = n ∧ noLsts ds = false ∧ gM is ds δ q
theorem u_gTupM {n : Nat} {is : List Nat} {s : S} {δ : List S} {q : List S → Prop} : gTupM n is s δ q = s.ob fun v d fp => tupK d fun ds => ds.length = n ∧ noLsts ds = false ∧ gM is ds δ q := (rfl)
section
variable {X : Cx} {W : WX} {pos : Pos}
theorem lk_put_or {δ : List S} {i j : Nat} {s t : S} (h : lk (put δ i s) j = t) (n : t ≠ .no) : (j = i ∧ t = s) ∨ (j ≠ i ∧ lk δ j = t) := by
  by_cases hj : j = i
  · subst hj
    by_cases hl : j < δ.length
    · rw [lk_put_same hl] at h
      exact .inl ⟨rfl, h.symm⟩
    · rw [lk_out (by rw [put_length]; omega)] at h
      exact absurd h.symm n
  · rw [lk_put_ne hj] at h
    exact .inr ⟨hj, h⟩
def S.mv : S → (D → List Addr → Prop) → Prop
  | .val d, k => noLst d = true ∧ k d []
  | .own ds, k => noLsts ds = true ∧ ∀ p, k (.list ds) [p]
  | .obj _ d fp, k => k d fp
  | _, _ => False
theorem w_mv1 {d : D} {k : D → List Addr → Prop} : (S.val d).mv k = (noLst d = true ∧ k d []) := (rfl)
theorem w_mv2 {ds : List D} {k : D → List Addr → Prop} : (S.own ds).mv k = (noLsts ds = true ∧ ∀ p, k (.list ds) [p]) := (rfl)
theorem w_mv3 {v : V} {d : D} {fp : List Addr} {k : D → List Addr → Prop} : (S.obj v d fp).mv k = k d fp := (rfl)
def rvK : List Nat → List S → (List D → List Addr → Prop) → Prop
  | [], _, k => k [] []
  | i :: is, δ, k => (lk δ i).mv fun d f => rvK is (put δ i .no) fun ds g => k (d :: ds) (f ++ g)
theorem w_rv0 {δ : List S} {k : List D → List Addr → Prop} : rvK [] δ k = k [] [] := (rfl)
theorem w_rv1 {i : Nat} {is : List Nat} {δ : List S} {k : List D → List Addr → Prop} : rvK (i :: is) δ k = (lk δ i).mv fun d f => rvK is (put δ i .no) fun ds g => k (d :: ds) (f ++ g) := (rfl)
def sRetVars (is : List Nat) : ST := fun D δ => rvK is δ fun ds f => is.length ≤ 1000 ∧ ∀ p, D.rt (.obj (.ref p) (.tuple ds) (p :: f))
theorem u_sRetVars {is : List Nat} {D : DL.Ends} {δ : List S} : sRetVars is D δ = rvK is δ fun ds f => is.length ≤ 1000 ∧ ∀ p, D.rt (.obj (.ref p) (.tuple ds) (p :: f)) := (rfl)
end
end DL

namespace DL
open PySem L2
abbrev MSp := List S → XP → (S → List S → Prop) → Prop
section
open PyProof.Rows
variable {P : Program} {w : World} {K : PySem.W.Frag} {mg : Str → Option Value} {base : Heap}
end
end DL

namespace DL
open PySem L2
def subS (δ' δ : List S) : Prop := δ'.length = δ.length ∧ ∀ i, lk δ' i = .no ∨ lk δ' i = lk δ i
theorem subS.refl (δ : List S) : subS δ δ := ⟨rfl, fun _ => .inr rfl⟩
theorem subS.trans {a b c : List S} (h : subS a b) (k : subS b c) : subS a c := ⟨h.1.trans k.1, fun i => by
  rcases h.2 i with z | z
  · exact .inl z
  · rcases k.2 i with y | y
    · exact .inl (z.trans y)
    · exact .inr (z.trans y)⟩
theorem subS.put (δ : List S) (i : Nat) : subS (put δ i .no) δ := ⟨put_length, fun j => by
  by_cases hj : j = i
  · subst hj
    by_cases hl : j < δ.length
    · exact .inl (lk_put_same hl)
    · exact .inl (lk_out (by rw [put_length]; omega))
  · exact .inr (lk_put_ne hj)⟩
theorem subS.get {δ' δ : List S} (h : subS δ' δ) {i : Nat} {t : S} (e : lk δ' i = t) (n : t ≠ .no) : lk δ i = t := by
  rcases h.2 i with z | z
  · exact absurd (e.symm.trans z) n
  · rw [← z]; exact e
theorem EnvR.sub {K : PySem.W.Frag} {H0 O H : Hp} {σ : L2.St} {δ δ' : List S} (r : EnvR K H0 O H σ δ) (h : subS δ' δ) : EnvR K H0 O H σ δ' :=
  ⟨by rw [h.1]; exact r.len, fun i d e => r.val i d (h.get e (by simp)), fun i ds e => r.own i ds (h.get e (by simp)), fun i j ds es e1 e2 q => r.inj i j ds es (h.get e1 (by simp)) (h.get e2 (by simp)) q, fun i a e => r.adr i a (h.get e (by simp)),
    ⟨fun i v d fp e => r.ob.obj i v d fp (h.get e (by simp)), fun i j ds v d fp p e1 e2 q => r.ob.oo i j ds v d fp p (h.get e1 (by simp)) (h.get e2 (by simp)) q, fun i j v d fp w e gp n e1 e2 => r.ob.pp i j v d fp w e gp n (h.get e1 (by simp)) (h.get e2 (by simp))⟩, r.tt⟩
abbrev MA := List (Nat ⊕ ES)
def amK : MA → XP → List S → (List S → List S → Prop) → Prop
  | [], _, δ, k => k [] δ
  | .inl i :: r, x, δ, k => (lk δ i).ob fun v d fp => amK r x (put δ i .no) fun ss δ' => k (.obj v d fp :: ss) δ'
  | .inr e :: r, x, δ, k => e x δ fun s => s.fr fun d => amK r x δ fun ss δ' => k (.val d :: ss) δ'
theorem w_am0 {x : XP} {δ : List S} {k : List S → List S → Prop} : amK [] x δ k = k [] δ := (rfl)
theorem w_am1 {i : Nat} {r : MA} {x : XP} {δ : List S} {k : List S → List S → Prop} : amK (.inl i :: r) x δ k = (lk δ i).ob fun v d fp => amK r x (put δ i .no) fun ss δ' => k (.obj v d fp :: ss) δ' := (rfl)
theorem w_am2 {e : ES} {r : MA} {x : XP} {δ : List S} {k : List S → List S → Prop} : amK (.inr e :: r) x δ k = e x δ fun s => s.fr fun d => amK r x δ fun ss δ' => k (.val d :: ss) δ' := (rfl)
def ArgAt (σ : L2.St) : MA → List V → Prop
  | [], [] => True
  | .inl i :: r, v :: vs => σ[i]? = some (some v) ∧ ArgAt σ r vs
  | .inr _ :: r, _ :: vs => ArgAt σ r vs
  | _, _ => False
structure Mvd (K : PySem.W.Frag) (H0 O H : Hp) (σ : L2.St) (δ : List S) (as : MA) (vs : List V) (ss δ' : List S) : Prop where
  env : EnvR K H0 O H σ δ
  sub : subS δ' δ
  arg : EnvR K H0 O H (vs.map some) ss
  no : ∀ j es, lk ss j ≠ .own es
  own : ∀ j v d fp, lk ss j = .obj v d fp → ∃ i, lk δ i = .obj v d fp ∧ lk δ' i = .no
  at_ : ArgAt σ as vs
section
variable {X : Cx} {W : WX} {pos : Pos}
end
noncomputable def lessH (H : Hp) (ss : List S) : Hp := fun b => open Classical in if ∃ j v d fp, lk ss j = .obj v d fp ∧ b ∈ fp then none else H b
theorem less_out {H : Hp} {ss : List S} {b : Addr} (h : ∀ j v d fp, lk ss j = .obj v d fp → b ∉ fp) : lessH H ss b = H b := by
  unfold lessH
  exact if_neg fun ⟨j, v, d, fp, e, hb⟩ => h j v d fp e hb
theorem less_in {H : Hp} {ss : List S} {j : Nat} {v : V} {d : D} {fp : List Addr} {b : Addr} (e : lk ss j = .obj v d fp) (hb : b ∈ fp) : lessH H ss b = none := by
  unfold lessH
  exact if_pos ⟨j, v, d, fp, e, hb⟩
def backM : MA → List S → List S → List S
  | .inl i :: r, t :: ts, δ => backM r ts (put δ i t)
  | .inr _ :: r, _ :: ts, δ => backM r ts δ
  | _, _, δ => δ
theorem w_back0 {ts δ : List S} : backM [] ts δ = δ := by cases ts <;> rfl
theorem w_back1 {i : Nat} {r : MA} {t : S} {ts δ : List S} : backM (.inl i :: r) (t :: ts) δ = backM r ts (put δ i t) := (rfl)
theorem w_back2 {e : ES} {r : MA} {t : S} {ts δ : List S} : backM (.inr e :: r) (t :: ts) δ = backM r ts δ := (rfl)
theorem tabs_less {K : PySem.W.Frag} {H0 O H : Hp} {σ : L2.St} {ss : List S} (r : EnvR K H0 O H σ ss) {T : List (Addr × Str)} (t : LamX.Tabs T H) : LamX.Tabs T (lessH H ss) := fun x hx => by
  obtain ⟨ps, a1, a2, a3⟩ := t x hx
  have key : ∀ {b : Addr} {o : L2.HO}, H b = some o → ((∃ ps, o = .tbl ps) ∨ ∃ c q, o = LamX.CodeO c q) → lessH H ss b = some o := fun {b o} h w => by
    rw [less_out fun j v d fp e hb => ?_]
    · exact h
    · obtain ⟨o', h', n1, n2⟩ := (r.ob.obj j v d fp e).2.1.kd b hb
      rw [h] at h'
      cases h'
      rcases w with ⟨ps, w⟩ | ⟨c, q, w⟩
      · exact n1 ps w
      · exact n2 c q w
  refine ⟨ps, key a1 (.inl ⟨_, rfl⟩), a2, fun pos cv hc => ?_⟩
  obtain ⟨c, e1, e2⟩ := a3 pos cv hc
  exact ⟨c, e1, key e2 (.inr ⟨_, _, rfl⟩)⟩
theorem less_tt {K : PySem.W.Frag} {H0 O H : Hp} {σ : L2.St} {ss : List S} (r : EnvR K H0 O H σ ss) : TOk O (lessH H ss) := ⟨tabs_less r r.tt.t, r.tt.n, r.tt.x⟩
theorem EnvR.skip {K : PySem.W.Frag} {H0 O H O' H' : Hp} {σ : L2.St} {δ : List S} (r : EnvR K H0 O H σ δ) (so : Same O O') (h1 : ∀ j es p, lk δ j = .own es → σ[j]? = some (some (.ref p)) → O' p = none ∧ ∀ x, H p = some x → (∀ ps, x ≠ .tbl ps) → H' p = some x)
    (h2 : ∀ j v d fp, lk δ j = .obj v d fp → ∀ b ∈ fp, O' b = none ∧ ∀ x, H b = some x → (∀ ps, x ≠ .tbl ps) → H' b = some x) (tt : TOk O' H') : EnvR K H0 O' H' σ δ :=
  ⟨r.len, fun j d h => let ⟨v, e, q⟩ := r.val j d h; ⟨v, e, dp_mono so q⟩, fun j ds h => let ⟨p, vs, e, n, _, z, a⟩ := r.own j ds h; ⟨p, vs, e, n, (h1 j ds p h e).1, (h1 j ds p h e).2 _ z (by intro _ z; cases z), dpAll_mono so a⟩, r.inj, r.adr,
    ⟨fun j v d fp h => let ⟨e, a, nd, fr⟩ := r.ob.obj j v d fp h; ⟨e, a.keepS so fun b hb x q n => (h2 j v d fp h b hb).2 x q n, nd, fun b hb => ⟨(fr b hb).1, (h2 j v d fp h b hb).1⟩⟩, r.ob.oo, r.ob.pp⟩, tt⟩
theorem back_env {K : PySem.W.Frag} {H0 O H : Hp} {σ : L2.St} : ∀ {as : MA} {vs : List V} {ts δ : List S}, EnvR K H0 O H σ δ → ArgAt σ as vs → EnvR K H0 O H (vs.map some) ts → (∀ j t, lk ts j = t → t = .no ∨ ∃ v d fp, t = .obj v d fp) →
    (∀ j es p, lk δ j = .own es → σ[j]? = some (some (.ref p)) → ∀ k v d fp, lk ts k = .obj v d fp → p ∉ fp) → (∀ j w e gp, lk δ j = .obj w e gp → ∀ k v d fp, lk ts k = .obj v d fp → ∀ b ∈ fp, b ∉ gp) → EnvR K H0 O H σ (backM as ts δ) := by
  intro as
  induction as with
  | nil => intro vs ts δ env _ _ _ _ _; rw [w_back0]; exact env
  | cons a as ih =>
    intro vs ts δ env ha et ht n1 n2
    cases vs with
    | nil => cases a <;> exact ha.elim
    | cons v vs =>
      cases ts with
      | nil => have := et.len; simp at this
      | cons t ts =>
        have et' : EnvR K H0 O H (vs.map some) ts := by
          refine ⟨by have := et.len; simpa using this, fun i d e => et.val (i + 1) d e, fun i ds e => et.own (i + 1) ds e, fun i j ds es h1 h2 q => by have := et.inj (i + 1) (j + 1) ds es h1 h2 (by simpa using q); omega, fun i b e => et.adr (i + 1) b e,
            ⟨fun i w d fp e => et.ob.obj (i + 1) w d fp e, fun i j ds w d fp p h1 h2 q => et.ob.oo (i + 1) (j + 1) ds w d fp p h1 h2 (by simpa using q), fun i j w d fp w' d' gp n h1 h2 => et.ob.pp (i + 1) (j + 1) w d fp w' d' gp (by omega) h1 h2⟩, et.tt⟩
        cases a with
        | inr e =>
          rw [w_back2]
          exact ih env ha et' (fun j t e => ht (j + 1) t e) (fun j es p h q k w d fp e => n1 j es p h q (k + 1) w d fp e) (fun j w e gp h k w' d fp e' => n2 j w e gp h (k + 1) w' d fp e')
        | inl i =>
          obtain ⟨hi, ha⟩ := ha
          rw [w_back1]
          have es : σ.set i (some v) = σ := by
            refine List.ext_getElem? fun j => ?_
            by_cases hj : j = i
            · subst hj
              rw [List.getElem?_set_self (List.getElem?_eq_some_iff.mp hi).1, hi]
            · rw [List.getElem?_set_ne (Ne.symm hj)]
          have key : EnvR K H0 O H σ (put δ i t) := by
            rcases ht 0 t rfl with rfl | ⟨w, d, fp, rfl⟩
            · exact env.drop i
            · obtain ⟨e1, ow, nd, fr⟩ := et.ob.obj 0 w d fp rfl
              have : w = v := by
                simp at e1
                exact e1.symm
              subst this
              have := env.putObj i ow nd fr (fun j es p _ h q => n1 j es p h q 0 w d fp rfl) (fun j w' e gp _ h => n2 j w' e gp h 0 w d fp rfl)
              rwa [es] at this
          refine ih key ha et' (fun j t e => ht (j + 1) t e) (fun j es p h q k w d fp e => ?_) (fun j w e gp h k w' d fp e' => ?_)
          · rcases lk_put_or h (by simp) with ⟨_, z⟩ | ⟨_, h'⟩
            · rcases ht 0 t rfl with rfl | ⟨w, d, fp, rfl⟩ <;> cases z
            · exact n1 j es p h' q (k + 1) w d fp e
          · rcases lk_put_or h (by simp) with ⟨_, z⟩ | ⟨_, h'⟩
            · exact et.ob.pp (k + 1) 0 w' d fp w e gp (by omega) e' z.symm
            · exact n2 j w e gp h' (k + 1) w' d fp e'
end DL

namespace DL
open PySem L2
def objS : List S → Prop
  | [] => True
  | .no :: r => objS r
  | .obj _ _ _ :: r => objS r
  | _ => False
theorem objS_at : ∀ {ts : List S}, objS ts → ∀ j t, lk ts j = t → t = .no ∨ ∃ v d fp, t = .obj v d fp
  | [], _, j, t, e => .inl e.symm
  | .no :: r, h, 0, t, e => .inl e.symm
  | .no :: r, h, j + 1, t, e => objS_at (ts := r) h j t e
  | .obj v d fp :: r, h, 0, t, e => .inr ⟨v, d, fp, e.symm⟩
  | .obj v d fp :: r, h, j + 1, t, e => objS_at (ts := r) h j t e
theorem w_objS0 : objS [] = True := (rfl)
theorem w_objS1 {r : List S} : objS (.no :: r) = objS r := (rfl)
theorem w_objS2 {v : V} {d : D} {fp : List Addr} {r : List S} : objS (.obj v d fp :: r) = objS r := (rfl)
theorem Mvd.h0 {K : PySem.W.Frag} {H0 O H : Hp} {σ : L2.St} {δ : List S} {as : MA} {vs : List V} {ss δ' : List S} (m : Mvd K H0 O H σ δ as vs ss δ') : EnvR K (lessH H ss) O H (vs.map some) ss :=
  ⟨m.arg.len, m.arg.val, fun j es h => absurd h (m.no j es), m.arg.inj, m.arg.adr, ⟨fun j v d fp h => let ⟨e, a, nd, fr⟩ := m.arg.ob.obj j v d fp h; ⟨e, a, nd, fun b hb => ⟨less_in h hb, (fr b hb).2⟩⟩, m.arg.ob.oo, m.arg.ob.pp⟩, m.arg.tt⟩
theorem Mvd.keep {K : PySem.W.Frag} {H0 O H : Hp} {σ : L2.St} {δ : List S} {as : MA} {vs : List V} {ss δ' : List S} (m : Mvd K H0 O H σ δ as vs ss δ') {b : Addr} (h : H0 b ≠ none) : lessH H ss b = H b :=
  less_out fun j v d fp e hb => h ((m.arg.ob.obj j v d fp e).2.2.2 b hb).1
theorem Mvd.up {K : PySem.W.Frag} {O0 H0 O H O2 H2 : Hp} {σ : L2.St} {δ : List S} {as : MA} {vs : List V} {ss δ' : List S} (m : Mvd K H0 O H σ δ as vs ss δ') (u : Up O0 H0 O H) (uc : Up O (lessH H ss) O2 H2) : Up O0 H0 O2 H2 :=
  ⟨u.o.trans uc.o, ⟨fun b x e n => uc.h.k b x (by rw [m.keep (by rw [e]; simp)]; exact u.h.k b x e n) n, fun b hb => uc.h.d b (by rw [m.keep hb]; exact u.h.d b hb), fun t => uc.h.t (tabs_less m.arg (u.h.t t))⟩, uc.oh, fun b hb hn => uc.nn b (by
    rw [m.keep hb]
    exact u.h.d b hb) (u.nn b hb hn)⟩
theorem Mvd.out {K : PySem.W.Frag} {H0 O H : Hp} {σ : L2.St} {δ : List S} {as : MA} {vs : List V} {ss δ' : List S} (m : Mvd K H0 O H σ δ as vs ss δ') {b : Addr} (h : (∃ j es, lk δ' j = .own es ∧ σ[j]? = some (some (.ref b))) ∨ ∃ j v d fp, lk δ' j = .obj v d fp ∧ b ∈ fp) :
    lessH H ss b = H b ∧ H b ≠ none ∧ O b = none := by
  rcases h with ⟨j, es, hj, e⟩ | ⟨j, v, d, fp, hj, hb⟩
  · have hj' := m.sub.get hj (by simp)
    obtain ⟨p, vs', e', n0, no, hp, _⟩ := m.env.own j es hj'
    rw [e] at e'
    cases e'
    refine ⟨less_out fun k v d fp hk hb => ?_, by rw [hp]; simp, no⟩
    obtain ⟨i, h1, _⟩ := m.own k v d fp hk
    exact m.env.ob.oo j i es v d fp b hj' h1 e hb
  · have hj' := m.sub.get hj (by simp)
    obtain ⟨e, a, nd, fr⟩ := m.env.ob.obj j v d fp hj'
    refine ⟨less_out fun k w e gp hk hg => ?_, a.there b hb, (fr b hb).2⟩
    obtain ⟨i, h1, h2⟩ := m.own k w e gp hk
    have : j ≠ i := fun z => by rw [z, h2] at hj; cases hj
    exact m.env.ob.pp j i v d fp w e gp this hj' h1 b hb hg
theorem Mvd.after {K : PySem.W.Frag} {H0 O H O2 H2 : Hp} {σ : L2.St} {δ : List S} {as : MA} {vs : List V} {ss δ' : List S} (m : Mvd K H0 O H σ δ as vs ss δ') (uc : Up O (lessH H ss) O2 H2) : EnvR K H0 O2 H2 σ δ' :=
  (m.env.sub m.sub).skip uc.o (fun j es p h e => by
    obtain ⟨h1, h2, h3⟩ := m.out (b := p) (.inl ⟨j, es, h, e⟩)
    exact ⟨uc.nn p (by rw [h1]; exact h2) h3, fun x q n => uc.h.k p x (by rw [h1]; exact q) n⟩) (fun j v d fp h b hb => by
    obtain ⟨h1, h2, h3⟩ := m.out (b := b) (.inr ⟨j, v, d, fp, h, hb⟩)
    exact ⟨uc.nn b (by rw [h1]; exact h2) h3, fun x q n => uc.h.k b x (by rw [h1]; exact q) n⟩) (uc.tt (less_tt m.arg))
theorem Mvd.fresh {K : PySem.W.Frag} {H0 O H : Hp} {σ : L2.St} {δ : List S} {as : MA} {vs : List V} {ss δ' : List S} (m : Mvd K H0 O H σ δ as vs ss δ') (h0 : Sam H0 H) {b : Addr} (h : lessH H ss b = none) : H0 b = none := by
  refine Classical.byContradiction fun n => ?_
  rw [m.keep n] at h
  exact h0.d b n h
theorem Mvd.back {K : PySem.W.Frag} {H0 O H O2 H2 : Hp} {σ : L2.St} {δ : List S} {as : MA} {vs : List V} {ss δ' ts : List S} (m : Mvd K H0 O H σ δ as vs ss δ') (h0 : Sam H0 H) (uc : Up O (lessH H ss) O2 H2) (et : EnvR K (lessH H ss) O2 H2 (vs.map some) ts) (ho : objS ts) : EnvR K H0 O2 H2 σ (backM as ts δ') := by
  have ht := objS_at ho
  have et' : EnvR K H0 O2 H2 (vs.map some) ts := ⟨et.len, et.val, fun j es h => (by rcases ht j _ h with z | ⟨_, _, _, z⟩ <;> cases z), et.inj, et.adr, ⟨fun j v d fp h => let ⟨e, a, nd, fr⟩ := et.ob.obj j v d fp h; ⟨e, a, nd, fun b hb => ⟨m.fresh h0 (fr b hb).1, (fr b hb).2⟩⟩, et.ob.oo, et.ob.pp⟩, et.tt⟩
  have free : ∀ {b : Addr}, ((∃ j es, lk δ' j = .own es ∧ σ[j]? = some (some (.ref b))) ∨ ∃ j v d fp, lk δ' j = .obj v d fp ∧ b ∈ fp) → ∀ k v d fp, lk ts k = .obj v d fp → b ∉ fp := fun {b} h k v d fp e hb => by
    obtain ⟨h1, h2, _⟩ := m.out h
    exact h2 (h1 ▸ ((et.ob.obj k v d fp e).2.2.2 b hb).1)
  exact back_env (m.after uc) m.at_ et' ht (fun j es p h q => free (.inl ⟨j, es, h, q⟩)) (fun j w e gp h k v d fp e' b hb hg => free (.inr ⟨j, w, e, gp, h, hg⟩) k v d fp e' hb)
def sCallM (p : MSp) (as : MA) : ST := fun D δ => amK as (fun x => D.ex x δ) δ fun ss δ' => p ss (fun e => D.ex e δ') fun _ ts => objS ts ∧ D.nx (backM as ts δ')
def sAsgM (i : Nat) (p : MSp) (as : MA) : ST := fun D δ => amK as (fun x => D.ex x δ) δ fun ss δ' => p ss (fun e => D.ex e δ') fun s ts => s.any fun s => D.nx (put δ' i s)
theorem u_sCallM {p : MSp} {as : MA} {D : DL.Ends} {δ : List S} : sCallM p as D δ = amK as (fun x => D.ex x δ) δ fun ss δ' => p ss (fun e => D.ex e δ') fun _ ts => objS ts ∧ D.nx (backM as ts δ') := (rfl)
theorem u_sAsgM {i : Nat} {p : MSp} {as : MA} {D : DL.Ends} {δ : List S} : sAsgM i p as D δ = amK as (fun x => D.ex x δ) δ fun ss δ' => p ss (fun e => D.ex e δ') fun s ts => s.any fun s => D.nx (put δ' i s) := (rfl)
section
variable {X : Cx} {W : WX} {pos pos2 : Pos} {k : Nat} {f : Addr} {fd : FuncData} {ps : List Str} {p : MSp} {x : Str} {p1 : Pos} {e : Expr} {es : List Expr}
end
end DL

namespace DL
open PySem L2
theorem OwAll.item {K : PySem.W.Frag} {O H : Hp} : ∀ {vs : List V} {ds : List D} {fp : List Addr}, OwAll K O H vs ds fp → ∀ {j : Nat} {d : D}, ds[j]? = some d → ∃ v f, vs[j]? = some v ∧ Ow K O H v d f ∧ f.Sublist fp
  | _, _, _, .nil, j, _, e => by simp at e
  | _, _, _, @OwAll.cons _ _ _ v vs d ds f g h a, 0, r, e => by
    simp only [List.getElem?_cons_zero, Option.some.injEq] at e
    subst e
    exact ⟨v, f, rfl, h, List.sublist_append_left f g⟩
  | _, _, _, @OwAll.cons _ _ _ v vs d ds f g h a, j + 1, r, e => by
    simp only [List.getElem?_cons_succ] at e
    obtain ⟨v, f', h1, h2, h3⟩ := OwAll.item a e
    exact ⟨v, f', by simpa using h1, h2, h3.trans (List.sublist_append_right f g)⟩
def sObj (i : Nat) : ST := fun D δ => (lk δ i).ow fun ds => noLsts ds = true ∧ ∀ p, D.nx (put δ i (.obj (.ref p) (.list ds) [p]))
theorem u_sObj {i : Nat} {D : DL.Ends} {δ : List S} : sObj i D δ = (lk δ i).ow fun ds => noLsts ds = true ∧ ∀ p, D.nx (put δ i (.obj (.ref p) (.list ds) [p])) := (rfl)
def eIxO (i : Nat) (k : ES) : ES := fun x δ q => (lk δ i).ob fun v d fp => lstK d fun ds => k x δ fun t => t.nm fun n => optK (atI ds n) fun e => isFlat e = true ∧ q (.val e)
theorem u_eIxO {i : Nat} {k : ES} {x : XP} {δ : List S} {q : S → Prop} : eIxO i k x δ q = (lk δ i).ob fun v d fp => lstK d fun ds => k x δ fun t => t.nm fun n => optK (atI ds n) fun e => isFlat e = true ∧ q (.val e) := (rfl)
def sSetO (i : Nat) (k e : ES) : ST := fun D δ => (lk δ i).ob fun v d fp => lstK d fun ds => e (fun x => D.ex x δ) δ fun s => s.fr fun c => k (fun x => D.ex x δ) δ fun t => t.nm fun n => ∃ j old, ixN ds.length n = some j ∧ ds[j]? = some old ∧ isFlat old = true ∧ noLst c = true ∧ D.nx (put δ i (.obj v (.list (ds.set j c)) fp))
theorem u_sSetO {i : Nat} {k e : ES} {D : DL.Ends} {δ : List S} : sSetO i k e D δ = (lk δ i).ob fun v d fp => lstK d fun ds => e (fun x => D.ex x δ) δ fun s => s.fr fun c => k (fun x => D.ex x δ) δ fun t => t.nm fun n => ∃ j old, ixN ds.length n = some j ∧ ds[j]? = some old ∧ isFlat old = true ∧ noLst c = true ∧ D.nx (put δ i (.obj v (.list (ds.set j c)) fp)) := (rfl)
def eItemT (n : Nat) (e : ES) : ES := fun x δ q => e x δ fun s => s.ob fun v d fp => tupK d fun ds => noLsts ds = false ∧ ∃ c, ds[n]? = some c ∧ ∀ w f, q (.obj w c f)
theorem u_eItemT {n : Nat} {e : ES} {x : XP} {δ : List S} {q : S → Prop} : eItemT n e x δ q = e x δ fun s => s.ob fun v d fp => tupK d fun ds => noLsts ds = false ∧ ∃ c, ds[n]? = some c ∧ ∀ w f, q (.obj w c f) := (rfl)
section
variable {X : Cx} {W : WX} {pos : Pos}
end
end DL

namespace DL
open PySem PySem.Spec PyProof.Rows L2
section
variable {prog : Program} {w : World} {A : Around} {E : Value → Shared → Prop} {s : Shared} {l : Addr} {its : Array Value}
theorem iter_anyTup {Q : Value → Shared → Prop} (hl : s.heap.IsTuple l its)
    (h : ∀ s₂ : Shared, s₂ = { s with heap := s.heap.push { cls := .type "tuple_iterator", data := .fields #[.ref l, .int 0 0] } } →
      (s₂.heap.IsTupleIter s.heap.objs.size l 0 ∧ s₂.heap.IsTuple l its) → (∀ b ∈ [s.heap.objs.size, l], b < s₂.heap.objs.size) → l ≠ s.heap.objs.size → Q (.ref s.heap.objs.size) s₂) :
    wpAny (model prog w) A (pyIter (.ref l)) Q E s := by
  have hlt : l < s.heap.objs.size := by obtain ⟨_, e, _⟩ := hl; exact Heap.lt_size e
  refine wpAny_pyIter_tuple hl (h _ rfl ⟨⟨_, Heap.get?_push_size _ rfl, rfl, rfl⟩, hl.push _⟩ (fun b hb => ?_) (Nat.ne_of_lt hlt))
  show b < (s.heap.push _).objs.size
  rw [Heap.size_push]
  rcases List.mem_cons.mp hb with rfl | hb
  · exact Nat.lt_succ_self _
  · rcases List.mem_cons.mp hb with rfl | hb
    · exact Nat.lt_succ_of_lt hlt
    · cases hb
theorem maxT3_num {Q : Value → Shared → Prop} {a b c : Value} (hh : A.handled = none) (hl : s.heap.IsTuple l #[a, b, c]) (ha : Flt.NumV a) (hb : Flt.NumV b) (hc : Flt.NumV c)
    (h : ∀ h' tk, (∀ d o, s.heap.get? d = some o → h'.get? d = some o) →
      Q (if Flt.ltV (if Flt.ltV a b = true then b else a) c = true then c else (if Flt.ltV a b = true then b else a)) { s with heap := h', toks := tk }) :
    wpAny (model prog w) A (call (.builtin "max") [.ref l]) Q E s := by
  refine call_max_walk (iter_anyTup hl fun s₂ e st hfp hlI => ?_)
  subst e
  refine ⟨_, _, _, _, _, _, _, rfl, Walks.tuple (A := A.in1) hh _ l hlI #[a, b, c], st, hfp, by simp, Flt.cmpOf_gt #[a, b, c] (by simp [ha, hb, hc]), fun v h' tk hP hk => ?_⟩
  have := h h' tk fun d o e => hk d o (fun z => Nat.ne_of_lt (Heap.lt_size e) (List.mem_singleton.mp z)) (Heap.get?_push_of_some _ e)
  have hv : (if Flt.ltV (if Flt.ltV a b = true then b else a) c = true then c else (if Flt.ltV a b = true then b else a)) = v := by
    cases h1 : Flt.ltV a b
    · cases h2 : Flt.ltV a c <;> simp [argBest, h1, h2] at hP <;> simp [h2] <;> exact hP
    · cases h2 : Flt.ltV b c <;> simp [argBest, h1, h2] at hP <;> simp [h2] <;> exact hP
  rw [hv] at this
  exact this
theorem minT3_num {Q : Value → Shared → Prop} {a b c : Value} (hh : A.handled = none) (hl : s.heap.IsTuple l #[a, b, c]) (ha : Flt.NumV a) (hb : Flt.NumV b) (hc : Flt.NumV c)
    (h : ∀ h' tk, (∀ d o, s.heap.get? d = some o → h'.get? d = some o) →
      Q (if Flt.ltV c (if Flt.ltV b a = true then b else a) = true then c else (if Flt.ltV b a = true then b else a)) { s with heap := h', toks := tk }) :
    wpAny (model prog w) A (call (.builtin "min") [.ref l]) Q E s := by
  refine call_min_walk (iter_anyTup hl fun s₂ e st hfp hlI => ?_)
  subst e
  refine ⟨_, _, _, _, _, _, _, rfl, Walks.tuple (A := A.in1) hh _ l hlI #[a, b, c], st, hfp, by simp, Flt.cmpOf_lt #[a, b, c] (by simp [ha, hb, hc]), fun v h' tk hP hk => ?_⟩
  have := h h' tk fun d o e => hk d o (fun z => Nat.ne_of_lt (Heap.lt_size e) (List.mem_singleton.mp z)) (Heap.get?_push_of_some _ e)
  have hv : (if Flt.ltV c (if Flt.ltV b a = true then b else a) = true then c else (if Flt.ltV b a = true then b else a)) = v := by
    cases h1 : Flt.ltV b a
    · cases h2 : Flt.ltV c a <;> simp [argBest, h1, h2] at hP <;> simp [h2] <;> exact hP
    · cases h2 : Flt.ltV c b <;> simp [argBest, h1, h2] at hP <;> simp [h2] <;> exact hP
  rw [hv] at this
  exact this
end
section
variable {X : Cx}
def rMaxT3 (K : PySem.W.Frag) : List V → Hp → VK → Prop := fun vs H Q => rMaxL3 K vs H Q ∨ ∃ (p : Addr) (x y w z : V), vs = [.ref p] ∧ SqT K H p [x, y, w] ∧ nuMax3 x y w = some z ∧ Q z H
def rMinT3 (K : PySem.W.Frag) : List V → Hp → VK → Prop := fun vs H Q => rMinL3 K vs H Q ∨ ∃ (p : Addr) (x y w z : V), vs = [.ref p] ∧ SqT K H p [x, y, w] ∧ nuMin3 x y w = some z ∧ Q z H
theorem call_maxT3 (hc : X.calm = true) : CallR X (.builtin "max") (rMaxT3 X.K) := by
  intro pins s σ H vs us Q I r h
  rcases h with h | h
  · exact call_maxL3 hc pins s σ H vs us Q I r h
  obtain ⟨p, x, y, w, z, rfl, hs, e, q⟩ := h
  obtain ⟨its, rv, hl, _⟩ := I.tuple hs
  rw [Vals.ref1 r]
  obtain ⟨u1, u2, u3, rfl, r1, r2, r3⟩ := vals3 rv
  obtain ⟨m, e1, e2⟩ := opt_bind e
  obtain ⟨c1, l1, rfl⟩ := opt_map e1
  obtain ⟨c2, l2, rfl⟩ := opt_map e2
  obtain ⟨n1, n2, hl1⟩ := lt_nu r1 r2 l1
  have rm : RelV (if c1 = true then y else x) (if Flt.ltV u1 u2 = true then u2 else u1) := by rw [hl1]; exact pick_nu r1 r2
  obtain ⟨nm, n3, hl2⟩ := lt_nu rm r3 l2
  refine maxT3_num (I.ok.hd hc) hl n1 n2 n3 fun h' tk k => ⟨_, H, I.kept k, ?_, q⟩
  rw [hl2]
  exact pick_nu rm r3
theorem call_minT3 (hc : X.calm = true) : CallR X (.builtin "min") (rMinT3 X.K) := by
  intro pins s σ H vs us Q I r h
  rcases h with h | h
  · exact call_minL3 hc pins s σ H vs us Q I r h
  obtain ⟨p, x, y, w, z, rfl, hs, e, q⟩ := h
  obtain ⟨its, rv, hl, _⟩ := I.tuple hs
  rw [Vals.ref1 r]
  obtain ⟨u1, u2, u3, rfl, r1, r2, r3⟩ := vals3 rv
  obtain ⟨m, e1, e2⟩ := opt_bind e
  obtain ⟨c1, l1, rfl⟩ := opt_map e1
  obtain ⟨c2, l2, rfl⟩ := opt_map e2
  obtain ⟨n2, n1, hl1⟩ := lt_nu r2 r1 l1
  have rm : RelV (if c1 = true then y else x) (if Flt.ltV u2 u1 = true then u2 else u1) := by rw [hl1]; exact pick_nu r1 r2
  obtain ⟨n3, nm, hl2⟩ := lt_nu r3 rm l2
  refine minT3_num (I.ok.hd hc) hl n1 n2 n3 fun h' tk k => ⟨_, H, I.kept k, ?_, q⟩
  rw [hl2]
  exact pick_nu rm r3
end
def rMaxD : RD
  | [.list [.int i, .int j, .int k]], q => q (.val (.int (if (if i < j then j else i) < k then k else if i < j then j else i)))
  | [.tuple [.int i, .int j, .int k]], q => q (.val (.int (if (if i < j then j else i) < k then k else if i < j then j else i)))
  | [.list [.int a, .int b, .int c, .int d, .int e, .int f]], q => ∀ m, m ∈ [a, b, c, d, e, f] → (∀ y, y ∈ [a, b, c, d, e, f] → y ≤ m) → q (.val (.int m))
  | _, _ => False
def rMinD : RD
  | [.list [.int i, .int j, .int k]], q => q (.val (.int (if k < (if j < i then j else i) then k else if j < i then j else i)))
  | [.tuple [.int i, .int j, .int k]], q => q (.val (.int (if k < (if j < i then j else i) then k else if j < i then j else i)))
  | _, _ => False
section
variable {X : Cx}
theorem max_eq3 {i j k : Int} : nuMax3 (.int i) (.int j) (.int k) = some (.int (if (if i < j then j else i) < k then k else if i < j then j else i)) := by
  by_cases h1 : i < j
  · by_cases h2 : j < k <;> simp [nuMax3, nuMax2, nuLt, nuCB, h1, h2]
  · by_cases h2 : i < k <;> simp [nuMax3, nuMax2, nuLt, nuCB, h1, h2]
theorem min_eq3 {i j k : Int} : nuMin3 (.int i) (.int j) (.int k) = some (.int (if k < (if j < i then j else i) then k else if j < i then j else i)) := by
  by_cases h1 : j < i
  · by_cases h2 : k < j <;> simp [nuMin3, nuMin2, nuLt, nuCB, h1, h2]
  · by_cases h2 : k < i <;> simp [nuMin3, nuMin2, nuLt, nuCB, h1, h2]
theorem cs_max (hc : X.calm = true) : CallS X (.builtin "max") rMaxD := by
  refine ⟨fun vs H Q => rMaxT3 X.K vs H Q ∨ rMax X.K vs H Q, fun pins s σ H vs us Q I r h => h.elim (call_maxT3 hc pins s σ H vs us Q I r) (cr_max hc pins s σ H vs us Q I r), fun O H vs ds q Q so ra hq g1 => ?_⟩
  unfold rMaxD at g1
  split at g1
  · rename_i i j k
    obtain ⟨v, rfl, a, ws, rfl, qa, za⟩ := pall1 ra
    have e := nums_of za (bs := [i, j, k]) rfl
    subst e
    exact .inl (.inl ⟨a, .int i, .int j, .int k, .int _, rfl, qa, max_eq3, hq _ O H (.val (.int _)) (.refl so) (.int _) g1⟩)
  · rename_i i j k
    obtain ⟨v, rfl, a, ws, rfl, qa, za⟩ := pall1 ra
    have e := nums_of za (bs := [i, j, k]) rfl
    subst e
    exact .inl (.inr ⟨a, .int i, .int j, .int k, .int _, rfl, qa, max_eq3, hq _ O H (.val (.int _)) (.refl so) (.int _) g1⟩)
  · rename_i i j k l m n
    obtain ⟨v, rfl, a, ws, rfl, qa, za⟩ := pall1 ra
    have e := nums_of za (bs := [i, j, k, l, m, n]) rfl
    subst e
    exact .inr ⟨a, [i, j, k, l, m, n], rfl, qa, Nat.succ_pos _, fun x h1 h2 => hq _ O H (.val (.int _)) (.refl so) (.int _) (g1 x h1 h2)⟩
  · exact g1.elim
theorem cs_min (hc : X.calm = true) : CallS X (.builtin "min") rMinD := by
  refine ⟨_, call_minT3 hc, fun O H vs ds q Q so ra hq g1 => ?_⟩
  unfold rMinD at g1
  split at g1
  · rename_i i j k
    obtain ⟨v, rfl, a, ws, rfl, qa, za⟩ := pall1 ra
    have e := nums_of za (bs := [i, j, k]) rfl
    subst e
    exact .inl ⟨a, .int i, .int j, .int k, .int _, rfl, qa, min_eq3, hq _ O H (.val (.int _)) (.refl so) (.int _) g1⟩
  · rename_i i j k
    obtain ⟨v, rfl, a, ws, rfl, qa, za⟩ := pall1 ra
    have e := nums_of za (bs := [i, j, k]) rfl
    subst e
    exact .inr ⟨a, .int i, .int j, .int k, .int _, rfl, qa, min_eq3, hq _ O H (.val (.int _)) (.refl so) (.int _) g1⟩
  · exact g1.elim
end
theorem w_max1 {i j k : Int} {q : S → Prop} : rMaxD [.list [.int i, .int j, .int k]] q = q (.val (.int (if (if i < j then j else i) < k then k else if i < j then j else i))) := (rfl)
theorem w_min1 {i j k : Int} {q : S → Prop} : rMinD [.list [.int i, .int j, .int k]] q = q (.val (.int (if k < (if j < i then j else i) then k else if j < i then j else i))) := (rfl)
theorem w_max4 {i j k : Int} {q : S → Prop} : rMaxD [.tuple [.int i, .int j, .int k]] q = q (.val (.int (if (if i < j then j else i) < k then k else if i < j then j else i))) := (rfl)
theorem w_min4 {i j k : Int} {q : S → Prop} : rMinD [.tuple [.int i, .int j, .int k]] q = q (.val (.int (if k < (if j < i then j else i) then k else if j < i then j else i))) := (rfl)
theorem w_max6 {a b c d e f : Int} {q : S → Prop} : rMaxD [.list [.int a, .int b, .int c, .int d, .int e, .int f]] q = ∀ m, m ∈ [a, b, c, d, e, f] → (∀ y, y ∈ [a, b, c, d, e, f] → y ≤ m) → q (.val (.int m)) := (rfl)
end DL

namespace DL
open PySem L2
def prL : List Int → Int
  | [] => 1
  | p :: l => p * prL l
structure Mad (most n : Int) (r : List Int) : Prop where
  eq : n = prL r ∨ n = - prL r
  le : n.natAbs ≤ most.natAbs
  pr : ∀ p ∈ r, Pr p
structure FacL (n : Int) (r : List Int) : Prop where
  sf : SqF n
  nd : r.Nodup
  mem : ∀ p, p ∈ r ↔ Pr p ∧ p ∣ n
  len : 2 ^ r.length ≤ n.natAbs
theorem prL_len : ∀ {l : List Int}, (∀ q ∈ l, Pr q) → (2 : Int) ^ l.length ≤ prL l
  | [], _ => by decide
  | q :: l, h => by
    have ih := prL_len (l := l) fun r hr => h r (List.mem_cons_of_mem _ hr)
    have hq := (h q List.mem_cons_self).two
    have h0 : (0 : Int) < 2 ^ l.length := Int.pow_pos (by decide)
    show (2 : Int) ^ (l.length + 1) ≤ q * prL l
    rw [Int.pow_succ, Int.mul_comm]
    exact Int.mul_le_mul hq ih (by omega) (by omega)
theorem no_pr_gcd {a b : Int} (ha : a ≠ 0) (h : ∀ p, Pr p → p ∣ a → ¬ p ∣ b) : Int.gcd a b = 1 := by
  refine Classical.byContradiction fun n => ?_
  have h0 : Int.gcd a b ≠ 0 := fun z => ha (Int.gcd_eq_zero_iff.mp z).1
  obtain ⟨p, hp, d⟩ := pr_factor (n := (Int.gcd a b : Int)) (by omega)
  exact h p hp (Int.dvd_trans d (Int.gcd_dvd_left ..)) (Int.dvd_trans d (Int.gcd_dvd_right ..))
theorem Mad.abs {most n : Int} {r : List Int} (m : Mad most n r) : (n.natAbs : Int) = prL r := by
  have h := prL_len m.pr
  have h0 : (0 : Int) < 2 ^ r.length := Int.pow_pos (by decide)
  have := m.eq
  omega
theorem FacL.gcd {a b : Int} {r s : List Int} (h : FacL a r) (k : FacL b s) (d : ∀ p ∈ r, p ∉ s) : Int.gcd a b = 1 :=
  no_pr_gcd h.sf.ne fun p hp h1 h2 => d p ((h.mem p).mpr ⟨hp, h1⟩) ((k.mem p).mpr ⟨hp, h2⟩)
def prCk (p : Int) (m : Nat) : Bool := decide (2 ≤ p) && decide (p < m * m) && (List.range m).all fun d => decide (d < 2) || decide (p % (d : Int) ≠ 0)
theorem prCk_ok {p : Int} {m : Nat} (h : prCk p m = true) : Pr p := by
  unfold prCk at h
  rw [Bool.and_eq_true, Bool.and_eq_true] at h
  refine pr_of (m := m) (by simpa using h.1.1) (by omega) (fun d h1 h2 h3 => ?_) (by simpa using h.1.2)
  have := List.all_eq_true.mp h.2 d.toNat (List.mem_range.mpr (by omega))
  have e : ((d.toNat : Nat) : Int) = d := by omega
  rw [e] at this
  simp only [Bool.or_eq_true, decide_eq_true_eq] at this
  rcases this with z | z
  · omega
  · exact z (Int.emod_eq_zero_of_dvd h3)
structure Pln (a b c : Int) : Prop where
  fa : SqF a
  fb : SqF b
  fc : SqF c
  ab : Int.gcd a b = 1
  bc : Int.gcd b c = 1
  ca : Int.gcd c a = 1
theorem Pln.turn {a b c : Int} (h : Pln a b c) : Pln b c a := ⟨h.fb, h.fc, h.fa, h.bc, h.ca, h.ab⟩
theorem Core.one {n c r : Int} (h : Core n c r) : (r = 1 ↔ SqF n) := by
  constructor
  · rintro rfl
    have e : n = c := by rw [h.eq]; omega
    rw [e]; exact h.sf
  · intro k
    rcases Int.lt_or_le 1 r with z | z
    · exact absurd (⟨c, by rw [h.eq]; grind⟩ : r * r ∣ n) (k.no r (by omega))
    · have := h.pos; omega
def Fit1 (a b c x y z : Int) : Prop := (x = 1 ∨ y = 1 ∨ z = 1) ∧ (a * x + b * y + c * z) % 8 = 0
def Fit8 (a b c : Int) : Prop := ∃ x ∈ [0, 1, 4], ∃ y ∈ [0, 1, 4], ∃ z ∈ [0, 1, 4], Fit1 a b c x y z
theorem Fit8.turn {a b c : Int} (h : Fit8 a b c) : Fit8 b c a := by
  obtain ⟨x, hx, y, hy, z, hz, k1, k2⟩ := h
  exact ⟨y, hy, z, hz, x, hx, by omega, by omega⟩
theorem Fit8.neg {a b c : Int} (h : Fit8 a b c) : Fit8 (0 - a) (0 - b) (0 - c) := by
  obtain ⟨x, hx, y, hy, z, hz, k1, k2⟩ := h
  refine ⟨x, hx, y, hy, z, hz, k1, ?_⟩
  have : (0 - a) * x + (0 - b) * y + (0 - c) * z = 0 - (a * x + b * y + c * z) := by grind
  omega
def BadAt (a b c p : Int) : Prop := if p = 0 then ((0 < a ↔ 0 < b) ∧ (0 < b ↔ 0 < c)) else if p = 2 then ¬ Fit8 a b c else if p ∣ a then J (0 - b * c) p = -1 else if p ∣ b then J (0 - c * a) p = -1 else if p ∣ c then J (0 - a * b) p = -1 else False
structure BadL (a b c : Int) (l : List Int) : Prop where
  mem : ∀ p, p ∈ l ↔ (p = 0 ∨ p = 2 ∨ Pr p ∧ 2 < p ∧ (p ∣ a ∨ p ∣ b ∨ p ∣ c)) ∧ BadAt a b c p
  up : l.Pairwise (· < ·)
  len : l.length ≤ 6002
def BadP (a b c p : Int) : Prop := (p = 0 ∧ (0 < a ↔ 0 < b) ∧ (0 < b ↔ 0 < c)) ∨ (p = 2 ∧ ¬ Fit8 a b c) ∨ (Pr p ∧ 2 < p ∧ ((p ∣ a ∧ J (0 - b * c) p = -1) ∨ (p ∣ b ∧ J (0 - c * a) p = -1) ∨ (p ∣ c ∧ J (0 - a * b) p = -1)))
theorem BadL.mem' {a b c : Int} {l : List Int} (h : BadL a b c l) (hp : Pln a b c) (p : Int) : p ∈ l ↔ BadP a b c p := by
  rw [h.mem]
  have no2 : ∀ {u v : Int}, Int.gcd u v = 1 → Pr p → p ∣ u → ¬ p ∣ v := fun g hp h1 h2 => by
    have := Int.dvd_coe_gcd h1 h2
    rw [g] at this
    exact hp.not_one this
  unfold BadAt
  constructor
  · rintro ⟨e | e | ⟨k1, k2, k3⟩, w⟩
    · rw [if_pos e] at w; exact .inl ⟨e, w⟩
    · rw [if_neg (by omega), if_pos e] at w; exact .inr (.inl ⟨e, w⟩)
    · rw [if_neg (by omega), if_neg (by omega)] at w
      refine .inr (.inr ⟨k1, k2, ?_⟩)
      by_cases da : p ∣ a
      · rw [if_pos da] at w; exact .inl ⟨da, w⟩
      rw [if_neg da] at w
      by_cases db : p ∣ b
      · rw [if_pos db] at w; exact .inr (.inl ⟨db, w⟩)
      rw [if_neg db] at w
      by_cases dc : p ∣ c
      · rw [if_pos dc] at w; exact .inr (.inr ⟨dc, w⟩)
      rw [if_neg dc] at w
      exact w.elim
  · rintro (⟨e, w⟩ | ⟨e, w⟩ | ⟨k1, k2, k3⟩)
    · rw [if_pos e]; exact ⟨.inl e, w⟩
    · rw [if_neg (by omega), if_pos e]; exact ⟨.inr (.inl e), w⟩
    · rw [if_neg (by omega), if_neg (by omega)]
      rcases k3 with k | k | k
      · rw [if_pos k.1]; exact ⟨.inr (.inr ⟨k1, k2, .inl k.1⟩), k.2⟩
      · rw [if_neg (fun d => no2 hp.ab k1 d k.1), if_pos k.1]; exact ⟨.inr (.inr ⟨k1, k2, .inr (.inl k.1)⟩), k.2⟩
      · rw [if_neg (no2 hp.ca k1 k.1), if_neg (fun d => no2 hp.bc k1 d k.1), if_pos k.1]; exact ⟨.inr (.inr ⟨k1, k2, .inr (.inr k.1)⟩), k.2⟩
theorem up_ext : ∀ {l r : List Int}, l.Pairwise (· < ·) → r.Pairwise (· < ·) → (∀ x, x ∈ l ↔ x ∈ r) → l = r
  | [], [], _, _, _ => rfl
  | [], y :: r, _, _, h => nomatch (h y).mpr List.mem_cons_self
  | x :: l, [], _, _, h => nomatch (h x).mp List.mem_cons_self
  | x :: l, y :: r, h1, h2, h => by
    obtain ⟨a1, a2⟩ := List.pairwise_cons.mp h1
    obtain ⟨b1, b2⟩ := List.pairwise_cons.mp h2
    have e : x = y := by
      rcases List.mem_cons.mp ((h x).mp List.mem_cons_self) with e | e
      · exact e
      rcases List.mem_cons.mp ((h y).mpr List.mem_cons_self) with k | k
      · exact k.symm
      have := b1 x e; have := a1 y k; omega
    subst e
    rw [up_ext a2 b2 fun z => ?_]
    constructor
    · intro k
      rcases List.mem_cons.mp ((h z).mp (List.mem_cons_of_mem _ k)) with e | e
      · have := a1 z k; omega
      · exact e
    · intro k
      rcases List.mem_cons.mp ((h z).mpr (List.mem_cons_of_mem _ k)) with e | e
      · have := b1 z k; omega
      · exact e
theorem BadL.uniq {a b c a' b' c' : Int} {l r : List Int} (h : BadL a b c l) (hp : Pln a b c) (hr : r.Pairwise (· < ·)) (hm : ∀ p, p ∈ r ↔ BadP a b c p) : l = r :=
  up_ext h.up hr fun p => (h.mem' hp p).trans (hm p).symm
end DL

namespace DL
open PySem L2
abbrev Dct := List (Int × D)
def encL (m : Dct) : List (D × D) := m.map fun p => (.int p.1, p.2)
def encD (m : Dct) : D := .dict (encL m)
theorem encL_inj : ∀ {m n : Dct}, encL m = encL n → m = n
  | [], [], _ => rfl
  | [], _ :: _, e => nomatch e
  | _ :: _, [], e => nomatch e
  | (i, d) :: m, (j, c) :: n, e => by
    unfold encL at e
    rw [List.map_cons, List.map_cons] at e
    injection e with e1 e2
    injection e1 with e3 e4
    injection e3 with e5
    have := encL_inj (m := m) (n := n) e2
    cases e5; cases e4; rw [this]
def mget (m : Dct) (k : Int) : Option D := (m.find? fun p => decide (p.1 = k)).map (·.2)
def mput (m : Dct) (k : Int) (d : D) : Dct := if (m.any fun p => decide (p.1 = k)) = true then m.map (fun p => if p.1 = k then (p.1, d) else p) else m ++ [(k, d)]
def dctK (d : D) (k : Dct → Prop) : Prop := ∃ m, d = encD m ∧ k m
theorem w_dctK {m : Dct} {k : Dct → Prop} : dctK (encD m) k = k m := propext ⟨fun ⟨n, e, h⟩ => by
  have : m = n := encL_inj (by injection e)
  rw [this]; exact h, fun h => ⟨m, rfl, h⟩⟩
def eDnew : ES := fun _ _ q => ∀ v fp, q (.obj v (encD []) fp)
theorem u_eDnew {x : XP} {δ : List S} {q : S → Prop} : eDnew x δ q = ∀ v fp, q (.obj v (encD []) fp) := (rfl)
def sPutD (i : Nat) (k e : ES) : ST := fun D δ => (lk δ i).ob fun v d fp => dctK d fun m => e (fun x => D.ex x δ) δ fun s => s.fr fun c => k (fun x => D.ex x δ) δ fun t => t.nm fun n => m.length < sizeLine ∧ D.nx (put δ i (.obj v (encD (mput m n c)) fp))
theorem u_sPutD {i : Nat} {k e : ES} {D : DL.Ends} {δ : List S} : sPutD i k e D δ = (lk δ i).ob fun v d fp => dctK d fun m => e (fun x => D.ex x δ) δ fun s => s.fr fun c => k (fun x => D.ex x δ) δ fun t => t.nm fun n => m.length < sizeLine ∧ D.nx (put δ i (.obj v (encD (mput m n c)) fp)) := (rfl)
def eGetD (i : Nat) (k e : ES) : ES := fun x δ q => (lk δ i).ob fun v d fp => dctK d fun m => k x δ fun t => t.nm fun n => e x δ fun s => s.fr fun c => q (.val ((mget m n).getD c))
theorem u_eGetD {i : Nat} {k e : ES} {x : XP} {δ : List S} {q : S → Prop} : eGetD i k e x δ q = (lk δ i).ob fun v d fp => dctK d fun m => k x δ fun t => t.nm fun n => e x δ fun s => s.fr fun c => q (.val ((mget m n).getD c)) := (rfl)
def eInD (i : Nat) (k : ES) : ES := fun x δ q => (lk δ i).ob fun v d fp => dctK d fun m => k x δ fun t => t.nm fun n => q (.val (.bool (mget m n).isSome))
theorem u_eInD {i : Nat} {k : ES} {x : XP} {δ : List S} {q : S → Prop} : eInD i k x δ q = (lk δ i).ob fun v d fp => dctK d fun m => k x δ fun t => t.nm fun n => q (.val (.bool (mget m n).isSome)) := (rfl)
def eIxD (i : Nat) (k : ES) : ES := fun x δ q => (lk δ i).ob fun v d fp => dctK d fun m => k x δ fun t => t.nm fun n => optK (mget m n) fun c => q (.val c)
theorem u_eIxD {i : Nat} {k : ES} {x : XP} {δ : List S} {q : S → Prop} : eIxD i k x δ q = (lk δ i).ob fun v d fp => dctK d fun m => k x δ fun t => t.nm fun n => optK (mget m n) fun c => q (.val c) := (rfl)
def eSrtD (i : Nat) : ES := fun x δ q => (lk δ i).ob fun v d fp => dctK d fun m => m.length < 64 ∧ ∀ ms : List Int, ms.Perm (m.map (·.1)) → ms.Pairwise (· ≤ ·) → q (.own (ms.map PyData.int))
theorem u_eSrtD {i : Nat} {x : XP} {δ : List S} {q : S → Prop} : eSrtD i x δ q = (lk δ i).ob fun v d fp => dctK d fun m => m.length < 64 ∧ ∀ ms : List Int, ms.Perm (m.map (·.1)) → ms.Pairwise (· ≤ ·) → q (.own (ms.map PyData.int)) := (rfl)
section
variable {X : Cx} {W : WX} {pos : Pos}
end
end DL

namespace DL
open PySem L2
theorem EnvR.base {K : PySem.W.Frag} {H H1 O' H' : Hp} {σ : L2.St} {δ : List S} (e : Sam H H1) (r : EnvR K H1 O' H' σ δ) : EnvR K H O' H' σ δ :=
  ⟨r.len, r.val, fun i ds h => let ⟨p, vs, a, n, z⟩ := r.own i ds h; ⟨p, vs, a, e.free n, z⟩, r.inj, r.adr, ⟨fun i v d fp h => let ⟨a, b, c, f⟩ := r.ob.obj i v d fp h; ⟨a, b, c, fun x hx => ⟨e.free (f x hx).1, (f x hx).2⟩⟩, r.ob.oo, r.ob.pp⟩, r.tt⟩
def aoK : List ES → XP → List S → (List S → Prop) → Prop
  | [], _, _, k => k []
  | e :: r, x, δ, k => e x δ fun s => match s with
    | .obj v d fp => aoK r x δ fun ss => k (.obj v d fp :: ss)
    | .val d => aoK r x δ fun ss => k (.val d :: ss)
    | .own ds => aoK r x δ fun ss => k (.val (.list ds) :: ss)
    | _ => False
def obK (s : S) (k : S → Prop) : Prop := match s with
    | .obj v d fp => k (.obj v d fp)
    | .val d => k (.val d)
    | .own ds => k (.val (.list ds))
    | _ => False
theorem w_obK1 {v : V} {d : D} {fp : List Addr} {k : S → Prop} : obK (.obj v d fp) k = k (.obj v d fp) := (rfl)
theorem w_obK2 {d : D} {k : S → Prop} : obK (.val d) k = k (.val d) := (rfl)
theorem w_obK3 {ds : List D} {k : S → Prop} : obK (.own ds) k = k (.val (.list ds)) := (rfl)
theorem w_ao0 {x : XP} {δ : List S} {k : List S → Prop} : aoK [] x δ k = k [] := (rfl)
theorem w_ao1 {e : ES} {r : List ES} {x : XP} {δ : List S} {k : List S → Prop} : aoK (e :: r) x δ k = e x δ fun s => obK s fun t => aoK r x δ fun ss => k (t :: ss) := by
  show (e x δ _) = _
  congr 1
def eCallO (p : MSp) (as : List ES) : ES := fun x δ q => aoK as x δ fun ss => p ss x fun s _ => q s
theorem u_eCallO {p : MSp} {as : List ES} {x : XP} {δ : List S} {q : S → Prop} : eCallO p as x δ q = aoK as x δ fun ss => p ss x fun s _ => q s := (rfl)
section
variable {X : Cx} {W : WX} {pos : Pos} {k : Nat} {f : Addr} {fd : FuncData} {ps : List Str} {p : MSp} {x : Str} {p1 : Pos} {e : Expr} {es : List Expr}
end
end DL

namespace DL
open PySem L2
theorem if_pn {c : Prop} [Decidable c] {P Q : Prop} (h1 : c → P) (h2 : ¬ c → Q) : if c then P else Q := by
  split
  · exact h1 ‹_›
  · exact h2 ‹_›
theorem atI_m1 {a b c : D} : atI [a, b, c] (-1) = some c := (rfl)
theorem atI_m2 {a b c : D} : atI [a, b, c] (-2) = some b := (rfl)
theorem FacL.short {n : Int} {r : List Int} (h : FacL n r) (k : n.natAbs < 2 ^ 40) : r.length ≤ 40 := by
  refine Classical.byContradiction fun z => ?_
  have := Nat.pow_le_pow_right (n := 2) (by decide) (show 41 ≤ r.length by omega)
  have := h.len
  omega
end DL

namespace DL
open PySem L2
def FitN (a b p n : Int) (y z : Int) : Prop := (¬ p ∣ y ∨ ¬ p ∣ z) ∧ ∃ x : Int, n ∣ a * y * y + b * z * z - x * x
def Fits (a b p n : Int) : Prop := ∃ y z : Int, FitN a b p n y z
theorem Fits.symm {a b p n : Int} (h : Fits a b p n) : Fits b a p n := by
  obtain ⟨y, z, h1, x, h2⟩ := h
  exact ⟨z, y, h1.symm, x, by rw [show b * z * z + a * y * y - x * x = a * y * y + b * z * z - x * x by omega]; exact h2⟩
theorem sq_pr {p x : Int} (hp : Pr p) (h : p ∣ x * x) : p ∣ x := (hp.euclid h).elim id id
def pt2 (A : Int) : Nat × Int := if A % 2 = 1 then (0, A % 8) else (1, A / 2)
def h2B (A B : Int) : Int := H2 (pt2 A).1 (pt2 A).2 (pt2 B).1 (pt2 B).2
end DL

namespace DL
open PySem L2
theorem hil_odd {p a b : Int} (hp : Pr p) (h2 : p ≠ 2) (sa : SqF a) (sb : SqF b) : (∃ u v, a = p * u ∧ b = p * v ∧ ¬ p ∣ u ∧ ¬ p ∣ v ∧ hil p a b = J (0 - u * v) p) ∨ (p ∣ a ∧ ¬ p ∣ b ∧ hil p a b = J b p) ∨ (¬ p ∣ a ∧ p ∣ b ∧ hil p a b = J a p) ∨ (¬ p ∣ a ∧ ¬ p ∣ b ∧ hil p a b = 1) := by
  have part : ∀ {c : Int}, SqF c → p ∣ c → ∃ u, c = p * u ∧ ¬ p ∣ u ∧ pt p c = (1, u) := fun {c} sc ⟨u, e⟩ => by
    have nu : ¬ p ∣ u := fun ⟨w, k⟩ => sc.no p hp.two ⟨w, by rw [e, k]; grind⟩
    exact ⟨u, e, nu, Pt.pt hp.two ⟨by rw [e, Int.pow_succ, Int.pow_zero, Int.one_mul], nu⟩⟩
  have none_ : ∀ {c : Int}, ¬ p ∣ c → pt p c = (0, c) := fun h => (Pt.zero h).pt hp.two
  have hl : hil p a b = HO p (pt p a).1 (pt p a).2 (pt p b).1 (pt p b).2 := by unfold hil; rw [if_neg (by have := hp.two; omega), if_neg h2]
  by_cases da : p ∣ a
  · by_cases db : p ∣ b
    · obtain ⟨u, e1, nu, eu⟩ := part sa da
      obtain ⟨v, e2, nv, ev⟩ := part sb db
      refine .inl ⟨u, v, e1, e2, nu, nv, ?_⟩
      rw [hl, eu, ev]
      show HO p 1 u 1 v = _
      have on := hp.odd h2
      rw [show 0 - u * v = -1 * (u * v) by grind, J_mul on, J_mul on, J_neg on]
      unfold HO
      rw [if_pos (by decide), if_pos (by decide), show ((1 : Nat) : Int) * ((1 : Nat) : Int) * ((p - 1) / 2) = p / 2 by have := on.odd; omega, Int.mul_assoc]
    · obtain ⟨u, e, nu, eu⟩ := part sa da
      refine .inr (.inl ⟨da, db, ?_⟩)
      rw [hl, eu, none_ db]
      show HO p 1 u 0 b = _
      unfold HO
      rw [if_neg (by decide), if_pos (by decide), show ((1 : Nat) : Int) * ((0 : Nat) : Int) * ((p - 1) / 2) = 0 by omega, show sg 0 = 1 from rfl, Int.one_mul, Int.one_mul]
  · by_cases db : p ∣ b
    · obtain ⟨v, e, nv, ev⟩ := part sb db
      refine .inr (.inr (.inl ⟨da, db, ?_⟩))
      rw [hl, none_ da, ev]
      show HO p 0 a 1 v = _
      unfold HO
      rw [if_pos (by decide), if_neg (by decide), show ((0 : Nat) : Int) * ((1 : Nat) : Int) * ((p - 1) / 2) = 0 by omega, show sg 0 = 1 from rfl, Int.one_mul, Int.mul_one]
    · exact .inr (.inr (.inr ⟨da, db, hil_away hp h2 da db⟩))
end DL

namespace DL
open PySem L2
structure Plc (a b : Int) (l : List Int) : Prop where
  nd : l.Nodup
  zero : (0 : Int) ∈ l
  two : (2 : Int) ∈ l
  pl : ∀ p ∈ l, p = 0 ∨ Pr p
  all : ∀ p, Pr p → p ∣ a ∨ p ∣ b → p ∈ l
def Rcp (a b : Int) : Prop := ∀ l, Plc a b l → lp (l.map fun p => hil p a b) = 1
theorem Rcp.symm {a b : Int} (h : Rcp a b) : Rcp b a := fun l w => by
  have := h l ⟨w.nd, w.zero, w.two, w.pl, fun p hp d => w.all p hp d.symm⟩
  rw [← this]
  congr 1
  exact List.map_congr_left fun p _ => hil_comm
theorem Rcp.mul {a b c : Int} (a0 : a ≠ 0) (b0 : b ≠ 0) (c0 : c ≠ 0) (h : Rcp a b) (k : Rcp a c) : Rcp a (b * c) := fun l w => by
  have h1 := h l ⟨w.nd, w.zero, w.two, w.pl, fun p hp d => w.all p hp (d.imp_right fun z => Int.dvd_mul_of_dvd_left z)⟩
  have h2 := k l ⟨w.nd, w.zero, w.two, w.pl, fun p hp d => w.all p hp (d.imp_right fun z => Int.dvd_mul_of_dvd_right z)⟩
  have e : (l.map fun p => hil p a (b * c)) = l.map fun p => hil p a b * hil p a c := List.map_congr_left fun p hp => hil_mul (w.pl p hp) a0 b0 c0
  rw [e, lp_mul, h1, h2]
  rfl
end DL

namespace DL
open PySem L2
def sForOwn (i : Nat) (g : EG) (b : ST) : ST := fun D δ => (lk δ i).ow fun ds => ∀ p, ∃ Inv : Nat → List S → Prop, Inv 0 (put δ i (.adr p)) ∧
  (∀ k d δ', ds[k]? = some d → Inv k δ' → g (.val d) δ' fun δ2 => b { D with nx := Inv (k + 1), ct := Inv (k + 1), bk := fun δ3 => lk δ3 i = .adr p ∧ D.nx (put δ3 i (.own ds)) } δ2) ∧
  ∀ δ', Inv ds.length δ' → lk δ' i = .adr p ∧ D.nx (put δ' i (.own ds))
section
variable {X : Cx} {W : WX} {pos : Pos}
end
def forOwnK (i : Nat) (g : EG) (b : ST) (δ : List S) (ds : List DL.D) [K : Ke] : Prop := ∀ p, ∃ Inv : Nat → List S → Prop, Inv 0 (put δ i (.adr p)) ∧
  (∀ k d δ', ds[k]? = some d → Inv k δ' → g (.val d) δ' fun δ2 => b { K.e with nx := Inv (k + 1), ct := Inv (k + 1), bk := fun δ3 => lk δ3 i = .adr p ∧ K.e.nx (put δ3 i (.own ds)) } δ2) ∧
  ∀ δ', Inv ds.length δ' → lk δ' i = .adr p ∧ K.e.nx (put δ' i (.own ds))
theorem u_forOwn {i : Nat} {g : EG} {b : ST} {D : DL.Ends} {δ : List S} : sForOwn i g b D δ = (lk δ i).ow fun ds => @forOwnK i g b δ ds ⟨D⟩ := (rfl)
def forLo (i : Nat) (p : Addr) (all : List DL.D) (g : EG) (b : ST) (D : DL.Ends) : List DL.D → List S → Prop
  | [], δ => lk δ i = .adr p ∧ D.nx (put δ i (.own all))
  | d :: ds, δ => g (.val d) δ fun δ2 => b { D with nx := forLo i p all g b D ds, ct := forLo i p all g b D ds, bk := fun δ3 => lk δ3 i = .adr p ∧ D.nx (put δ3 i (.own all)) } δ2
theorem w_forLo0 {i : Nat} {p : Addr} {all : List DL.D} {g : EG} {b : ST} {D : DL.Ends} {δ : List S} : forLo i p all g b D [] δ = (lk δ i = .adr p ∧ D.nx (put δ i (.own all))) := (rfl)
theorem w_forLo1 {i : Nat} {p : Addr} {all : List DL.D} {g : EG} {b : ST} {D : DL.Ends} {δ : List S} {d : DL.D} {ds : List DL.D} : forLo i p all g b D (d :: ds) δ = g (.val d) δ fun δ2 => b { D with nx := forLo i p all g b D ds, ct := forLo i p all g b D ds, bk := fun δ3 => lk δ3 i = .adr p ∧ D.nx (put δ3 i (.own all)) } δ2 := (rfl)
end DL

namespace DL
open PySem L2
theorem sgn_mul {a b : Int} (ha : a ≠ 0) (hb : b ≠ 0) : 0 < a * b ↔ (0 < a ↔ 0 < b) := by
  by_cases h1 : 0 < a <;> by_cases h2 : 0 < b
  · have := Int.mul_pos h1 h2
    exact ⟨fun _ => ⟨fun _ => h2, fun _ => h1⟩, fun _ => this⟩
  · have := Int.mul_neg_of_pos_of_neg h1 (show b < 0 by omega)
    exact ⟨fun k => by omega, fun k => absurd (k.mp h1) h2⟩
  · have := Int.mul_neg_of_neg_of_pos (show a < 0 by omega) h2
    exact ⟨fun k => by omega, fun k => absurd (k.mpr h2) h1⟩
  · have := Int.mul_pos_of_neg_of_neg (show a < 0 by omega) (show b < 0 by omega)
    exact ⟨fun _ => ⟨fun k => absurd k h1, fun k => absurd k h2⟩, fun _ => this⟩
theorem hil2_mod {x y : Int} (hx : x % 4 ≠ 0) (hy : y % 4 ≠ 0) : hil 2 x y = h2B (x % 16) (y % 16) := by
  have pt_ : ∀ {c : Int}, c % 4 ≠ 0 → ((pt 2 c).1 : Int) % 2 = ((pt2 (c % 16)).1 : Int) % 2 ∧ (pt 2 c).2 % 8 = (pt2 (c % 16)).2 % 8 ∧ (pt2 (c % 16)).2 % 2 = 1 := fun {c} n4 => by
    by_cases o : c % 2 = 1
    · rw [(Pt.zero (p := 2) (a := c) (by omega)).pt (by decide)]
      unfold pt2
      rw [if_pos (by omega)]
      exact ⟨rfl, by show c % 8 = c % 16 % 8 % 8; omega, by show c % 16 % 8 % 2 = 1; omega⟩
    · have e : pt 2 c = (1, c / 2) := Pt.pt (by decide) ⟨by rw [Int.pow_succ, Int.pow_zero, Int.one_mul]; omega, by omega⟩
      rw [e]
      unfold pt2
      rw [if_neg (by omega)]
      exact ⟨rfl, by show c / 2 % 8 = c % 16 / 2 % 8; omega, by show c % 16 / 2 % 2 = 1; omega⟩
  obtain ⟨a1, a2, a3⟩ := pt_ hx
  obtain ⟨b1, b2, b3⟩ := pt_ hy
  unfold hil h2B
  rw [if_neg (by decide), if_pos rfl]
  exact H2_par a1 b1 a2 b2 a3 b3
instance {a b c x y z : Int} : Decidable (Fit1 a b c x y z) := by unfold Fit1; infer_instance
instance {a b c : Int} : Decidable (Fit8 a b c) := by unfold Fit8; infer_instance
theorem fit8_mod1 {a b c : Int} : Fit8 a b c ↔ Fit8 (a % 16) (b % 16) (c % 16) := by
  have m : ∀ u x : Int, ∃ k, u * x = u % 16 * x + 8 * k := fun u x => ⟨2 * (u / 16) * x, by
    have := Int.mul_ediv_add_emod u 16
    generalize u / 16 = k at this ⊢
    generalize u % 16 = r at this ⊢
    rw [← this]; grind⟩
  have key : ∀ x y z : Int, (a * x + b * y + c * z) % 8 = (a % 16 * x + b % 16 * y + c % 16 * z) % 8 := fun x y z => by
    obtain ⟨k1, e1⟩ := m a x
    obtain ⟨k2, e2⟩ := m b y
    obtain ⟨k3, e3⟩ := m c z
    omega
  unfold Fit8 Fit1
  simp only [key]
def fitB (A B C : Nat) : Bool := [0, 1, 4].any fun x => [0, 1, 4].any fun y => [0, 1, 4].any fun z => (x == 1 || y == 1 || z == 1) && (A * x + B * y + C * z) % 8 == 0
theorem fitB_iff {A B C : Nat} : fitB A B C = true ↔ Fit8 (A : Int) (B : Int) (C : Int) := by
  unfold fitB Fit8 Fit1
  rw [List.any_eq_true]
  constructor
  · rintro ⟨x, hx, h⟩
    obtain ⟨y, hy, h⟩ := List.any_eq_true.mp h
    obtain ⟨z, hz, h⟩ := List.any_eq_true.mp h
    simp only [Bool.and_eq_true, Bool.or_eq_true, beq_iff_eq] at h
    refine ⟨x, ?_, y, ?_, z, ?_, by omega, ?_⟩
    · simp only [List.mem_cons, List.not_mem_nil, or_false] at hx ⊢; omega
    · simp only [List.mem_cons, List.not_mem_nil, or_false] at hy ⊢; omega
    · simp only [List.mem_cons, List.not_mem_nil, or_false] at hz ⊢; omega
    · have := h.2
      exact_mod_cast this
  · rintro ⟨x, hx, y, hy, z, hz, h1, h2⟩
    have lift : ∀ {u : Int}, u ∈ ([0, 1, 4] : List Int) → ∃ n : Nat, n ∈ ([0, 1, 4] : List Nat) ∧ u = n := fun {u} h => by
      simp only [List.mem_cons, List.not_mem_nil, or_false] at h
      rcases h with rfl | rfl | rfl
      · exact ⟨0, by simp, rfl⟩
      · exact ⟨1, by simp, rfl⟩
      · exact ⟨4, by simp, rfl⟩
    obtain ⟨x', hx', rfl⟩ := lift hx
    obtain ⟨y', hy', rfl⟩ := lift hy
    obtain ⟨z', hz', rfl⟩ := lift hz
    refine ⟨x', hx', List.any_eq_true.mpr ⟨y', hy', List.any_eq_true.mpr ⟨z', hz', ?_⟩⟩⟩
    simp only [Bool.and_eq_true, Bool.or_eq_true, beq_iff_eq]
    exact ⟨by omega, by exact_mod_cast h2⟩
def hu2 (P : Nat) : Nat := cond (P % 2 == 1) (P % 8) (P / 2)
def hi2 (P : Nat) : Nat := cond (P % 2 == 1) 0 1
def h2N (P Q : Nat) : Bool := ((hu2 P - 1) / 2 * ((hu2 Q - 1) / 2) + hi2 P * ((hu2 Q * hu2 Q - 1) / 8) + hi2 Q * ((hu2 P * hu2 P - 1) / 8)) % 2 == 0
theorem h2N_ok : ∀ P < 16, ∀ Q < 16, P % 4 ≠ 0 → Q % 4 ≠ 0 → h2N P Q = decide (h2B (P : Nat) (Q : Nat) = 1) := by decide +kernel
def chk2 (A B C : Nat) : Bool := A % 4 == 0 || B % 4 == 0 || C % 4 == 0 || !(A % 2 == 1 || B % 2 == 1) || !(B % 2 == 1 || C % 2 == 1) || !(C % 2 == 1 || A % 2 == 1) || fitB A B C == h2N ((16 - A * B % 16) % 16) ((16 - A * C % 16) % 16)
theorem chk2_ok : ((List.range 16).all fun A => (List.range 16).all fun B => (List.range 16).all fun C => chk2 A B C) = true := by decide +kernel
theorem neg_mod16 (A B : Nat) : (0 - (A : Int) * (B : Int)) % 16 = (((16 - A * B % 16) % 16 : Nat) : Int) := by
  rw [← Int.natCast_mul]
  generalize A * B = k
  omega
theorem mul_mod4 {A B : Nat} (hA : A % 4 ≠ 0) (hB : B % 4 ≠ 0) (h : A % 2 = 1 ∨ B % 2 = 1) : (16 - A * B % 16) % 16 % 4 ≠ 0 := by
  have e := Nat.mul_mod A B 4
  have h1 : A % 4 = 1 ∨ A % 4 = 2 ∨ A % 4 = 3 := by omega
  have h2 : B % 4 = 1 ∨ B % 4 = 2 ∨ B % 4 = 3 := by omega
  generalize A * B = k at *
  rcases h1 with h1 | h1 | h1 <;> rcases h2 with h2 | h2 | h2 <;> rw [h1, h2] at e <;> omega
theorem bad_two {a b c : Int} (ha : a % 4 ≠ 0) (hb : b % 4 ≠ 0) (hc : c % 4 ≠ 0) (ab : a % 2 = 1 ∨ b % 2 = 1) (bc : b % 2 = 1 ∨ c % 2 = 1) (ca : c % 2 = 1 ∨ a % 2 = 1) : Fit8 a b c ↔ hil 2 (0 - a * b) (0 - a * c) = 1 := by
  have dec : ∀ A < 16, ∀ B < 16, ∀ C < 16, A % 4 ≠ 0 → B % 4 ≠ 0 → C % 4 ≠ 0 → (A % 2 = 1 ∨ B % 2 = 1) → (B % 2 = 1 ∨ C % 2 = 1) → (C % 2 = 1 ∨ A % 2 = 1) → (Fit8 (A : Nat) (B : Nat) (C : Nat) ↔ h2B ((0 - (A : Int) * (B : Int)) % 16) ((0 - (A : Int) * (C : Int)) % 16) = 1) := fun A hA B hB C hC g1 g2 g3 g4 g5 g6 => by
    have k := List.all_eq_true.mp (List.all_eq_true.mp (List.all_eq_true.mp chk2_ok A (List.mem_range.mpr hA)) B (List.mem_range.mpr hB)) C (List.mem_range.mpr hC)
    unfold chk2 at k
    have e1 : (A % 4 == 0) = false := by simpa using g1
    have e2 : (B % 4 == 0) = false := by simpa using g2
    have e3 : (C % 4 == 0) = false := by simpa using g3
    have e4 : (A % 2 == 1 || B % 2 == 1) = true := by simpa using g4
    have e5 : (B % 2 == 1 || C % 2 == 1) = true := by simpa using g5
    have e6 : (C % 2 == 1 || A % 2 == 1) = true := by simpa using g6
    rw [e1, e2, e3, e4, e5, e6] at k
    simp only [Bool.not_true, Bool.false_or, beq_iff_eq] at k
    rw [h2N_ok _ (Nat.mod_lt _ (by decide)) _ (Nat.mod_lt _ (by decide)) (mul_mod4 g1 g2 g4) (mul_mod4 g1 g3 (g6.symm)), ← neg_mod16, ← neg_mod16] at k
    rw [← fitB_iff, k, decide_eq_true_iff]
  have n4 : ∀ {u v : Int}, u % 4 ≠ 0 → v % 4 ≠ 0 → (u % 2 = 1 ∨ v % 2 = 1) → (0 - u * v) % 4 ≠ 0 := fun {u v} hu hv h => by
    have e := Int.mul_emod u v 4
    have h1 : u % 4 = 1 ∨ u % 4 = 2 ∨ u % 4 = 3 := by omega
    have h2 : v % 4 = 1 ∨ v % 4 = 2 ∨ v % 4 = 3 := by omega
    rcases h1 with k | k | k <;> rcases h2 with j | j | j <;> rw [k, j] at e <;> omega
  have m : ∀ u v : Int, (0 - u * v) % 16 = (0 - u % 16 * (v % 16)) % 16 := fun u v => by
    have := Int.mul_emod u v 16
    omega
  have k := dec (a % 16).toNat (by omega) (b % 16).toNat (by omega) (c % 16).toNat (by omega) (by omega) (by omega) (by omega) (by omega) (by omega) (by omega)
  rw [show (((a % 16).toNat : Nat) : Int) = a % 16 by omega, show (((b % 16).toNat : Nat) : Int) = b % 16 by omega, show (((c % 16).toNat : Nat) : Int) = c % 16 by omega] at k
  rw [hil2_mod (n4 ha hb ab) (n4 ha hc ca.symm), m a b, m a c, ← k]
  exact fit8_mod1
theorem SqF.mul {a b : Int} (ha : SqF a) (hb : SqF b) (g : Int.gcd a b = 1) : SqF (a * b) := by
  refine SqF.of_pr (Int.mul_ne_zero ha.ne hb.ne) fun p hp d => ?_
  have sq : ∀ {c : Int}, ¬ p ∣ c → Int.gcd (p * p) c = 1 := fun {c} n => gcd_mul_one.mpr ⟨hp.gcd.resolve_left n, hp.gcd.resolve_left n⟩
  by_cases da : p ∣ a
  · have db : ¬ p ∣ b := fun k => hp.not_one (by have := Int.dvd_coe_gcd da k; rw [g] at this; exact this)
    rw [Int.mul_comm a b] at d
    exact ha.no p hp.two (copr_dvd (sq db) d)
  · exact hb.no p hp.two (copr_dvd (sq da) d)
theorem bad_hil {a b c p : Int} (pl : Pln a b c) (hp : p = 0 ∨ Pr p) : BadP a b c p ↔ hil p (0 - a * b) (0 - a * c) = -1 := by
  have A := pl.fa.ne
  have B := pl.fb.ne
  have C := pl.fc.ne
  have sx : SqF (0 - a * b) := by rw [Int.zero_sub]; exact (pl.fa.mul pl.fb pl.ab).neg
  have sy : SqF (0 - a * c) := by rw [Int.zero_sub]; exact (pl.fa.mul pl.fc (by rw [Int.gcd_comm]; exact pl.ca)).neg
  have no2 : ∀ {u v : Int}, Int.gcd u v = 1 → Pr p → p ∣ u → ¬ p ∣ v := fun g hp h1 h2 => hp.not_one (by have := Int.dvd_coe_gcd h1 h2; rw [g] at this; exact this)
  rcases hp with rfl | hp
  · have e1 := sgn_mul A B
    have e2 := sgn_mul A C
    have n0 : ¬ Pr 0 := fun h => by have := h.two; omega
    unfold BadP hil
    rw [if_pos rfl]
    constructor
    · rintro (⟨_, h⟩ | ⟨h, _⟩ | ⟨h, _⟩)
      · rw [if_pos]
        have h1 := e1.mpr h.1
        have h2 := e2.mpr (h.1.trans h.2)
        omega
      · omega
      · exact absurd h n0
    · intro h
      split at h
      · rename_i k
        have h1 := e1.mp (by omega)
        have h2 := e2.mp (by omega)
        exact .inl ⟨rfl, h1, h1.symm.trans h2⟩
      · omega
  by_cases h2 : p = 2
  · subst h2
    have n4 : ∀ {c : Int}, SqF c → c % 4 ≠ 0 := fun {c} sc k => sc.no 2 (by decide) (by omega)
    have od : ∀ {u v : Int}, Int.gcd u v = 1 → u % 2 = 1 ∨ v % 2 = 1 := fun {u v} g => by
      by_cases k : (2 : Int) ∣ u
      · have := no2 g hp k
        exact .inr (by omega)
      · exact .inl (by omega)
    have k := bad_two (n4 pl.fa) (n4 pl.fb) (n4 pl.fc) (od pl.ab) (od pl.bc) (od pl.ca)
    have e : BadP a b c 2 ↔ ¬ Fit8 a b c := by
      unfold BadP
      constructor
      · rintro (⟨h, _⟩ | ⟨_, h⟩ | ⟨_, h, _⟩)
        · omega
        · exact h
        · omega
      · exact fun h => .inr (.inl ⟨rfl, h⟩)
    rw [e, k]
    rcases hil_or (.inr hp) sx.ne sy.ne with j | j <;> rw [j] <;> decide
  have p2 := hp.two
  have on := hp.odd h2
  have e : BadP a b c p ↔ (p ∣ a ∧ J (0 - b * c) p = -1) ∨ (p ∣ b ∧ J (0 - c * a) p = -1) ∨ (p ∣ c ∧ J (0 - a * b) p = -1) := by
    unfold BadP
    constructor
    · rintro (⟨h, _⟩ | ⟨h, _⟩ | ⟨_, _, h⟩)
      · omega
      · omega
      · exact h
    · exact fun h => .inr (.inr ⟨hp, by omega, h⟩)
  rw [e]
  have dx : ∀ {u v : Int}, p ∣ u ∨ p ∣ v → p ∣ 0 - u * v := fun h => by
    rw [Int.zero_sub]
    exact Int.dvd_neg.mpr (h.elim (fun k => Int.dvd_mul_of_dvd_left k) fun k => Int.dvd_mul_of_dvd_right k)
  have nx : ∀ {u v : Int}, ¬ p ∣ u → ¬ p ∣ v → ¬ p ∣ 0 - u * v := fun h k d => by
    rw [Int.zero_sub] at d
    exact (hp.euclid (Int.dvd_neg.mp d)).elim h k
  by_cases da : p ∣ a
  · have db := no2 pl.ab hp da
    have dc : ¬ p ∣ c := fun k => no2 pl.ca hp k da
    have fin : hil p (0 - a * b) (0 - a * c) = J (0 - b * c) p := by
      rcases hil_odd hp h2 sx sy with ⟨u, v, e1, e2, _, _, ej⟩ | ⟨_, n, _⟩ | ⟨n, _⟩ | ⟨n, _⟩
      · obtain ⟨w, rfl⟩ := da
        have nw : ¬ p ∣ w := fun ⟨k, hk⟩ => pl.fa.no p p2 ⟨k, by rw [hk]; grind⟩
        have eu : u = 0 - w * b := Int.eq_of_mul_eq_mul_left (show p ≠ 0 by omega) (by rw [← e1]; grind)
        have ev : v = 0 - w * c := Int.eq_of_mul_eq_mul_left (show p ≠ 0 by omega) (by rw [← e2]; grind)
        rw [ej, eu, ev, show 0 - (0 - w * b) * (0 - w * c) = w * w * (0 - b * c) by grind, J_mul on, J_sq on (gcd_one_of hp nw), Int.one_mul]
      · exact absurd (dx (.inl da)) n
      · exact absurd (dx (.inl da)) n
      · exact absurd (dx (.inl da)) n
    rw [fin]
    exact ⟨fun h => h.elim (fun k => k.2) fun h => h.elim (fun k => absurd k.1 db) fun k => absurd k.1 dc, fun h => .inl ⟨da, h⟩⟩
  by_cases db : p ∣ b
  · have dc := no2 pl.bc hp db
    have fin : hil p (0 - a * b) (0 - a * c) = J (0 - c * a) p := by
      rcases hil_odd hp h2 sx sy with ⟨u, v, _, e2, _⟩ | ⟨_, _, ej⟩ | ⟨n, _⟩ | ⟨n, _⟩
      · exact absurd ⟨v, e2⟩ (nx da dc)
      · rw [ej, Int.mul_comm a c]
      · exact absurd (dx (.inr db)) n
      · exact absurd (dx (.inr db)) n
    rw [fin]
    exact ⟨fun h => h.elim (fun k => absurd k.1 da) fun h => h.elim (fun k => k.2) fun k => absurd k.1 dc, fun h => .inr (.inl ⟨db, h⟩)⟩
  by_cases dc : p ∣ c
  · have fin : hil p (0 - a * b) (0 - a * c) = J (0 - a * b) p := by
      rcases hil_odd hp h2 sx sy with ⟨u, v, e1, _⟩ | ⟨n, _⟩ | ⟨_, _, ej⟩ | ⟨_, n, _⟩
      · exact absurd ⟨u, e1⟩ (nx da db)
      · exact absurd n (nx da db)
      · exact ej
      · exact absurd (dx (.inr dc)) n
    rw [fin]
    exact ⟨fun h => h.elim (fun k => absurd k.1 da) fun h => h.elim (fun k => absurd k.1 db) fun k => k.2, fun h => .inr (.inr ⟨dc, h⟩)⟩
  · rw [hil_away hp h2 (nx da db) (nx da dc)]
    exact ⟨fun h => h.elim (fun k => absurd k.1 da) fun h => h.elim (fun k => absurd k.1 db) fun k => absurd k.1 dc, fun h => by omega⟩
end DL

namespace DL
open PySem PySem.Spec PyProof.Rows L2
end DL
namespace DL
open PySem L2
def zip2 : List D → List D → List D
  | x :: xs, y :: ys => .tuple [x, y] :: zip2 xs ys
  | _, _ => []
def zipLK : List D → (List D → Prop) → Prop
  | [.list xs, .list ys], q => q (zip2 xs ys)
  | _, _ => False
def zipMK : List D → (List D → Prop) → Prop
  | [.list xs, .tuple ys], q => q (zip2 xs ys)
  | _, _ => False
def iZipLD (a : EA) : EI := fun x δ q => a x δ fun ds => zipLK ds q
def iZipMD (a : EA) : EI := fun x δ q => a x δ fun ds => zipMK ds q
theorem u_iZipLD {a : EA} {x : XP} {δ : List S} {q : List D → Prop} : iZipLD a x δ q = a x δ fun ds => zipLK ds q := (rfl)
theorem u_iZipMD {a : EA} {x : XP} {δ : List S} {q : List D → Prop} : iZipMD a x δ q = a x δ fun ds => zipMK ds q := (rfl)
theorem w_zipLK {xs ys : List D} {q : List D → Prop} : zipLK [.list xs, .list ys] q = q (zip2 xs ys) := (rfl)
theorem w_zipMK {xs ys : List D} {q : List D → Prop} : zipMK [.list xs, .tuple ys] q = q (zip2 xs ys) := (rfl)
theorem w_zip21 {x y : D} {xs ys : List D} : zip2 (x :: xs) (y :: ys) = .tuple [x, y] :: zip2 xs ys := (rfl)
theorem w_zip20 : zip2 [] [] = [] := (rfl)
section
variable {X : Cx} {W : WX} {pos : Pos}
end
end DL

namespace DL
open PySem L2
def wt (a b c x y z : Int) : Int := a * x * x + b * y * y + c * z * z
theorem len_sub : ∀ {l m : List Int}, l.Nodup → (∀ x ∈ l, x ∈ m) → l.length ≤ m.length
  | [], _, _, _ => Nat.zero_le _
  | x :: l, m, nd, h => by
    have hx := h x List.mem_cons_self
    obtain ⟨n1, n2⟩ := List.nodup_cons.mp nd
    have ih := len_sub (l := l) (m := m.erase x) n2 fun y hy => (List.mem_erase_of_ne fun e => n1 (by rw [← e]; exact hy)).mpr (h y (List.mem_cons_of_mem _ hy))
    rw [List.length_erase_of_mem hx] at ih
    have := List.length_pos_of_mem hx
    rw [List.length_cons]
    omega
theorem half_inj {p a c x y : Int} (hp : Pr p) (h2 : p ≠ 2) (ha : ¬ p ∣ a) (hx : x ∈ rngI 0 ((p / 2).toNat + 1)) (hy : y ∈ rngI 0 ((p / 2).toNat + 1)) (e : (a * x * x + c) % p = (a * y * y + c) % p) : x = y := by
  rw [mem_rngI] at hx hy
  have p2 := hp.two
  have d : p ∣ a * ((x - y) * (x + y)) := by
    have := Int.dvd_of_emod_eq_zero (Int.emod_eq_emod_iff_emod_sub_eq_zero.mp e)
    rwa [show a * x * x + c - (a * y * y + c) = a * ((x - y) * (x + y)) by grind] at this
  rcases hp.euclid ((hp.euclid d).resolve_left ha) with k | k
  · have := small_dvd k (by omega) (by omega)
    omega
  · have := (hp.odd h2).odd
    have := small_dvd k (by omega) (by omega)
    omega
theorem pigeon {p a b c : Int} (hp : Pr p) (h2 : p ≠ 2) (ha : ¬ p ∣ a) (hb : ¬ p ∣ b) : ∃ x y : Int, 0 ≤ y ∧ y < p ∧ p ∣ a * x * x + b * y * y + c := by
  have p2 := hp.two
  have on := hp.odd h2
  have p0 : 0 < p := by omega
  refine Classical.byContradiction fun no => ?_
  have no : ∀ x y : Int, 0 ≤ y → y < p → ¬ p ∣ a * x * x + b * y * y + c := fun x y h1 h2 h3 => no ⟨x, y, h1, h2, h3⟩
  have nb : ¬ p ∣ -b := fun k => hb (Int.dvd_neg.mp k)
  have n1 : ((rngI 0 ((p / 2).toNat + 1)).map fun x => (a * x * x + 0) % p).Nodup := nodup_map (rngI_nodup ..) fun x hx y hy e => half_inj hp h2 ha hx hy e
  have n2 : ((rngI 0 ((p / 2).toNat + 1)).map fun x => (-b * x * x + -c) % p).Nodup := nodup_map (rngI_nodup ..) fun x hx y hy e => half_inj hp h2 nb hx hy e
  have n3 : (((rngI 0 ((p / 2).toNat + 1)).map fun x => (a * x * x + 0) % p) ++ ((rngI 0 ((p / 2).toNat + 1)).map fun x => (-b * x * x + -c) % p)).Nodup := by
    refine List.nodup_append.mpr ⟨n1, n2, fun u hu v hv e => ?_⟩
    obtain ⟨x, hx, rfl⟩ := List.mem_map.mp hu
    obtain ⟨y, hy, rfl⟩ := List.mem_map.mp hv
    rw [mem_rngI] at hx hy
    refine no x y (by omega) (by omega) ?_
    have := Int.dvd_of_emod_eq_zero (Int.emod_eq_emod_iff_emod_sub_eq_zero.mp e)
    rwa [show a * x * x + 0 - (-b * y * y + -c) = a * x * x + b * y * y + c by grind] at this
  have le := len_sub (m := rngI 0 p.toNat) n3 fun u hu => by
    have lo : ∀ i : Int, 0 ≤ i % p ∧ i % p < p := fun i => ⟨Int.emod_nonneg i (by omega), Int.emod_lt_of_pos i p0⟩
    rw [mem_rngI]
    rcases List.mem_append.mp hu with k | k
    · obtain ⟨x, hx, rfl⟩ := List.mem_map.mp k
      have := lo (a * x * x + 0)
      omega
    · obtain ⟨x, hx, rfl⟩ := List.mem_map.mp k
      have := lo (-b * x * x + -c)
      omega
  rw [List.length_append, List.length_map, List.length_map, rngI_length, rngI_length] at le
  have := on.odd
  omega
theorem step2 {a x r : Int} {j : Nat} (hj : 3 ≤ j) (ha : a % 2 = 1) (hx : x % 2 = 1) (h : 2 ^ j ∣ a * x * x + r) (hn : ¬ 2 ^ (j + 1) ∣ a * x * x + r) : 2 ^ (j + 1) ∣ a * (x + 2 ^ (j - 1)) * (x + 2 ^ (j - 1)) + r ∧ (x + 2 ^ (j - 1)) % 2 = 1 := by
  obtain ⟨i, rfl⟩ : ∃ i, j = i + 3 := ⟨j - 3, by omega⟩
  obtain ⟨m, hm⟩ := h
  have e : i + 3 - 1 = i + 2 := by omega
  rw [e]
  have e3 : (2 : Int) ^ (i + 3) = 8 * 2 ^ i := by rw [Int.pow_succ, Int.pow_succ, Int.pow_succ]; omega
  have e4 : (2 : Int) ^ (i + 3 + 1) = 16 * 2 ^ i := by rw [Int.pow_succ, e3]; omega
  have e2 : (2 : Int) ^ (i + 2) = 4 * 2 ^ i := by rw [Int.pow_succ, Int.pow_succ]; omega
  rw [e3] at hm
  rw [e4] at hn ⊢
  rw [e2]
  generalize (2 : Int) ^ i = u at hm hn ⊢
  have mo : m % 2 = 1 := by
    refine Classical.byContradiction fun k => hn ?_
    rw [hm]
    exact ⟨m / 2, by have : m = 2 * (m / 2) := by omega
                     generalize m / 2 = t at this ⊢
                     rw [this]; grind⟩
  have ax : a * x % 2 = 1 := by rw [Int.mul_emod, ha, hx]; rfl
  refine ⟨⟨(m + a * x) / 2 + a * u, ?_⟩, by omega⟩
  have ht : m + a * x = 2 * ((m + a * x) / 2) := by omega
  generalize (m + a * x) / 2 = t at ht ⊢
  have : a * (x + 4 * u) * (x + 4 * u) + r = (a * x * x + r) + 8 * u * (a * x) + 16 * u * (a * u) := by grind
  rw [this, hm, show 8 * u * m + 8 * u * (a * x) = 8 * u * (m + a * x) by grind, ht]
  grind
theorem place2 {a b c x y z : Int} (h : wt a b c x y z % 8 = 0) (ho : x % 2 = 1 ∨ y % 2 = 1 ∨ z % 2 = 1) (ha : a % 4 ≠ 0) (hb : b % 4 ≠ 0) (hc : c % 4 ≠ 0) (ab : a % 2 = 1 ∨ b % 2 = 1) (bc : b % 2 = 1 ∨ c % 2 = 1) (ca : c % 2 = 1 ∨ a % 2 = 1) : (a % 2 = 1 ∧ x % 2 = 1) ∨ (b % 2 = 1 ∧ y % 2 = 1) ∨ (c % 2 = 1 ∧ z % 2 = 1) := by
  unfold wt at h
  have sq : ∀ u x : Int, (x % 2 = 1 ∧ u * x * x % 4 = u % 4) ∨ (x % 2 = 0 ∧ u * x * x % 4 = 0) := fun u x => by
    rcases (show x % 2 = 1 ∨ x % 2 = 0 by omega) with k | k
    · refine .inl ⟨k, ?_⟩
      have : x = 2 * (x / 2) + 1 := by omega
      generalize x / 2 = t at this
      rw [this, show u * (2 * t + 1) * (2 * t + 1) = u + 4 * (u * t * t + u * t) by grind]
      omega
    · refine .inr ⟨k, ?_⟩
      have : x = 2 * (x / 2) := by omega
      generalize x / 2 = t at this
      rw [this, show u * (2 * t) * (2 * t) = 4 * (u * t * t) by grind]
      omega
  have h1 := sq a x
  have h2 := sq b y
  have h3 := sq c z
  generalize a * x * x = A at h h1
  generalize b * y * y = B at h h2
  generalize c * z * z = C at h h3
  omega
end DL

namespace DL
open PySem L2
end DL

namespace DL
open PySem L2
structure M9 where
  (a b c d e f g h i : Int)
def M9.x (m : M9) (u v w : Int) : Int := m.a * u + m.b * v + m.c * w
def M9.y (m : M9) (u v w : Int) : Int := m.d * u + m.e * v + m.f * w
def M9.z (m : M9) (u v w : Int) : Int := m.g * u + m.h * v + m.i * w
def M9.det (m : M9) : Int := det9 m.a m.b m.c m.d m.e m.f m.g m.h m.i
def M9.adj (m : M9) : M9 := ⟨m.e * m.i - m.f * m.h, m.c * m.h - m.b * m.i, m.b * m.f - m.c * m.e, m.f * m.g - m.d * m.i, m.a * m.i - m.c * m.g, m.c * m.d - m.a * m.f, m.d * m.h - m.e * m.g, m.b * m.g - m.a * m.h, m.a * m.e - m.b * m.d⟩
def M9.mul (m k : M9) : M9 := ⟨m.a * k.a + m.b * k.d + m.c * k.g, m.a * k.b + m.b * k.e + m.c * k.h, m.a * k.c + m.b * k.f + m.c * k.i, m.d * k.a + m.e * k.d + m.f * k.g, m.d * k.b + m.e * k.e + m.f * k.h, m.d * k.c + m.e * k.f + m.f * k.i, m.g * k.a + m.h * k.d + m.i * k.g, m.g * k.b + m.h * k.e + m.i * k.h, m.g * k.c + m.h * k.f + m.i * k.i⟩
theorem M9.mul_x (m k : M9) (u v w : Int) : (m.mul k).x u v w = m.x (k.x u v w) (k.y u v w) (k.z u v w) := by simp only [M9.x, M9.y, M9.z, M9.mul]; grind
theorem M9.mul_y (m k : M9) (u v w : Int) : (m.mul k).y u v w = m.y (k.x u v w) (k.y u v w) (k.z u v w) := by simp only [M9.x, M9.y, M9.z, M9.mul]; grind
theorem M9.mul_z (m k : M9) (u v w : Int) : (m.mul k).z u v w = m.z (k.x u v w) (k.y u v w) (k.z u v w) := by simp only [M9.x, M9.y, M9.z, M9.mul]; grind
theorem M9.mul_det (m k : M9) : (m.mul k).det = m.det * k.det := det9_mul ..
theorem M9.adj_x (m : M9) (u v w : Int) : m.adj.x (m.x u v w) (m.y u v w) (m.z u v w) = m.det * u := by simp only [M9.x, M9.y, M9.z, M9.adj, M9.det, det9]; grind
theorem M9.adj_y (m : M9) (u v w : Int) : m.adj.y (m.x u v w) (m.y u v w) (m.z u v w) = m.det * v := by simp only [M9.x, M9.y, M9.z, M9.adj, M9.det, det9]; grind
theorem M9.adj_z (m : M9) (u v w : Int) : m.adj.z (m.x u v w) (m.y u v w) (m.z u v w) = m.det * w := by simp only [M9.x, M9.y, M9.z, M9.adj, M9.det, det9]; grind
theorem M9.x_adj (m : M9) (u v w : Int) : m.x (m.adj.x u v w) (m.adj.y u v w) (m.adj.z u v w) = m.det * u := by simp only [M9.x, M9.y, M9.z, M9.adj, M9.det, det9]; grind
theorem M9.y_adj (m : M9) (u v w : Int) : m.y (m.adj.x u v w) (m.adj.y u v w) (m.adj.z u v w) = m.det * v := by simp only [M9.x, M9.y, M9.z, M9.adj, M9.det, det9]; grind
theorem M9.z_adj (m : M9) (u v w : Int) : m.z (m.adj.x u v w) (m.adj.y u v w) (m.adj.z u v w) = m.det * w := by simp only [M9.x, M9.y, M9.z, M9.adj, M9.det, det9]; grind
theorem M9.adj_det (m : M9) : m.adj.det = m.det * m.det := by simp only [M9.adj, M9.det, det9]; grind
abbrev F3 := Int → Int → Int → Int
def Hm (f : F3) : Prop := ∀ t x y z : Int, f (t * x) (t * y) (t * z) = t * t * f x y z
structure Lk (f g : F3) : Prop where
  ex : ∃ (m : M9) (α β : Int), m.det ≠ 0 ∧ α ≠ 0 ∧ β ≠ 0 ∧ ∀ u v w, α * f (m.x u v w) (m.y u v w) (m.z u v w) = β * g u v w
theorem Lk.symm {f g : F3} (hf : Hm f) (h : Lk f g) : Lk g f := by
  obtain ⟨m, α, β, d0, a0, b0, e⟩ := h.ex
  refine ⟨m.adj, β, α * (m.det * m.det), by rw [m.adj_det]; exact Int.mul_ne_zero d0 d0, b0, Int.mul_ne_zero a0 (Int.mul_ne_zero d0 d0), fun u v w => ?_⟩
  rw [← e, m.x_adj, m.y_adj, m.z_adj, hf]
  grind
theorem Lk.trans {f g h : F3} (h1 : Lk f g) (h2 : Lk g h) : Lk f h := by
  obtain ⟨m, α, β, d0, a0, b0, e⟩ := h1.ex
  obtain ⟨k, γ, δ, d1, c0, e0, e'⟩ := h2.ex
  refine ⟨m.mul k, α * γ, β * δ, by rw [m.mul_det]; exact Int.mul_ne_zero d0 d1, Int.mul_ne_zero a0 c0, Int.mul_ne_zero b0 e0, fun u v w => ?_⟩
  rw [m.mul_x, m.mul_y, m.mul_z]
  have := e (k.x u v w) (k.y u v w) (k.z u v w)
  have := e' u v w
  grind
def FitF (f : F3) (p : Int) (k : Nat) : Prop := ∃ x y z : Int, p ^ k ∣ f x y z ∧ (¬ p ∣ x ∨ ¬ p ∣ y ∨ ¬ p ∣ z)
theorem pow_copr {p u : Int} (hp : Pr p) (hu : ¬ p ∣ u) : ∀ {n : Nat} {a : Int}, p ^ n ∣ u * a → p ^ n ∣ a
  | 0, a, _ => by rw [Int.pow_zero]; exact ⟨a, (Int.one_mul a).symm⟩
  | n + 1, a, h => by
    have h1 : p ∣ u * a := Int.dvd_trans (by rw [Int.pow_succ]; exact ⟨p ^ n, Int.mul_comm ..⟩) h
    obtain ⟨b, rfl⟩ := (hp.euclid h1).resolve_left hu
    have p0 : p ≠ 0 := by have := hp.two; omega
    have h2 : p * p ^ n ∣ p * (u * b) := by
      rw [Int.pow_succ, Int.mul_comm (p ^ n) p] at h
      rwa [show p * (u * b) = u * (p * b) by grind]
    have := pow_copr hp hu (Int.dvd_of_mul_dvd_mul_left p0 h2)
    rw [Int.pow_succ, Int.mul_comm (p ^ n) p]
    exact Int.mul_dvd_mul (Int.dvd_refl p) this
theorem prim_out {p : Int} : ∀ (n : Nat) (x y z : Int), ¬ (p ^ n ∣ x ∧ p ^ n ∣ y ∧ p ^ n ∣ z) → ∃ j x' y' z', j < n ∧ x = p ^ j * x' ∧ y = p ^ j * y' ∧ z = p ^ j * z' ∧ (¬ p ∣ x' ∨ ¬ p ∣ y' ∨ ¬ p ∣ z')
  | 0, x, y, z, h => absurd ⟨⟨x, by simp⟩, ⟨y, by simp⟩, ⟨z, by simp⟩⟩ h
  | n + 1, x, y, z, h => by
    by_cases k : p ∣ x ∧ p ∣ y ∧ p ∣ z
    · obtain ⟨⟨x, rfl⟩, ⟨y, rfl⟩, ⟨z, rfl⟩⟩ := k
      obtain ⟨j, x', y', z', h1, e1, e2, e3, h2⟩ := prim_out n x y z fun kk => h (by
        obtain ⟨k1, k2, k3⟩ := kk
        rw [Int.pow_succ, Int.mul_comm]
        exact ⟨Int.mul_dvd_mul (Int.dvd_refl p) k1, Int.mul_dvd_mul (Int.dvd_refl p) k2, Int.mul_dvd_mul (Int.dvd_refl p) k3⟩)
      refine ⟨j + 1, x', y', z', by omega, ?_, ?_, ?_, h2⟩
      · rw [e1, Int.pow_succ]; grind
      · rw [e2, Int.pow_succ]; grind
      · rw [e3, Int.pow_succ]; grind
    · refine ⟨0, x, y, z, by omega, by simp, by simp, by simp, ?_⟩
      exact Classical.byContradiction fun q => k ⟨Classical.byContradiction fun q1 => q (.inl q1), Classical.byContradiction fun q1 => q (.inr (.inl q1)), Classical.byContradiction fun q1 => q (.inr (.inr q1))⟩
theorem Lk.fit {f g : F3} {p : Int} (hp : Pr p) (hf : Hm f) (h : Lk f g) (hg : ∀ k, FitF g p k) (k : Nat) : FitF f p k := by
  obtain ⟨m, α, β, d0, a0, b0, e⟩ := h.ex
  have D := pt_ok hp.two d0
  have A := pt_ok hp.two a0
  generalize (pt p m.det).1 = d, (pt p m.det).2 = D' at D
  generalize (pt p α).1 = s, (pt p α).2 = A' at A
  obtain ⟨u, v, w, h1, h2⟩ := hg (k + s + 2 * d)
  have no : ¬ (p ^ (d + 1) ∣ m.x u v w ∧ p ^ (d + 1) ∣ m.y u v w ∧ p ^ (d + 1) ∣ m.z u v w) := fun ⟨k1, k2, k3⟩ => by
    have lin : ∀ a b c : Int, p ^ (d + 1) ∣ a * m.x u v w + b * m.y u v w + c * m.z u v w := fun a b c => Int.dvd_add (Int.dvd_add (Int.dvd_mul_of_dvd_right k1) (Int.dvd_mul_of_dvd_right k2)) (Int.dvd_mul_of_dvd_right k3)
    have l1 := lin m.adj.a m.adj.b m.adj.c
    have l2 := lin m.adj.d m.adj.e m.adj.f
    have l3 := lin m.adj.g m.adj.h m.adj.i
    have e1 := m.adj_x u v w
    have e2 := m.adj_y u v w
    have e3 := m.adj_z u v w
    rw [M9.x] at e1
    rw [M9.y] at e2
    rw [M9.z] at e3
    rw [e1] at l1
    rw [e2] at l2
    rw [e3] at l3
    have no : ¬ p ^ (d + 1) ∣ m.det := fun z => by
      rw [D.eq, Int.pow_succ] at z
      exact D.no (Int.dvd_of_mul_dvd_mul_left (by have := pow_ne' hp.two d; omega) z)
    rcases h2 with q | q | q
    · exact no (pow_copr hp q (by rw [Int.mul_comm]; exact l1))
    · exact no (pow_copr hp q (by rw [Int.mul_comm]; exact l2))
    · exact no (pow_copr hp q (by rw [Int.mul_comm]; exact l3))
  obtain ⟨j, x, y, z, hj, e1, e2, e3, h3⟩ := prim_out (d + 1) _ _ _ no
  refine ⟨x, y, z, ?_, h3⟩
  have q := e u v w
  rw [e1, e2, e3, hf, A.eq] at q
  have q1 : p ^ (k + s + 2 * d) ∣ p ^ s * A' * (p ^ j * p ^ j * f x y z) := by rw [q]; exact Int.dvd_mul_of_dvd_right h1
  have q2 : p ^ (s + j + j) * p ^ k ∣ p ^ (s + j + j) * (A' * f x y z) := by
    rw [← Int.pow_add, show p ^ (s + j + j) * (A' * f x y z) = p ^ s * A' * (p ^ j * p ^ j * f x y z) by rw [Int.pow_add, Int.pow_add]; grind]
    exact Int.dvd_trans (pow_dvd_pow (by omega)) q1
  exact pow_copr hp A.no (Int.dvd_of_mul_dvd_mul_left (by have := pow_ne' hp.two (s + j + j); omega) q2)
theorem hm_wt {a b c : Int} : Hm (wt a b c) := fun t x y z => by unfold wt; grind
theorem dvd_pow1 {p n : Int} {k : Nat} (h : p ^ (k + 1) ∣ n) : p ∣ n := Int.dvd_trans ⟨p ^ k, by rw [Int.pow_succ, Int.mul_comm]⟩ h
theorem hens_odd {p a r : Int} (hp : Pr p) (h2 : p ≠ 2) (ha : ¬ p ∣ a) : ∀ (k : Nat) {x : Int}, ¬ p ∣ x → p ∣ a * x * x + r → ∃ y, ¬ p ∣ y ∧ p ^ (k + 1) ∣ a * y * y + r
  | 0, x, hx, h => ⟨x, hx, by rw [Int.pow_succ, Int.pow_zero, Int.one_mul]; exact h⟩
  | k + 1, x, hx, h => by
    obtain ⟨y, hy, m, hm⟩ := hens_odd hp h2 ha k hx h
    have n2 : ¬ p ∣ 2 * a * y := fun d => by
      rcases hp.euclid d with q | q
      · rcases hp.euclid q with q | q
        · exact h2 (hp.eq pr_two q)
        · exact ha q
      · exact hy q
    obtain ⟨t, ht⟩ : ∃ t, p ∣ m + 2 * a * y * t := by
      by_cases dm : p ∣ m
      · exact ⟨0, by rw [Int.mul_zero, Int.add_zero]; exact dm⟩
      · obtain ⟨t, _, _, ht⟩ := back_exists (a := -m) hp n2 fun q => dm (Int.dvd_neg.mp q)
        exact ⟨t, by rw [show m + 2 * a * y * t = 2 * a * y * t - -m by omega]; exact ht⟩
    refine ⟨y + t * p ^ (k + 1), fun d => hy ?_, ?_⟩
    · have : p ∣ t * p ^ (k + 1) := Int.dvd_mul_of_dvd_right ⟨p ^ k, by rw [Int.pow_succ, Int.mul_comm]⟩
      have := Int.dvd_sub d this
      rwa [show y + t * p ^ (k + 1) - t * p ^ (k + 1) = y by omega] at this
    · obtain ⟨s, hs⟩ := ht
      refine ⟨s + a * t * t * p ^ k, ?_⟩
      rw [show a * (y + t * p ^ (k + 1)) * (y + t * p ^ (k + 1)) + r = (a * y * y + r) + p ^ (k + 1) * (2 * a * y * t) + a * t * t * (p ^ (k + 1) * p ^ (k + 1)) by grind, hm, show p ^ (k + 1) * m + p ^ (k + 1) * (2 * a * y * t) = p ^ (k + 1) * (m + 2 * a * y * t) by grind, hs]
      rw [Int.pow_succ p (k + 1), Int.pow_succ p k]
      grind
theorem hens_two {a r : Int} (ha : a % 2 = 1) : ∀ (k : Nat) {x : Int}, x % 2 = 1 → 8 ∣ a * x * x + r → ∃ y, y % 2 = 1 ∧ (2 : Int) ^ (k + 3) ∣ a * y * y + r
  | 0, x, hx, h => ⟨x, hx, h⟩
  | k + 1, x, hx, h => by
    obtain ⟨y, hy, h1⟩ := hens_two ha k hx h
    by_cases c : (2 : Int) ^ (k + 3 + 1) ∣ a * y * y + r
    · exact ⟨y, hy, by rwa [show k + 1 + 3 = k + 3 + 1 by omega]⟩
    · obtain ⟨q1, q2⟩ := step2 (by omega) ha hy h1 c
      exact ⟨_, q2, by rw [show k + 1 + 3 = k + 3 + 1 by omega]; exact q1⟩
theorem FitF.mono {f : F3} {p : Int} {j k : Nat} (h : FitF f p k) (l : j ≤ k) : FitF f p j :=
  let ⟨x, y, z, d, n⟩ := h
  ⟨x, y, z, Int.dvd_trans (pow_dvd_pow l) d, n⟩
theorem fit_turn {a b c p : Int} {k : Nat} (h : FitF (wt a b c) p k) : FitF (wt b c a) p k :=
  let ⟨x, y, z, d, n⟩ := h
  ⟨y, z, x, by rwa [show wt b c a y z x = wt a b c x y z by unfold wt; omega], n.elim (fun q => .inr (.inr q)) fun q => q.elim .inl fun q => .inr (.inl q)⟩
theorem fit_third {a b c p x y z : Int} (hp : Pr p) (h2 : p ≠ 2) (hc : ¬ p ∣ c) (hz : ¬ p ∣ z) (h : p ∣ wt a b c x y z) (k : Nat) : FitF (wt a b c) p k := by
  have e : ∀ z, wt a b c x y z = c * z * z + (a * x * x + b * y * y) := fun z => by unfold wt; omega
  rw [e] at h
  obtain ⟨t, h1, h3⟩ := hens_odd hp h2 hc k hz h
  exact ⟨x, y, t, by rw [e]; exact Int.dvd_trans (pow_dvd_pow (by omega)) h3, .inr (.inr h1)⟩
theorem fit_two {a b c x y z : Int} (hc : c % 2 = 1) (hz : z % 2 = 1) (h : wt a b c x y z % 8 = 0) (k : Nat) : FitF (wt a b c) 2 k := by
  have e : ∀ z, wt a b c x y z = c * z * z + (a * x * x + b * y * y) := fun z => by unfold wt; omega
  rw [e] at h
  obtain ⟨t, h1, h3⟩ := hens_two hc k hz (Int.dvd_of_emod_eq_zero h)
  exact ⟨x, y, t, by rw [e]; exact Int.dvd_trans (pow_dvd_pow (by omega)) h3, .inr (.inr (by omega))⟩
theorem fit_units {a b c p : Int} (hp : Pr p) (h2 : p ≠ 2) (ha : ¬ p ∣ a) (hb : ¬ p ∣ b) (hc : ¬ p ∣ c) (k : Nat) : FitF (wt a b c) p k := by
  obtain ⟨x, y, _, _, h⟩ := pigeon (c := c) hp h2 ha hb
  exact fit_third hp h2 hc (fun d => hp.not_one d) (x := x) (y := y) (z := 1) (by unfold wt; rwa [Int.mul_one, Int.mul_one]) k
theorem Pln.sq4 {a b c : Int} (h : Pln a b c) : a % 4 ≠ 0 ∧ b % 4 ≠ 0 ∧ c % 4 ≠ 0 := by
  have key : ∀ {n : Int}, SqF n → n % 4 ≠ 0 := fun s e => s.no 2 (by decide) (Int.dvd_of_emod_eq_zero e)
  exact ⟨key h.fa, key h.fb, key h.fc⟩
theorem odd_or {a b : Int} (h : Int.gcd a b = 1) : a % 2 = 1 ∨ b % 2 = 1 := by
  refine Classical.byContradiction fun n => ?_
  have := Int.dvd_coe_gcd (show (2 : Int) ∣ a by omega) (show (2 : Int) ∣ b by omega)
  rw [h] at this
  omega
theorem no_both {p a b : Int} (hp : Pr p) (g : Int.gcd a b = 1) (h : p ∣ a) : ¬ p ∣ b := fun k => by
  have := Int.dvd_coe_gcd h k
  rw [g] at this
  exact hp.not_one this
theorem Pln.fits {a b c p : Int} (pl : Pln a b c) (hp : Pr p) (nb : ¬ BadP a b c p) (k : Nat) : FitF (wt a b c) p k := by
  by_cases h2 : p = 2
  · subst h2
    have f8 : Fit8 a b c := Classical.byContradiction fun n => nb (.inr (.inl ⟨rfl, n⟩))
    obtain ⟨X, hX, Y, hY, Z, hZ, h1, h3⟩ := f8
    have rt : ∀ {X : Int}, X ∈ [0, 1, 4] → ∃ x : Int, x * x = X ∧ (X = 1 → x % 2 = 1) := fun {X} h => by
      rcases List.mem_cons.mp h with e | h
      · exact ⟨0, by omega, by omega⟩
      rcases List.mem_cons.mp h with e | h
      · exact ⟨1, by omega, by omega⟩
      rcases List.mem_cons.mp h with e | h
      · exact ⟨2, by omega, by omega⟩
      · nomatch h
    obtain ⟨x, ex, ox⟩ := rt hX
    obtain ⟨y, ey, oy⟩ := rt hY
    obtain ⟨z, ez, oz⟩ := rt hZ
    have w : wt a b c x y z % 8 = 0 := by
      unfold wt
      rw [Int.mul_assoc, Int.mul_assoc, Int.mul_assoc, ex, ey, ez]
      exact h3
    obtain ⟨q1, q2, q3⟩ := pl.sq4
    have o1 := odd_or pl.ab
    have o2 := odd_or pl.bc
    have o3 := odd_or pl.ca
    rcases place2 w (h1.elim (fun e => .inl (ox e)) fun e => e.elim (fun e => .inr (.inl (oy e))) fun e => .inr (.inr (oz e))) q1 q2 q3 o1 o2 o3 with ⟨u1, u2⟩ | ⟨u1, u2⟩ | ⟨u1, u2⟩
    · exact fit_turn (fit_turn (fit_two (a := b) (b := c) u1 u2 (x := y) (y := z) (by rwa [show wt b c a y z x = wt a b c x y z by unfold wt; omega]) k))
    · exact fit_turn (fit_two (a := c) (b := a) u1 u2 (x := z) (y := x) (by rwa [show wt c a b z x y = wt a b c x y z by unfold wt; omega]) k)
    · exact fit_two u1 u2 w k
  · have big : 2 < p := by have := hp.two; omega
    have key : ∀ {a b c : Int}, Pln a b c → p ∣ a → J (0 - b * c) p ≠ -1 → FitF (wt a b c) p k := fun {a b c} pl da nj => by
      have nb := no_both hp pl.ab da
      have nc : ¬ p ∣ c := fun h => no_both hp pl.ca h da
      have nbc : ¬ p ∣ 0 - b * c := fun d => by
        rw [Int.zero_sub] at d
        exact (hp.euclid (Int.dvd_neg.mp d)).elim nb nc
      rcases J_prime (a := 0 - b * c) hp h2 with ⟨d, _⟩ | ⟨_, ⟨w, hw⟩, _⟩ | ⟨_, _, e⟩
      · exact absurd d nbc
      · refine fit_third hp h2 nc (x := 0) (y := w) (z := b) nb ?_ k
        rw [show wt a b c 0 w b = b * (w * w - (0 - b * c)) by unfold wt; grind]
        exact Int.dvd_mul_of_dvd_right hw
      · exact absurd e nj
    by_cases da : p ∣ a
    · exact key pl da fun e => nb (.inr (.inr ⟨hp, big, .inl ⟨da, e⟩⟩))
    by_cases db : p ∣ b
    · exact fit_turn (fit_turn (key pl.turn db fun e => nb (.inr (.inr ⟨hp, big, .inr (.inl ⟨db, e⟩)⟩))))
    by_cases dc : p ∣ c
    · exact fit_turn (key pl.turn.turn dc fun e => nb (.inr (.inr ⟨hp, big, .inr (.inr ⟨dc, e⟩)⟩)))
    exact fit_units hp h2 da db dc k
theorem sq8' (x : Int) : (x * x % 8 = 0 ∨ x * x % 8 = 1 ∨ x * x % 8 = 4) ∧ (x % 2 = 1 → x * x % 8 = 1) := by
  have e : x * x % 8 = (x % 8) * (x % 8) % 8 := Int.mul_emod ..
  have h : x % 8 = 0 ∨ x % 8 = 1 ∨ x % 8 = 2 ∨ x % 8 = 3 ∨ x % 8 = 4 ∨ x % 8 = 5 ∨ x % 8 = 6 ∨ x % 8 = 7 := by omega
  rcases h with h | h | h | h | h | h | h | h <;> rw [h] at e <;> omega
theorem Pln.not_bad {a b c p : Int} (pl : Pln a b c) (hp : Pr p) (h : FitF (wt a b c) p 3) : ¬ BadP a b c p := by
  rintro (⟨e, _⟩ | ⟨e, nf⟩ | ⟨_, big, h3⟩)
  · have := hp.two; omega
  · subst e
    obtain ⟨x, y, z, d, n⟩ := h
    refine nf ⟨x * x % 8, ?_, y * y % 8, ?_, z * z % 8, ?_, ?_, ?_⟩
    · have := (sq8' x).1; simp; exact this
    · have := (sq8' y).1; simp; exact this
    · have := (sq8' z).1; simp; exact this
    · rcases n with n | n | n
      · exact .inl ((sq8' x).2 (by omega))
      · exact .inr (.inl ((sq8' y).2 (by omega)))
      · exact .inr (.inr ((sq8' z).2 (by omega)))
    · unfold wt at d
      have d : (8 : Int) ∣ a * x * x + b * y * y + c * z * z := d
      obtain ⟨k, hk⟩ := d
      have ex : x * x = 8 * (x * x / 8) + x * x % 8 := by omega
      have ey : y * y = 8 * (y * y / 8) + y * y % 8 := by omega
      have ez : z * z = 8 * (z * z / 8) + z * z % 8 := by omega
      rw [Int.mul_assoc, Int.mul_assoc, Int.mul_assoc] at hk
      generalize x * x % 8 = X at *
      generalize y * y % 8 = Y at *
      generalize z * z % 8 = Z at *
      generalize x * x / 8 = s at *
      generalize y * y / 8 = t at *
      generalize z * z / 8 = r at *
      rw [ex, ey, ez] at hk
      exact Int.emod_eq_zero_of_dvd ⟨k - a * s - b * t - c * r, by grind⟩
  · have h2 : p ≠ 2 := by omega
    have key : ∀ {a b c : Int}, Pln a b c → FitF (wt a b c) p 3 → p ∣ a → J (0 - b * c) p ≠ -1 := fun {a b c} pl h da e => by
      obtain ⟨x, y, z, d, n⟩ := h
      have nb := no_both hp pl.ab da
      have nc : ¬ p ∣ c := fun h => no_both hp pl.ca h da
      have d1 : p ∣ b * y * y + c * z * z := by
        have d1 := dvd_pow1 (k := 2) d
        have := Int.dvd_sub d1 (Int.dvd_mul_of_dvd_left (Int.dvd_mul_of_dvd_left da) : p ∣ a * x * x)
        rwa [show wt a b c x y z - a * x * x = b * y * y + c * z * z by unfold wt; omega] at this
      have nbc : ¬ p ∣ 0 - b * c := fun d => by
        rw [Int.zero_sub] at d
        exact (hp.euclid (Int.dvd_neg.mp d)).elim nb nc
      have ny : ¬ p ∣ z := fun dz => by
        have dy : p ∣ y := by
          have := Int.dvd_sub d1 (Int.dvd_mul_of_dvd_right dz : p ∣ c * z * z)
          rw [show b * y * y + c * z * z - c * z * z = b * (y * y) by grind] at this
          exact sq_pr hp ((hp.euclid this).resolve_left nb)
        have dx : ¬ p ∣ x := by rcases n with n | n | n; exact n; exact absurd dy n; exact absurd dz n
        have d2 : p * p ∣ wt a b c x y z := Int.dvd_trans ⟨p, by rw [Int.pow_succ, Int.pow_succ, Int.pow_succ, Int.pow_zero]; grind⟩ d
        obtain ⟨y, rfl⟩ := dy
        obtain ⟨z, rfl⟩ := dz
        have d3 : p * p ∣ x * x * a := by
          have := Int.dvd_sub d2 ⟨b * y * y + c * z * z, rfl⟩
          rwa [show wt a b c x (p * y) (p * z) - p * p * (b * y * y + c * z * z) = x * x * a by unfold wt; grind] at this
        have g : ∀ {u : Int}, p ^ 2 ∣ u ↔ p * p ∣ u := fun {u} => by rw [Int.pow_succ, Int.pow_succ, Int.pow_zero, Int.one_mul]
        have d4 := pow_copr hp (u := x * x) (fun q => dx (sq_pr hp q)) (g.mpr d3)
        exact pl.fa.no p hp.two (g.mp d4)
      have nz : ∃ w, p ∣ w * w - (0 - b * c) := by
        obtain ⟨t, _, _, ht⟩ := back_exists (a := 1) hp ny fun q => hp.not_one q
        refine ⟨b * y * t, ?_⟩
        have e : b * y * t * (b * y * t) - (0 - b * c) = b * t * t * (b * y * y + c * z * z) - b * c * (z * t - 1) * (z * t + 1) := by grind
        rw [e]
        exact Int.dvd_sub (Int.dvd_mul_of_dvd_right d1) (Int.dvd_mul_of_dvd_left (Int.dvd_mul_of_dvd_right ht))
      obtain ⟨w, hw⟩ := nz
      rw [J_square hp h2 nbc hw] at e
      exact absurd e (by decide)
    rcases h3 with ⟨d, e⟩ | ⟨d, e⟩ | ⟨d, e⟩
    · exact key pl h d e
    · exact key pl.turn (fit_turn h) d e
    · exact key pl.turn.turn (fit_turn (fit_turn h)) d e
theorem Lk.bad1 {a b c a' b' c' p : Int} (pl : Pln a b c) (pl' : Pln a' b' c') (h : Lk (wt a b c) (wt a' b' c')) (hb : BadP a b c p) : BadP a' b' c' p := by
  by_cases hp : Pr p
  · exact Classical.byContradiction fun n => pl.not_bad hp (h.fit hp hm_wt (fun k => pl'.fits hp n k) 3) hb
  rcases hb with ⟨e, h1, h2⟩ | ⟨e, _⟩ | ⟨q, _, _⟩
  · subst e
    refine .inl ⟨rfl, ?_⟩
    obtain ⟨m, α, β, d0, a0, b0, e⟩ := h.ex
    have a1 := pl.fa.ne; have b1 := pl.fb.ne; have c1 := pl.fc.ne
    have a2 := pl'.fa.ne; have b2 := pl'.fb.ne; have c2 := pl'.fc.ne
    -- the sign of the first form
    have sgn : ∀ x y z : Int, wt a b c x y z = 0 ∨ (0 < wt a b c x y z ↔ 0 < a) := fun x y z => by
      have sq : ∀ t : Int, 0 ≤ t * t := fun t => by rcases Int.le_total 0 t with k | k; exact Int.mul_nonneg k k; exact Int.mul_nonneg_of_nonpos_of_nonpos k k
      unfold wt
      rw [Int.mul_assoc, Int.mul_assoc, Int.mul_assoc]
      have p1 := sq x; have p2 := sq y; have p3 := sq z
      rcases Int.lt_or_le 0 a with ha | ha
      · have := Int.mul_nonneg (show 0 ≤ a by omega) p1
        have := Int.mul_nonneg (show 0 ≤ b by omega) p2
        have := Int.mul_nonneg (show 0 ≤ c by omega) p3
        omega
      · have := Int.mul_nonneg (show 0 ≤ -a by omega) p1
        have := Int.mul_nonneg (show 0 ≤ -b by omega) p2
        have := Int.mul_nonneg (show 0 ≤ -c by omega) p3
        rw [Int.neg_mul] at *
        omega
    have g1 := e 1 0 0
    have g2 := e 0 1 0
    have g3 := e 0 0 1
    have s1 := sgn (m.x 1 0 0) (m.y 1 0 0) (m.z 1 0 0)
    have s2 := sgn (m.x 0 1 0) (m.y 0 1 0) (m.z 0 1 0)
    have s3 := sgn (m.x 0 0 1) (m.y 0 0 1) (m.z 0 0 1)
    rw [show wt a' b' c' 1 0 0 = a' by unfold wt; omega] at g1
    rw [show wt a' b' c' 0 1 0 = b' by unfold wt; omega] at g2
    rw [show wt a' b' c' 0 0 1 = c' by unfold wt; omega] at g3
    generalize wt a b c (m.x 1 0 0) (m.y 1 0 0) (m.z 1 0 0) = A at g1 s1
    generalize wt a b c (m.x 0 1 0) (m.y 0 1 0) (m.z 0 1 0) = B at g2 s2
    generalize wt a b c (m.x 0 0 1) (m.y 0 0 1) (m.z 0 0 1) = C at g3 s3
    have nz : ∀ {X n : Int}, α * X = β * n → n ≠ 0 → X ≠ 0 := fun {X n} h k q => by
      rw [q, Int.mul_zero] at h
      exact Int.mul_ne_zero b0 k h.symm
    have A0 := nz g1 a2
    have B0 := nz g2 b2
    have C0 := nz g3 c2
    have k1 := sgn_mul a0 A0; have k2 := sgn_mul b0 a2
    have k3 := sgn_mul a0 B0; have k4 := sgn_mul b0 b2
    have k5 := sgn_mul a0 C0; have k6 := sgn_mul b0 c2
    rw [g1] at k1; rw [g2] at k3; rw [g3] at k5
    have s1 := s1.resolve_left A0
    have s2 := s2.resolve_left B0
    have s3 := s3.resolve_left C0
    generalize β * a' = U at *
    generalize β * b' = V at *
    generalize β * c' = W at *
    omega
  · exact absurd (e ▸ pr_two) hp
  · exact absurd q hp
theorem Lk.bad {a b c a' b' c' p : Int} (pl : Pln a b c) (pl' : Pln a' b' c') (h : Lk (wt a b c) (wt a' b' c')) : BadP a b c p ↔ BadP a' b' c' p :=
  ⟨h.bad1 pl pl', (h.symm hm_wt).bad1 pl' pl⟩
end DL

namespace DL
open PySem L2 LamX
section
variable {X : Cx} {pins : List (Addr × Obj)} {σ : L2.St} {H : Hp} {s : Shared}
end
end DL

namespace DL
open PySem L2 LamX PySem.Spec PyProof.Rows
structure Rec (X : Cx) (pins : List (Addr × Obj)) (a : Addr) : Prop where
  new : X.s_0.heap.objs.size ≤ a
  loc : a ≠ X.env.locals
  cel : ∀ x c, X.env.cells.lookup x = some c → c ≠ a
  pin : ∀ p ∈ X.pn ++ pins, p.1 ≠ a
  fs : a ∉ X.fs
theorem Rec.of {X : Cx} {pins : List (Addr × Obj)} {σ : L2.St} {H : Hp} {s : Shared} (I : Inv X pins σ H s) {a : Addr} (h : s.heap.objs.size ≤ a) : Rec X pins a :=
  ⟨Nat.le_trans I.sz h, fun z => Nat.lt_irrefl _ (Nat.lt_of_lt_of_le (by rw [z]; exact I.lt) h), fun x c e z => by
    obtain ⟨v, o, ho, _⟩ := I.cell x c e
    rw [z] at ho
    exact Nat.lt_irrefl _ (Nat.lt_of_lt_of_le (Heap.lt_size ho) h), fun p hp z => by
    have := Heap.lt_size (I.pin p hp).1
    rw [z] at this
    exact Nat.lt_irrefl _ (Nat.lt_of_lt_of_le this h), I.nofs h⟩
section
variable {X : Cx} {pins : List (Addr × Obj)} {σ : L2.St} {H : Hp} {s : Shared}
theorem Rec.more {a b : Addr} {o : Obj} (r : Rec X pins a) (n : b ≠ a) : Rec X ((b, o) :: pins) a := ⟨r.new, r.loc, r.cel, fun p hp => by
  rcases List.mem_append.mp hp with z | z
  · exact r.pin p (List.mem_append_left _ z)
  · rcases List.mem_cons.mp z with e | z
    · rw [e]; exact n
    · exact r.pin p (List.mem_append_right _ z), r.fs⟩
end
end DL

namespace DL
open PySem L2 LamX PySem.Spec PyProof.Rows
section
variable {X : Cx} {pins : List (Addr × Obj)} {σ : L2.St} {H : Hp} {s : Shared}
structure Grw (H H' : Hp) : Prop extends Sam H H' where
  e : ∀ b o, b ∉ tabT.map Prod.fst → H b = some o → H' b = some o
theorem Grw.trans {H H1 H2 : Hp} (a : Grw H H1) (b : Grw H1 H2) : Grw H H2 := ⟨a.toSam.trans b.toSam, fun c o n h => b.e c o n (a.e c o n h)⟩
theorem Grw.of {H H' : Hp} (e : Same H H') : Grw H H' := ⟨.of e, fun b o _ h => e b o h⟩
end
section
variable {X : Cx} {W : WX} {pos p lpos kpos : Pos}
end
def minK (d : D) (i : Nat) (kb : ES) (δ : List S) [K : Kq] : Prop := lstK d fun ds => ds ≠ [] ∧ ∃ ks : List Int, All2 (fun d k => kb (fun _ => False) (put δ i (.val d)) fun s => s = .val (.int k)) ds ks ∧ ∀ (j : Nat) (d : D) (k : Int), ds[j]? = some d → ks[j]? = some k → (∀ m ∈ ks, k ≤ m) → K.k (.val d)
def eMinK (src : ES) (i : Nat) (kb : ES) : ES := fun x δ q => src x δ fun s => s.fr fun d => @minK d i kb δ ⟨q⟩
theorem u_eMinK {src : ES} {i : Nat} {kb : ES} {x : XP} {δ : List S} {q : S → Prop} : eMinK src i kb x δ q = src x δ fun s => s.fr fun d => @minK d i kb δ ⟨q⟩ := (rfl)
section
variable {X : Cx} {W : WX} {pos p lpos kpos : Pos}
end
end DL

namespace DL
open PySem L2 LamX PySem.W PySem.Spec PyProof.Rows
def idxI (xs : List Int) (n : Int) (j : Nat) : Prop := xs[j]? = some n ∧ ∀ m z, m < j → xs[m]? = some z → z ≠ n
def idxK (xs : List D) (c : D) [K : Kq] : Prop := ∃ (ns : List Int) (n : Int) (j : Nat), xs = ns.map PyData.int ∧ c = .int n ∧ idxI ns n j ∧ K.k (.val (.int j))
def eIdx (a b : EP) : ES := fun x δ q => a x δ fun d => lstK d fun xs => b x δ fun c => @idxK xs c ⟨q⟩
theorem u_eIdx {a b : EP} {x : XP} {δ : List S} {q : S → Prop} : eIdx a b x δ q = a x δ fun d => lstK d fun xs => b x δ fun c => @idxK xs c ⟨q⟩ := (rfl)
section
variable {X : Cx} {W : WX} {pos : Pos}
end
end DL

namespace DL
open PySem L2
def sRetMix (is : List Nat) (a : EA) : ST := fun D δ => (rvK is δ fun _ _ => True) ∧ a (fun x => D.ex x δ) δ fun es => rvK is δ fun ds f => noLsts es = true ∧ is.length + es.length ≤ 1000 ∧ ∀ p, D.rt (.obj (.ref p) (.tuple (ds ++ es)) (p :: f))
theorem u_sRetMix {is : List Nat} {a : EA} {D : DL.Ends} {δ : List S} : sRetMix is a D δ = ((rvK is δ fun _ _ => True) ∧ a (fun x => D.ex x δ) δ fun es => rvK is δ fun ds f => noLsts es = true ∧ is.length + es.length ≤ 1000 ∧ ∀ p, D.rt (.obj (.ref p) (.tuple (ds ++ es)) (p :: f))) := (rfl)
section
variable {X : Cx} {W : WX} {pos : Pos}
end
def sOwn (i : Nat) : ST := fun D δ => (lk δ i).ob fun _ d _ => lstK d fun ds => isDcts ds = false ∧ D.nx (put δ i (.own ds))
theorem u_sOwn {i : Nat} {D : DL.Ends} {δ : List S} : sOwn i D δ = (lk δ i).ob fun _ d _ => lstK d fun ds => isDcts ds = false ∧ D.nx (put δ i (.own ds)) := (rfl)
section
variable {X : Cx} {W : WX}
end
end DL

namespace DL
open PySem L2
abbrev wv (a b c d e f : Int) (o : Tri) : Int := wor a b c d e f o.1 o.2.1 o.2.2
abbrev cv (a b c d e f : Int) (o p : Tri) : Int := cro a b c d e f o.1 o.2.1 o.2.2 p.1 p.2.1 p.2.2
end DL

namespace DL
open PySem L2
theorem core_any : ∀ (k : Nat) (n : Int), n.natAbs ≤ k → n ≠ 0 → ∃ c r, Core n c r
  | 0, n, h, n0 => absurd (by omega) n0
  | k + 1, n, h, n0 => by
    by_cases s : SqF n
    · exact ⟨n, 1, by omega, by decide, s⟩
    · have : ∃ p, Pr p ∧ p * p ∣ n := Classical.byContradiction fun z => s (SqF.of_pr n0 fun p hp d => z ⟨p, hp, d⟩)
      obtain ⟨p, hp, m, rfl⟩ := this
      have m0 : m ≠ 0 := fun z => n0 (by rw [z, Int.mul_zero])
      have p2 := hp.two
      have hm : m.natAbs ≤ k := by
        have h1 := Int.natAbs_mul (p * p) m
        have : 2 * m.natAbs ≤ (p * p).natAbs * m.natAbs := Nat.mul_le_mul_right _ (by have := Int.mul_le_mul p2 p2 (by decide) (by omega); omega)
        have : 0 < m.natAbs := by omega
        omega
      obtain ⟨c, r, hc⟩ := core_any k m hm m0
      exact ⟨c, p * r, by rw [hc.eq]; grind, by have := Int.mul_le_mul p2 hc.pos (by decide) (by omega); omega, hc.sf⟩
theorem sq_abs (g : Int) : (g.natAbs : Int) * g.natAbs = g * g := by rcases Int.natAbs_eq g with e | e <;> (generalize (g.natAbs : Int) = t at e ⊢; subst e; grind)
structure Tog (p q r : Int) : Prop where
  sf : SqF r
  eq : ∃ g, 1 ≤ g ∧ p * q = r * g * g
  pr : ∀ t, Pr t → (t ∣ r ↔ ¬ (t ∣ p ↔ t ∣ q))
end DL

namespace DL
open PySem L2
structure Cf (a b c d e f : Int) : Prop where
  a : a.natAbs ≤ 100
  b : b.natAbs ≤ 100
  c : c.natAbs ≤ 100
  d : d.natAbs ≤ 100
  e : e.natAbs ≤ 100
  f : f.natAbs ≤ 100
theorem Cf.sz {a b c d e f : Int} (h : Cf a b c d e f) : Sz 7 a ∧ Sz 7 b ∧ Sz 7 c ∧ Sz 7 d ∧ Sz 7 e ∧ Sz 7 f := by
  have z : ∀ {n : Int}, n.natAbs ≤ 100 → Sz 7 n := fun h => Sz.of_le (j := 100) (by omega) (by decide +kernel)
  exact ⟨z h.a, z h.b, z h.c, z h.d, z h.e, z h.f⟩
def Z3 (n : Nat) (o : Tri) : Prop := Sz n o.1 ∧ Sz n o.2.1 ∧ Sz n o.2.2
theorem Z3.mono {m n : Nat} {o : Tri} (h : Z3 m o) (l : m ≤ n) : Z3 n o := ⟨h.1.mono l, h.2.1.mono l, h.2.2.mono l⟩
structure Wys (a b c d e f : Int) (o p t : Tri) (c0 c1 c2 : Int) : Prop where
  op : cv a b c d e f o p = 0
  ot : cv a b c d e f o t = 0
  pt : cv a b c d e f p t = 0
  zo : Z3 1 o
  zp : Z3 13 p
  zt : Z3 60 t
  r0 : ∃ r, 1 ≤ r ∧ wv a b c d e f o = c0 * r * r
  r1 : ∃ r, 1 ≤ r ∧ wv a b c d e f p = c1 * r * r
  r2 : ∃ r, 1 ≤ r ∧ wv a b c d e f t = c2 * r * r
  s0 : SqF c0
  pr : ∃ cb cs : Int, Tog c0 cb c1 ∧ Tog cb cs c2 ∧ SqF cb ∧ SqF cs ∧ c0.natAbs ≤ 300 ∧ cb.natAbs ≤ 720000 ∧ cs.natAbs ≤ 8000000
structure Dg (a b c d e f : Int) (o p t : Tri) (A B C s : Int) : Prop where
  op : cv a b c d e f o p = 0
  ot : cv a b c d e f o t = 0
  pt : cv a b c d e f p t = 0
  wo : wv a b c d e f o = s * A
  wp : wv a b c d e f p = s * B
  wt' : wv a b c d e f t = s * C
  s0 : s ≠ 0
theorem wor_three (a b c d e f x y z u v w p q r k l m : Int) : wor a b c d e f (k * x + l * u + m * p) (k * y + l * v + m * q) (k * z + l * w + m * r) =
    k * k * wor a b c d e f x y z + l * l * wor a b c d e f u v w + m * m * wor a b c d e f p q r + l * m * cro a b c d e f u v w p q r + k * m * cro a b c d e f x y z p q r + k * l * cro a b c d e f x y z u v w := by
  have h1 := wor_mix (a := a) (b := b) (c := c) (d := d) (e := e) (f := f) (s := 1) (t := m) (x := k * x + l * u) (y := k * y + l * v) (z := k * z + l * w) (u := p) (v := q) (w := r)
  have h2 := wor_mix (a := a) (b := b) (c := c) (d := d) (e := e) (f := f) (s := k) (t := l) (x := x) (y := y) (z := z) (u := u) (v := v) (w := w)
  have h3 : cro a b c d e f (k * x + l * u) (k * y + l * v) (k * z + l * w) p q r = k * cro a b c d e f x y z p q r + l * cro a b c d e f u v w p q r := by rw [cro_eq, cro_eq, cro_eq]; grind
  rw [Int.one_mul, Int.one_mul, Int.one_mul, Int.one_mul, h2, h3, Int.one_mul] at h1
  rw [h1]
  grind
def tabM (o p t : Tri) : M9 := ⟨o.1, p.1, t.1, o.2.1, p.2.1, t.2.1, o.2.2, p.2.2, t.2.2⟩
theorem Dg.eq {a b c d e f : Int} {o p t : Tri} {A B C s : Int} (h : Dg a b c d e f o p t A B C s) (u v w : Int) : wor a b c d e f ((tabM o p t).x u v w) ((tabM o p t).y u v w) ((tabM o p t).z u v w) = s * wt A B C u v w := by
  have h1 := wor_three a b c d e f o.1 o.2.1 o.2.2 p.1 p.2.1 p.2.2 t.1 t.2.1 t.2.2 u v w
  have h2 := h.op; have h3 := h.ot; have h4 := h.pt; have h5 := h.wo; have h6 := h.wp; have h7 := h.wt'
  simp only [cv, wv] at h2 h3 h4 h5 h6 h7
  rw [h2, h3, h4, h5, h6, h7] at h1
  have e1 : (tabM o p t).x u v w = u * o.1 + v * p.1 + w * t.1 := by simp only [M9.x, tabM]; grind
  have e2 : (tabM o p t).y u v w = u * o.2.1 + v * p.2.1 + w * t.2.1 := by simp only [M9.y, tabM]; grind
  have e3 : (tabM o p t).z u v w = u * o.2.2 + v * p.2.2 + w * t.2.2 := by simp only [M9.z, tabM]; grind
  rw [e1, e2, e3, h1]
  unfold wt
  grind
theorem Dg.det {a b c d e f : Int} {o p t : Tri} {A B C s : Int} (h : Dg a b c d e f o p t A B C s) (n : A ≠ 0 ∧ B ≠ 0 ∧ C ≠ 0) : (tabM o p t).det ≠ 0 := fun z => by
  have k := siz_changed a b c d e f o.1 o.2.1 o.2.2 p.1 p.2.1 p.2.2 t.1 t.2.1 t.2.2
  have h2 := h.op; have h3 := h.ot; have h4 := h.pt; have h5 := h.wo; have h6 := h.wp; have h7 := h.wt'
  simp only [cv, wv] at h2 h3 h4 h5 h6 h7
  have z : det9 o.1 p.1 t.1 o.2.1 p.2.1 t.2.1 o.2.2 p.2.2 t.2.2 = 0 := z
  rw [h2, h3, h4, h5, h6, h7, z] at k
  have : siz (s * A) (s * B) (s * C) 0 0 0 = 4 * (s * s * s) * (A * (B * C)) := by unfold siz; grind
  rw [this, Int.mul_zero] at k
  have s3 : s * s * s ≠ 0 := Int.mul_ne_zero (Int.mul_ne_zero h.s0 h.s0) h.s0
  exact Int.mul_ne_zero (Int.mul_ne_zero (by decide) s3) (Int.mul_ne_zero n.1 (Int.mul_ne_zero n.2.1 n.2.2)) k
theorem Dg.turn {a b c d e f : Int} {o p t : Tri} {A B C s : Int} (h : Dg a b c d e f o p t A B C s) : Dg a b c d e f p t o B C A s := by
  have sym : ∀ {o p : Tri}, cv a b c d e f o p = 0 → cv a b c d e f p o = 0 := fun {o p} h => by rw [← h]; simp only [cv, cro_eq]; grind
  exact ⟨h.pt, sym h.op, sym h.ot, h.wp, h.wt', h.wo, h.s0⟩
theorem Dg.step {a b c d e f : Int} {o p t : Tri} {A B C s g : Int} (h : Dg a b c d e f o p t (g * A) (g * B) C s) (g0 : g ≠ 0) : Dg a b c d e f o p (g * t.1, g * t.2.1, g * t.2.2) A B (C * g) (s * g) := by
  have lin : ∀ {o t : Tri}, cv a b c d e f o t = 0 → cv a b c d e f o (g * t.1, g * t.2.1, g * t.2.2) = 0 := fun {o t} h => by
    have : cv a b c d e f o (g * t.1, g * t.2.1, g * t.2.2) = g * cv a b c d e f o t := by simp only [cv, cro_eq]; grind
    rw [this, h, Int.mul_zero]
  refine ⟨h.op, lin h.ot, lin h.pt, by rw [h.wo]; grind, by rw [h.wp]; grind, ?_, Int.mul_ne_zero h.s0 g0⟩
  have ew := h.wt'
  have : wv a b c d e f (g * t.1, g * t.2.1, g * t.2.2) = g * g * wv a b c d e f t := by simp only [wv]; exact wor_T
  rw [this, ew]
  grind
structure Pla (a b c d e f : Int) (o p t : Tri) (s A B C : Int) : Prop where
  dg : Dg a b c d e f o p t A B C s
  pl : Pln A B C
  la : A.natAbs ≤ 720000
  lb : B.natAbs ≤ 720000
  lc : C.natAbs ≤ 2400000000
theorem Pla.lk {a b c d e f : Int} {o p t : Tri} {s A B C : Int} (h : Pla a b c d e f o p t s A B C) : Lk (wor a b c d e f) (wt A B C) :=
  ⟨tabM o p t, 1, s, h.dg.det ⟨h.pl.fa.ne, h.pl.fb.ne, h.pl.fc.ne⟩, by decide, h.dg.s0, fun u v w => by rw [h.dg.eq, Int.one_mul]⟩
end DL

namespace DL
open PySem L2
theorem way_sz {a b c d e f : Int} {o : Tri} {n : Nat} (cf : Cf a b c d e f) (h : Z3 n o) (n7 : 7 ≤ n) : Sz (3 * n + 6) (wv a b c d e f o) := by
  obtain ⟨za, zb, zc, zd, ze, zf⟩ := cf.sz
  exact wor_sz (za.mono n7) (zb.mono n7) (zc.mono n7) (zd.mono n7) (ze.mono n7) (zf.mono n7) h.1 h.2.1 h.2.2
theorem Wys.sz {a b c d e f c0 c1 c2 r0 r1 r2 : Int} {o p t : Tri} (cf : Cf a b c d e f) (w : Wys a b c d e f o p t c0 c1 c2) (p0 : 1 ≤ r0) (p1 : 1 ≤ r1) (p2 : 1 ≤ r2)
    (e0 : wv a b c d e f o = c0 * r0 * r0) (e1 : wv a b c d e f p = c1 * r1 * r1) (e2 : wv a b c d e f t = c2 * r2 * r2) : Sz 27 r0 ∧ Sz 45 r1 ∧ Sz 186 r2 := by
  obtain ⟨cb, cs, t1, t2, sb, ss, _⟩ := w.pr
  have key : ∀ {n c r : Int} {k : Nat}, Sz k n → SqF c → 1 ≤ r → n = c * r * r → Sz k r := fun {n c r k} zn s r1 e => Sz.of_dvd ⟨c * r, by rw [e]; grind⟩ (fun z => by
      rw [z] at e
      exact Int.mul_ne_zero (Int.mul_ne_zero s.ne (by omega)) (by omega) e.symm) zn
  exact ⟨key (way_sz cf (w.zo.mono (by decide)) (by decide : 7 ≤ 7)) w.s0 p0 e0, key (way_sz cf w.zp (by decide)) t1.sf p1 e1, key (way_sz cf w.zt (by decide)) t2.sf p2 e2⟩
def mt (k : Int) (o : Tri) : Tri := (k * o.1, k * o.2.1, k * o.2.2)
theorem wv_mt {a b c d e f k : Int} {o : Tri} : wv a b c d e f (mt k o) = k * k * wv a b c d e f o := by simp only [wv, mt]; exact wor_T
theorem cv_mt {a b c d e f k l : Int} {o p : Tri} : cv a b c d e f (mt k o) (mt l p) = k * l * cv a b c d e f o p := by simp only [cv, mt, cro_eq]; grind
theorem Wys.dg {a b c d e f c0 c1 c2 r0 r1 r2 : Int} {o p t : Tri} (w : Wys a b c d e f o p t c0 c1 c2) (p0 : 1 ≤ r0) (p1 : 1 ≤ r1) (p2 : 1 ≤ r2)
    (e0 : wv a b c d e f o = c0 * r0 * r0) (e1 : wv a b c d e f p = c1 * r1 * r1) (e2 : wv a b c d e f t = c2 * r2 * r2) : Dg a b c d e f (mt (r2 * r1) o) (mt (r0 * r2) p) (mt (r1 * r0) t) c0 c1 c2 (r0 * r1 * r2 * (r0 * r1 * r2)) :=
  ⟨by rw [cv_mt, w.op, Int.mul_zero], by rw [cv_mt, w.ot, Int.mul_zero], by rw [cv_mt, w.pt, Int.mul_zero], by rw [wv_mt, e0]; grind, by rw [wv_mt, e1]; grind, by rw [wv_mt, e2]; grind, by
    have h : r0 * r1 * r2 ≠ 0 := Int.mul_ne_zero (Int.mul_ne_zero (by omega) (by omega)) (by omega)
    exact Int.mul_ne_zero h h⟩
end DL

namespace DL
open PySem L2
end DL

namespace DL
open PySem L2
end DL

namespace DL
open PySem L2
theorem Lk.zero {f g : F3} {x y z : Int} (hf : Hm f) (h : Lk f g) (nz : x ≠ 0 ∨ y ≠ 0 ∨ z ≠ 0) (e : f x y z = 0) : ∃ u v w : Int, (u ≠ 0 ∨ v ≠ 0 ∨ w ≠ 0) ∧ g u v w = 0 := by
  obtain ⟨m, α, β, d0, a0, b0, k⟩ := h.ex
  refine ⟨m.adj.x x y z, m.adj.y x y z, m.adj.z x y z, ?_, ?_⟩
  · refine Classical.byContradiction fun n => ?_
    have e1 : m.adj.x x y z = 0 := Classical.byContradiction fun k => n (.inl k)
    have e2 : m.adj.y x y z = 0 := Classical.byContradiction fun k => n (.inr (.inl k))
    have e3 : m.adj.z x y z = 0 := Classical.byContradiction fun k => n (.inr (.inr k))
    have k1 := m.x_adj x y z
    have k2 := m.y_adj x y z
    have k3 := m.z_adj x y z
    rw [e1, e2, e3] at k1 k2 k3
    simp only [M9.x, M9.y, M9.z, Int.mul_zero, Int.add_zero] at k1 k2 k3
    rcases nz with q | q | q
    · exact Int.mul_ne_zero d0 q k1.symm
    · exact Int.mul_ne_zero d0 q k2.symm
    · exact Int.mul_ne_zero d0 q k3.symm
  · have := k (m.adj.x x y z) (m.adj.y x y z) (m.adj.z x y z)
    rw [m.x_adj, m.y_adj, m.z_adj, hf, e, Int.mul_zero, Int.mul_zero] at this
    exact (Int.mul_eq_zero.mp this.symm).resolve_left b0
end DL

namespace DL
open PySem L2
structure Le6 (n : Nat) (a b c d e f : Int) : Prop where
  a : a.natAbs ≤ n
  b : b.natAbs ≤ n
  c : c.natAbs ≤ n
  d : d.natAbs ≤ n
  e : e.natAbs ≤ n
  f : f.natAbs ≤ n
theorem Le6.cf {n : Nat} {a b c d e f : Int} (h : Le6 n a b c d e f) (l : n ≤ 100) : Cf a b c d e f := ⟨Nat.le_trans h.a l, Nat.le_trans h.b l, Nat.le_trans h.c l, Nat.le_trans h.d l, Nat.le_trans h.e l, Nat.le_trans h.f l⟩
theorem Le6.mono {m n : Nat} {a b c d e f : Int} (h : Le6 m a b c d e f) (l : m ≤ n) : Le6 n a b c d e f := ⟨Nat.le_trans h.a l, Nat.le_trans h.b l, Nat.le_trans h.c l, Nat.le_trans h.d l, Nat.le_trans h.e l, Nat.le_trans h.f l⟩
def BadQ (a b c d e f p : Int) : Prop := ∃ A B C : Int, Pln A B C ∧ Lk (wor a b c d e f) (wt A B C) ∧ BadP A B C p
theorem Lk.refl {f : F3} : Lk f f := ⟨⟨1, 0, 0, 0, 1, 0, 0, 0, 1⟩, 1, 1, by decide, by decide, by decide, fun u v w => by simp only [M9.x, M9.y, M9.z, Int.one_mul, Int.zero_mul, Int.add_zero, Int.zero_add]⟩
theorem Lk.times {f g : F3} {t : Int} (t0 : t ≠ 0) (h : ∀ x y z, g x y z = t * f x y z) : Lk f g := ⟨⟨1, 0, 0, 0, 1, 0, 0, 0, 1⟩, t, 1, by decide, t0, by decide, fun u v w => by simp only [M9.x, M9.y, M9.z, Int.one_mul, Int.zero_mul, Int.add_zero, Int.zero_add, h]⟩
structure BadsQ (a b c d e f : Int) (l : List Int) : Prop where
  mem : ∀ p, p ∈ l ↔ BadQ a b c d e f p
  up : l.Pairwise (· < ·)
  len : l.length ≤ 2001
theorem BadsQ.uniq {a b c d e f : Int} {l r : List Int} (h : BadsQ a b c d e f l) (k : BadsQ a b c d e f r) : l = r := up_ext h.up k.up fun p => (h.mem p).trans (k.mem p).symm
end DL

namespace DL
open PySem L2
structure Z9 (n : Nat) (m : M9) : Prop where
  a : Sz n m.a
  b : Sz n m.b
  c : Sz n m.c
  d : Sz n m.d
  e : Sz n m.e
  f : Sz n m.f
  g : Sz n m.g
  h : Sz n m.h
  i : Sz n m.i
theorem Z9.mono {m n : Nat} {t : M9} (h : Z9 m t) (l : m ≤ n) : Z9 n t := ⟨h.a.mono l, h.b.mono l, h.c.mono l, h.d.mono l, h.e.mono l, h.f.mono l, h.g.mono l, h.h.mono l, h.i.mono l⟩
end DL

namespace DL
open PySem PySem.Spec PyProof.Rows L2 HotX L2H
section
variable {prog : Program} {w : World} {A : Around} {E : Value → Shared → Prop} {s : Shared}
end
end DL

namespace DL
open PySem PySem.Spec PyProof.Rows L2 HotX L2H
section
variable {prog : Program} {w : World} {A : Around} {E : Value → Shared → Prop} {s : Shared}
end
section
end
end DL

namespace DL
open PySem PySem.Spec PyProof.Rows L2 HotX
variable [HotA]
omit [HotA] in
theorem EasyH.on {X : Cx} {pins : List (Addr × Obj)} {σ : L2.St} {H : Hp} {s : Shared} (e : EasyH X.A H) (I : Inv X pins σ H s) : X.A.handled = none ∨ ∃ (y : Addr) (oy : Obj) (vy : Array Value), X.A.handled = some (.ref y) ∧ H y ≠ none ∧ s.heap.get? y = some oy ∧ oy.data = .fields vy ∧ vy[2]? = some .none := by
  refine e.imp_right fun ⟨p, h1, h2⟩ => ?_
  obtain ⟨⟨oe, vs, ho, hz, hv⟩, _, _⟩ := I.hok p.1 _ h2
  exact ⟨p.1, oe, vs, h1, by rw [h2]; simp, ho, hv, hz.2.2 vs hv⟩
structure TurnZ (P : Program) (w : World) (K : PySem.W.Frag) (A : Around) (tg : Expr) (J : It) (fp : List Addr) (it : Addr) (tn : Nat → Heap → Prop) : Prop where
  obj : ∀ i h, tn i h → ∀ b ∈ fp, ∃ o, h.get? b = some o ∧ ∀ v, o.data ≠ .cell v
  keep : ∀ i h h', tn i h → (∀ b ∈ fp, ∀ o, h.get? b = some o → h'.get? b = some o) → tn i h'
  item : ∀ X : Cx, X.prog = P → X.w = w → X.K = K → X.A = A → ∀ (i : Nat) (pins : List (Addr × Obj)) (s : Shared) (σ : L2.St) (H : Hp) (E : Value → Shared → Prop), Inv X pins σ H s → (∀ b ∈ fp, FpOk X pins H b) → tn i s.heap → J.go i H →
    wpAny (model P w) A (pyNext (.ref it)) (fun r t => ∃ u, r = some u ∧ wpAny (model P w) A (letOwnedTupleGo tg (.ref it) u) (fun _ z => ∃ x H', Inv X pins σ H' z ∧ RelV x u ∧ J.yld i H x H' ∧ tn (i + 1) z.heap ∧ ∀ b ∈ fp, H' b = none) E t) E s
  done : ∀ X : Cx, X.prog = P → X.w = w → X.K = K → X.A = A → ∀ (i : Nat) (pins : List (Addr × Obj)) (s : Shared) (σ : L2.St) (H : Hp) (E : Value → Shared → Prop), Inv X pins σ H s → (∀ b ∈ fp, FpOk X pins H b) → tn i s.heap → J.stop i H →
    wpAny (model P w) A (pyNext (.ref it)) (fun r t => r = none ∧ Inv X pins σ H t) E s
  self : ∀ (A : Around) (i : Nat) (s : Shared) (Q : Value → Shared → Prop) (E : Value → Shared → Prop), tn i s.heap → Q (.ref it) s → wpAny (model P w) A (pyIter (.ref it)) Q E s
section
variable {P : Program} {w : World} {K : PySem.W.Frag} {A : Around} {tg : Expr}
omit [HotA]
end
omit [HotA] in
def GotZ (X : Cx) (pins : List (Addr × Obj)) (σ : L2.St) (tg : Expr) (R : It → Hp → Prop) (v : Value) (t : Shared) : Prop :=
  ∃ (it : Addr) (fp : List Addr) (tn : Nat → Heap → Prop) (J : It) (H' : Hp), v = .ref it ∧ Inv X pins σ H' t ∧ TurnZ X.prog X.w X.K X.A tg J fp it tn ∧ tn 0 t.heap ∧ (∀ b ∈ fp, FpOk X pins H' b) ∧ R J H'
structure PIZ (X : Cx) (tg iter : Expr) (wi : TI) : Prop where
  run : ∀ (pins : List (Addr × Obj)) (s : Shared) (σ : L2.St) (H : Hp) (R : It → Hp → Prop), Inv X pins σ H s → wi σ H R → wpAny (model X.prog X.w) X.A (eval iter X.env) (fun v t => wpAny (model X.prog X.w) X.A (pyIter v) (GotZ X pins σ tg R) X.xe t) X.xe s
section
variable {X : Cx} {tg : Expr}
omit [HotA]
end
end DL

namespace DL
open PySem PySem.Spec PyProof.Rows L2
variable [HotA]
section
variable {X : Cx} {W : WX} {tg : Expr} {pos : Pos}
omit [HotA] in
omit [HotA] in
omit [HotA] in
structure JIZ (X : Cx) (W : WX) (tg iter : Expr) (di : EI) : Prop where
  ex : ∃ wi, PIZ X tg iter wi ∧ ∀ (O H H0 : Hp) (σ : L2.St) (δ : List S) (x : XP) (q : List D → Prop) (R : It → Hp → Prop), Same O H → EnvR X.K H0 O H σ δ →
    (∀ e cls d O' H', Up O H O' H' → XRep X.K X.mg O' H' e cls d → x e → W cls d σ H') → (∀ J O' H' ds, Up O H O' H' → Walks X.K J O' ds → q ds → R J H') → di x δ q → wi σ H R
theorem JIZ.cx {iter : Expr} {di : EI} (h : JIZ X W tg iter di) : ∃ wi, PIZ X tg iter wi ∧ ∀ (O H H0 : Hp) (σ : L2.St) (δ : List S) (x : XP) (q : List D → Prop) (R : It → Hp → Prop), Same O H → EnvR X.K H0 O H σ δ →
    (∀ e cls d O' H', Up O H O' H' → XRep X.K X.mg O' H' e cls d → x e → W cls d σ H') → (∀ J O' H' ds, Up O H O' H' → Walks X.K J O' ds → q ds → R J H') → di x δ q → wi σ H R := h.ex
end
end DL

namespace DL
open PySem PySem.Spec PyProof.Rows L2 HotX
variable [HotA]
section
variable {X : Cx} {W : WX} {pos : Pos} {e : Expr} {es : List Expr} {x : Str} {p1 : Pos}
omit [HotA] in
omit [HotA] in
omit [HotA] in
end
end DL

namespace DL
open PySem PySem.Spec PyProof.Rows L2 HotX
variable [HotA]
section
omit [HotA]
variable {X : Cx} {W : WX} {pos : Pos}
end
section
variable {X : Cx} {W : WX} {pos : Pos}
end
end DL

namespace DL
open PySem L2
variable [HotA]
def tBr (i : Nat) (t : ET) : ET := fun _ δ q => (lk δ i).fr fun d => t (fun _ => False) (DL.put δ i (.val d)) q
theorem u_tBr {i : Nat} {t : ET} {x : XP} {δ : List S} {q : Bool → Prop} : tBr i t x δ q = ((lk δ i).fr fun d => t (fun _ => False) (DL.put δ i (.val d)) q) := (rfl)
section
variable [HotA]
variable {X : Cx} {W : WX}
end
end DL

namespace DL
open PySem L2
def sAppT (i : Nat) (n : Nat) (e : ES) : ST := fun D δ => (lk δ i).ob fun v d fp => tupK d fun rows => ∃ r, rows[n]? = some (.list r) ∧ e (fun x => D.ex x δ) δ fun s => s.fr fun c => noLst c = true ∧ r.length < sizeLine ∧ D.nx (DL.put δ i (.obj v (.tuple (rows.set n (.list (r ++ [c])))) fp))
theorem u_sAppT {i n : Nat} {e : ES} {D : DL.Ends} {δ : List S} : sAppT i n e D δ = (lk δ i).ob fun v d fp => tupK d fun rows => ∃ r, rows[n]? = some (.list r) ∧ e (fun x => D.ex x δ) δ fun s => s.fr fun c => noLst c = true ∧ r.length < sizeLine ∧ D.nx (DL.put δ i (.obj v (.tuple (rows.set n (.list (r ++ [c])))) fp)) := (rfl)
section
variable {X : Cx} {W : WX} {pos : Pos}
end
end DL

namespace DL
open PySem L2
def sRetEAV (a : EA) (i : Nat) : ST := fun D δ => ((lk δ i).ow fun _ => True) ∧ a (fun x => D.ex x δ) δ fun es => noLsts es = true ∧ es.length ≤ 1000 ∧ (lk δ i).ow fun ds => noLsts ds = true ∧ ∀ p r, D.rt (.obj (.ref p) (.tuple (es ++ [.list ds])) [p, r])
theorem u_sRetEAV {a : EA} {i : Nat} {D : DL.Ends} {δ : List S} : sRetEAV a i D δ = (((lk δ i).ow fun _ => True) ∧ a (fun x => D.ex x δ) δ fun es => noLsts es = true ∧ es.length ≤ 1000 ∧ (lk δ i).ow fun ds => noLsts ds = true ∧ ∀ p r, D.rt (.obj (.ref p) (.tuple (es ++ [.list ds])) [p, r])) := (rfl)
section
variable {X : Cx} {W : WX} {pos : Pos}
end
end DL

namespace DL
open PySem L2
end DL

namespace DL
open PySem PySem.Spec PyProof.Rows L2
variable [HotA]
section
variable {X : Cx} {W : WX} {tg : Expr} {pos : Pos}
omit [HotA] in
end
end DL

namespace DL
open PySem L2
def eRepE (e b : ES) : ES := fun x δ q => e x δ fun s => ownK s fun ds => b x δ fun t => t.nm fun n => (0 ≤ n ∧ n ≤ 1000) ∧ ds.length * n.toNat ≤ sizeLine ∧ q (.own (List.replicate n.toNat ds).flatten)
theorem u_eRepE {e b : ES} {x : XP} {δ : List S} {q : S → Prop} : eRepE e b x δ q = e x δ fun s => ownK s fun ds => b x δ fun t => t.nm fun n => (0 ≤ n ∧ n ≤ 1000) ∧ ds.length * n.toNat ≤ sizeLine ∧ q (.own (List.replicate n.toNat ds).flatten) := (rfl)
section
variable {X : Cx} {W : WX} {a b : Expr} {pos : Pos}
theorem je_repE {da db : ES} (ha : JE X W a da) (hb : JE X W b db) : JE X W (.BinOp a .Mult b pos) (eRepE da db) := by
  obtain ⟨te, p, s⟩ := ha.ex
  obtain ⟨tb, pb, sb⟩ := hb.ex
  refine ⟨_, pe_op op_rep p pb, fun O H H0 σ δ x q Q so env hx hq g => ?_⟩
  refine s O H H0 σ δ x _ _ so env hx (fun v O1 H1 c u1 r1 g1 => ?_) g
  unfold ownK at g1
  split at g1
  · rename_i ds
    obtain ⟨l, vs, rfl, h1, h2, h3, h4⟩ := r1
    refine sb O1 H1 H0 σ δ x _ _ u1.oh (env.up u1) (fun e cls d O' H' u => hx e cls d O' H' (u1.trans u)) (fun w O2 H2 t u2 r2 g2 => ?_) g1
    unfold S.nm at g2
    split at g2
    · rename_i n
      cases r2
      obtain ⟨⟨n0, n1⟩, g0, g2⟩ := g2
      refine ⟨l, n, vs, rfl, rfl, u2.h.at h3, by omega, by omega, by rw [dpl_length h4]; exact g0, fun p' hp' => ?_⟩
      have u3 := Up.own u2.oh hp' (.lst (List.replicate n.toNat vs).flatten)
      exact hq _ _ _ (.own (List.replicate n.toNat ds).flatten) ((u1.trans u2).trans u3) ⟨p', _, rfl, (u1.trans u2).h.free hp', u2.oh.free hp', upd_same, dpl_rep (dpAll_mono u2.o h4) _⟩ g2
    · exact g2.elim
  · exact g1.elim
end
end DL

namespace DL
variable [HotA]
open PySem L2
omit [HotA] in
def rInDD : R2D
  | c, .list ds, q => shapedB c = true ∧ shapedB (.list ds) = true ∧ q (.val (.bool (ds.any fun z => PyData.eqv z c)))
  | _, _, _ => False
theorem u_rInDD {c : D} {ds : List D} {q : S → Prop} : rInDD c (.list ds) q = (shapedB c = true ∧ shapedB (.list ds) = true ∧ q (.val (.bool (ds.any fun z => PyData.eqv z c)))) := (rfl)
end DL

namespace DL
open PySem L2
theorem bez : ∀ (m n : Nat), ∃ x y : Int, (m : Int) * x + n * y = (Nat.gcd m n : Nat) := fun m n => by
  induction m, n using Nat.gcd.induction with
  | H0 n => exact ⟨0, 1, by simp⟩
  | H1 m n h ih =>
    obtain ⟨x, y, e⟩ := ih
    rw [Nat.gcd_rec]
    refine ⟨y - (n / m : Nat) * x, x, ?_⟩
    rw [← e]
    have := Nat.div_add_mod n m
    generalize n / m = q at this ⊢
    generalize n % m = r at this ⊢
    subst this
    push_cast
    grind
theorem bezI {a b : Int} (h : Int.gcd a b = 1) : ∃ x y : Int, a * x + b * y = 1 := by
  obtain ⟨x, y, e⟩ := bez a.natAbs b.natAbs
  have g : Nat.gcd a.natAbs b.natAbs = 1 := h
  rw [g] at e
  have e : (a.natAbs : Int) * x + b.natAbs * y = 1 := e
  rcases Int.natAbs_eq a with ha | ha <;> rcases Int.natAbs_eq b with hb | hb <;> rw [ha, hb]
  · exact ⟨x, y, e⟩
  · exact ⟨x, -y, by rw [← e]; grind⟩
  · exact ⟨-x, y, by rw [← e]; grind⟩
  · exact ⟨-x, -y, by rw [← e]; grind⟩
theorem dvd_prod {p m n w x : Int} (e : p * x + m * w = 1) (h : p ∣ n) (k : m ∣ n) : p * m ∣ n := by
  obtain ⟨s, hs⟩ := h
  obtain ⟨t, ht⟩ := k
  refine ⟨t * x + s * w, ?_⟩
  have : n = n * (p * x + m * w) := by rw [e, Int.mul_one]
  rw [this, Int.mul_add]
  have h1 : n * (p * x) = p * m * (t * x) := by rw [ht]; grind
  have h2 : n * (m * w) = p * m * (s * w) := by rw [hs]; grind
  rw [h1, h2, ← Int.mul_add]
theorem res_all {a : Int} : ∀ (k : Nat) {b : Int}, b.natAbs ≤ k → SqF b → (∀ p, Pr p → p ∣ b → ∃ y, p ∣ y * y - a) → ∃ y, b ∣ y * y - a
  | 0, b, hk, hb, _ => absurd (by omega) hb.ne
  | k + 1, b, hk, hb, h => by
    by_cases h1 : b.natAbs = 1
    · exact ⟨0, by rcases Int.natAbs_eq b with e | e <;> rw [h1] at e <;> subst e <;> simp⟩
    have b0 := hb.ne
    obtain ⟨p, hp, d⟩ := pr_factor (n := (b.natAbs : Int)) (by omega)
    have d : p ∣ b := Int.dvd_natAbs.mp d
    obtain ⟨m, rfl⟩ := d
    have sm : SqF m := SqF.of_pr (fun z => b0 (by rw [z, Int.mul_zero])) fun q hq dq => hb.no q hq.two (Int.dvd_mul_of_dvd_right dq)
    have pm : ¬ p ∣ m := fun z => hb.no p hp.two (Int.mul_dvd_mul (Int.dvd_refl p) z)
    obtain ⟨x, w, e⟩ := bezI (hp.gcd.resolve_left pm)
    obtain ⟨y1, s1, e1⟩ := h p hp (Int.dvd_mul_right p m)
    have p2 := hp.two
    have m0 := sm.ne
    have hm : m.natAbs ≤ k := by
      rw [Int.natAbs_mul] at hk
      have : 2 * m.natAbs ≤ p.natAbs * m.natAbs := Nat.mul_le_mul_right _ (by omega)
      omega
    obtain ⟨y2, s2, e2⟩ := res_all k hm sm fun q hq dq => h q hq (Int.dvd_mul_of_dvd_right dq)
    refine ⟨y1 * (m * w) + y2 * (p * x), dvd_prod e ?_ ?_⟩
    · rw [show m * w = 1 - p * x by omega]
      refine ⟨s1 + 2 * y1 * (x * (y2 - y1)) + p * (x * (y2 - y1) * (x * (y2 - y1))), ?_⟩
      have : a = y1 * y1 - p * s1 := by omega
      rw [this]
      grind
    · rw [show p * x = 1 - m * w by omega]
      refine ⟨s2 + 2 * y2 * (w * (y1 - y2)) + m * (w * (y1 - y2) * (w * (y1 - y2))), ?_⟩
      have : a = y2 * y2 - m * s2 := by omega
      rw [this]
      grind
theorem near0 {b y : Int} (b0 : b ≠ 0) : ∃ w, b ∣ y - w ∧ 2 * w.natAbs ≤ b.natAbs := by
  have n0 : (0 : Int) < (b.natAbs : Int) := by omega
  have q := Int.mul_ediv_add_emod (2 * y + b.natAbs) (2 * b.natAbs)
  have h1 := Int.emod_nonneg (2 * y + b.natAbs) (show 2 * (b.natAbs : Int) ≠ 0 by omega)
  have h2 := Int.emod_lt_of_pos (2 * y + b.natAbs) (show 0 < 2 * (b.natAbs : Int) by omega)
  refine ⟨y - b.natAbs * ((2 * y + b.natAbs) / (2 * b.natAbs)), ?_, ?_⟩
  · rw [show y - (y - (b.natAbs : Int) * ((2 * y + b.natAbs) / (2 * b.natAbs))) = b.natAbs * ((2 * y + b.natAbs) / (2 * b.natAbs)) by omega]
    exact Int.dvd_mul_of_dvd_left (Int.dvd_natAbs.mpr (Int.dvd_refl b))
  · generalize (2 * y + (b.natAbs : Int)) / (2 * (b.natAbs : Int)) = k at q ⊢
    generalize (2 * y + (b.natAbs : Int)) % (2 * (b.natAbs : Int)) = r at q h1 h2
    rw [Int.mul_assoc] at q
    generalize (b.natAbs : Int) * k = t at q ⊢
    omega
theorem quot_le {a b k w : Int} (b2 : 2 ≤ b.natAbs) (hl : a.natAbs ≤ b.natAbs) (hw : 2 * w.natAbs ≤ b.natAbs) (e : w * w - a = b * k) : 4 * k.natAbs ≤ b.natAbs + 4 := by
  have h1 : b.natAbs * k.natAbs ≤ w.natAbs * w.natAbs + a.natAbs := by
    rw [← Int.natAbs_mul, ← e, ← Int.natAbs_mul]
    omega
  have h2 := Nat.mul_le_mul hw hw
  generalize b.natAbs = B at *
  generalize k.natAbs = K at *
  generalize w.natAbs = W at *
  have : B * (4 * K) ≤ B * (B + 4) := by
    have : 2 * W * (2 * W) = 4 * (W * W) := by grind
    have : B * (4 * K) = 4 * (B * K) := by grind
    have : B * (B + 4) = B * B + 4 * B := by grind
    omega
  exact Nat.le_of_mul_le_mul_left this (by omega)
theorem sol_of : ∀ (k : Nat) {a b : Int}, wgt a b ≤ k → SqF a → SqF b → (∀ p, p = 0 ∨ Pr p → hil p a b = 1) → Sol a b := fun k => by
  induction k using Nat.strongRecOn with
  | _ k ih =>
  intro a b hk ha hb h
  by_cases hl : lastP a b
  · exact (lastT_on hl).sol
  by_cases hs : b.natAbs < a.natAbs
  · have := wgt_turn hs
    exact (ih (wgt b a) (by omega) (Nat.le_refl _) hb ha fun p hp => by rw [hil_comm]; exact h p hp).symm
  have a0 := ha.ne
  have b0 := hb.ne
  have b2 : 2 ≤ b.natAbs := Classical.byContradiction fun z => by
    have hr := h 0 (.inl rfl)
    unfold hil at hr
    rw [if_pos rfl] at hr
    unfold lastP at hl
    rw [if_pos (by omega)] at hr
    exact absurd hr (by decide)
  obtain ⟨y, hy⟩ := res_all (a := a) b.natAbs (Nat.le_refl _) hb fun p hp d => Classical.byContradiction fun z => by
    have := (hil_none hp hb d fun y hy => z ⟨y, hy⟩).2
    rw [h p (.inr hp)] at this
    exact absurd this (by decide)
  obtain ⟨w, hw, w2⟩ := near0 (y := y) b0
  obtain ⟨n, e0⟩ : b ∣ w * w - a := by
    obtain ⟨s, hs⟩ := hw
    obtain ⟨t, ht⟩ := hy
    refine ⟨t - s * (y + w), ?_⟩
    have : w = y - b * s := by omega
    have : w * w - a = (y * y - a) - (y - w) * (y + w) := by grind
    rw [this, ht, hs]
    grind
  have n0 : n ≠ 0 := fun z => by
    subst z
    exact hl (.inl (sq_one ha (show w * w = a by rw [Int.mul_zero] at e0; omega)))
  obtain ⟨c, u, hc⟩ := core_any n.natAbs n (Nat.le_refl _) n0
  have u1 := hc.pos
  have c0 := hc.sf.ne
  have e : w * w - a = b * c * (u * u) := by rw [e0, hc.eq]; grind
  have hq := quot_le (k := n) b2 (by omega) w2 e0
  have cn : c.natAbs ≤ n.natAbs := by
    rw [hc.eq, Int.natAbs_mul, Int.natAbs_mul]
    have := Nat.mul_le_mul (Nat.mul_le_mul (Nat.le_refl c.natAbs) (show 1 ≤ u.natAbs by omega)) (show 1 ≤ u.natAbs by omega)
    omega
  have bc : b * c ≠ 0 := Int.mul_ne_zero b0 c0
  have hn : b * c * (u * u) ≠ 0 := Int.mul_ne_zero bc (Int.mul_ne_zero (by omega) (by omega))
  have wl := wgt_down (a := a) (b := b) (c := c) b2 (by omega)
  have s := ih (wgt a c) (by omega) (Nat.le_refl _) ha hc.sf fun p hp => by
    have h1 := hil_norm hp a0 hn e
    rw [hil_sq' hp a0 bc (by omega), hil_mul hp a0 b0 c0, h p hp, Int.one_mul] at h1
    exact h1
  refine Nm.sol (Nm.div c0 (s.nm ha) ?_)
  rw [Int.mul_comm]
  exact Nm.of (show u ≠ 0 by omega) e
theorem SqF.root {n x : Int} (h : SqF n) (d : n ∣ x * x) : n ∣ x := by
  suffices key : ∀ (k : Nat) {n : Int}, n.natAbs ≤ k → SqF n → n ∣ x * x → n ∣ x from key n.natAbs (Nat.le_refl _) h d
  intro k
  induction k with
  | zero => exact fun {n} hk hb _ => absurd (by omega) hb.ne
  | succ k ih =>
    intro b hk hb d
    by_cases h1 : b.natAbs = 1
    · rcases Int.natAbs_eq b with e | e <;> rw [h1] at e <;> subst e
      · exact ⟨x, by simp⟩
      · exact ⟨-x, by simp⟩
    have b0 := hb.ne
    obtain ⟨p, hp, dp⟩ := pr_factor (n := (b.natAbs : Int)) (by omega)
    have dp : p ∣ b := Int.dvd_natAbs.mp dp
    obtain ⟨m, rfl⟩ := dp
    have sm : SqF m := SqF.of_pr (fun z => b0 (by rw [z, Int.mul_zero])) fun q hq dq => hb.no q hq.two (Int.dvd_mul_of_dvd_right dq)
    have pm : ¬ p ∣ m := fun z => hb.no p hp.two (Int.mul_dvd_mul (Int.dvd_refl p) z)
    obtain ⟨u, w, e⟩ := bezI (hp.gcd.resolve_left pm)
    have p2 := hp.two
    have m0 := sm.ne
    have hm : m.natAbs ≤ k := by
      rw [Int.natAbs_mul] at hk
      have : 2 * m.natAbs ≤ p.natAbs * m.natAbs := Nat.mul_le_mul_right _ (by omega)
      omega
    exact dvd_prod e (sq_pr hp (Int.dvd_trans (Int.dvd_mul_right p m) d)) (ih hm sm (Int.dvd_trans ⟨p, Int.mul_comm p m⟩ d))
theorem pln_sol {a b c : Int} (pl : Pln a b c) (h : ∀ p, ¬ BadP a b c p) : ∃ x y z : Int, (x ≠ 0 ∨ y ≠ 0 ∨ z ≠ 0) ∧ a * (x * x) + b * (y * y) + c * (z * z) = 0 := by
  have a0 := pl.fa.ne
  have b0 := pl.fb.ne
  have c0 := pl.fc.ne
  have s1 : SqF (0 - a * b) := by have := (pl.fa.mul pl.fb pl.ab).neg; rwa [show -(a * b) = 0 - a * b by omega] at this
  have s2 : SqF (0 - a * c) := by have := (pl.fa.mul pl.fc (by rw [Int.gcd_comm]; exact pl.ca)).neg; rwa [show -(a * c) = 0 - a * c by omega] at this
  obtain ⟨x, y, z, hn, e⟩ := sol_of _ (Nat.le_refl _) s1 s2 fun p hp => (hil_or hp s1.ne s2.ne).resolve_right fun k => h p ((bad_hil pl hp).mpr k)
  obtain ⟨t, rfl⟩ := pl.fa.root (x := x) ⟨-(b * (y * y)) - c * (z * z), by rw [e]; grind⟩
  refine ⟨t, y, z, ?_, ?_⟩
  · rcases hn with k | k | k
    · exact .inl fun z => k (by rw [z, Int.mul_zero])
    · exact .inr (.inl k)
    · exact .inr (.inr k)
  · exact can0 a0 (by grind)
theorem near_par {z t k : Int} (hz : 0 < z) : ∃ w, w % 2 = k % 2 ∧ (z * w - t).natAbs ≤ z.natAbs := by
  have q := Int.mul_ediv_add_emod (t - z * k + z) (2 * z)
  have h1 := Int.emod_nonneg (t - z * k + z) (show 2 * z ≠ 0 by omega)
  have h2 := Int.emod_lt_of_pos (t - z * k + z) (show 0 < 2 * z by omega)
  generalize (t - z * k + z) / (2 * z) = j at q
  generalize (t - z * k + z) % (2 * z) = r at q h1 h2
  refine ⟨k + 2 * j, by omega, ?_⟩
  have : z * (k + 2 * j) - t = z - r := by
    have : z * (k + 2 * j) = z * k + 2 * z * j := by grind
    omega
  rw [this]
  omega
theorem mordell_eq {a b c x y z p q S T A B x1 y1 z1 w : Int} (on : a * (x * x) + b * (y * y) = c * (z * z)) (hS : a * (p * p) + b * (q * q) = S) (hT : a * (x * p) + b * (y * q) = T) (hA : A = c * S - w * w) (hB : B = T - z * w) (e1 : 2 * x1 = x * A - 2 * (p * c * B)) (e2 : 2 * y1 = y * A - 2 * (q * c * B)) (e3 : 2 * z1 = z * A - 2 * (w * B)) : a * (x1 * x1) + b * (y1 * y1) = c * (z1 * z1) := by
  have h1 : a * (2 * x1 * (2 * x1)) + b * (2 * y1 * (2 * y1)) - c * (2 * z1 * (2 * z1)) = 0 := by
    rw [e1, e2, e3]
    have f1 : a * ((x * A - 2 * (p * c * B)) * (x * A - 2 * (p * c * B))) + b * ((y * A - 2 * (q * c * B)) * (y * A - 2 * (q * c * B))) = (a * (x * x) + b * (y * y)) * (A * A) - 4 * (c * A * B) * (a * (x * p) + b * (y * q)) + 4 * (c * c * (B * B)) * (a * (p * p) + b * (q * q)) := by grind
    rw [f1, on, hS, hT]
    have f2 : c * ((z * A - 2 * (w * B)) * (z * A - 2 * (w * B))) = c * (z * z) * (A * A) - 4 * (c * A * B) * (z * w) + 4 * (c * (B * B)) * (w * w) := by grind
    rw [f2, show w * w = c * S - A by omega, show z * w = T - B by omega]
    grind
  have : a * (2 * x1 * (2 * x1)) + b * (2 * y1 * (2 * y1)) - c * (2 * z1 * (2 * z1)) = 4 * (a * (x1 * x1) + b * (y1 * y1) - c * (z1 * z1)) := by grind
  omega
theorem mordell {a b c x y z : Int} (ha : 0 < a) (hb : 0 < b) (on : a * (x * x) + b * (y * y) = c * (z * z)) (g : Int.gcd x y = 1) (hz : 0 < z) (hl : a * b < z * z) : ∃ x1 y1 z1 : Int, 0 < z1 ∧ z1 < z ∧ a * (x1 * x1) + b * (y1 * y1) = c * (z1 * z1) := by
  obtain ⟨u, v, e⟩ := bezI g
  generalize hS : a * (v * v) + b * (-u * -u) = S
  generalize hT : a * (x * v) + b * (y * -u) = T
  obtain ⟨w, w2, wl⟩ := near_par (t := T) (k := c * S) hz
  have id : S * (c * (z * z)) = T * T + a * b := by
    rw [← on, ← hS, ← hT]
    have : (a * (v * v) + b * (-u * -u)) * (a * (x * x) + b * (y * y)) = (a * (x * v) + b * (y * -u)) * (a * (x * v) + b * (y * -u)) + a * b * ((x * u + y * v) * (x * u + y * v)) := by grind
    rw [this, e]
    grind
  have hA : (c * S - w * w) % 2 = 0 := by
    have : (w * w) % 2 = w % 2 := by
      rcases Int.emod_two_eq w with k | k <;> rw [Int.mul_emod, k] <;> decide
    omega
  obtain ⟨A, hA⟩ : ∃ A, c * S - w * w = 2 * A := ⟨(c * S - w * w) / 2, by omega⟩
  have e3 : 2 * (z * A - w * (T - z * w)) = z * (c * S - w * w) - 2 * (w * (T - z * w)) := by rw [hA]; grind
  have key : 2 * (z * (z * A - w * (T - z * w))) = (z * w - T) * (z * w - T) + a * b := by
    have : 2 * (z * (z * A - w * (T - z * w))) = z * (2 * (z * A - w * (T - z * w))) := by grind
    rw [this, e3]
    have : z * (z * (c * S - w * w) - 2 * (w * (T - z * w))) = S * (c * (z * z)) + z * z * (w * w) - 2 * (w * z * T) := by grind
    rw [this, id]
    grind
  have hab := Int.mul_pos ha hb
  have sq : (z * w - T) * (z * w - T) ≤ z * z := by
    have := Nat.mul_le_mul wl wl
    have h1 := sq_abs (z * w - T)
    have h2 := sq_abs z
    rw [← h1, ← h2]
    exact_mod_cast this
  have sn := sqn (z * w - T)
  refine ⟨x * A - v * c * (T - z * w), y * A - -u * c * (T - z * w), z * A - w * (T - z * w), ?_, ?_, mordell_eq on hS hT rfl rfl ?_ ?_ e3⟩
  · refine Classical.byContradiction fun n => ?_
    have : z * (z * A - w * (T - z * w)) ≤ 0 := Int.mul_nonpos_of_nonneg_of_nonpos (by omega) (by omega)
    omega
  · refine Classical.byContradiction fun n => ?_
    have : z * z ≤ z * (z * A - w * (T - z * w)) := Int.mul_le_mul_of_nonneg_left (by omega) (by omega)
    omega
  · rw [hA]; grind
  · rw [hA]; grind
theorem low_two {a b c x y z : Int} (sc : SqF c) (on : a * (x * x) + b * (y * y) = c * (z * z)) (hL : Low [x, y, z]) (n : x ≠ 0 ∨ y ≠ 0) : Int.gcd x y = 1 := by
  have no : ∀ p, Pr p → p ∣ x → ¬ p ∣ y := fun p hp d1 d2 => by
    refine hL.no_pr hp ⟨d1, d2, Classical.byContradiction fun k => ?_⟩
    have : p * p ∣ c * (z * z) := by
      rw [← on]
      exact Int.dvd_add (Int.dvd_mul_of_dvd_right (Int.mul_dvd_mul d1 d1)) (Int.dvd_mul_of_dvd_right (Int.mul_dvd_mul d2 d2))
    have nz : ¬ p ∣ z * z := fun h => k (sq_pr hp h)
    obtain ⟨c', rfl⟩ := (hp.euclid (Int.dvd_trans (Int.dvd_mul_right p p) this)).resolve_right nz
    obtain ⟨t, ht⟩ := this
    have : c' * (z * z) = p * t := by
      have := can0 (s := p) (t := c' * (z * z) - p * t) (by have := hp.two; omega) (by grind)
      omega
    have : p ∣ c' := (hp.euclid ⟨t, this⟩).resolve_right nz
    exact sc.no p hp.two (Int.mul_dvd_mul (Int.dvd_refl p) this)
  rcases n with n | n
  · exact no_pr_gcd n no
  · rw [Int.gcd_comm]
    exact no_pr_gcd n fun p hp d1 d2 => no p hp d2 d1
theorem holzer {a b c : Int} (ha : 0 < a) (hb : 0 < b) (hc : 0 < c) (sc : SqF c) : ∀ (k : Nat) {x y z : Int}, z.natAbs ≤ k → z ≠ 0 → a * (x * x) + b * (y * y) = c * (z * z) → ∃ x y z : Int, z ≠ 0 ∧ a * (x * x) + b * (y * y) = c * (z * z) ∧ z * z ≤ a * b := fun k => by
  induction k with
  | zero => exact fun {x y z} hk z0 _ => absurd (by omega) z0
  | succ k ih =>
    intro x y z hk z0 on
    obtain ⟨s, d, e, f, s0, h1, h2, h3, hL, -⟩ := low3v (a := x) (b := y) (c := z) (.inr (.inr z0))
    subst h1; subst h2; subst h3
    have f0 : f ≠ 0 := fun q => z0 (by rw [q, Int.mul_zero])
    have on : a * (d * d) + b * (e * e) = c * (f * f) := by
      have := can0 (s := s * s) (t := a * (d * d) + b * (e * e) - c * (f * f)) (Int.mul_ne_zero s0 s0) (by grind)
      omega
    have fk : f.natAbs ≤ k + 1 := by
      rw [Int.natAbs_mul] at hk
      have : 1 * f.natAbs ≤ s.natAbs * f.natAbs := Nat.mul_le_mul_right _ (by omega)
      omega
    by_cases hl : f * f ≤ a * b
    · exact ⟨d, e, f, f0, on, hl⟩
    have de : d ≠ 0 ∨ e ≠ 0 := Classical.byContradiction fun q => by
      have h1 : d = 0 := by omega
      have h2 : e = 0 := by omega
      subst h1; subst h2
      have := can0 (s := c) (t := f * f) (by omega) (by omega)
      exact f0 (mss this)
    have sqa := sq_abs f
    obtain ⟨x1, y1, z1, z2, z3, on1⟩ := mordell (z := (f.natAbs : Int)) ha hb (by rw [sqa]; exact on) (low_two sc on hL de) (by omega) (by omega)
    exact ih (z := z1) (by omega) (by omega) on1
def Sml (a b c x y z : Int) : Prop := (x ≠ 0 ∨ y ≠ 0 ∨ z ≠ 0) ∧ a * (x * x) + b * (y * y) + c * (z * z) = 0 ∧ x * x ≤ (b * c).natAbs ∧ y * y ≤ (c * a).natAbs ∧ z * z ≤ (a * b).natAbs
theorem Sml.turn {a b c x y z : Int} (h : Sml a b c x y z) : Sml b c a y z x := ⟨by have := h.1; omega, by have := h.2.1; omega, h.2.2.2.1, h.2.2.2.2, h.2.2.1⟩
theorem Sml.neg {a b c x y z : Int} (h : Sml (-a) (-b) (-c) x y z) : Sml a b c x y z := by
  obtain ⟨h1, h2, h3, h4, h5⟩ := h
  rw [Int.neg_mul_neg] at h3 h4 h5
  refine ⟨h1, ?_, h3, h4, h5⟩
  rw [Int.neg_mul, Int.neg_mul, Int.neg_mul] at h2
  omega
theorem pp_le {a b c x z : Int} (ha : 0 < a) (hc : 0 < c) (h : a * (x * x) ≤ c * (z * z)) (k : z * z ≤ a * b) : x * x ≤ b * c := by
  have : c * (z * z) ≤ c * (a * b) := Int.mul_le_mul_of_nonneg_left k (by omega)
  refine Int.le_of_mul_le_mul_left (a := a) ?_ ha
  have : c * (a * b) = a * (b * c) := by grind
  omega
theorem sml_pos {a b c : Int} (ha : 0 < a) (hb : 0 < b) (hc : 0 < c) (sc : SqF c) (h : ∃ x y z : Int, (x ≠ 0 ∨ y ≠ 0 ∨ z ≠ 0) ∧ a * (x * x) + b * (y * y) = c * (z * z)) : ∃ x y z, Sml a b (-c) x y z := by
  obtain ⟨x, y, z, n, on⟩ := h
  have z0 : z ≠ 0 := fun q => by
    subst q
    have h1 := Int.mul_nonneg (show 0 ≤ a by omega) (sqn x)
    have h2 := Int.mul_nonneg (show 0 ≤ b by omega) (sqn y)
    have h3 := mss (can0 (s := a) (t := x * x) (by omega) (by omega))
    have h4 := mss (can0 (s := b) (t := y * y) (by omega) (by omega))
    omega
  obtain ⟨x, y, z, z0, on, hl⟩ := holzer ha hb hc sc z.natAbs (Nat.le_refl _) z0 on
  have h1 := Int.mul_nonneg (show 0 ≤ a by omega) (sqn x)
  have h2 := Int.mul_nonneg (show 0 ≤ b by omega) (sqn y)
  have l1 := pp_le (b := b) (x := x) (z := z) ha hc (by omega) hl
  have l2 := pp_le (b := a) (x := y) (z := z) hb hc (by omega) (by rw [Int.mul_comm b a]; exact hl)
  have p1 := Int.mul_pos hb hc
  have p2 := Int.mul_pos ha hc
  have p3 := Int.mul_pos ha hb
  refine ⟨x, y, z, .inr (.inr z0), ?_, ?_, ?_, ?_⟩
  · rw [Int.neg_mul]; omega
  · rw [Int.mul_neg]; omega
  · rw [Int.neg_mul, Int.mul_comm c a]; omega
  · omega
theorem small_any {a b c : Int} (pl : Pln a b c) (h : ∀ p, ¬ BadP a b c p) : ∃ x y z, Sml a b c x y z := by
  obtain ⟨x, y, z, n, on⟩ := pln_sol pl h
  have a0 := pl.fa.ne
  have b0 := pl.fb.ne
  have c0 := pl.fc.ne
  have sg : ¬ ((0 < a ↔ 0 < b) ∧ (0 < b ↔ 0 < c)) := fun k => h 0 (.inl ⟨rfl, k.1, k.2⟩)
  have nn : ∀ t : Int, - -t = t := fun t => Int.neg_neg t
  have key : ∀ {a b c x y z : Int}, 0 < a → 0 < b → c < 0 → SqF c → (x ≠ 0 ∨ y ≠ 0 ∨ z ≠ 0) → a * (x * x) + b * (y * y) + c * (z * z) = 0 → ∃ x y z, Sml a b c x y z := fun {a b c x y z} ha hb hc sc n on => by
    have := sml_pos ha hb (c := -c) (by omega) sc.neg ⟨x, y, z, n, by rw [Int.neg_mul]; omega⟩
    rwa [nn] at this
  have kex : ∀ {a b c x y z : Int}, a < 0 → b < 0 → 0 < c → SqF c → (x ≠ 0 ∨ y ≠ 0 ∨ z ≠ 0) → a * (x * x) + b * (y * y) + c * (z * z) = 0 → ∃ x y z, Sml a b c x y z := fun {a b c x y z} ha hb hc sc n on => by
    obtain ⟨x, y, z, s⟩ := key (a := -a) (b := -b) (c := -c) (x := x) (y := y) (z := z) (by omega) (by omega) (by omega) sc.neg n (by rw [Int.neg_mul, Int.neg_mul, Int.neg_mul]; omega)
    exact ⟨x, y, z, s.neg⟩
  by_cases ha : 0 < a <;> by_cases hb : 0 < b <;> by_cases hc : 0 < c
  · exact absurd ⟨⟨fun _ => hb, fun _ => ha⟩, ⟨fun _ => hc, fun _ => hb⟩⟩ sg
  · exact key ha hb (by omega) pl.fc n on
  · obtain ⟨x, y, z, s⟩ := key (a := c) (b := a) (c := b) (x := z) (y := x) (z := y) hc ha (by omega) pl.fb (by omega) (by omega)
    exact ⟨y, z, x, s.turn⟩
  · obtain ⟨x, y, z, s⟩ := kex (a := b) (b := c) (c := a) (x := y) (y := z) (z := x) (by omega) (by omega) ha pl.fa (by omega) (by omega)
    exact ⟨z, x, y, s.turn.turn⟩
  · obtain ⟨x, y, z, s⟩ := key (a := b) (b := c) (c := a) (x := y) (y := z) (z := x) hb hc (by omega) pl.fa (by omega) (by omega)
    exact ⟨z, x, y, s.turn.turn⟩
  · obtain ⟨x, y, z, s⟩ := kex (a := c) (b := a) (c := b) (x := z) (y := x) (z := y) (by omega) (by omega) hb pl.fb (by omega) (by omega)
    exact ⟨y, z, x, s.turn⟩
  · exact kex (by omega) (by omega) hc pl.fc n on
  · exact absurd ⟨⟨fun k => absurd k ha, fun k => absurd k hb⟩, ⟨fun k => absurd k hb, fun k => absurd k hc⟩⟩ sg
theorem Sml.abs {a b c x y z : Int} (h : Sml a b c x y z) : Sml a b c x.natAbs y.natAbs z.natAbs := by
  unfold Sml at h ⊢
  rw [sq_abs, sq_abs, sq_abs]
  exact ⟨by have := h.1; omega, h.2⟩
end DL

namespace DL
open PySem L2
def rMin3D : RD
  | [.int i, .int j, .int k], q => q (.val (.int (if k < (if j < i then j else i) then k else if j < i then j else i)))
  | _, _ => False
section
variable {X : Cx}
theorem call_min3 (hc : X.calm = true) : CallR X (.builtin "min") (fun xs H Q => ∃ i j k, xs = [.int i, .int j, .int k] ∧ Q (.int (if k < (if j < i then j else i) then k else if j < i then j else i)) H) := by
  intro pins s σ H xs us Q I r h
  obtain ⟨i, j, k, rfl, q⟩ := h
  obtain ⟨u1, u2, u3, rfl, ⟨t1, rfl⟩, ⟨t2, rfl⟩, ⟨t3, rfl⟩⟩ := vals3 r
  refine min_three_ints (I.ok.hd hc) fun h' tk kk => ⟨_, H, I.kept kk, ?_, q⟩
  by_cases h1 : j < i
  · rw [if_pos h1, if_pos h1]
    by_cases h2 : k < j
    · rw [if_pos h2, if_pos h2]; exact ⟨_, rfl⟩
    · rw [if_neg h2, if_neg h2]; exact ⟨_, rfl⟩
  · rw [if_neg h1, if_neg h1]
    by_cases h2 : k < i
    · rw [if_pos h2, if_pos h2]; exact ⟨_, rfl⟩
    · rw [if_neg h2, if_neg h2]; exact ⟨_, rfl⟩
theorem pall3 {K : PySem.W.Frag} {O H : Hp} {vs : List V} {d e f : D} (h : PAll K O H vs [d, e, f]) : ∃ v w u, vs = [v, w, u] ∧ PRep K O H v d ∧ PRep K O H w e ∧ PRep K O H u f := by
  cases h with
  | cons a b =>
    obtain ⟨w, u, rfl, r⟩ := pall2 b
    exact ⟨_, _, _, rfl, a, r⟩
theorem cs_min3 (hc : X.calm = true) : CallS X (.builtin "min") rMin3D := by
  refine ⟨_, call_min3 hc, fun O H vs ds q Q so ra hq g1 => ?_⟩
  unfold rMin3D at g1
  split at g1
  · rename_i i j k
    obtain ⟨v, w, u, rfl, r, r2, r3⟩ := pall3 ra
    cases r
    cases r2
    cases r3
    exact ⟨i, j, k, rfl, hq _ O H (.val (.int _)) (.refl so) (.int _) g1⟩
  · exact g1.elim
end
theorem w_min3 {i j k : Int} {q : S → Prop} : rMin3D [.int i, .int j, .int k] q = q (.val (.int (if k < (if j < i then j else i) then k else if j < i then j else i))) := (rfl)
end DL

namespace DL
open PySem L2
def dlD := And.intro @u_tBr (And.intro @u_sAppT (And.intro @u_sRetEAV (And.intro @w_max1 (And.intro @w_min1 (And.intro @u_eCall0 (And.intro @w_in (And.intro @u_rInDD (And.intro @w_notin (And.intro @w_seqNum1 (And.intro @w_seqNum2 (And.intro @u_sTry (And.intro @w_hands0 (And.intro @w_hands1 (And.intro @w_atE1 (And.intro @w_atE0 (And.intro @w_afterE (And.intro @w_goneE1 (And.intro @w_goneE0 (And.intro @u_eIsE (And.intro @u_eIsEs (And.intro @u_eMinK (And.intro @u_eIdx (And.intro @u_sRetMix (And.intro @u_sOwn (And.intro @u_eTupC (And.intro @u_eRep (And.intro @u_eRepE (And.intro @w_ownK (And.intro @u_sPar3 (And.intro @w_three (And.intro @u_gTupL (And.intro @w_lstK2 (And.intro @w_excK (And.intro @u_eFld (And.intro @w_fldK (And.intro @u_eCnt (And.intro @w_lstK (And.intro @w_blK (And.intro @u_eVar (And.intro @u_pVar (And.intro @u_pE (And.intro @u_eC (And.intro @u_eOp (And.intro @u_eUn (And.intro @u_tV (And.intro @u_tAnd (And.intro @u_tOr (And.intro @u_tNot (And.intro @u_eAnd (And.intro @u_eOr (And.intro @u_eNot (And.intro @u_eIf (And.intro @u_aNil (And.intro @u_aCons (And.intro @u_apNil (And.intro @u_apCons (And.intro @u_eTup (And.intro @u_eLst (And.intro @u_eCall (And.intro @u_eB (And.intro @u_eCallP (And.intro @u_sNext (And.intro @u_sSeq (And.intro @u_gVar (And.intro @u_gVal (And.intro @u_gNil (And.intro @u_gTup (And.intro @u_sAsg (And.intro @u_sPar (And.intro @u_sDrop (And.intro @u_sRet (And.intro @u_sRetOwn (And.intro @u_sRetN (And.intro @u_sIf (And.intro @u_sBrk (And.intro @u_sCont (And.intro @u_sRaise (And.intro @u_sRaise1 (And.intro @u_sFrz (And.intro @u_sApp (And.intro @u_sSet (And.intro @u_iVal (And.intro @u_iRng1 (And.intro @u_iRng2 (And.intro @u_eIsi (And.intro @u_tYesD (And.intro @u_eChain (And.intro @u_body (And.intro @u_sFor (And.intro @u_sWhile (And.intro @u_sCut (And.intro @u_iRng3 (And.intro @u_oNo (And.intro @u_oSome (And.intro @u_eSlice (And.intro @w_cut1 (And.intro @w_cut2 (And.intro @w_cut3 (And.intro @w_num3 (And.intro @u_iRevD (And.intro @u_iRevR1 (And.intro @u_eSrtSet (And.intro @u_eNst (And.intro @u_sAppN (And.intro @u_gTupM (And.intro @u_sRetVars (And.intro @u_sCallM (And.intro @u_sAsgM (And.intro @u_sObj (And.intro @u_eIxO (And.intro @u_sSetO (And.intro @u_eItemT (And.intro @w_ob (And.intro @w_fr3 (And.intro @w_any3 (And.intro @w_gM0 (And.intro @w_gM1 (And.intro @w_mv1 (And.intro @w_mv2 (And.intro @w_mv3 (And.intro @w_rv0 (And.intro @w_rv1 (And.intro @w_am0 (And.intro @w_am1 (And.intro @w_am2 (And.intro @w_back0 (And.intro @w_back1 (And.intro @w_back2 (And.intro @u_iZipLD (And.intro @u_iZipMD (And.intro @w_zipLK (And.intro @w_zipMK (And.intro @w_zip21 (And.intro @w_zip20 (And.intro @u_forOwn (And.intro @w_forLo0 (And.intro @w_forLo1 (And.intro @u_eDnew (And.intro @u_sPutD (And.intro @u_eGetD (And.intro @u_eInD (And.intro @u_eIxD (And.intro @u_eSrtD (And.intro @u_eCallO (And.intro @w_dctK (And.intro @w_obK1 (And.intro @w_obK2 (And.intro @w_obK3 (And.intro @w_ao0 (And.intro @w_ao1 (And.intro @w_rev (And.intro @u_eComp (And.intro @w_fr1 (And.intro @w_fr2 (And.intro @w_pk1 (And.intro @w_pk2 (And.intro @w_var (And.intro @w_bl (And.intro @w_nm (And.intro @w_ow (And.intro @w_any1 (And.intro @w_any2 (And.intro @w_seq1 (And.intro @w_seq2 (And.intro @w_tup (And.intro @w_num (And.intro @w_num2 (And.intro @w_two (And.intro @w_opt (And.intro @w_int (And.intro @w_int0 (And.intro @w_add1 (And.intro @w_add2 (And.intro @w_add3 (And.intro @w_add4 (And.intro @w_eq1 (And.intro @w_eq2 (And.intro @w_eq3 (And.intro @w_eq4 (And.intro @w_eq5 (And.intro @w_eq6 (And.intro @w_ne1 (And.intro @w_ne2 (And.intro @w_ne3 (And.intro @w_ne4 (And.intro @w_ne5 (And.intro @w_sorted3 (And.intro @w_ltT (And.intro @w_isN (And.intro @w_notN (And.intro @w_ix1 (And.intro @w_ix2 (And.intro @w_ix3 (And.intro @w_len1 (And.intro @w_len2 (And.intro @w_len3 (And.intro @w_abs (And.intro @w_max2 (And.intro @w_min2 (And.intro @w_max4 (And.intro @w_max6 (And.intro @w_min4 (And.intro @w_min3 (And.intro @w_all (And.intro @w_anyb (And.intro @w_sum (And.intro @w_tuple (And.intro @w_list1 (And.intro @w_list2 (And.intro @w_intc1 (And.intro @w_intc2 (And.intro @w_neg (And.intro @w_flat1 (And.intro @w_flat2 (And.intro @w_flat3 (And.intro @w_flat4 (And.intro @w_gcons (And.intro @w_lk0 (And.intro @w_lks (And.intro @w_put0 (And.intro @w_puts (And.intro @w_wipe0 (And.intro @w_wipe1 (And.intro @w_all2a (And.intro @w_all2b (And.intro @w_forL0 (And.intro @w_forL1 (And.intro @w_nums (And.intro @w_nums2 (And.intro @u_elK (And.intro @w_fmod (@w_fdiv))))))))))))))))))))))))))))))))))))))))))))))))))))))))))))))))))))))))))))))))))))))))))))))))))))))))))))))))))))))))))))))))))))))))))))))))))))))))))))))))))))))))))))))))))))))))))))))))))))))))))))))))))))))))))))))))))))))))
def dlP := And.intro @rng_15 (And.intro @eqv_b (And.intro @eqv_s (And.intro @eqv_nn (And.intro @eqv_cn (And.intro @eqv_nc (And.intro @w_bitlen (And.intro @w_excD0 (And.intro @w_excD1 (And.intro @nd_i (And.intro @nd_b (And.intro @nd_s (And.intro @nd_l (And.intro @nd_t (And.intro @nd_n (And.intro @w_ixS (And.intro @rng_4 (And.intro @rng_5 (And.intro @rng_9 (And.intro @w_flatI (And.intro @w_flatL (And.intro @w_flatT (And.intro @atI_m1 (And.intro @atI_m2 (And.intro @w_objS0 (And.intro @w_objS1 (And.intro @w_objS2 (And.intro @atI_0 (And.intro @atI_1 (And.intro @atI_2 (And.intro @atI_3 (And.intro @atI_4 (And.intro @atI_5 (And.intro @setK_0 (And.intro @setK_1 (And.intro @setK_2 (And.intro @eqv_i (And.intro @eqv_l (And.intro @eqv_t (And.intro @eqv_c (And.intro @eqv_n (And.intro @eqvAll_ints_iff (And.intro @w_bools1 (And.intro @w_bools2 (And.intro @w_nums1 (And.intro @rng_0 (And.intro @rng_1 (And.intro @rng_2 (And.intro @rng_3 (And.intro @rng_6 (And.intro @w_id1 (And.intro @w_id2 (And.intro @w_id3 (And.intro @rng3 (And.intro @isD_int (And.intro @isD_int_bool (And.intro @isD_tuple (And.intro @isD_list (@isD_str))))))))))))))))))))))))))))))))))))))))))))))))))))))))))
local macro_rules | `(tactic| walk_at "dl") => `(tactic| (simp (maxSteps := 10000000) (disch := omega) only [↓dlD, dlP, List.mem_cons, List.not_mem_nil, or_false, sizeLine_eq, Nat.reduceLeDiff, startD, isNon, Bool.and_true, Bool.and_eq_true, List.all_cons, List.all_nil, List.any_cons, List.any_nil, id_eq, Bool.and_self, Bool.or_false, Bool.or_true, decide_true, decide_false, Option.map_some, Option.some.injEq, List.map, List.length, List.replicate, List.append, List.cons_append, List.nil_append, Nat.sub_self, Nat.reduceSub, Nat.reduceAdd, reduceCtorEq, PyData.int.injEq, decide_eq_true_eq, Bool.not_eq_true', decide_eq_false_iff_not, Bool.not_true, Bool.not_false, if_true, if_false, Bool.false_eq_true, ne_eq, Int.reduceLE, Int.reduceLT, Int.reduceEq, Nat.reduceLT, Int.cast_ofNat_Int, Int.reducePow, Int.reduceToNat, Int.reduceMul, Int.reduceAdd, Int.reduceSub, Int.reduceNeg, Int.reduceMod, Int.reduceDiv, Int.reduceGT, Int.reduceGE, Int.reduceNe, not_false_eq_true, not_true_eq_false, forall_eq', exists_eq_left', eq_self, true_and, and_true]; try simp only [List.cons.injEq, S.val.injEq, PyData.int.injEq, w_ex1, w_ex2, w_ex3, true_and, and_true]))
local macro_rules | `(tactic| walk_at "szx") => `(tactic| first | with_reducible assumption | (with_reducible refine (?_ : Sz 3 _); decide +kernel) | (with_reducible refine (?_ : Sz 8 _); decide +kernel) | (with_reducible refine (?_ : Sz 16 _); decide +kernel) | (with_reducible refine (?_ : Sz 32 _); decide +kernel) | (with_reducible refine (?_ : Sz 64 _); decide +kernel) | (with_reducible refine (?_ : Sz 128 _); decide +kernel) | (with_reducible refine (?_ : Sz 202 _); decide +kernel) | (with_reducible refine (?_ : Sz 256 _); decide +kernel) | (with_reducible refine (?_ : Sz 340 _); decide +kernel) | (with_reducible refine (?_ : Sz 512 _); decide +kernel) | (with_reducible refine (?_ : Sz 1024 _); decide +kernel) | (with_reducible refine (?_ : Sz 4096 _); decide +kernel) | (with_reducible show Sz _ (_ * _); with_reducible exact Sz.mul (by walk_at "szx") (by walk_at "szx")) | (with_reducible show Sz _ (_ + _); with_reducible exact Sz.add (by walk_at "szx") (by walk_at "szx")) | (with_reducible show Sz _ (_ - _); with_reducible exact Sz.sub (by walk_at "szx") (by walk_at "szx")) | (with_reducible show Sz _ (- _); with_reducible exact Sz.neg (by walk_at "szx")) | (with_reducible show Sz _ (_ % _); with_reducible exact Sz.emod (by first | decide +kernel | omega) (by walk_at "szx")) | (with_reducible show Sz _ (_ / _); with_reducible exact Sz.ediv (by walk_at "szx")) | (with_reducible show Sz _ (Int.fdiv _ _); with_reducible exact Sz.fdiv (by walk_at "szx")) | (with_reducible show Sz _ (Int.fmod _ _); with_reducible exact Sz.fmod (by walk_at "szx") (by walk_at "szx")) | (with_reducible show Sz _ (if _ then _ else _); with_reducible exact Sz.ite (by walk_at "szx") (by walk_at "szx")))
local macro_rules | `(tactic| walk_at "sz") => `(tactic| first | omega | decide +kernel | exact CPow.of (by decide) (by decide +kernel) | exact DivOk.of (n := 64) (by decide) (by decide +kernel) (by decide) | exact IntMulOk.of_left (by decide +kernel) | exact IntMulOk.of_right (by decide +kernel) | exact IntMulOk.of_le (by walk_at "szx") (by walk_at "szx") (by first | omega | decide +kernel) | exact Sz.mono (by walk_at "szx") (by first | omega | decide +kernel) | exact DivOk.of (by omega) (by walk_at "szx") (by first | omega | decide +kernel) | assumption | exact shaped_ints | exact shaped_intsT | exact shaped_parts | (show shapedB _ = true; rfl) | walk_at "shp" | (have z := sizeLine_eq; omega))
local macro_rules | `(tactic| walk_at "szs") => `(tactic| repeat ((with_reducible refine And.intro ?_ ?_); (· walk_at "sz")))
local macro_rules | `(tactic| walk_at "szd") => `(tactic| ((repeat' (with_reducible apply And.intro)) <;> walk_at "sz"))
local macro_rules | `(tactic| walk_at "cl") => `(tactic| repeat' (first | exact cl_0 | refine cl_c ?_ ?_ | exact cl_i | exact cl_b | exact cl_n | refine cl_l ?_ | refine cl_t ?_ | (refine cl_m fun _ _ => ?_) | exact cl_s (by decide +kernel)))
local macro_rules | `(tactic| walk_at "shp") => `(tactic| (with_reducible refine shp ?_ ?_; (· walk_at "cl"); (· simp [PyData.depth, PyData.depthAll])))
local macro_rules | `(tactic| walk_at "chk") => `(tactic| repeat ((with_reducible refine And.intro ?_ ?_); (· first | assumption | ((with_reducible refine And.intro ?_ ?_) <;> walk_at "sz") | walk_at "sz")))

theorem mem_BadPlace : (("BadPlace" : Str) ∈ (["BadPlace", "NotPlain", "NoPlace"] : List Str)) = True := eq_true (by decide)
theorem sub_BadPlace_CurveError : subE "BadPlace" "CurveError" = true := (by decide)
theorem sub_BadPlace_NoNumber : subE "BadPlace" "NoNumber" = false := (by decide)
theorem sub_BadPlace_NoSign : subE "BadPlace" "NoSign" = false := (by decide)
theorem sub_BadPlace_NotPlain : subE "BadPlace" "NotPlain" = false := (by decide)
theorem sub_BadPlace_NoPlace : subE "BadPlace" "NoPlace" = false := (by decide)
theorem sub_BadPlace_BadPlace : subE "BadPlace" "BadPlace" = true := (by decide)
theorem sub_BadPlace_ValueError : subE "BadPlace" "ValueError" = true := (by decide)
theorem memf_BadPlace : (("BadPlace" : Str) ∈ (["BadPlace"] : List Str)) = True := eq_true (by decide)
theorem mem_NotPlain : (("NotPlain" : Str) ∈ (["BadPlace", "NotPlain", "NoPlace"] : List Str)) = True := eq_true (by decide)
theorem sub_NotPlain_CurveError : subE "NotPlain" "CurveError" = true := (by decide)
theorem sub_NotPlain_NoNumber : subE "NotPlain" "NoNumber" = false := (by decide)
theorem sub_NotPlain_NoSign : subE "NotPlain" "NoSign" = false := (by decide)
theorem sub_NotPlain_NotPlain : subE "NotPlain" "NotPlain" = true := (by decide)
theorem sub_NotPlain_NoPlace : subE "NotPlain" "NoPlace" = false := (by decide)
theorem sub_NotPlain_BadPlace : subE "NotPlain" "BadPlace" = false := (by decide)
theorem sub_NotPlain_ValueError : subE "NotPlain" "ValueError" = true := (by decide)
theorem mem_NoPlace : (("NoPlace" : Str) ∈ (["BadPlace", "NotPlain", "NoPlace"] : List Str)) = True := eq_true (by decide)
theorem sub_NoPlace_CurveError : subE "NoPlace" "CurveError" = true := (by decide)
theorem sub_NoPlace_NoNumber : subE "NoPlace" "NoNumber" = false := (by decide)
theorem sub_NoPlace_NoSign : subE "NoPlace" "NoSign" = false := (by decide)
theorem sub_NoPlace_NotPlain : subE "NoPlace" "NotPlain" = false := (by decide)
theorem sub_NoPlace_NoPlace : subE "NoPlace" "NoPlace" = true := (by decide)
theorem sub_NoPlace_BadPlace : subE "NoPlace" "BadPlace" = false := (by decide)
theorem sub_NoPlace_ValueError : subE "NoPlace" "ValueError" = true := (by decide)
def dlE0 := And.intro @mem_BadPlace (And.intro @sub_BadPlace_CurveError (And.intro @sub_BadPlace_NoNumber (And.intro @sub_BadPlace_NoSign (And.intro @sub_BadPlace_NotPlain (And.intro @sub_BadPlace_NoPlace (And.intro @sub_BadPlace_BadPlace (And.intro @sub_BadPlace_ValueError (And.intro @memf_BadPlace (And.intro @mem_NotPlain (And.intro @sub_NotPlain_CurveError (And.intro @sub_NotPlain_NoNumber (And.intro @sub_NotPlain_NoSign (And.intro @sub_NotPlain_NotPlain (And.intro @sub_NotPlain_NoPlace (And.intro @sub_NotPlain_BadPlace (And.intro @sub_NotPlain_ValueError (And.intro @mem_NoPlace (And.intro @sub_NoPlace_CurveError (And.intro @sub_NoPlace_NoNumber (And.intro @sub_NoPlace_NoSign (And.intro @sub_NoPlace_NotPlain (And.intro @sub_NoPlace_NoPlace (And.intro @sub_NoPlace_BadPlace (@sub_NoPlace_ValueError))))))))))))))))))))))))
local macro_rules | `(tactic| walk_at "dl") => `(tactic| (simp (maxSteps := 10000000) (disch := omega) only [↓dlD, dlP, List.mem_cons, List.not_mem_nil, or_false, sizeLine_eq, Nat.reduceLeDiff, startD, isNon, Bool.and_true, Bool.and_eq_true, List.all_cons, List.all_nil, List.any_cons, List.any_nil, id_eq, Bool.and_self, Bool.or_false, Bool.or_true, decide_true, decide_false, Option.map_some, Option.some.injEq, List.map, List.length, List.replicate, List.append, List.cons_append, List.nil_append, Nat.sub_self, Nat.reduceSub, Nat.reduceAdd, reduceCtorEq, PyData.int.injEq, decide_eq_true_eq, Bool.not_eq_true', decide_eq_false_iff_not, Bool.not_true, Bool.not_false, if_true, if_false, Bool.false_eq_true, ne_eq, Int.reduceLE, Int.reduceLT, Int.reduceEq, Nat.reduceLT, Int.cast_ofNat_Int, Int.reducePow, Int.reduceToNat, Int.reduceMul, Int.reduceAdd, Int.reduceSub, Int.reduceNeg, Int.reduceMod, Int.reduceDiv, Int.reduceGT, Int.reduceGE, Int.reduceNe, not_false_eq_true, not_true_eq_false, forall_eq', exists_eq_left', eq_self, true_and, and_true, dlE0]; try simp only [List.cons.injEq, S.val.injEq, PyData.int.injEq, w_ex1, w_ex2, w_ex3, true_and, and_true]))
noncomputable def b_law_drawn : ST := (sSeq (sAsg (eOp rAddD (pE (eOp rModD (pVar 0) (pVar 1))) (pE (eC (.int 2)))) (gVal 3)) (sRet (eOp rModD (pE (eOp rModD (pE (eOp rAddD (pE (eOp rMulD (pE (eOp rMulD (pVar 3) (pVar 3))) (pVar 3))) (pE (eOp rMulD (pE (eC (.int 104729))) (pVar 3))))) (pE (eC (.int 999983))))) (pVar 2))))
/-! law_drawn: slots cell prime many part -/
def drawn (c p m : Int) : Int := ((c % p + 2) * (c % p + 2) * (c % p + 2) + 104729 * (c % p + 2)) % 999983 % m
theorem drawn_bd {c p m : Int} (h : 0 < m) : 0 ≤ drawn c p m ∧ drawn c p m < m := ⟨Int.emod_nonneg _ (by omega), Int.emod_lt_of_pos _ h⟩
def p_law_drawn : DSp := fun ds x q => ∃ (c p m : Int), ds = [.int c, .int p, .int m] ∧ ((1 ≤ p ∧ p ≤ 1000000) ∧ 1 ≤ m ∧ q (.val (.int (drawn c p m))))
theorem len_law_drawn : ∀ ds x q, p_law_drawn ds x q → ds.length = 3 := by
  rintro ds x q ⟨c, p, m, rfl, _⟩
  rfl
theorem w_law_drawn {c p m : Int} {x : XP} {q : S → Prop} : @callK p_law_drawn [.int c, .int p, .int m] x ⟨q⟩ = ((1 ≤ p ∧ p ≤ 1000000) ∧ 1 ≤ m ∧ q (.val (.int (drawn c p m)))) := propext ⟨fun h => by
  obtain ⟨c', p', m', e, h⟩ := h
  simp only [List.cons.injEq, PyData.list.injEq, PyData.tuple.injEq, PyData.int.injEq, PyData.str.injEq, PyData.bool.injEq, ints_inj, parts_inj, and_true, and_assoc] at e
  obtain ⟨rfl, rfl, rfl⟩ := e
  exact h, fun h => ⟨_, _, _, rfl, h⟩⟩
--simp w_law_drawn
theorem spec_law_drawn : ∀ ds x q, p_law_drawn ds x q → bodyD 4 b_law_drawn ds x q := by
  rintro ds x q ⟨c, p, m, rfl, hp, hm, h⟩
  unfold b_law_drawn
  walk_at "dl"
  have zp : Sz 20 p := Sz.of_le (j := 1000000) (by omega) (by decide +kernel)
  have hp' : 0 < p := by omega
  walk_at "szs"
  exact h
theorem drawn_sz {c p m : Int} {n : Nat} (h : 0 < m) (hm : Sz n m) : Sz n (drawn c p m) := by
  have := drawn_bd (c := c) (p := p) h
  exact Sz.of_le (j := m) (by omega) hm
local macro_rules | `(tactic| walk_at "szx") => `(tactic| (with_reducible show Sz _ (drawn _ _ _); with_reducible exact drawn_sz (by first | decide | omega) (by walk_at "szx")))

local macro_rules | `(tactic| walk_at "dl") => `(tactic| (simp (maxSteps := 10000000) (disch := omega) only [↓dlD, dlP, List.mem_cons, List.not_mem_nil, or_false, sizeLine_eq, Nat.reduceLeDiff, startD, isNon, Bool.and_true, Bool.and_eq_true, List.all_cons, List.all_nil, List.any_cons, List.any_nil, id_eq, Bool.and_self, Bool.or_false, Bool.or_true, decide_true, decide_false, Option.map_some, Option.some.injEq, List.map, List.length, List.replicate, List.append, List.cons_append, List.nil_append, Nat.sub_self, Nat.reduceSub, Nat.reduceAdd, reduceCtorEq, PyData.int.injEq, decide_eq_true_eq, Bool.not_eq_true', decide_eq_false_iff_not, Bool.not_true, Bool.not_false, if_true, if_false, Bool.false_eq_true, ne_eq, Int.reduceLE, Int.reduceLT, Int.reduceEq, Nat.reduceLT, Int.cast_ofNat_Int, Int.reducePow, Int.reduceToNat, Int.reduceMul, Int.reduceAdd, Int.reduceSub, Int.reduceNeg, Int.reduceMod, Int.reduceDiv, Int.reduceGT, Int.reduceGE, Int.reduceNe, not_false_eq_true, not_true_eq_false, forall_eq', exists_eq_left', eq_self, true_and, and_true, dlE0, w_law_drawn]; try simp only [List.cons.injEq, S.val.injEq, PyData.int.injEq, w_ex1, w_ex2, w_ex3, true_and, and_true]))
noncomputable def b_law_of : ST := (sSeq (sIf (tV (eOp rLtD (pVar 1) (pE (eB rLenD (apCons (pVar 0) apNil))))) (sRet (eOp rIxD (pVar 0) (pVar 1))) sNext) (sRet (eOp rAddD (pE (eOp rMulD (pE (eC (.int 3))) (pVar 1))) (pE (eC (.int 1))))))
/-! law_of: slots script k -/
/-- the script's number at a place, a given one beyond its end -/
def ofZ (ns : List Int) (k : Int) : Int := if k.toNat < ns.length then ns.getD k.toNat 0 else 3 * k + 1
theorem ofZ_sz {ns : List Int} (h : Script ns) {k : Int} (hk : k.natAbs ≤ 1000000) : Sz 1048576 (ofZ ns k) := by
  unfold ofZ
  split
  · rw [List.getD_eq_getElem?_getD]
    cases e : ns[k.toNat]? with
    | none => exact Nat.zero_le _
    | some v => exact h.bits v (List.mem_of_getElem? e)
  · exact Sz.of_le (j := 10000000) (by omega) (by decide +kernel)
def p_law_of : DSp := fun ds x q => ∃ (ns : List Int) (k : Int), ds = [.list (ns.map PyData.int), .int k] ∧ (0 ≤ k ∧ q (.val (.int (ofZ ns k))))
theorem len_law_of : ∀ ds x q, p_law_of ds x q → ds.length = 2 := by
  rintro ds x q ⟨ns, k, rfl, _⟩
  rfl
theorem w_law_of {ns : List Int} {k : Int} {x : XP} {q : S → Prop} : @callK p_law_of [.list (ns.map PyData.int), .int k] x ⟨q⟩ = (0 ≤ k ∧ q (.val (.int (ofZ ns k)))) := propext ⟨fun h => by
  obtain ⟨ns', k', e, h⟩ := h
  simp only [List.cons.injEq, PyData.list.injEq, PyData.tuple.injEq, PyData.int.injEq, PyData.str.injEq, PyData.bool.injEq, ints_inj, parts_inj, and_true, and_assoc] at e
  obtain ⟨rfl, rfl⟩ := e
  exact h, fun h => ⟨_, _, rfl, h⟩⟩
--simp w_law_of
theorem spec_law_of : ∀ ds x q, p_law_of ds x q → bodyD 2 b_law_of ds x q := by
  rintro ds x q ⟨ns, k, rfl, h0, h⟩
  unfold b_law_of
  walk_at "dl"
  rw [List.length_map]
  split
  · rename_i c
    have hk : k.toNat < ns.length := by omega
    have e : k = ((k.toNat : Nat) : Int) := by omega
    have e2 : atI (ns.map PyData.int) k = some (.int (ofZ ns k)) := by
      unfold ofZ
      rw [if_pos hk, e]
      refine atI_nat ?_
      rw [List.getElem?_map, List.getElem?_eq_getElem hk]
      simp only [Int.toNat_natCast, List.getD_eq_getElem?_getD, List.getElem?_eq_getElem hk]
      rfl
    rw [e2]
    exact h
  · rename_i c
    have e : ofZ ns k = 3 * k + 1 := by
      unfold ofZ
      rw [if_neg (by omega)]
    rw [e] at h
    exact ⟨IntMulOk.of_left (by decide +kernel), h⟩
local macro_rules | `(tactic| walk_at "szx") => `(tactic| (with_reducible show Sz _ (ofZ _ _); with_reducible exact ofZ_sz (by assumption) (by first | decide | omega)))

local macro_rules | `(tactic| walk_at "dl") => `(tactic| (simp (maxSteps := 10000000) (disch := omega) only [↓dlD, dlP, List.mem_cons, List.not_mem_nil, or_false, sizeLine_eq, Nat.reduceLeDiff, startD, isNon, Bool.and_true, Bool.and_eq_true, List.all_cons, List.all_nil, List.any_cons, List.any_nil, id_eq, Bool.and_self, Bool.or_false, Bool.or_true, decide_true, decide_false, Option.map_some, Option.some.injEq, List.map, List.length, List.replicate, List.append, List.cons_append, List.nil_append, Nat.sub_self, Nat.reduceSub, Nat.reduceAdd, reduceCtorEq, PyData.int.injEq, decide_eq_true_eq, Bool.not_eq_true', decide_eq_false_iff_not, Bool.not_true, Bool.not_false, if_true, if_false, Bool.false_eq_true, ne_eq, Int.reduceLE, Int.reduceLT, Int.reduceEq, Nat.reduceLT, Int.cast_ofNat_Int, Int.reducePow, Int.reduceToNat, Int.reduceMul, Int.reduceAdd, Int.reduceSub, Int.reduceNeg, Int.reduceMod, Int.reduceDiv, Int.reduceGT, Int.reduceGE, Int.reduceNe, not_false_eq_true, not_true_eq_false, forall_eq', exists_eq_left', eq_self, true_and, and_true, dlE0, w_law_drawn, w_law_of]; try simp only [List.cons.injEq, S.val.injEq, PyData.int.injEq, w_ex1, w_ex2, w_ex3, true_and, and_true]))
noncomputable def b_law_plain_drawn : ST := (sSeq (sAsg (eLst (aCons (eC (.int 1)) (aCons (eC (.int 1)) (aCons (eC (.int 1)) aNil)))) (gVar 2)) (sSeq (sFor (iVal (eLst (aCons (eTup (aCons (eC (.int 2)) (aCons (eC (.int 7937)) aNil))) (aCons (eTup (aCons (eC (.int 3)) (aCons (eC (.int 7949)) aNil))) (aCons (eTup (aCons (eC (.int 5)) (aCons (eC (.int 7951)) aNil))) (aCons (eTup (aCons (eC (.int 7)) (aCons (eC (.int 7963)) aNil))) aNil)))))) (gTup 2 (gCons (gVal 3) (gCons (gVal 4) gNil))) (sSeq (sAsg (eCall p_law_drawn (aCons (eVar 0) (aCons (eVar 4) (aCons (eC (.int 5)) aNil)))) (gVal 5)) (sIf (tAnd (tV (eOp rLtD (pVar 5) (pE (eC (.int 3))))) (tV (eOp rLeD (pE (eOp rMulD (pE (eOp rIxD (pVar 2) (pVar 5))) (pVar 3))) (pVar 1)))) (sSet 2 (eVar 5) (eOp rMulD (pE (eOp rIxD (pVar 2) (pVar 5))) (pVar 3))) sNext))) (sSeq (sAsg (eCall p_law_drawn (aCons (eVar 0) (aCons (eC (.int 8009)) (aCons (eC (.int 8)) aNil)))) (gVal 6)) (sRet (eB rTupleD (apCons (pE (eComp (iRng1 (aCons (eC (.int 3)) aNil)) [7] (gVal 7) tYesD (eOp rMulD (pE (eOp rIxD (pVar 2) (pVar 7))) (pE (eOp rSubD (pE (eC (.int 1))) (pE (eOp rMulD (pE (eC (.int 2))) (pE (eOp rAndD (pE (eOp rShrD (pVar 6) (pVar 7))) (pE (eC (.int 1)))))))))))) apNil))))))
/-! law_plain_drawn: slots cell most found prime by at signs k -/
/-- three numbers of unlike primes of a list -/
structure Pd (l : List Int) (m x y z : Int) : Prop where
  pl : Pln x y z
  x1 : 1 ≤ x
  y1 : 1 ≤ y
  z1 : 1 ≤ z
  xm : x ≤ m
  ym : y ≤ m
  zm : z ≤ m
  pr : ∀ t, Pr t → t ∣ x ∨ t ∣ y ∨ t ∣ z → t ∈ l
theorem Pd.turn {l : List Int} {m x y z : Int} (h : Pd l m x y z) : Pd l m y z x := ⟨h.pl.turn, h.y1, h.z1, h.x1, h.ym, h.zm, h.xm, fun t ht k => h.pr t ht (k.elim (fun k => .inr (.inl k)) fun k => k.elim (fun k => .inr (.inr k)) .inl)⟩
theorem Pd.skip {l : List Int} {m x y z p : Int} (h : Pd l m x y z) : Pd (l ++ [p]) m x y z := ⟨h.pl, h.x1, h.y1, h.z1, h.xm, h.ym, h.zm, fun t ht k => List.mem_append_left _ (h.pr t ht k)⟩
theorem Pd.up {l : List Int} {m x y z p : Int} (h : Pd l m x y z) (hp : Pr p) (n : p ∉ l) (hm : x * p ≤ m) : Pd (l ++ [p]) m (x * p) y z := by
  have nx : ¬ p ∣ x := fun k => n (h.pr p hp (.inl k))
  have ny : ¬ p ∣ y := fun k => n (h.pr p hp (.inr (.inl k)))
  have nz : ¬ p ∣ z := fun k => n (h.pr p hp (.inr (.inr k)))
  have p2 := hp.two
  have x1 := h.x1
  have xp : 1 ≤ x * p := by have := Int.mul_le_mul x1 (show 1 ≤ p by omega) (by decide) (by omega); omega
  refine ⟨⟨h.pl.fa.mul_pr hp nx, h.pl.fb, h.pl.fc, no_pr_gcd (by omega) fun t ht h1 h2 => ?_, h.pl.bc, no_pr_gcd h.pl.fc.ne fun t ht h1 h2 => ?_⟩, xp, h.y1, h.z1, hm, h.ym, h.zm, fun t ht k => ?_⟩
  · rcases ht.euclid h1 with k | k
    · exact no_both ht h.pl.ab k h2
    · rw [ht.eq hp k] at h2; exact ny h2
  · rcases ht.euclid h2 with k | k
    · exact no_both ht h.pl.ca h1 k
    · rw [ht.eq hp k] at h1; exact nz h1
  · rcases k with k | k
    · rcases ht.euclid k with k | k
      · exact List.mem_append_left _ (h.pr t ht (.inl k))
      · rw [ht.eq hp k]; simp
    · exact List.mem_append_left _ (h.pr t ht (.inr k))
theorem Pln.sgn {x y z e f g : Int} (h : Pln x y z) (he : e = 1 ∨ e = -1) (hf : f = 1 ∨ f = -1) (hg : g = 1 ∨ g = -1) : Pln (x * e) (y * f) (z * g) := by
  have sq : ∀ {x e : Int}, SqF x → (e = 1 ∨ e = -1) → SqF (x * e) := fun {x e} h k => by
    rcases k with rfl | rfl
    · rwa [Int.mul_one]
    · rw [Int.mul_neg, Int.mul_one]; exact h.neg
  have gc : ∀ {x y e f : Int}, Int.gcd x y = 1 → (e = 1 ∨ e = -1) → (f = 1 ∨ f = -1) → Int.gcd (x * e) (y * f) = 1 := fun {x y e f} h k l => by
    rcases k with rfl | rfl <;> rcases l with rfl | rfl <;> simp [Int.mul_neg, Int.gcd_neg, Int.neg_gcd, h]
  exact ⟨sq h.fa he, sq h.fb hf, sq h.fc hg, gc h.ab he hf, gc h.bc hf hg, gc h.ca hg he⟩
def p_law_plain_drawn : DSp := fun ds x q => ∃ (c m : Int), ds = [.int c, .int m] ∧ ((2 ≤ m ∧ m ≤ 210) ∧ ∀ x' y z : Int, Pln x' y z → (x'.natAbs ≤ m ∧ y.natAbs ≤ m ∧ z.natAbs ≤ m) → q (.val (.tuple [.int x', .int y, .int z])))
theorem len_law_plain_drawn : ∀ ds x q, p_law_plain_drawn ds x q → ds.length = 2 := by
  rintro ds x q ⟨c, m, rfl, _⟩
  rfl
theorem w_law_plain_drawn {c m : Int} {x : XP} {q : S → Prop} : @callK p_law_plain_drawn [.int c, .int m] x ⟨q⟩ = ((2 ≤ m ∧ m ≤ 210) ∧ ∀ x' y z : Int, Pln x' y z → (x'.natAbs ≤ m ∧ y.natAbs ≤ m ∧ z.natAbs ≤ m) → q (.val (.tuple [.int x', .int y, .int z]))) := propext ⟨fun h => by
  obtain ⟨c', m', e, h⟩ := h
  simp only [List.cons.injEq, PyData.list.injEq, PyData.tuple.injEq, PyData.int.injEq, PyData.str.injEq, PyData.bool.injEq, ints_inj, parts_inj, and_true, and_assoc] at e
  obtain ⟨rfl, rfl⟩ := e
  exact h, fun h => ⟨_, _, rfl, h⟩⟩
--simp w_law_plain_drawn
theorem spec_law_plain_drawn : ∀ ds x q, p_law_plain_drawn ds x q → bodyD 8 b_law_plain_drawn ds x q := by
  rintro ds x q ⟨c, m, rfl, ⟨m7, mm⟩, h⟩
  unfold b_law_plain_drawn
  walk_at "dl"
  refine for_maps (as := ([(2, 7937), (3, 7949), (5, 7951), (7, 7963)] : List (Int × Int))) (en := fun x => .tuple [.int x.1, .int x.2]) (fun done rest δ' => ∃ (x y z : Int) (s3 s4 s5 : S), δ' = [.val (.int c), .val (.int m), .own [.int x, .int y, .int z], s3, s4, s5, .no, .no] ∧ [(2, 7937), (3, 7949), (5, 7951), (7, 7963)] = done ++ rest ∧ Pd (done.map fun x => x.1) m x y z)
    ⟨1, 1, 1, _, _, _, rfl, rfl, ⟨⟨.one, .one, .one, by decide, by decide, by decide⟩, by decide, by decide, by decide, by omega, by omega, by omega, fun t ht k => by rcases k with k | k | k <;> exact absurd k ht.not_one⟩⟩ (fun done a rest δ' ha w => ?_) fun δ' w => ?_
  · obtain ⟨x, y, z, s3, s4, s5, rfl, _, w⟩ := w
    obtain ⟨p, r⟩ := a
    have hm : (p, r) ∈ [((2 : Int), (7937 : Int)), (3, 7949), (5, 7951), (7, 7963)] := by rw [ha]; simp
    have hp : Pr p ∧ p ≤ 7 ∧ 1 ≤ r ∧ r ≤ 1000000 := by
      simp only [List.mem_cons, Prod.mk.injEq, List.not_mem_nil, or_false] at hm
      rcases hm with ⟨rfl, rfl⟩ | ⟨rfl, rfl⟩ | ⟨rfl, rfl⟩ | ⟨rfl, rfl⟩
      · exact ⟨pr_two, by decide, by decide, by decide⟩
      · exact ⟨prC_ok (by decide), by decide, by decide, by decide⟩
      · exact ⟨prC_ok (by decide), by decide, by decide, by decide⟩
      · exact ⟨prC_ok (by decide), by decide, by decide, by decide⟩
    have np : p ∉ done.map fun x => x.1 := fun k => by
      have nd : (([((2 : Int), (7937 : Int)), (3, 7949), (5, 7951), (7, 7963)] : List (Int × Int)).map fun x => x.1).Nodup := by decide
      rw [ha, List.map_append] at nd
      exact (List.nodup_append.mp nd).2.2 p k p (by simp) rfl
    obtain ⟨hp, p7, r1, r2⟩ := hp
    have hr : [((2 : Int), (7937 : Int)), (3, 7949), (5, 7951), (7, 7963)] = done ++ [(p, r)] ++ rest := by rw [ha]; simp
    have hb := drawn_bd (c := c) (p := r) (m := 5) (by decide)
    have zx : ∀ {n : Int}, 1 ≤ n → n ≤ m → Sz 8 n := fun h1 h2 => Sz.of_le (j := 210) (by omega) (by decide +kernel)
    have zp : Sz 7 p := Sz.of_le (j := 100) (by have := hp.two; omega) (by decide +kernel)
    have ix := IntMulOk.of_le (zx w.x1 w.xm) zp (by decide)
    have iy := IntMulOk.of_le (zx w.y1 w.ym) zp (by decide)
    have iz := IntMulOk.of_le (zx w.z1 w.zm) zp (by decide)
    have sk : Pd ((done ++ [(p, r)]).map fun x => x.1) m x y z := by rw [List.map_append]; exact w.skip
    walk_at "dl"
    refine ⟨⟨r1, r2⟩, ?_⟩
    rcases (show drawn c r 5 = 0 ∨ drawn c r 5 = 1 ∨ drawn c r 5 = 2 ∨ 3 ≤ drawn c r 5 by omega) with e | e | e | e
    · rw [e]
      walk_at "dl"
      refine ⟨ix, ?_⟩
      split
      · rename_i k
        exact ⟨ix, _, _, _, _, _, _, ⟨rfl, rfl, rfl, rfl⟩, hr, by rw [List.map_append]; exact w.up hp np k⟩
      · exact ⟨_, _, _, _, _, _, ⟨rfl, rfl, rfl, rfl⟩, hr, sk⟩
    · rw [e]
      walk_at "dl"
      refine ⟨iy, ?_⟩
      split
      · rename_i k
        exact ⟨iy, _, _, _, _, _, _, ⟨rfl, rfl, rfl, rfl⟩, hr, by rw [List.map_append]; exact (w.turn.up hp np k).turn.turn⟩
      · exact ⟨_, _, _, _, _, _, ⟨rfl, rfl, rfl, rfl⟩, hr, sk⟩
    · rw [e]
      walk_at "dl"
      refine ⟨iz, ?_⟩
      split
      · rename_i k
        exact ⟨iz, _, _, _, _, _, _, ⟨rfl, rfl, rfl, rfl⟩, hr, by rw [List.map_append]; exact (w.turn.turn.up hp np k).turn⟩
      · exact ⟨_, _, _, _, _, _, ⟨rfl, rfl, rfl, rfl⟩, hr, sk⟩
    · rw [if_neg (by omega)]
      exact ⟨x, y, z, _, _, _, ⟨rfl, rfl, rfl, rfl⟩, hr, sk⟩
  obtain ⟨x, y, z, s3, s4, s5, rfl, _, w⟩ := w
  have hb := drawn_bd (c := c) (p := 8009) (m := 8) (by decide)
  walk_at "dl"
  generalize drawn c 8009 8 = g at *
  refine comp_lit [.int (x * (1 - 2 * (g % 2))), .int (y * (1 - 2 * (g / 2 % 2))), .int (z * (1 - 2 * (g / 4 % 2)))] (by show 3 ≤ 1000000; decide) ?_ ?_
  · walk_at "dl"
    have e : Builtin.bitAnd (g / 1) 1 = g % 2 ∧ Builtin.bitAnd (g / 2) 1 = g / 2 % 2 ∧ Builtin.bitAnd (g / 4) 1 = g / 4 % 2 := by
      rcases (show g = 0 ∨ g = 1 ∨ g = 2 ∨ g = 3 ∨ g = 4 ∨ g = 5 ∨ g = 6 ∨ g = 7 by omega) with rfl | rfl | rfl | rfl | rfl | rfl | rfl | rfl <;> decide
    rw [e.1, e.2.1, e.2.2]
    have z2 : ∀ n : Int, Sz 2 (n % 2) := fun n => Sz.of_le (j := 1) (by omega) (by decide +kernel)
    have z3 : ∀ n : Int, Sz 2 (1 - 2 * (n % 2)) := fun n => Sz.of_le (j := 1) (by omega) (by decide +kernel)
    have im : ∀ n : Int, IntMulOk 2 (n % 2) := fun n => IntMulOk.of_le (show Sz 2 2 by decide +kernel) (z2 n) (by decide)
    have zx : ∀ {n : Int}, 1 ≤ n → n ≤ m → Sz 8 n := fun h1 h2 => Sz.of_le (j := 210) (by omega) (by decide +kernel)
    exact ⟨⟨im _, IntMulOk.of_le (zx w.x1 w.xm) (z3 _) (by decide), rfl⟩, ⟨im _, IntMulOk.of_le (zx w.y1 w.ym) (z3 _) (by decide), rfl⟩, im _, IntMulOk.of_le (zx w.z1 w.zm) (z3 _) (by decide), rfl⟩
  walk_at "dl"
  have sg : ∀ g : Int, 1 - 2 * (g % 2) = 1 ∨ 1 - 2 * (g % 2) = -1 := fun g => by omega
  have ab : ∀ {x e : Int}, 1 ≤ x → x ≤ m → (e = 1 ∨ e = -1) → ((x * e).natAbs : Int) ≤ m := fun {x e} h1 h2 k => by rcases k with rfl | rfl <;> omega
  exact h _ _ _ (w.pl.sgn (sg g) (sg (g / 2)) (sg (g / 4))) ⟨ab w.x1 w.xm (sg g), ab w.y1 w.ym (sg (g / 2)), ab w.z1 w.zm (sg (g / 4))⟩

local macro_rules | `(tactic| walk_at "dl") => `(tactic| (simp (maxSteps := 10000000) (disch := omega) only [↓dlD, dlP, List.mem_cons, List.not_mem_nil, or_false, sizeLine_eq, Nat.reduceLeDiff, startD, isNon, Bool.and_true, Bool.and_eq_true, List.all_cons, List.all_nil, List.any_cons, List.any_nil, id_eq, Bool.and_self, Bool.or_false, Bool.or_true, decide_true, decide_false, Option.map_some, Option.some.injEq, List.map, List.length, List.replicate, List.append, List.cons_append, List.nil_append, Nat.sub_self, Nat.reduceSub, Nat.reduceAdd, reduceCtorEq, PyData.int.injEq, decide_eq_true_eq, Bool.not_eq_true', decide_eq_false_iff_not, Bool.not_true, Bool.not_false, if_true, if_false, Bool.false_eq_true, ne_eq, Int.reduceLE, Int.reduceLT, Int.reduceEq, Nat.reduceLT, Int.cast_ofNat_Int, Int.reducePow, Int.reduceToNat, Int.reduceMul, Int.reduceAdd, Int.reduceSub, Int.reduceNeg, Int.reduceMod, Int.reduceDiv, Int.reduceGT, Int.reduceGE, Int.reduceNe, not_false_eq_true, not_true_eq_false, forall_eq', exists_eq_left', eq_self, true_and, and_true, dlE0, w_law_drawn, w_law_of, w_law_plain_drawn]; try simp only [List.cons.injEq, S.val.injEq, PyData.int.injEq, w_ex1, w_ex2, w_ex3, true_and, and_true]))
noncomputable def b_law_great : ST := (sSeq (sAsg (eB rListD (apCons (pE (eCall p_law_plain_drawn (aCons (eVar 0) (aCons (eC (.int 2)) aNil)))) apNil)) (gVar 2)) (sSeq (sAsg (eCall p_law_drawn (aCons (eVar 1) (aCons (eC (.int 7951)) (aCons (eC (.int 2)) aNil)))) (gVal 3)) (sSeq (sSet 2 (eVar 3) (eOp rMulD (pE (eOp rIxD (pVar 2) (pVar 3))) (pE (eOp rIxD (pE (eLst (aCons (eC (.int 1)) (aCons (eC (.int 3)) aNil)))) (pE (eCall p_law_drawn (aCons (eVar 1) (aCons (eC (.int 7963)) (aCons (eC (.int 2)) aNil))))))))) (sSeq (sAsg (eLst (aCons (eC (.int 5)) (aCons (eC (.int 7)) (aCons (eC (.int 11)) (aCons (eC (.int 13)) (aCons (eC (.int 17)) (aCons (eC (.int 19)) (aCons (eC (.int 23)) (aCons (eC (.int 29)) (aCons (eC (.int 31)) (aCons (eC (.int 101)) (aCons (eC (.int 401)) (aCons (eC (.int 997)) aNil))))))))))))) (gVal 4)) (sSeq (sFor (iRng1 (aCons (eC (.int 12)) aNil)) (gVal 5) (sSeq (sAsg (eOp rAddD (pE (eC (.int 1))) (pE (eCall p_law_drawn (aCons (eOp rAddD (pVar 1) (pE (eOp rMulD (pE (eC (.int 11))) (pVar 5)))) (aCons (eC (.int 7993)) (aCons (eC (.int 4)) aNil)))))) (gVal 3)) (sIf (tAnd (tV (eOp rLtD (pVar 3) (pE (eC (.int 3))))) (tV (eOp rLeD (pE (eOp rMulD (pE (eB rAbsD (apCons (pE (eOp rIxD (pVar 2) (pVar 3))) apNil))) (pE (eOp rIxD (pVar 4) (pVar 5))))) (pE (eC (.int 1000)))))) (sSet 2 (eVar 3) (eOp rMulD (pE (eOp rIxD (pVar 2) (pVar 3))) (pE (eOp rIxD (pVar 4) (pVar 5))))) sNext))) (sRetOwn 2))))))
/-! law_great: slots cell other found at primes_here k -/
/-- plain numbers, and the primes that may divide them -/
structure Gt (l : List Int) (x y z : Int) : Prop where
  pl : Pln x y z
  pr : ∀ t, Pr t → t ∣ x ∨ t ∣ y ∨ t ∣ z → t ∈ l
theorem Gt.turn {l : List Int} {x y z : Int} (h : Gt l x y z) : Gt l y z x := ⟨h.pl.turn, fun t ht k => h.pr t ht (k.elim (fun k => .inr (.inl k)) fun k => k.elim (fun k => .inr (.inr k)) .inl)⟩
theorem Gt.skip {l : List Int} {x y z p : Int} (h : Gt l x y z) : Gt (l ++ [p]) x y z := ⟨h.pl, fun t ht k => List.mem_append_left _ (h.pr t ht k)⟩
theorem Gt.up {l : List Int} {x y z p : Int} (h : Gt l x y z) (hp : Pr p) (n : p ∉ l) : Gt (l ++ [p]) (x * p) y z := by
  have nx : ¬ p ∣ x := fun k => n (h.pr p hp (.inl k))
  have ny : ¬ p ∣ y := fun k => n (h.pr p hp (.inr (.inl k)))
  have nz : ¬ p ∣ z := fun k => n (h.pr p hp (.inr (.inr k)))
  have p2 := hp.two
  refine ⟨⟨h.pl.fa.mul_pr hp nx, h.pl.fb, h.pl.fc, no_pr_gcd (Int.mul_ne_zero h.pl.fa.ne (by omega)) fun t ht h1 h2 => ?_, h.pl.bc, no_pr_gcd h.pl.fc.ne fun t ht h1 h2 => ?_⟩, fun t ht k => ?_⟩
  · rcases ht.euclid h1 with k | k
    · exact no_both ht h.pl.ab k h2
    · rw [ht.eq hp k] at h2; exact ny h2
  · rcases ht.euclid h2 with k | k
    · exact no_both ht h.pl.ca h1 k
    · rw [ht.eq hp k] at h1; exact nz h1
  · rcases k with k | k
    · rcases ht.euclid k with k | k
      · exact List.mem_append_left _ (h.pr t ht (.inl k))
      · rw [ht.eq hp k]; simp
    · exact List.mem_append_left _ (h.pr t ht (.inr k))
theorem gt_two {x y z : Int} (h : Pln x y z) (hx : x.natAbs ≤ 2) (hy : y.natAbs ≤ 2) (hz : z.natAbs ≤ 2) : Gt [2] x y z := ⟨h, fun t ht k => by
  have key : ∀ {u : Int}, u ≠ 0 → u.natAbs ≤ 2 → t ∣ u → t = 2 := fun u0 u2 d => by
    have := natAbs_le_of_dvd d u0
    have := ht.two
    omega
  rw [List.mem_singleton]
  rcases k with k | k | k
  · exact key h.fa.ne hx k
  · exact key h.fb.ne hy k
  · exact key h.fc.ne hz k⟩
def gtL : List Int := [5, 7, 11, 13, 17, 19, 23, 29, 31, 101, 401, 997]
theorem gtL_pr : ∀ p ∈ gtL, Pr p := fun p hp => by
  unfold gtL at hp
  simp only [List.mem_cons, List.not_mem_nil, or_false] at hp
  rcases hp with rfl | rfl | rfl | rfl | rfl | rfl | rfl | rfl | rfl | rfl | rfl | rfl
  all_goals first | (refine prCk_ok (m := 3) ?_; decide +kernel) | (refine prCk_ok (m := 6) ?_; decide +kernel) | (refine prCk_ok (m := 32) ?_; decide +kernel)
theorem gt_at {k : Nat} (hk : k < 12) : ∃ p : Int, atI (gtL.map PyData.int) (k : Int) = some (.int p) ∧ Pr p ∧ p ≤ 997 ∧ [2, 3] ++ gtL.take k ++ [p] = [2, 3] ++ gtL.take (k + 1) ∧ p ∉ [2, 3] ++ gtL.take k := by
  have key : ∀ k : Nat, k < 12 → ∃ p ∈ gtL, atI (gtL.map PyData.int) (k : Int) = some (.int p) ∧ p ≤ 997 ∧ [2, 3] ++ gtL.take k ++ [p] = [2, 3] ++ gtL.take (k + 1) ∧ p ∉ [2, 3] ++ gtL.take k := by
    intro k hk
    rcases (show k = 0 ∨ k = 1 ∨ k = 2 ∨ k = 3 ∨ k = 4 ∨ k = 5 ∨ k = 6 ∨ k = 7 ∨ k = 8 ∨ k = 9 ∨ k = 10 ∨ k = 11 by omega) with rfl | rfl | rfl | rfl | rfl | rfl | rfl | rfl | rfl | rfl | rfl | rfl
    all_goals exact ⟨_, by decide, rfl, by decide, by decide, by decide⟩
  obtain ⟨p, hp, e, h⟩ := key k hk
  exact ⟨p, e, gtL_pr p hp, h⟩
def p_law_great : DSp := fun ds x q => ∃ (c d : Int), ds = [.int c, .int d] ∧ (∀ u v w : Int, Pln u v w → (u.natAbs ≤ 6 ∧ v.natAbs ≤ 1000 ∧ w.natAbs ≤ 1000) → q (.own [.int u, .int v, .int w]))
theorem len_law_great : ∀ ds x q, p_law_great ds x q → ds.length = 2 := by
  rintro ds x q ⟨c, d, rfl, _⟩
  rfl
theorem w_law_great {c d : Int} {x : XP} {q : S → Prop} : @callK p_law_great [.int c, .int d] x ⟨q⟩ = (∀ u v w : Int, Pln u v w → (u.natAbs ≤ 6 ∧ v.natAbs ≤ 1000 ∧ w.natAbs ≤ 1000) → q (.own [.int u, .int v, .int w])) := propext ⟨fun h => by
  obtain ⟨c', d', e, h⟩ := h
  simp only [List.cons.injEq, PyData.list.injEq, PyData.tuple.injEq, PyData.int.injEq, PyData.str.injEq, PyData.bool.injEq, ints_inj, parts_inj, and_true, and_assoc] at e
  obtain ⟨rfl, rfl⟩ := e
  exact h, fun h => ⟨_, _, rfl, h⟩⟩
--simp w_law_great
theorem spec_law_great : ∀ ds x q, p_law_great ds x q → bodyD 6 b_law_great ds x q := by
  rintro ds x q ⟨c, d, rfl, h⟩
  unfold b_law_great
  walk_at "dl"
  intro x0 y0 z0 pl ⟨l1, l2, l3⟩
  have g2 := gt_two pl (by omega) (by omega) (by omega)
  have hb := drawn_bd (c := d) (p := 7951) (m := 2) (by decide)
  have hb2 := drawn_bd (c := d) (p := 7963) (m := 2) (by decide)
  obtain ⟨m, hm, em⟩ := ix_lit (xs := [1, 3]) (k := drawn d 7963 2) hb2.1 hb2.2
  have hm : m = 1 ∨ m = 3 := by simpa using hm
  have em : atI [PyData.int 1, .int 3] (drawn d 7963 2) = some (.int m) := em
  have up3 : ∀ {x y z : Int}, Gt [2] x y z → Gt [2, 3] (x * m) y z := fun {x y z} g => by
    rcases hm with rfl | rfl
    · rw [Int.mul_one]; exact g.skip
    · exact g.up (prCk_ok (m := 2) (by decide +kernel)) (by decide)
  have ab : ∀ {n : Int}, (n.natAbs : Int) ≤ 2 → (n * m).natAbs ≤ 6 ∧ IntMulOk n m := fun {n} hn => by
    refine ⟨?_, IntMulOk.of_le (Sz.of_le (j := 2) (by omega) (by decide +kernel) : Sz 2 n) (Sz.of_le (j := 3) (by omega) (by decide +kernel) : Sz 2 m) (by decide)⟩
    rcases hm with rfl | rfl <;> omega
  obtain ⟨u, v, w, g3, lu, lv, lw, eu, hu⟩ : ∃ u v w : Int, Gt [2, 3] u v w ∧ u.natAbs ≤ 6 ∧ v.natAbs ≤ 6 ∧ w.natAbs ≤ 6 ∧ ((drawn d 7951 2 = 0 ∧ u = x0 * m ∧ v = y0 ∧ w = z0) ∨ (drawn d 7951 2 = 1 ∧ u = x0 ∧ v = y0 * m ∧ w = z0)) ∧ True := by
    rcases (show drawn d 7951 2 = 0 ∨ drawn d 7951 2 = 1 by omega) with e | e
    · exact ⟨_, _, _, up3 g2, (ab l1).1, by omega, by omega, .inl ⟨e, rfl, rfl, rfl⟩, trivial⟩
    · exact ⟨_, _, _, (up3 g2.turn).turn.turn, by omega, (ab l2).1, by omega, .inr ⟨e, rfl, rfl, rfl⟩, trivial⟩
  rcases eu with ⟨e, rfl, rfl, rfl⟩ | ⟨e, rfl, rfl, rfl⟩
  all_goals
    rw [e]
    walk_at "dl"
    rw [em]
    walk_at "dl"
    refine ⟨by first | exact (ab l1).2 | exact (ab l2).2, ?_⟩
    refine for_rng (fun k δ' => ∃ (u v w : Int) (s3 s5 : S), δ' = [.val (.int c), .val (.int d), .own [.int u, .int v, .int w], s3, .val (.list [.int 5, .int 7, .int 11, .int 13, .int 17, .int 19, .int 23, .int 29, .int 31, .int 101, .int 401, .int 997]), s5] ∧ Gt ([2, 3] ++ gtL.take k) u v w ∧ u.natAbs ≤ 6 ∧ v.natAbs ≤ 1000 ∧ w.natAbs ≤ 1000) ⟨_, _, _, _, _, rfl, g3, lu, by omega, by omega⟩ (fun k δ' hk w => ?_) fun δ' w => ?_
    · obtain ⟨u, v, w, s3, s5, rfl, g, bu, bv, bw⟩ := w
      obtain ⟨p, ep, hp, lp, ek, np⟩ := gt_at hk
      have ep : atI [PyData.int 5, .int 7, .int 11, .int 13, .int 17, .int 19, .int 23, .int 29, .int 31, .int 101, .int 401, .int 997] (k : Int) = some (.int p) := ep
      have p2 := hp.two
      have zp : Sz 10 p := Sz.of_le (j := 997) (by omega) (by decide +kernel)
      have zn : ∀ {n : Int}, n.natAbs ≤ 1000 → Sz 10 n := fun h => Sz.of_le (j := 1000) (by omega) (by decide +kernel)
      have im : ∀ {n : Int}, n.natAbs ≤ 1000 → IntMulOk n p := fun h => IntMulOk.of_le (zn h) zp (by decide)
      have ia : ∀ {n : Int}, n.natAbs ≤ 1000 → IntMulOk (n.natAbs : Int) p := fun h => IntMulOk.of_le (Sz.of_le (j := 1000) (by omega) (by decide +kernel) : Sz 10 _) zp (by decide)
      have lep : ∀ {n : Int}, (n.natAbs : Int) * p ≤ 1000 → (n * p).natAbs ≤ 1000 := fun {n} h => by
        rw [Int.natAbs_mul]
        have : (p.natAbs : Int) = p := by omega
        rw [← this] at h
        exact_mod_cast h
      have hd := drawn_bd (c := d + 11 * (k : Int)) (p := 7993) (m := 4) (by decide)
      rw [← ek]
      walk_at "dl"
      rw [Int.zero_add]
      refine ⟨IntMulOk.of_le (show Sz 4 11 by decide +kernel) (Sz.of_le (j := 12) (by omega) (by decide +kernel) : Sz 4 (k : Int)) (by decide), if_pn (fun k3 => ?_) fun k3 => ⟨_, _, _, _, _, ⟨rfl, rfl, rfl⟩, g.skip, bu, bv, bw⟩⟩
      rcases (show drawn (d + 11 * (k : Int)) 7993 4 = 0 ∨ drawn (d + 11 * (k : Int)) 7993 4 = 1 by omega) with e | e
      all_goals
        rw [e]
        walk_at "dl"
        rw [ep]
        walk_at "dl"
      · refine ⟨ia bv, if_pn (fun k4 => ⟨im bv, _, _, _, _, _, ⟨rfl, rfl, rfl⟩, (g.turn.up hp np).turn.turn, bu, lep k4, bw⟩) fun k4 => ⟨_, _, _, _, _, ⟨rfl, rfl, rfl⟩, g.skip, bu, bv, bw⟩⟩
      · refine ⟨ia bw, if_pn (fun k4 => ⟨im bw, _, _, _, _, _, ⟨rfl, rfl, rfl⟩, (g.turn.turn.up hp np).turn, bu, bv, lep k4⟩) fun k4 => ⟨_, _, _, _, _, ⟨rfl, rfl, rfl⟩, g.skip, bu, bv, bw⟩⟩
    · obtain ⟨u, v, w, s3, s5, rfl, g, bu, bv, bw⟩ := w
      walk_at "dl"
      exact h _ _ _ g.pl ⟨bu, bv, bw⟩

local macro_rules | `(tactic| walk_at "dl") => `(tactic| (simp (maxSteps := 10000000) (disch := omega) only [↓dlD, dlP, List.mem_cons, List.not_mem_nil, or_false, sizeLine_eq, Nat.reduceLeDiff, startD, isNon, Bool.and_true, Bool.and_eq_true, List.all_cons, List.all_nil, List.any_cons, List.any_nil, id_eq, Bool.and_self, Bool.or_false, Bool.or_true, decide_true, decide_false, Option.map_some, Option.some.injEq, List.map, List.length, List.replicate, List.append, List.cons_append, List.nil_append, Nat.sub_self, Nat.reduceSub, Nat.reduceAdd, reduceCtorEq, PyData.int.injEq, decide_eq_true_eq, Bool.not_eq_true', decide_eq_false_iff_not, Bool.not_true, Bool.not_false, if_true, if_false, Bool.false_eq_true, ne_eq, Int.reduceLE, Int.reduceLT, Int.reduceEq, Nat.reduceLT, Int.cast_ofNat_Int, Int.reducePow, Int.reduceToNat, Int.reduceMul, Int.reduceAdd, Int.reduceSub, Int.reduceNeg, Int.reduceMod, Int.reduceDiv, Int.reduceGT, Int.reduceGE, Int.reduceNe, not_false_eq_true, not_true_eq_false, forall_eq', exists_eq_left', eq_self, true_and, and_true, dlE0, w_law_drawn, w_law_of, w_law_plain_drawn, w_law_great]; try simp only [List.cons.injEq, S.val.injEq, PyData.int.injEq, w_ex1, w_ex2, w_ex3, true_and, and_true]))
noncomputable def b_law_triple : ST := (sSeq (sAsg (eCall p_law_drawn (aCons (eCall p_law_of (aCons (eVar 0) (aCons (eC (.int 0)) aNil))) (aCons (eC (.int 7933)) (aCons (eC (.int 18)) aNil)))) (gVal 1)) (sSeq (sAsg (eB rListD (apCons (pE (eCall p_law_plain_drawn (aCons (eCall p_law_of (aCons (eVar 0) (aCons (eC (.int 1)) aNil))) (aCons (eOp rIxD (pE (eLst (aCons (eC (.int 90)) (aCons (eC (.int 210)) aNil)))) (pE (eB rIntCD (apCons (pE (eOp rGtD (pVar 1) (pE (eC (.int 2))))) apNil)))) aNil)))) apNil)) (gVar 2)) (sCut (sIf (tV (eOp rGtD (pVar 1) (pE (eC (.int 9))))) (sAsg (eCall p_law_great (aCons (eCall p_law_of (aCons (eVar 0) (aCons (eC (.int 1)) aNil))) (aCons (eCall p_law_of (aCons (eVar 0) (aCons (eC (.int 3)) aNil))) aNil))) (gVar 2)) sNext) (sCut (sIf (tAnd (tV (eOp rEqD (pE (eCall p_law_drawn (aCons (eCall p_law_of (aCons (eVar 0) (aCons (eC (.int 0)) aNil))) (aCons (eC (.int 7927)) (aCons (eC (.int 2)) aNil))))) (pE (eC (.int 0))))) (tV (eOp rEqD (pE (eOp rGtD (pE (eOp rIxD (pVar 2) (pE (eC (.int 0))))) (pE (eC (.int 0))))) (pE (eOp rGtD (pE (eOp rIxD (pVar 2) (pE (eC (.int 1))))) (pE (eC (.int 0)))))))) (sSet 2 (eC (.int 2)) (eOp rMulD (pE (eB rAbsD (apCons (pE (eOp rIxD (pVar 2) (pE (eC (.int 2))))) apNil))) (pE (eOp rSubD (pE (eC (.int 1))) (pE (eOp rMulD (pE (eC (.int 2))) (pE (eB rIntCD (apCons (pE (eOp rGtD (pE (eOp rIxD (pVar 2) (pE (eC (.int 0))))) (pE (eC (.int 0))))) apNil))))))))) sNext) (sSeq (sAsg (eCall p_law_drawn (aCons (eCall p_law_of (aCons (eVar 0) (aCons (eC (.int 2)) aNil))) (aCons (eC (.int 7937)) (aCons (eC (.int 3)) aNil)))) (gVal 3)) (sCut (sIf (tV (eOp rEqD (pVar 1) (pE (eC (.int 0))))) (sSet 2 (eVar 3) (eC (.int 0))) sNext) (sCut (sIf (tV (eOp rEqD (pVar 1) (pE (eC (.int 1))))) (sSet 2 (eVar 3) (eOp rMulD (pE (eOp rIxD (pVar 2) (pVar 3))) (pE (eOp rIxD (pE (eLst (aCons (eC (.int 4)) (aCons (eC (.int 9)) aNil)))) (pE (eCall p_law_drawn (aCons (eCall p_law_of (aCons (eVar 0) (aCons (eC (.int 2)) aNil))) (aCons (eC (.int 7949)) (aCons (eC (.int 2)) aNil))))))))) sNext) (sCut (sIf (tV (eOp rEqD (pVar 1) (pE (eC (.int 2))))) (sAsg (eComp (iRng1 (aCons (eC (.int 3)) aNil)) [4] (gVal 4) tYesD (eOp rMulD (pE (eOp rIxD (pVar 2) (pVar 4))) (pE (eOp rIxD (pE (eLst (aCons (eC (.int 11)) (aCons (eC (.int 1)) aNil)))) (pE (eB rIntCD (apCons (pE (eOp rEqD (pVar 4) (pVar 3))) apNil))))))) (gVar 2)) sNext) (sSeq (sFrz 2) (sRet (eTup (aCons (eVar 2) (aCons (eOp rGtD (pVar 1) (pE (eC (.int 2)))) aNil)))))))))))))
/-! law_triple: slots script kind triple_here at k -/
theorem pln_mul11 {a b c : Int} : ¬ Pln (a * 11) (b * 11) c ∧ ¬ Pln a (b * 11) (c * 11) ∧ ¬ Pln (a * 11) b (c * 11) := by
  have key : ∀ {u v : Int}, Int.gcd (u * 11) (v * 11) ≠ 1 := fun {u v} e => by
    rw [Int.gcd_mul_right] at e
    have h : ((11 : Int).natAbs) ∣ 1 := ⟨_, by rw [Nat.mul_comm]; exact e.symm⟩
    exact absurd h (by decide)
  exact ⟨fun p => key p.ab, fun p => key p.bc, fun p => key p.ca⟩
theorem sqf_mul_sq {a m : Int} (h : m = 4 ∨ m = 9) : ¬ SqF (a * m) := fun s => by
  rcases h with rfl | rfl
  · exact s.no 2 (by decide) ⟨a, by omega⟩
  · exact s.no 3 (by decide) ⟨a, by omega⟩
def p_law_triple : DSp := fun ds x q => ∃ (ns : List Int), ds = [.list (ns.map PyData.int)] ∧ (Script ns ∧ (∀ a b c : Int, a.natAbs ≤ 1000 ∧ b.natAbs ≤ 1000 ∧ c.natAbs ≤ 1000 → ¬ Pln a b c → q (.val (.tuple [.list [.int a, .int b, .int c], .bool false]))) ∧ (∀ a b c : Int, a.natAbs ≤ 1000 ∧ b.natAbs ≤ 1000 ∧ c.natAbs ≤ 1000 → Pln a b c → q (.val (.tuple [.list [.int a, .int b, .int c], .bool true]))))
theorem len_law_triple : ∀ ds x q, p_law_triple ds x q → ds.length = 1 := by
  rintro ds x q ⟨ns, rfl, _⟩
  rfl
theorem w_law_triple {ns : List Int} {x : XP} {q : S → Prop} : @callK p_law_triple [.list (ns.map PyData.int)] x ⟨q⟩ = (Script ns ∧ (∀ a b c : Int, a.natAbs ≤ 1000 ∧ b.natAbs ≤ 1000 ∧ c.natAbs ≤ 1000 → ¬ Pln a b c → q (.val (.tuple [.list [.int a, .int b, .int c], .bool false]))) ∧ (∀ a b c : Int, a.natAbs ≤ 1000 ∧ b.natAbs ≤ 1000 ∧ c.natAbs ≤ 1000 → Pln a b c → q (.val (.tuple [.list [.int a, .int b, .int c], .bool true])))) := propext ⟨fun h => by
  obtain ⟨ns', e, h⟩ := h
  simp only [List.cons.injEq, PyData.list.injEq, PyData.tuple.injEq, PyData.int.injEq, PyData.str.injEq, PyData.bool.injEq, ints_inj, parts_inj, and_true, and_assoc] at e
  obtain ⟨rfl⟩ := e
  exact h, fun h => ⟨_, rfl, h⟩⟩
--simp w_law_triple
theorem spec_law_triple : ∀ ds x q, p_law_triple ds x q → bodyD 5 b_law_triple ds x q := by
  rintro ds x q ⟨ns, rfl, hs, h1, h2⟩
  unfold b_law_triple
  walk_at "dl"
  have hb0 := drawn_bd (c := ofZ ns 0) (p := 7933) (m := 18) (by decide)
  have hb3 := drawn_bd (c := ofZ ns 2) (p := 7937) (m := 3) (by decide)
  have hb4 := drawn_bd (c := ofZ ns 2) (p := 7949) (m := 2) (by decide)
  generalize drawn (ofZ ns 0) 7933 18 = kd at *
  obtain ⟨mm, em, m2, m3, m4⟩ : ∃ mm : Int, atI [PyData.int 90, PyData.int 210] (if 2 < kd then 1 else 0) = some (.int mm) ∧ 2 ≤ mm ∧ mm ≤ 210 ∧ (kd ≤ 2 → mm ≤ 90) := by
    by_cases k : 2 < kd
    · rw [if_pos k]; exact ⟨210, rfl, by decide, by decide, fun h => by omega⟩
    · rw [if_neg k]; exact ⟨90, rfl, by decide, by decide, fun _ => by decide⟩
  rw [em]
  walk_at "dl"
  refine ⟨⟨m2, m3⟩, fun a b c pl l => ?_⟩
  obtain ⟨l1, l2, l3⟩ := l
  refine cut_ (fun δ' => ∃ a b c : Int, δ' = [.val (.list (ns.map PyData.int)), .val (.int kd), .own [.int a, .int b, .int c], .no, .no] ∧ Pln a b c ∧ (a.natAbs ≤ 1000 ∧ b.natAbs ≤ 1000 ∧ c.natAbs ≤ 1000) ∧ (kd ≤ 2 → a.natAbs ≤ 90 ∧ b.natAbs ≤ 90 ∧ c.natAbs ≤ 90)) ?_ fun δ' w => ?_
  · walk_at "dl"
    refine if_pn (fun k u v w p l => ⟨_, _, _, rfl, p, ⟨by omega, l.2⟩, fun k2 => by omega⟩) fun k => ⟨_, _, _, rfl, pl, ⟨by omega, by omega, by omega⟩, fun k2 => ?_⟩
    have := m4 k2
    exact ⟨by omega, by omega, by omega⟩
  clear l1 l2 l3 pl m2 m3 m4 em
  obtain ⟨a, b, c, rfl, pl, ll, l9⟩ := w
  have zn : ∀ {n : Int}, n.natAbs ≤ 1000 → Sz 10 n := fun h => Sz.of_le (j := 1000) (by omega) (by decide +kernel)
  refine cut_ (fun δ' => ∃ a b c : Int, δ' = [.val (.list (ns.map PyData.int)), .val (.int kd), .own [.int a, .int b, .int c], .no, .no] ∧ Pln a b c ∧ (a.natAbs ≤ 1000 ∧ b.natAbs ≤ 1000 ∧ c.natAbs ≤ 1000) ∧ (kd ≤ 2 → a.natAbs ≤ 90 ∧ b.natAbs ≤ 90 ∧ c.natAbs ≤ 90)) ?_ fun δ' w => ?_
  · walk_at "dl"
    obtain ⟨la, lb, lc⟩ := ll
    obtain ⟨e, he, ee⟩ : ∃ e : Int, (e = 1 ∨ e = -1) ∧ (c.natAbs : Int) * (1 - 2 * if 0 < a then 1 else 0) = c * e := by
      rcases Int.natAbs_eq c with k | k <;> by_cases h : 0 < a <;> simp only [h, if_true, if_false]
      · exact ⟨-1, .inr rfl, by omega⟩
      · exact ⟨1, .inl rfl, by omega⟩
      · exact ⟨1, .inl rfl, by omega⟩
      · exact ⟨-1, .inr rfl, by omega⟩
    have pe := pl.sgn (.inl rfl) (.inl rfl) he
    rw [Int.mul_one, Int.mul_one] at pe
    have ce : (c * e).natAbs = c.natAbs := by rcases he with rfl | rfl <;> omega
    have sm : ∃ a_1 b_1 c_1 : Int, S.own [PyData.int a, PyData.int b, PyData.int c] = S.own [PyData.int a_1, PyData.int b_1, PyData.int c_1] ∧ Pln a_1 b_1 c_1 ∧ (a_1.natAbs ≤ 1000 ∧ b_1.natAbs ≤ 1000 ∧ c_1.natAbs ≤ 1000) ∧ (kd ≤ 2 → a_1.natAbs ≤ 90 ∧ b_1.natAbs ≤ 90 ∧ c_1.natAbs ≤ 90) := ⟨_, _, _, rfl, pl, ⟨la, lb, lc⟩, l9⟩
    have zi : Sz 2 (if 0 < a then (1 : Int) else 0) := by split <;> decide +kernel
    have zj : Sz 2 (1 - 2 * if 0 < a then (1 : Int) else 0) := by split <;> decide +kernel
    refine if_pn (fun _ => ⟨rfl, rfl, if_pn (fun _ => ⟨IntMulOk.of_le (show Sz 2 2 by decide +kernel) zi (by decide), IntMulOk.of_le (Sz.of_le (j := 1000) (by omega) (by decide +kernel) : Sz 10 (c.natAbs : Int)) zj (by decide), ?_⟩) fun _ => sm⟩) fun _ => sm
    rw [ee]
    exact ⟨_, _, _, rfl, pe, ⟨la, lb, by omega⟩, fun k => by rw [ce]; exact l9 k⟩
  obtain ⟨a, b, c, rfl, pl, ll, l9⟩ := w
  walk_at "dl"
  generalize drawn (ofZ ns 2) 7937 3 = s at *
  have hs3 : s = 0 ∨ s = 1 ∨ s = 2 := by omega
  refine cut_ (fun δ' => ∃ a b c : Int, δ' = [.val (.list (ns.map PyData.int)), .val (.int kd), .own [.int a, .int b, .int c], .val (.int s), .no] ∧ (if kd = 0 then ¬ Pln a b c else Pln a b c) ∧ (a.natAbs ≤ 1000 ∧ b.natAbs ≤ 1000 ∧ c.natAbs ≤ 1000) ∧ (kd ≤ 2 → a.natAbs ≤ 90 ∧ b.natAbs ≤ 90 ∧ c.natAbs ≤ 90)) ?_ fun δ' w => ?_
  · walk_at "dl"
    refine if_pn (fun k0 => ?_) fun k0 => ⟨_, _, _, rfl, by rw [if_neg k0]; exact pl, ll, l9⟩
    have l9 := l9 (by omega)
    have s0 : ¬ SqF 0 := fun h => h.ne rfl
    rcases hs3 with rfl | rfl | rfl
    all_goals walk_at "dl"
    · exact ⟨_, _, _, rfl, by rw [if_pos k0]; exact fun p => s0 p.fa, ⟨by decide, ll.2⟩, fun _ => ⟨by decide, l9.2⟩⟩
    · exact ⟨_, _, _, rfl, by rw [if_pos k0]; exact fun p => s0 p.fb, ⟨ll.1, by decide, ll.2.2⟩, fun _ => ⟨l9.1, by decide, l9.2.2⟩⟩
    · exact ⟨_, _, _, rfl, by rw [if_pos k0]; exact fun p => s0 p.fc, ⟨ll.1, ll.2.1, by decide⟩, fun _ => ⟨l9.1, l9.2.1, by decide⟩⟩
  obtain ⟨a, b, c, rfl, pl, ll, l9⟩ := w
  refine cut_ (fun δ' => ∃ a b c : Int, δ' = [.val (.list (ns.map PyData.int)), .val (.int kd), .own [.int a, .int b, .int c], .val (.int s), .no] ∧ (if kd ≤ 1 then ¬ Pln a b c else Pln a b c) ∧ (a.natAbs ≤ 1000 ∧ b.natAbs ≤ 1000 ∧ c.natAbs ≤ 1000) ∧ (kd = 2 → a.natAbs ≤ 90 ∧ b.natAbs ≤ 90 ∧ c.natAbs ≤ 90)) ?_ fun δ' w => ?_
  · walk_at "dl"
    refine if_pn (fun k0 => ?_) fun k0 => ⟨_, _, _, rfl, ?_, ll, fun k => l9 (by omega)⟩
    · have l9 := l9 (by omega)
      obtain ⟨m, hm, em⟩ := ix_lit (xs := [4, 9]) (k := drawn (ofZ ns 2) 7949 2) hb4.1 hb4.2
      have hm : m = 4 ∨ m = 9 := by simpa using hm
      have em : atI [PyData.int 4, .int 9] (drawn (ofZ ns 2) 7949 2) = some (.int m) := em
      have zm : Sz 10 m := Sz.of_le (j := 9) (by omega) (by decide +kernel)
      have le : ∀ {t : Int}, t.natAbs ≤ 90 → (t * m).natAbs ≤ 1000 := fun {t} h => by rcases hm with rfl | rfl <;> omega
      rcases hs3 with rfl | rfl | rfl
      all_goals
        walk_at "dl"
        rw [em]
        walk_at "dl"
      · exact ⟨IntMulOk.of_le (zn ll.1) zm (by decide), _, _, _, rfl, by rw [if_pos (by omega)]; exact fun p => sqf_mul_sq hm p.fa, ⟨le l9.1, ll.2⟩, fun k => by omega⟩
      · exact ⟨IntMulOk.of_le (zn ll.2.1) zm (by decide), _, _, _, rfl, by rw [if_pos (by omega)]; exact fun p => sqf_mul_sq hm p.fb, ⟨ll.1, le l9.2.1, ll.2.2⟩, fun k => by omega⟩
      · exact ⟨IntMulOk.of_le (zn ll.2.2) zm (by decide), _, _, _, rfl, by rw [if_pos (by omega)]; exact fun p => sqf_mul_sq hm p.fc, ⟨ll.1, ll.2.1, le l9.2.2⟩, fun k => by omega⟩
    · by_cases k1 : kd = 0
      · rw [if_pos k1] at pl; rw [if_pos (by omega)]; exact pl
      · rw [if_neg k1] at pl; rw [if_neg (by omega)]; exact pl
  obtain ⟨a, b, c, rfl, pl, ll, l9⟩ := w
  refine cut_ (fun δ' => ∃ a b c : Int, δ' = [.val (.list (ns.map PyData.int)), .val (.int kd), .own [.int a, .int b, .int c], .val (.int s), .no] ∧ (if kd ≤ 2 then ¬ Pln a b c else Pln a b c) ∧ (a.natAbs ≤ 1000 ∧ b.natAbs ≤ 1000 ∧ c.natAbs ≤ 1000)) ?_ fun δ' w => ?_
  · walk_at "dl"
    refine if_pn (fun k0 => ?_) fun k0 => ⟨_, _, _, rfl, ?_, ll⟩
    · obtain ⟨q1, q2, q3⟩ := l9 k0
      have i11 : ∀ {t : Int}, t.natAbs ≤ 1000 → IntMulOk t 11 ∧ IntMulOk t 1 := fun h => ⟨IntMulOk.of_le (zn h) (show Sz 4 11 by decide +kernel) (by decide), IntMulOk.of_le (zn h) (show Sz 4 1 by decide +kernel) (by decide)⟩
      obtain ⟨la, lb, lc⟩ := ll
      have pn := pln_mul11 (a := a) (b := b) (c := c)
      rcases hs3 with rfl | rfl | rfl
      · refine comp_lit [.int (a * 1), .int (b * 11), .int (c * 11)] (by show 3 ≤ 1000000; decide) ?_ ?_
        · walk_at "dl"
          exact ⟨(i11 la).2, (i11 lb).1, (i11 lc).1⟩
        walk_at "dl"
        exact ⟨_, _, _, rfl, by rw [if_pos (by omega), Int.mul_one]; exact pn.2.1, by omega, by omega, by omega⟩
      · refine comp_lit [.int (a * 11), .int (b * 1), .int (c * 11)] (by show 3 ≤ 1000000; decide) ?_ ?_
        · walk_at "dl"
          exact ⟨(i11 la).1, (i11 lb).2, (i11 lc).1⟩
        walk_at "dl"
        exact ⟨_, _, _, rfl, by rw [if_pos (by omega), Int.mul_one]; exact pn.2.2, by omega, by omega, by omega⟩
      · refine comp_lit [.int (a * 11), .int (b * 11), .int (c * 1)] (by show 3 ≤ 1000000; decide) ?_ ?_
        · walk_at "dl"
          exact ⟨(i11 la).1, (i11 lb).1, (i11 lc).2⟩
        walk_at "dl"
        exact ⟨_, _, _, rfl, by rw [if_pos (by omega), Int.mul_one]; exact pn.1, by omega, by omega, by omega⟩
    · by_cases k1 : kd ≤ 1
      · rw [if_pos k1] at pl; rw [if_pos (by omega)]; exact pl
      · rw [if_neg k1] at pl; rw [if_neg (by omega)]; exact pl
  obtain ⟨a, b, c, rfl, pl, ll⟩ := w
  walk_at "dl"
  by_cases k : 2 < kd
  · rw [if_neg (by omega)] at pl
    rw [decide_eq_true k]
    exact h2 _ _ _ ll pl
  · rw [if_pos (by omega)] at pl
    rw [decide_eq_false k]
    exact h1 _ _ _ ll pl

local macro_rules | `(tactic| walk_at "dl") => `(tactic| (simp (maxSteps := 10000000) (disch := omega) only [↓dlD, dlP, List.mem_cons, List.not_mem_nil, or_false, sizeLine_eq, Nat.reduceLeDiff, startD, isNon, Bool.and_true, Bool.and_eq_true, List.all_cons, List.all_nil, List.any_cons, List.any_nil, id_eq, Bool.and_self, Bool.or_false, Bool.or_true, decide_true, decide_false, Option.map_some, Option.some.injEq, List.map, List.length, List.replicate, List.append, List.cons_append, List.nil_append, Nat.sub_self, Nat.reduceSub, Nat.reduceAdd, reduceCtorEq, PyData.int.injEq, decide_eq_true_eq, Bool.not_eq_true', decide_eq_false_iff_not, Bool.not_true, Bool.not_false, if_true, if_false, Bool.false_eq_true, ne_eq, Int.reduceLE, Int.reduceLT, Int.reduceEq, Nat.reduceLT, Int.cast_ofNat_Int, Int.reducePow, Int.reduceToNat, Int.reduceMul, Int.reduceAdd, Int.reduceSub, Int.reduceNeg, Int.reduceMod, Int.reduceDiv, Int.reduceGT, Int.reduceGE, Int.reduceNe, not_false_eq_true, not_true_eq_false, forall_eq', exists_eq_left', eq_self, true_and, and_true, dlE0, w_law_drawn, w_law_of, w_law_plain_drawn, w_law_great, w_law_triple]; try simp only [List.cons.injEq, S.val.injEq, PyData.int.injEq, w_ex1, w_ex2, w_ex3, true_and, and_true]))
noncomputable def b_law_none_by_8 : ST := (sSeq (sAsg (eVar 0) (gTupL 3 (gCons (gVal 1) (gCons (gVal 2) (gCons (gVal 3) gNil))))) (sSeq (sFor (iVal (eLst (aCons (eC (.int 0)) (aCons (eC (.int 1)) (aCons (eC (.int 4)) aNil))))) (gVal 4) (sFor (iVal (eLst (aCons (eC (.int 0)) (aCons (eC (.int 1)) (aCons (eC (.int 4)) aNil))))) (gVal 5) (sFor (iVal (eLst (aCons (eC (.int 0)) (aCons (eC (.int 1)) (aCons (eC (.int 4)) aNil))))) (gVal 6) (sIf (tAnd (tV (eOp rInD (pE (eC (.int 1))) (pE (eLst (aCons (eVar 4) (aCons (eVar 5) (aCons (eVar 6) aNil))))))) (tV (eOp rEqD (pE (eOp rModD (pE (eOp rAddD (pE (eOp rAddD (pE (eOp rMulD (pVar 1) (pVar 4))) (pE (eOp rMulD (pVar 2) (pVar 5))))) (pE (eOp rMulD (pVar 3) (pVar 6))))) (pE (eC (.int 8))))) (pE (eC (.int 0)))))) (sRet (eC (.bool false))) sNext)))) (sRet (eC (.bool true)))))
/-! law_none_by_8: slots triple_here a b c x y z -/
def p_law_none_by_8 : DSp := fun ds x q => ∃ (a b c : Int), ds = [.list [.int a, .int b, .int c]] ∧ ((Sz 2000 a ∧ Sz 2000 b ∧ Sz 2000 c) ∧ (Fit8 a b c → q (.val (.bool false))) ∧ (¬ Fit8 a b c → q (.val (.bool true))))
theorem len_law_none_by_8 : ∀ ds x q, p_law_none_by_8 ds x q → ds.length = 1 := by
  rintro ds x q ⟨a, b, c, rfl, _⟩
  rfl
theorem w_law_none_by_8 {a b c : Int} {x : XP} {q : S → Prop} : @callK p_law_none_by_8 [.list [.int a, .int b, .int c]] x ⟨q⟩ = ((Sz 2000 a ∧ Sz 2000 b ∧ Sz 2000 c) ∧ (Fit8 a b c → q (.val (.bool false))) ∧ (¬ Fit8 a b c → q (.val (.bool true)))) := propext ⟨fun h => by
  obtain ⟨a', b', c', e, h⟩ := h
  simp only [List.cons.injEq, PyData.list.injEq, PyData.tuple.injEq, PyData.int.injEq, PyData.str.injEq, PyData.bool.injEq, ints_inj, parts_inj, and_true, and_assoc] at e
  obtain ⟨rfl, rfl, rfl⟩ := e
  exact h, fun h => ⟨_, _, _, rfl, h⟩⟩
--simp w_law_none_by_8
theorem spec_law_none_by_8 : ∀ ds x q, p_law_none_by_8 ds x q → bodyD 7 b_law_none_by_8 ds x q := by
  rintro ds x q ⟨a, b, c, rfl, ⟨za, zb, zc⟩, h1, h2⟩
  unfold b_law_none_by_8
  walk_at "dl"
  refine for_maps (as := ([0, 1, 4] : List Int)) (en := PyData.int) (fun done rest δ' => ∃ s3 s4 s5, δ' = [.val (.list [.int a, .int b, .int c]), .val (.int a), .val (.int b), .val (.int c), s3, s4, s5] ∧ [0, 1, 4] = done ++ rest ∧ ∀ x ∈ done, ∀ y ∈ [0, 1, 4], ∀ z ∈ [0, 1, 4], ¬ Fit1 a b c x y z) ⟨_, _, _, rfl, rfl, by simp⟩ (fun done x rest δ' ha w => ?_) fun δ' w => ?_
  · obtain ⟨s3, s4, s5, rfl, e, w⟩ := w
    have hx : x ∈ ([0, 1, 4] : List Int) := by rw [ha]; simp
    walk_at "dl"
    refine for_maps (as := ([0, 1, 4] : List Int)) (en := PyData.int) (fun done2 rest δ' => ∃ s4 s5, δ' = [.val (.list [.int a, .int b, .int c]), .val (.int a), .val (.int b), .val (.int c), .val (.int x), s4, s5] ∧ [0, 1, 4] = done2 ++ rest ∧ ∀ y ∈ done2, ∀ z ∈ [0, 1, 4], ¬ Fit1 a b c x y z) ⟨_, _, rfl, rfl, by simp⟩ (fun done2 y rest2 δ' hb w2 => ?_) fun δ' w2 => ?_
    · obtain ⟨s4, s5, rfl, e2, w2⟩ := w2
      have hy : y ∈ ([0, 1, 4] : List Int) := by rw [hb]; simp
      walk_at "dl"
      refine for_maps (as := ([0, 1, 4] : List Int)) (en := PyData.int) (fun done3 rest δ' => ∃ s5, δ' = [.val (.list [.int a, .int b, .int c]), .val (.int a), .val (.int b), .val (.int c), .val (.int x), .val (.int y), s5] ∧ [0, 1, 4] = done3 ++ rest ∧ ∀ z ∈ done3, ¬ Fit1 a b c x y z) ⟨_, rfl, rfl, by simp⟩ (fun done3 z rest3 δ' hc w3 => ?_) fun δ' w3 => ?_
      · obtain ⟨s5, rfl, e3, w3⟩ := w3
        have hz : z ∈ ([0, 1, 4] : List Int) := by rw [hc]; simp
        walk_at "dl"
        have sx : Sz 3 x := Sz.of_le (j := 4) (by simp at hx; omega) (by decide +kernel)
        have sy : Sz 3 y := Sz.of_le (j := 4) (by simp at hy; omega) (by decide +kernel)
        have sz : Sz 3 z := Sz.of_le (j := 4) (by simp at hz; omega) (by decide +kernel)
        have nxt : ¬ Fit1 a b c x y z → ∃ s5, S.val (.int z) = s5 ∧ [0, 1, 4] = done3 ++ [z] ++ rest3 ∧ ∀ z' : Int, z' ∈ done3 ++ [z] → ¬ Fit1 a b c x y z' := fun k => ⟨_, rfl, by rw [hc, List.append_assoc]; rfl, fun z' h => by
          rcases List.mem_append.mp h with m | m
          · exact w3 z' m
          · rw [List.mem_singleton.mp m]; exact k⟩
        split
        · rename_i c1
          refine ⟨by walk_at "sz", by walk_at "sz", by walk_at "sz", ?_⟩
          split
          · rename_i c2
            exact h1 ⟨x, hx, y, hy, z, hz, by omega, c2⟩
          · rename_i c2
            exact nxt fun k => c2 k.2
        · rename_i c1
          exact nxt fun k => c1 (by have := k.1; omega)
      · obtain ⟨s5, rfl, e3, w3⟩ := w3
        refine ⟨_, _, rfl, by rw [hb, List.append_assoc]; rfl, fun y' h z' hz' => ?_⟩
        rcases List.mem_append.mp h with m | m
        · exact w2 y' m z' hz'
        · rw [List.mem_singleton.mp m]; exact w3 z' (by rw [List.append_nil] at e3; rw [← e3]; exact hz')
    · obtain ⟨s4, s5, rfl, e2, w2⟩ := w2
      refine ⟨_, _, _, rfl, by rw [ha, List.append_assoc]; rfl, fun x' h y' hy' z' hz' => ?_⟩
      rcases List.mem_append.mp h with m | m
      · exact w x' m y' hy' z' hz'
      · rw [List.mem_singleton.mp m]; exact w2 y' (by rw [List.append_nil] at e2; rw [← e2]; exact hy') z' hz'
  · obtain ⟨s3, s4, s5, rfl, e, w⟩ := w
    walk_at "dl"
    refine h2 fun ⟨x, hx, y, hy, z, hz, f⟩ => w x (by rw [List.append_nil] at e; rw [← e]; exact hx) y hy z hz f

local macro_rules | `(tactic| walk_at "dl") => `(tactic| (simp (maxSteps := 10000000) (disch := omega) only [↓dlD, dlP, List.mem_cons, List.not_mem_nil, or_false, sizeLine_eq, Nat.reduceLeDiff, startD, isNon, Bool.and_true, Bool.and_eq_true, List.all_cons, List.all_nil, List.any_cons, List.any_nil, id_eq, Bool.and_self, Bool.or_false, Bool.or_true, decide_true, decide_false, Option.map_some, Option.some.injEq, List.map, List.length, List.replicate, List.append, List.cons_append, List.nil_append, Nat.sub_self, Nat.reduceSub, Nat.reduceAdd, reduceCtorEq, PyData.int.injEq, decide_eq_true_eq, Bool.not_eq_true', decide_eq_false_iff_not, Bool.not_true, Bool.not_false, if_true, if_false, Bool.false_eq_true, ne_eq, Int.reduceLE, Int.reduceLT, Int.reduceEq, Nat.reduceLT, Int.cast_ofNat_Int, Int.reducePow, Int.reduceToNat, Int.reduceMul, Int.reduceAdd, Int.reduceSub, Int.reduceNeg, Int.reduceMod, Int.reduceDiv, Int.reduceGT, Int.reduceGE, Int.reduceNe, not_false_eq_true, not_true_eq_false, forall_eq', exists_eq_left', eq_self, true_and, and_true, dlE0, w_law_drawn, w_law_of, w_law_plain_drawn, w_law_great, w_law_triple, w_law_none_by_8]; try simp only [List.cons.injEq, S.val.injEq, PyData.int.injEq, w_ex1, w_ex2, w_ex3, true_and, and_true]))
noncomputable def b_law_no_square : ST := (sSeq (sAsg (eC (.int 1)) (gVal 2)) (sSeq (sAsg (eOp rModD (pVar 0) (pVar 1)) (gVal 3)) (sSeq (sAsg (eOp rFdivD (pVar 1) (pE (eC (.int 2)))) (gVal 4)) (sSeq (sWhile (tV (eOp rGtD (pVar 4) (pE (eC (.int 0))))) (sCut (sIf (tV (eOp rEqD (pE (eOp rModD (pVar 4) (pE (eC (.int 2))))) (pE (eC (.int 1))))) (sAsg (eOp rModD (pE (eOp rMulD (pVar 2) (pVar 3))) (pVar 1)) (gVal 2)) sNext) (sSeq (sAsg (eOp rModD (pE (eOp rMulD (pVar 3) (pVar 3))) (pVar 1)) (gVal 3)) (sAsg (eOp rFdivD (pVar 4) (pE (eC (.int 2)))) (gVal 4))))) (sRet (eOp rEqD (pVar 2) (pE (eOp rSubD (pVar 1) (pE (eC (.int 1)))))))))))
/-! law_no_square: slots number prime found factor rest -/
theorem pow_mod {a n : Int} : ∀ k : Nat, (a % n) ^ k % n = a ^ k % n
  | 0 => by rw [Int.pow_zero, Int.pow_zero]
  | k + 1 => by rw [Int.pow_succ, Int.pow_succ, Int.mul_emod, pow_mod k, Int.emod_emod, ← Int.mul_emod]
theorem sq_pow {a : Int} (k : Nat) : (a * a) ^ k = a ^ (2 * k) := by
  induction k with
  | zero => rw [Nat.mul_zero, Int.pow_zero, Int.pow_zero]
  | succ k ih => rw [Int.pow_succ, ih, show 2 * (k + 1) = 2 * k + 1 + 1 by omega, Int.pow_succ, Int.pow_succ, Int.mul_assoc]
def p_law_no_square : DSp := fun ds x q => ∃ (a n : Int), ds = [.int a, .int n] ∧ ((Pr n ∧ 2 < n ∧ n ≤ 3000000000) ∧ ¬ n ∣ a ∧ q (.val (.bool (decide (J a n = -1)))))
theorem len_law_no_square : ∀ ds x q, p_law_no_square ds x q → ds.length = 2 := by
  rintro ds x q ⟨a, n, rfl, _⟩
  rfl
theorem w_law_no_square {a n : Int} {x : XP} {q : S → Prop} : @callK p_law_no_square [.int a, .int n] x ⟨q⟩ = ((Pr n ∧ 2 < n ∧ n ≤ 3000000000) ∧ ¬ n ∣ a ∧ q (.val (.bool (decide (J a n = -1))))) := propext ⟨fun h => by
  obtain ⟨a', n', e, h⟩ := h
  simp only [List.cons.injEq, PyData.list.injEq, PyData.tuple.injEq, PyData.int.injEq, PyData.str.injEq, PyData.bool.injEq, ints_inj, parts_inj, and_true, and_assoc] at e
  obtain ⟨rfl, rfl⟩ := e
  exact h, fun h => ⟨_, _, rfl, h⟩⟩
--simp w_law_no_square
theorem spec_law_no_square : ∀ ds x q, p_law_no_square ds x q → bodyD 5 b_law_no_square ds x q := by
  rintro ds x q ⟨a, n, rfl, ⟨hp, hn2, hle⟩, ha, h⟩
  unfold b_law_no_square
  have h2 := hp.two
  have n2 : n ≠ 2 := by omega
  have eu := J_power (a := a) hp n2
  have ho := (hp.odd n2).odd
  have zn : Sz 32 n := Sz.of_le (j := 3000000000) (by omega) (by decide +kernel)
  walk_at "dl"
  refine ⟨by omega, by decide +kernel, ?_⟩
  refine while_ (fun m δ' => ∃ f g j, δ' = [.val (.int a), .val (.int n), .val (.int f), .val (.int g), .val (.int j)] ∧ m = j.toNat ∧ 0 ≤ j ∧ 0 ≤ f ∧ f < n ∧ 0 ≤ g ∧ g < n ∧ f * g ^ j.toNat % n = a ^ (n / 2).toNat % n) (n / 2).toNat
    ⟨_, _, _, rfl, rfl, by omega, by decide, by omega, Int.emod_nonneg _ (by omega), Int.emod_lt_of_pos _ (by omega), by rw [Int.one_mul, pow_mod]⟩ fun m δ' w => ?_
  obtain ⟨f, g, j, rfl, rfl, hj, f0, f1, g0, g1, e⟩ := w
  have zf : Sz 32 f := Sz.of_le (j := n) (by omega) zn
  have zg : Sz 32 g := Sz.of_le (j := n) (by omega) zn
  walk_at "dl"
  split
  · rename_i c
    refine cut_int 2 (fun f' => 0 ≤ f' ∧ f' < n ∧ f' * (g * g % n) ^ (j / 2).toNat % n = a ^ (n / 2).toNat % n) ?_ fun f' hf' => ?_
    · walk_at "dl"
      split
      · rename_i c2
        walk_at "szs"
        refine ⟨Int.emod_nonneg _ (by omega), Int.emod_lt_of_pos _ (by omega), ?_⟩
        rw [Int.mul_emod, pow_mod, Int.emod_emod, ← Int.mul_emod, sq_pow, Int.mul_assoc]
        have : j.toNat = 1 + 2 * (j / 2).toNat := by omega
        rw [← e, this, Int.pow_add, Int.pow_succ, Int.pow_zero, Int.one_mul]
      · refine ⟨f0, f1, ?_⟩
        rw [Int.mul_emod, pow_mod, ← Int.mul_emod, sq_pow]
        have : j.toNat = 2 * (j / 2).toNat := by omega
        rw [← e, this]
    walk_at "dl"
    walk_at "szs"
    exact ⟨_, by omega, _, _, _, ⟨rfl, rfl, rfl⟩, rfl, by omega, hf'.1, hf'.2.1, Int.emod_nonneg _ (by omega), Int.emod_lt_of_pos _ (by omega), hf'.2.2⟩
  · have j0 : j = 0 := by omega
    subst j0
    rw [Int.toNat_zero, Int.pow_zero, Int.mul_one, Int.emod_eq_of_lt f0 f1] at e
    have hh : half n = (n / 2).toNat := rfl
    rw [hh] at eu
    have m : n ∣ a ^ (n / 2).toNat % n - a ^ (n / 2).toNat := ⟨-(a ^ (n / 2).toNat / n), by rw [Int.emod_def]; grind⟩
    have eu2 := Int.dvd_add m eu
    rw [show a ^ (n / 2).toNat % n - a ^ (n / 2).toNat + (a ^ (n / 2).toNat - J a n) = a ^ (n / 2).toNat % n - J a n by omega, ← e] at eu2
    have e1 : decide (f = n - 1) = decide (J a n = -1) := by
      rcases J_unit hp ha with j | j <;> rw [j] at eu2 ⊢
      · have f1 : f = 1 := by
          obtain ⟨k, hk⟩ := eu2
          have : k = 0 := by
            refine Classical.byContradiction fun k0 => ?_
            rcases Int.lt_or_gt_of_ne k0 with z | z
            · have := Int.mul_le_mul_of_nonneg_left (show k ≤ -1 by omega) (show 0 ≤ n by omega)
              omega
            · have := Int.mul_le_mul_of_nonneg_left (show 1 ≤ k by omega) (show 0 ≤ n by omega)
              omega
          rw [this, Int.mul_zero] at hk
          omega
        rw [decide_eq_false (by omega), decide_eq_false (by decide)]
      · have f1 : f = n - 1 := by
          have := Int.le_of_dvd (by omega) eu2
          omega
        rw [decide_eq_true f1, decide_eq_true rfl]
    rw [e1]
    exact h

local macro_rules | `(tactic| walk_at "dl") => `(tactic| (simp (maxSteps := 10000000) (disch := omega) only [↓dlD, dlP, List.mem_cons, List.not_mem_nil, or_false, sizeLine_eq, Nat.reduceLeDiff, startD, isNon, Bool.and_true, Bool.and_eq_true, List.all_cons, List.all_nil, List.any_cons, List.any_nil, id_eq, Bool.and_self, Bool.or_false, Bool.or_true, decide_true, decide_false, Option.map_some, Option.some.injEq, List.map, List.length, List.replicate, List.append, List.cons_append, List.nil_append, Nat.sub_self, Nat.reduceSub, Nat.reduceAdd, reduceCtorEq, PyData.int.injEq, decide_eq_true_eq, Bool.not_eq_true', decide_eq_false_iff_not, Bool.not_true, Bool.not_false, if_true, if_false, Bool.false_eq_true, ne_eq, Int.reduceLE, Int.reduceLT, Int.reduceEq, Nat.reduceLT, Int.cast_ofNat_Int, Int.reducePow, Int.reduceToNat, Int.reduceMul, Int.reduceAdd, Int.reduceSub, Int.reduceNeg, Int.reduceMod, Int.reduceDiv, Int.reduceGT, Int.reduceGE, Int.reduceNe, not_false_eq_true, not_true_eq_false, forall_eq', exists_eq_left', eq_self, true_and, and_true, dlE0, w_law_drawn, w_law_of, w_law_plain_drawn, w_law_great, w_law_triple, w_law_none_by_8, w_law_no_square]; try simp only [List.cons.injEq, S.val.injEq, PyData.int.injEq, w_ex1, w_ex2, w_ex3, true_and, and_true]))
noncomputable def b_law_bad : ST := (sSeq (sIf (tV (eOp rEqD (pVar 1) (pE (eC (.int 0))))) (sRet (eOr (eOp rGtD (pE (eB rMinD (apCons (pVar 0) apNil))) (pE (eC (.int 0)))) (eOp rLtD (pE (eB rMaxD (apCons (pVar 0) apNil))) (pE (eC (.int 0)))))) sNext) (sSeq (sIf (tV (eOp rEqD (pVar 1) (pE (eC (.int 2))))) (sRet (eCall p_law_none_by_8 (aCons (eVar 0) aNil))) sNext) (sSeq (sFor (iRng1 (aCons (eC (.int 3)) aNil)) (gVal 2) (sIf (tV (eOp rEqD (pE (eOp rModD (pE (eOp rIxD (pVar 0) (pVar 2))) (pVar 1))) (pE (eC (.int 0))))) (sRet (eCall p_law_no_square (aCons (eOp rSubD (pE (eC (.int 0))) (pE (eOp rMulD (pE (eOp rIxD (pVar 0) (pE (eOp rSubD (pVar 2) (pE (eC (.int 1))))))) (pE (eOp rIxD (pVar 0) (pE (eOp rSubD (pVar 2) (pE (eC (.int 2)))))))))) (aCons (eVar 1) aNil)))) sNext)) (sRet (eC (.bool false))))))
/-! law_bad: slots triple_here place k -/
def p_law_bad : DSp := fun ds x q => ∃ (a b c p : Int), ds = [.list [.int a, .int b, .int c], .int p] ∧ (Pln a b c ∧ (Sz 40 a ∧ Sz 40 b ∧ Sz 40 c ∧ Sz 40 p ∧ p ≤ 3000000000) ∧ (p = 0 ∨ p = 2 ∨ (Pr p ∧ 2 < p)) ∧ (BadP a b c p → q (.val (.bool true))) ∧ (¬ BadP a b c p → q (.val (.bool false))))
theorem len_law_bad : ∀ ds x q, p_law_bad ds x q → ds.length = 2 := by
  rintro ds x q ⟨a, b, c, p, rfl, _⟩
  rfl
theorem w_law_bad {a b c p : Int} {x : XP} {q : S → Prop} : @callK p_law_bad [.list [.int a, .int b, .int c], .int p] x ⟨q⟩ = (Pln a b c ∧ (Sz 40 a ∧ Sz 40 b ∧ Sz 40 c ∧ Sz 40 p ∧ p ≤ 3000000000) ∧ (p = 0 ∨ p = 2 ∨ (Pr p ∧ 2 < p)) ∧ (BadP a b c p → q (.val (.bool true))) ∧ (¬ BadP a b c p → q (.val (.bool false)))) := propext ⟨fun h => by
  obtain ⟨a', b', c', p', e, h⟩ := h
  simp only [List.cons.injEq, PyData.list.injEq, PyData.tuple.injEq, PyData.int.injEq, PyData.str.injEq, PyData.bool.injEq, ints_inj, parts_inj, and_true, and_assoc] at e
  obtain ⟨rfl, rfl, rfl, rfl⟩ := e
  exact h, fun h => ⟨_, _, _, _, rfl, h⟩⟩
--simp w_law_bad
theorem spec_law_bad : ∀ ds x q, p_law_bad ds x q → bodyD 3 b_law_bad ds x q := by
  rintro ds x q ⟨a, b, c, p, rfl, pl, ⟨za, zb, zc, zp, hle⟩, hp3, h1, h2⟩
  unfold b_law_bad
  walk_at "dl"
  have A := pl.fa.ne
  have B := pl.fb.ne
  have C := pl.fc.ne
  refine if_pn (fun p0 => ?_) fun p0 => if_pn (fun p2 => ?_) fun p2 => ?_
  · have mx : (if (if a < b then b else a) < c then c else if a < b then b else a) < 0 ↔ a < 0 ∧ b < 0 ∧ c < 0 := by
      by_cases h : a < b <;> simp only [h, if_true, if_false] <;> split <;> omega
    have mn : (0 < if c < if b < a then b else a then c else if b < a then b else a) ↔ 0 < a ∧ 0 < b ∧ 0 < c := by
      by_cases h : b < a <;> simp only [h, if_true, if_false] <;> split <;> omega
    refine if_pn (fun k => h1 (.inl ⟨p0, ?_⟩)) fun k1 => ?_
    · have := mn.mp k
      clear mx mn k
      omega
    have k2 : ¬ (0 < a ∧ 0 < b ∧ 0 < c) := fun k => k1 (mn.mpr k)
    by_cases k3 : a < 0 ∧ b < 0 ∧ c < 0
    · rw [decide_eq_true (mx.mpr k3)]
      refine h1 (.inl ⟨p0, ?_⟩)
      clear mx mn k1
      omega
    · rw [decide_eq_false (fun k => k3 (mx.mp k))]
      refine h2 fun bad => ?_
      rcases bad with ⟨_, k⟩ | ⟨k, _⟩ | ⟨_, k, _⟩
      · clear mx mn k1
        omega
      · omega
      · omega
  · refine ⟨⟨za.mono (by decide), zb.mono (by decide), zc.mono (by decide)⟩, fun f => h2 fun bad => ?_, fun nf => h1 (.inr (.inl ⟨p2, nf⟩))⟩
    rcases bad with ⟨k, _⟩ | ⟨_, k⟩ | ⟨_, k, _⟩
    · exact p0 k
    · exact k f
    · omega
  obtain ⟨hp, h2p⟩ := (hp3.resolve_left p0).resolve_left p2
  have nn : ∀ {u v w : Int}, Pln u v w → p ∣ u → ¬ p ∣ 0 - w * v := fun {u v w} q d k => by
    rw [Int.zero_sub] at k
    rcases hp.euclid (Int.dvd_neg.mp k) with k | k
    · exact no_both hp q.ca k d
    · exact no_both hp q.ab d k
  have em : ∀ {u : Int}, (u % p = 0) ↔ p ∣ u := fun {u} => Int.dvd_iff_emod_eq_zero.symm
  have odd : ∀ {Q : Prop}, BadP a b c p → ((p ∣ a ∧ J (0 - b * c) p = -1) ∨ (p ∣ b ∧ J (0 - c * a) p = -1) ∨ (p ∣ c ∧ J (0 - a * b) p = -1) → Q) → Q := fun bad f => by
    rcases bad with ⟨k, _⟩ | ⟨k, _⟩ | ⟨_, _, k⟩
    · exact absurd k p0
    · exact absurd k p2
    · exact f k
  have fin : ∀ {j : Prop} [Decidable j], (j → BadP a b c p) → (BadP a b c p → j) → q (.val (.bool (decide j))) := fun {j} _ g1 g2 => by
    by_cases k : j
    · rw [decide_eq_true k]; exact h1 (g1 k)
    · rw [decide_eq_false k]; exact h2 fun z => k (g2 z)
  refine for_lit ?_
  walk_at "dl"
  refine ⟨p0, if_pn (fun k => ⟨IntMulOk.of_le zc zb (by decide), ⟨hp, h2p, hle⟩, nn pl (em.mp k), ?_⟩) fun k1 => ⟨p0, if_pn (fun k => ⟨IntMulOk.of_le za zc (by decide), ⟨hp, h2p, hle⟩, nn pl.turn (em.mp k), ?_⟩) fun k2 => ⟨p0, if_pn (fun k => ⟨IntMulOk.of_le zb za (by decide), ⟨hp, h2p, hle⟩, nn pl.turn.turn (em.mp k), ?_⟩) fun k3 => ?_⟩⟩⟩
  · have d := em.mp k
    rw [Int.mul_comm c b]
    refine fin (fun j => .inr (.inr ⟨hp, h2p, .inl ⟨d, j⟩⟩)) fun bad => odd bad fun z => ?_
    rcases z with ⟨_, j⟩ | ⟨e, _⟩ | ⟨e, _⟩
    · exact j
    · exact absurd e (no_both hp pl.ab d)
    · exact absurd d (no_both hp pl.ca e)
  · have d := em.mp k
    rw [Int.mul_comm a c]
    refine fin (fun j => .inr (.inr ⟨hp, h2p, .inr (.inl ⟨d, j⟩)⟩)) fun bad => odd bad fun z => ?_
    rcases z with ⟨e, _⟩ | ⟨_, j⟩ | ⟨e, _⟩
    · exact absurd (em.mpr e) k1
    · exact j
    · exact absurd e (no_both hp pl.bc d)
  · have d := em.mp k
    rw [Int.mul_comm b a]
    refine fin (fun j => .inr (.inr ⟨hp, h2p, .inr (.inr ⟨d, j⟩)⟩)) fun bad => odd bad fun z => ?_
    rcases z with ⟨e, _⟩ | ⟨e, _⟩ | ⟨_, j⟩
    · exact absurd (em.mpr e) k1
    · exact absurd (em.mpr e) k2
    · exact j
  · refine h2 fun bad => odd bad fun z => ?_
    rcases z with ⟨e, _⟩ | ⟨e, _⟩ | ⟨e, _⟩
    · exact k1 (em.mpr e)
    · exact k2 (em.mpr e)
    · exact k3 (em.mpr e)

def dlE1 := And.intro @w_law_drawn (And.intro @w_law_of (And.intro @w_law_plain_drawn (And.intro @w_law_great (And.intro @w_law_triple (And.intro @w_law_none_by_8 (And.intro @w_law_no_square (@w_law_bad)))))))
local macro_rules | `(tactic| walk_at "dl") => `(tactic| (simp (maxSteps := 10000000) (disch := omega) only [↓dlD, dlP, List.mem_cons, List.not_mem_nil, or_false, sizeLine_eq, Nat.reduceLeDiff, startD, isNon, Bool.and_true, Bool.and_eq_true, List.all_cons, List.all_nil, List.any_cons, List.any_nil, id_eq, Bool.and_self, Bool.or_false, Bool.or_true, decide_true, decide_false, Option.map_some, Option.some.injEq, List.map, List.length, List.replicate, List.append, List.cons_append, List.nil_append, Nat.sub_self, Nat.reduceSub, Nat.reduceAdd, reduceCtorEq, PyData.int.injEq, decide_eq_true_eq, Bool.not_eq_true', decide_eq_false_iff_not, Bool.not_true, Bool.not_false, if_true, if_false, Bool.false_eq_true, ne_eq, Int.reduceLE, Int.reduceLT, Int.reduceEq, Nat.reduceLT, Int.cast_ofNat_Int, Int.reducePow, Int.reduceToNat, Int.reduceMul, Int.reduceAdd, Int.reduceSub, Int.reduceNeg, Int.reduceMod, Int.reduceDiv, Int.reduceGT, Int.reduceGE, Int.reduceNe, not_false_eq_true, not_true_eq_false, forall_eq', exists_eq_left', eq_self, true_and, and_true, dlE0, dlE1]; try simp only [List.cons.injEq, S.val.injEq, PyData.int.injEq, w_ex1, w_ex2, w_ex3, true_and, and_true]))
noncomputable def b_law_primes : ST := (sSeq (sAsg (eLst aNil) (gVar 1)) (sSeq (sAsg (eB rAbsD (apCons (pVar 0) apNil)) (gVal 2)) (sSeq (sAsg (eC (.int 2)) (gVal 3)) (sSeq (sWhile (tV (eOp rLeD (pE (eOp rMulD (pVar 3) (pVar 3))) (pVar 2))) (sIf (tV (eOp rEqD (pE (eOp rModD (pVar 2) (pVar 3))) (pE (eC (.int 0))))) (sSeq (sApp 1 (eVar 3)) (sAsg (eOp rFdivD (pVar 2) (pVar 3)) (gVal 2))) (sAsg (eOp rAddD (pVar 3) (pE (eC (.int 1)))) (gVal 3)))) (sRet (eOp rAddD (pVar 1) (pE (eRepE (eLst (aCons (eVar 2) aNil)) (eB rIntCD (apCons (pE (eOp rGtD (pVar 2) (pE (eC (.int 1))))) apNil))))))))))
/-! law_primes: slots number found rest d -/
def p_law_primes : DSp := fun ds x q => ∃ (n : Int), ds = [.int n] ∧ ((n ≠ 0 ∧ n.natAbs < 2 ^ 40) ∧ ∀ gs : List Int, gs.length ≤ 41 → (∀ f ∈ gs, Pr f) → (∀ p, Pr p → (p ∣ n ↔ p ∈ gs)) → q (.own (gs.map PyData.int)))
theorem len_law_primes : ∀ ds x q, p_law_primes ds x q → ds.length = 1 := by
  rintro ds x q ⟨n, rfl, _⟩
  rfl
theorem w_law_primes {n : Int} {x : XP} {q : S → Prop} : @callK p_law_primes [.int n] x ⟨q⟩ = ((n ≠ 0 ∧ n.natAbs < 2 ^ 40) ∧ ∀ gs : List Int, gs.length ≤ 41 → (∀ f ∈ gs, Pr f) → (∀ p, Pr p → (p ∣ n ↔ p ∈ gs)) → q (.own (gs.map PyData.int))) := propext ⟨fun h => by
  obtain ⟨n', e, h⟩ := h
  simp only [List.cons.injEq, PyData.list.injEq, PyData.tuple.injEq, PyData.int.injEq, PyData.str.injEq, PyData.bool.injEq, ints_inj, parts_inj, and_true, and_assoc] at e
  obtain ⟨rfl⟩ := e
  exact h, fun h => ⟨_, rfl, h⟩⟩
--simp w_law_primes
theorem spec_law_primes : ∀ ds x q, p_law_primes ds x q → bodyD 4 b_law_primes ds x q := by
  rintro ds x q ⟨n, rfl, ⟨n0, zn⟩, h⟩
  unfold b_law_primes
  walk_at "dl"
  refine while_ (fun m δ' => ∃ (fs : List Int) (r k : Int), δ' = [.val (.int n), .own (fs.map PyData.int), .val (.int r), .val (.int k)] ∧ m = (2 * r + 1 - k).toNat ∧ 1 ≤ r ∧ r ≤ n.natAbs ∧ 2 ^ fs.length * r ≤ n.natAbs ∧ 2 ≤ k ∧ k ≤ r + 1 ∧ (∀ d : Int, 2 ≤ d → d < k → ¬ d ∣ r) ∧ (∀ f ∈ fs, Pr f) ∧ ∀ p, Pr p → (p ∣ n ↔ p ∈ fs ∨ p ∣ r)) _ ⟨[], n.natAbs, 2, rfl, rfl, by omega, by omega, by simp only [List.length_nil, Int.pow_zero]; omega, by decide, by omega, fun d h1 h2 => by omega, (fun f hf => nomatch hf), fun p hp => ⟨fun h => .inr (Int.dvd_natAbs.mpr h), fun h => h.elim (fun h => nomatch h) fun h => Int.dvd_natAbs.mp h⟩⟩ fun m δ' w => ?_
  obtain ⟨fs, r, k, rfl, rfl, r1, rn, lf, k2, kr, hno, hfs, hiff⟩ := w
  walk_at "dl"
  have zr : Sz 40 r := Sz.of_le (j := 2 ^ 40 - 1) (by omega) (by decide +kernel)
  have zk : Sz 42 k := Sz.mono (Sz.of_le (j := 2 ^ 40) (by omega) (by decide +kernel) : Sz 41 k) (by decide)
  have lfs : fs.length ≤ 40 := by
    refine Classical.byContradiction fun z => ?_
    have h1 : (2 : Int) ^ 40 ≤ 2 ^ fs.length := by
      have := Nat.pow_le_pow_right (n := 2) (by decide) (show 40 ≤ fs.length by omega)
      exact_mod_cast this
    have h2 : (2 : Int) ^ fs.length * 1 ≤ 2 ^ fs.length * r := Int.mul_le_mul_of_nonneg_left r1 (by omega)
    omega
  refine ⟨by walk_at "sz", ?_⟩
  split
  · rename_i hk
    refine ⟨by omega, ?_⟩
    split
    · rename_i hd
      obtain ⟨v, rfl⟩ := Int.dvd_of_emod_eq_zero hd
      have k0 : k ≠ 0 := by omega
      have pk : Pr k := ⟨k2, fun d h1 h2 h3 => hno d h1 h2 (Int.dvd_trans h3 ⟨v, rfl⟩)⟩
      rw [Int.mul_ediv_cancel_left _ k0]
      have kv : k ≤ v := Int.le_of_mul_le_mul_left hk (by omega)
      have v2 : 2 * v ≤ k * v := Int.mul_le_mul_of_nonneg_right k2 (by omega)
      refine ⟨by rw [List.length_map]; omega, DivOk.of k0 zk (by decide), _, ?_, fs ++ [k], v, k, ⟨by rw [List.map_append]; rfl, rfl, rfl⟩, rfl, by omega, by omega, ?_, k2, by omega, fun d h1 h2 h3 => hno d h1 h2 (Int.dvd_trans h3 ⟨k, Int.mul_comm _ _⟩), fun f hf => ?_, fun p hp => ?_⟩
      · omega
      · rw [List.length_append, List.length_singleton, Int.pow_succ, Int.mul_assoc]
        have := Int.mul_le_mul_of_nonneg_left v2 (show (0 : Int) ≤ 2 ^ fs.length from Int.le_of_lt (Int.pow_pos (by decide)))
        omega
      · rcases List.mem_append.mp hf with hf | hf
        · exact hfs f hf
        · rw [List.mem_singleton.mp hf]; exact pk
      · rw [hiff p hp, List.mem_append, List.mem_singleton]
        constructor
        · rintro (h | h)
          · exact .inl (.inl h)
          · rcases hp.euclid h with z | z
            · exact .inl (.inr (hp.eq pk z))
            · exact .inr z
        · rintro ((h | h) | h)
          · exact .inl h
          · exact .inr (by rw [h]; exact ⟨v, rfl⟩)
          · exact .inr (Int.dvd_mul_of_dvd_right h)
    · rename_i hd
      have kk : 2 * k ≤ k * k := Int.mul_le_mul_of_nonneg_right k2 (by omega)
      refine ⟨_, ?_, fs, r, k + 1, ⟨rfl, rfl, rfl⟩, rfl, r1, rn, lf, by omega, by omega, fun d h1 h2 h3 => ?_, hfs, hiff⟩
      · omega
      · by_cases e : d = k
        · subst e; exact hd (Int.emod_eq_zero_of_dvd h3)
        · exact hno d h1 (by omega) h3
  · rename_i hk
    by_cases r2 : 1 < r
    · have pr : Pr r := pr_of (by omega) (by omega) hno (by omega)
      rw [if_pos r2]
      refine ⟨by decide, by decide, by rw [List.length_map]; show fs.length + 1 ≤ 16777216; omega, ?_⟩
      have := h (fs ++ [r]) (by rw [List.length_append]; show fs.length + 1 ≤ 41; omega) (fun f hf => ?_) fun p hp => ?_
      · rw [List.map_append] at this
        exact this
      · rcases List.mem_append.mp hf with hf | hf
        · exact hfs f hf
        · rw [List.mem_singleton.mp hf]; exact pr
      · rw [hiff p hp, List.mem_append, List.mem_singleton]
        exact ⟨fun h => h.imp_right fun z => hp.eq pr z, fun h => h.imp_right fun z => by rw [z]; exact Int.dvd_refl r⟩
    · have e1 : r = 1 := by omega
      rw [if_neg r2]
      refine ⟨by decide, by decide, by rw [List.length_map]; show fs.length + 0 ≤ 16777216; omega, ?_⟩
      have := h fs (by omega) hfs fun p hp => ?_
      · rw [show (List.replicate (0 : Int).toNat [PyData.int r]).flatten = [] from rfl, List.append_nil]
        exact this
      · rw [hiff p hp, e1]
        exact ⟨fun h => h.resolve_right hp.not_one, .inl⟩

local macro_rules | `(tactic| walk_at "dl") => `(tactic| (simp (maxSteps := 10000000) (disch := omega) only [↓dlD, dlP, List.mem_cons, List.not_mem_nil, or_false, sizeLine_eq, Nat.reduceLeDiff, startD, isNon, Bool.and_true, Bool.and_eq_true, List.all_cons, List.all_nil, List.any_cons, List.any_nil, id_eq, Bool.and_self, Bool.or_false, Bool.or_true, decide_true, decide_false, Option.map_some, Option.some.injEq, List.map, List.length, List.replicate, List.append, List.cons_append, List.nil_append, Nat.sub_self, Nat.reduceSub, Nat.reduceAdd, reduceCtorEq, PyData.int.injEq, decide_eq_true_eq, Bool.not_eq_true', decide_eq_false_iff_not, Bool.not_true, Bool.not_false, if_true, if_false, Bool.false_eq_true, ne_eq, Int.reduceLE, Int.reduceLT, Int.reduceEq, Nat.reduceLT, Int.cast_ofNat_Int, Int.reducePow, Int.reduceToNat, Int.reduceMul, Int.reduceAdd, Int.reduceSub, Int.reduceNeg, Int.reduceMod, Int.reduceDiv, Int.reduceGT, Int.reduceGE, Int.reduceNe, not_false_eq_true, not_true_eq_false, forall_eq', exists_eq_left', eq_self, true_and, and_true, dlE0, dlE1, w_law_primes]; try simp only [List.cons.injEq, S.val.injEq, PyData.int.injEq, w_ex1, w_ex2, w_ex3, true_and, and_true]))
noncomputable def b_law_bad_places : ST := (sSeq (sAsg (eSrtSet (pE (eOp rAddD (pE (eLst (aCons (eC (.int 0)) (aCons (eC (.int 2)) aNil)))) (pE (eCall p_law_primes (aCons (eVar 1) aNil)))))) (gVal 2)) (sRet (eComp (iVal (eVar 2)) [3] (gVal 3) (tV (eCall p_law_bad (aCons (eVar 0) (aCons (eVar 3) aNil)))) (eVar 3))))
/-! law_bad_places: slots triple_here number places place -/
theorem nodup_len : ∀ {l m : List Int}, l.Nodup → (∀ x ∈ l, x ∈ m) → l.length ≤ m.length
  | [], _, _, _ => Nat.zero_le _
  | x :: l, m, nd, h => by
    have hx := h x List.mem_cons_self
    obtain ⟨n1, n2⟩ := List.nodup_cons.mp nd
    have ih := nodup_len (l := l) (m := m.erase x) n2 fun y hy => (List.mem_erase_of_ne fun e => n1 (by rw [← e]; exact hy)).mpr (h y (List.mem_cons_of_mem _ hy))
    rw [List.length_erase_of_mem hx] at ih
    have := List.length_pos_of_mem hx
    rw [List.length_cons]
    omega
def p_law_bad_places : DSp := fun ds x q => ∃ (a b c n : Int), ds = [.list [.int a, .int b, .int c], .int n] ∧ ((Pln a b c ∧ (a.natAbs ≤ 720000 ∧ b.natAbs ≤ 720000 ∧ c.natAbs ≤ 2400000000)) ∧ (n ≠ 0 ∧ n.natAbs ≤ 1000000000) ∧ (∀ p, BadP a b c p → p = 0 ∨ p = 2 ∨ p ∣ n) ∧ (∀ l : List Int, (∀ p, p ∈ l ↔ BadP a b c p) → l.Pairwise (· < ·) → q (.own (l.map PyData.int))))
theorem len_law_bad_places : ∀ ds x q, p_law_bad_places ds x q → ds.length = 2 := by
  rintro ds x q ⟨a, b, c, n, rfl, _⟩
  rfl
theorem w_law_bad_places {a b c n : Int} {x : XP} {q : S → Prop} : @callK p_law_bad_places [.list [.int a, .int b, .int c], .int n] x ⟨q⟩ = ((Pln a b c ∧ (a.natAbs ≤ 720000 ∧ b.natAbs ≤ 720000 ∧ c.natAbs ≤ 2400000000)) ∧ (n ≠ 0 ∧ n.natAbs ≤ 1000000000) ∧ (∀ p, BadP a b c p → p = 0 ∨ p = 2 ∨ p ∣ n) ∧ (∀ l : List Int, (∀ p, p ∈ l ↔ BadP a b c p) → l.Pairwise (· < ·) → q (.own (l.map PyData.int)))) := propext ⟨fun h => by
  obtain ⟨a', b', c', n', e, h⟩ := h
  simp only [List.cons.injEq, PyData.list.injEq, PyData.tuple.injEq, PyData.int.injEq, PyData.str.injEq, PyData.bool.injEq, ints_inj, parts_inj, and_true, and_assoc] at e
  obtain ⟨rfl, rfl, rfl, rfl⟩ := e
  exact h, fun h => ⟨_, _, _, _, rfl, h⟩⟩
--simp w_law_bad_places
theorem spec_law_bad_places : ∀ ds x q, p_law_bad_places ds x q → bodyD 4 b_law_bad_places ds x q := by
  rintro ds x q ⟨a, b, c, n, rfl, ⟨pl, la, lb, lc⟩, ⟨n0, hn⟩, hbp, h⟩
  unfold b_law_bad_places
  walk_at "dl"
  refine ⟨⟨n0, by omega⟩, fun gs lg hgs hg => ?_⟩
  refine ⟨by rw [List.length_map]; omega, by omega, fun ms up hm => ?_⟩
  have zA : Sz 40 a := Sz.mono (Sz.of_le (j := 720000) (by omega) (by decide +kernel) : Sz 20 a) (by decide)
  have zB : Sz 40 b := Sz.mono (Sz.of_le (j := 720000) (by omega) (by decide +kernel) : Sz 20 b) (by decide)
  have zC : Sz 40 c := Sz.mono (Sz.of_le (j := 2400000000) (by omega) (by decide +kernel) : Sz 32 c) (by decide)
  have ml : ms.length ≤ 43 := by
    have nd : ms.Nodup := up.imp fun h => Int.ne_of_lt h
    have := nodup_len nd (m := 0 :: 2 :: gs) fun x hx => by simpa using (hm x).mp hx
    simp only [List.length_cons] at this
    omega
  have kind : ∀ p ∈ ms, (p = 0 ∨ p = 2 ∨ (Pr p ∧ 2 < p)) ∧ 0 ≤ p ∧ p ≤ 1000000000 := fun p hp => by
    rcases (hm p).mp hp with rfl | rfl | k
    · exact ⟨.inl rfl, by decide, by decide⟩
    · exact ⟨.inr (.inl rfl), by decide, by decide⟩
    · have hpp := hgs p k
      have h2 := hpp.two
      have d := (hg p hpp).mpr k
      have := natAbs_le_of_dvd d n0
      refine ⟨?_, by omega, by omega⟩
      by_cases e : p = 2
      · exact .inr (.inl e)
      · exact .inr (.inr ⟨hpp, by omega⟩)
  refine comp_maps (as := ms) (en := PyData.int) (fun p => @decide (BadP a b c p) (Classical.propDecidable _)) PyData.int (by omega) (fun p hp => ?_) ?_
  · obtain ⟨k, p0, p9⟩ := kind p hp
    have zp : Sz 40 p := Sz.mono (Sz.of_le (j := 1000000000) (by omega) (by decide +kernel) : Sz 30 p) (by decide)
    walk_at "dl"
    exact ⟨pl, ⟨zA, zB, zC, zp, by omega⟩, k, fun k => k, fun k => k⟩
  walk_at "dl"
  refine h (ms.filter fun p => @decide (BadP a b c p) (Classical.propDecidable _)) (fun p => ?_) (up.filter _)
  rw [List.mem_filter, hm, @decide_eq_true_iff _ (Classical.propDecidable _)]
  refine ⟨fun k => k.2, fun k => ⟨?_, k⟩⟩
  rcases hbp p k with z | z | z
  · exact .inl z
  · exact .inr (.inl z)
  · by_cases p0 : p = 0
    · exact .inl p0
    by_cases p2 : p = 2
    · exact .inr (.inl p2)
    have hp : Pr p := by
      rcases k with ⟨q, _⟩ | ⟨q, _⟩ | ⟨q, _, _⟩
      · exact absurd q p0
      · exact absurd q p2
      · exact q
    exact .inr (.inr ((hg p hp).mp z))

local macro_rules | `(tactic| walk_at "dl") => `(tactic| (simp (maxSteps := 10000000) (disch := omega) only [↓dlD, dlP, List.mem_cons, List.not_mem_nil, or_false, sizeLine_eq, Nat.reduceLeDiff, startD, isNon, Bool.and_true, Bool.and_eq_true, List.all_cons, List.all_nil, List.any_cons, List.any_nil, id_eq, Bool.and_self, Bool.or_false, Bool.or_true, decide_true, decide_false, Option.map_some, Option.some.injEq, List.map, List.length, List.replicate, List.append, List.cons_append, List.nil_append, Nat.sub_self, Nat.reduceSub, Nat.reduceAdd, reduceCtorEq, PyData.int.injEq, decide_eq_true_eq, Bool.not_eq_true', decide_eq_false_iff_not, Bool.not_true, Bool.not_false, if_true, if_false, Bool.false_eq_true, ne_eq, Int.reduceLE, Int.reduceLT, Int.reduceEq, Nat.reduceLT, Int.cast_ofNat_Int, Int.reducePow, Int.reduceToNat, Int.reduceMul, Int.reduceAdd, Int.reduceSub, Int.reduceNeg, Int.reduceMod, Int.reduceDiv, Int.reduceGT, Int.reduceGE, Int.reduceNe, not_false_eq_true, not_true_eq_false, forall_eq', exists_eq_left', eq_self, true_and, and_true, dlE0, dlE1, w_law_primes, w_law_bad_places]; try simp only [List.cons.injEq, S.val.injEq, PyData.int.injEq, w_ex1, w_ex2, w_ex3, true_and, and_true]))
noncomputable def b_law_whole : ST := (sRet (eAnd (eIsi "int" (pVar 0)) (eNot (eIsi "bool" (pVar 0)))))
/-! law_whole: slots found -/
def p_law_whole : DSp := fun ds x q => ∃ (i : Int), ds = [.int i] ∧ (q (.val (.bool true)))
theorem len_law_whole : ∀ ds x q, p_law_whole ds x q → ds.length = 1 := by
  rintro ds x q ⟨i, rfl, _⟩
  rfl
theorem w_law_whole {i : Int} {x : XP} {q : S → Prop} : @callK p_law_whole [.int i] x ⟨q⟩ = (q (.val (.bool true))) := propext ⟨fun h => by
  obtain ⟨i', e, h⟩ := h
  simp only [List.cons.injEq, PyData.list.injEq, PyData.tuple.injEq, PyData.int.injEq, PyData.str.injEq, PyData.bool.injEq, ints_inj, parts_inj, and_true, and_assoc] at e
  obtain ⟨rfl⟩ := e
  exact h, fun h => ⟨_, rfl, h⟩⟩
--simp w_law_whole
theorem spec_law_whole : ∀ ds x q, p_law_whole ds x q → bodyD 1 b_law_whole ds x q := by
  rintro ds x q ⟨i, rfl, h⟩
  unfold b_law_whole
  walk_at "dl"
  exact h

local macro_rules | `(tactic| walk_at "dl") => `(tactic| (simp (maxSteps := 10000000) (disch := omega) only [↓dlD, dlP, List.mem_cons, List.not_mem_nil, or_false, sizeLine_eq, Nat.reduceLeDiff, startD, isNon, Bool.and_true, Bool.and_eq_true, List.all_cons, List.all_nil, List.any_cons, List.any_nil, id_eq, Bool.and_self, Bool.or_false, Bool.or_true, decide_true, decide_false, Option.map_some, Option.some.injEq, List.map, List.length, List.replicate, List.append, List.cons_append, List.nil_append, Nat.sub_self, Nat.reduceSub, Nat.reduceAdd, reduceCtorEq, PyData.int.injEq, decide_eq_true_eq, Bool.not_eq_true', decide_eq_false_iff_not, Bool.not_true, Bool.not_false, if_true, if_false, Bool.false_eq_true, ne_eq, Int.reduceLE, Int.reduceLT, Int.reduceEq, Nat.reduceLT, Int.cast_ofNat_Int, Int.reducePow, Int.reduceToNat, Int.reduceMul, Int.reduceAdd, Int.reduceSub, Int.reduceNeg, Int.reduceMod, Int.reduceDiv, Int.reduceGT, Int.reduceGE, Int.reduceNe, not_false_eq_true, not_true_eq_false, forall_eq', exists_eq_left', eq_self, true_and, and_true, dlE0, dlE1, w_law_primes, w_law_bad_places, w_law_whole]; try simp only [List.cons.injEq, S.val.injEq, PyData.int.injEq, w_ex1, w_ex2, w_ex3, true_and, and_true]))
noncomputable def b_law_wholes : ST := (sSeq (sIf (tOr (tNot (tV (eIsi "tuple" (pVar 0)))) (tV (eOp rNeD (pE (eB rLenD (apCons (pVar 0) apNil))) (pVar 1)))) (sRet (eC (.bool false))) sNext) (sRet (eB rAllD (apCons (pE (eComp (iVal (eVar 0)) [2] (gVal 2) tYesD (eCall p_law_whole (aCons (eVar 2) aNil)))) apNil))))
/-! law_wholes: slots found many one -/
def p_law_wholes : DSp := fun ds x q => ∃ (es : List D) (m : Int), ds = [.tuple es, .int m] ∧ (optK (nums es) fun xs => xs.length ≤ 1000000 ∧ (xs.length : Int) = m ∧ q (.val (.bool true)))
theorem len_law_wholes : ∀ ds x q, p_law_wholes ds x q → ds.length = 2 := by
  rintro ds x q ⟨es, m, rfl, _⟩
  rfl
theorem w_law_wholes {es : List D} {m : Int} {x : XP} {q : S → Prop} : @callK p_law_wholes [.tuple es, .int m] x ⟨q⟩ = (optK (nums es) fun xs => xs.length ≤ 1000000 ∧ (xs.length : Int) = m ∧ q (.val (.bool true))) := propext ⟨fun h => by
  obtain ⟨es', m', e, h⟩ := h
  simp only [List.cons.injEq, PyData.list.injEq, PyData.tuple.injEq, PyData.int.injEq, PyData.str.injEq, PyData.bool.injEq, ints_inj, parts_inj, and_true, and_assoc] at e
  obtain ⟨rfl, rfl⟩ := e
  exact h, fun h => ⟨_, _, rfl, h⟩⟩
--simp w_law_wholes
theorem spec_law_wholes : ∀ ds x q, p_law_wholes ds x q → bodyD 3 b_law_wholes ds x q := by
  rintro ds x q ⟨es, m, rfl, h0⟩
  unfold b_law_wholes
  obtain ⟨xs, rfl, hl, hm, h⟩ := optK_nums h0
  walk_at "dl"
  rw [List.length_map, if_neg (by simp [hm])]
  refine comp_all (fun _ => .bool true) hl (fun x _ => by walk_at "dl") ?_
  walk_at "dl"
  rw [w_bools (f := fun _ => true)]
  walk_at "dl"
  have : (xs.map fun _ => true).all id = true := by simp
  rw [this]
  exact h

local macro_rules | `(tactic| walk_at "dl") => `(tactic| (simp (maxSteps := 10000000) (disch := omega) only [↓dlD, dlP, List.mem_cons, List.not_mem_nil, or_false, sizeLine_eq, Nat.reduceLeDiff, startD, isNon, Bool.and_true, Bool.and_eq_true, List.all_cons, List.all_nil, List.any_cons, List.any_nil, id_eq, Bool.and_self, Bool.or_false, Bool.or_true, decide_true, decide_false, Option.map_some, Option.some.injEq, List.map, List.length, List.replicate, List.append, List.cons_append, List.nil_append, Nat.sub_self, Nat.reduceSub, Nat.reduceAdd, reduceCtorEq, PyData.int.injEq, decide_eq_true_eq, Bool.not_eq_true', decide_eq_false_iff_not, Bool.not_true, Bool.not_false, if_true, if_false, Bool.false_eq_true, ne_eq, Int.reduceLE, Int.reduceLT, Int.reduceEq, Nat.reduceLT, Int.cast_ofNat_Int, Int.reducePow, Int.reduceToNat, Int.reduceMul, Int.reduceAdd, Int.reduceSub, Int.reduceNeg, Int.reduceMod, Int.reduceDiv, Int.reduceGT, Int.reduceGE, Int.reduceNe, not_false_eq_true, not_true_eq_false, forall_eq', exists_eq_left', eq_self, true_and, and_true, dlE0, dlE1, w_law_primes, w_law_bad_places, w_law_whole, w_law_wholes]; try simp only [List.cons.injEq, S.val.injEq, PyData.int.injEq, w_ex1, w_ex2, w_ex3, true_and, and_true]))
noncomputable def b_law_shared : ST := (sSeq (sAsg (eC (.int 0)) (gVal 1)) (sSeq (sFor (iVal (eVar 0)) (gVal 2) (sSeq (sAsg (eB rAbsD (apCons (pVar 2) apNil)) (gVal 3)) (sWhile (tV (eOp rNeD (pVar 3) (pE (eC (.int 0))))) (sPar 1 3 (aCons (eVar 3) (aCons (eOp rModD (pVar 1) (pVar 3)) aNil)))))) (sRet (eVar 1))))
/-! law_shared: slots numbers found number other -/
def p_law_shared : DSp
  | [.list es], _, q => optK (nums es) fun xs => q (.val (.int (gcdL xs)))
  | [.tuple es], _, q => optK (nums es) fun xs => q (.val (.int (gcdL xs)))
  | _, _, _ => False
theorem len_law_shared : ∀ ds x q, p_law_shared ds x q → ds.length = 1 := by
  intro ds x q h; unfold p_law_shared at h; split at h; rfl; rfl; exact h.elim
theorem w_law_shared {es : List D} {x : XP} {q : S → Prop} : @callK p_law_shared [.list es] x ⟨q⟩ = optK (nums es) fun xs => q (.val (.int (gcdL xs))) := rfl
theorem w_law_shared2 {es : List D} {x : XP} {q : S → Prop} : @callK p_law_shared [.tuple es] x ⟨q⟩ = optK (nums es) fun xs => q (.val (.int (gcdL xs))) := rfl
--simp w_law_shared w_law_shared2
theorem shared_loop {d : D} {xs : List Int} {D : DL.Ends} (h : D.nx [.val d, .val (.int (gcdL xs)), .no, .no] ∨ ∀ s2 s3, D.nx [.val d, .val (.int (gcdL xs)), s2, s3]) (hall : ∀ s2 s3, D.nx [.val d, .val (.int (gcdL xs)), s2, s3]) :
    @forK (gVal 2) (sSeq (sAsg (eB rAbsD (apCons (pVar 2) apNil)) (gVal 3)) (sWhile (tV (eOp rNeD (pVar 3) (pE (eC (.int 0))))) (sPar 1 3 (aCons (eVar 3) (aCons (eOp rModD (pVar 1) (pVar 3)) aNil))))) [.val d, .val (.int 0), .no, .no] (xs.map PyData.int) ⟨D⟩ := by
  refine for_maps (fun l _ δ' => ∃ s2 s3, δ' = [.val d, .val (.int (gcdL l)), s2, s3]) ⟨_, _, rfl⟩ (fun l a r δ' _ w => ?_) fun δ' w => ?_
  · obtain ⟨s2, s3, rfl⟩ := w
    walk_at "dl"
    have hg0 : 0 ≤ gcdL l := Int.natCast_nonneg _
    refine while_ (fun m δ' => ∃ f r : Int, δ' = [.val d, .val (.int f), .val (.int a), .val (.int r)] ∧ m = r.toNat ∧ 0 ≤ f ∧ 0 ≤ r ∧ Int.gcd f r = gcdL (l ++ [a])) a.natAbs ⟨_, _, rfl, by omega, hg0, by omega, ?_⟩ fun m δ' w => ?_
    · unfold gcdL
      rw [List.foldl_append]
      simp [Int.gcd]
    obtain ⟨f, r, rfl, rfl, hf, hr, e⟩ := w
    walk_at "dl"
    split
    · rename_i c
      refine ⟨by simpa using c, ?_⟩
      have hr' : 0 < r := by
        have : ¬ r = 0 := by simpa using c
        omega
      have h1 := Int.emod_nonneg f (show r ≠ 0 by omega)
      have h2 := Int.emod_lt_of_pos f hr'
      refine ⟨_, by omega, _, _, ⟨rfl, rfl⟩, rfl, hr, h1, ?_⟩
      rw [← e, Int.gcd_comm r]
      have : Int.gcd (f % r) r = Int.gcd f r := by rw [Int.emod_def]; exact Int.gcd_sub_mul_left_left r f (f / r)
      rw [this]
    · rename_i c
      have hr0 : r = 0 := by simpa using c
      subst hr0
      rw [← e, Int.gcd_zero_right]
      omega
  · obtain ⟨s2, s3, rfl⟩ := w
    exact hall s2 s3
theorem spec_law_shared : ∀ ds x q, p_law_shared ds x q → bodyD 4 b_law_shared ds x q := by
  intro ds x q h
  unfold p_law_shared at h
  split at h
  · obtain ⟨xs, rfl, h'⟩ := optK_nums h
    unfold b_law_shared
    walk_at "dl"
    have z : ∀ s2 s3, sRet (eVar 1) { nx := fun x => q (S.val PyData.none), rt := q, ex := fun e x_1 => x e } [.val (.list (xs.map PyData.int)), .val (.int (gcdL xs)), s2, s3] := fun s2 s3 => by walk_at "dl"; exact h'
    exact shared_loop (.inr z) z
  · obtain ⟨xs, rfl, h'⟩ := optK_nums h
    unfold b_law_shared
    walk_at "dl"
    have z : ∀ s2 s3, sRet (eVar 1) { nx := fun x => q (S.val PyData.none), rt := q, ex := fun e x_1 => x e } [.val (.tuple (xs.map PyData.int)), .val (.int (gcdL xs)), s2, s3] := fun s2 s3 => by walk_at "dl"; exact h'
    exact shared_loop (.inr z) z
  · exact h.elim

local macro_rules | `(tactic| walk_at "dl") => `(tactic| (simp (maxSteps := 10000000) (disch := omega) only [↓dlD, dlP, List.mem_cons, List.not_mem_nil, or_false, sizeLine_eq, Nat.reduceLeDiff, startD, isNon, Bool.and_true, Bool.and_eq_true, List.all_cons, List.all_nil, List.any_cons, List.any_nil, id_eq, Bool.and_self, Bool.or_false, Bool.or_true, decide_true, decide_false, Option.map_some, Option.some.injEq, List.map, List.length, List.replicate, List.append, List.cons_append, List.nil_append, Nat.sub_self, Nat.reduceSub, Nat.reduceAdd, reduceCtorEq, PyData.int.injEq, decide_eq_true_eq, Bool.not_eq_true', decide_eq_false_iff_not, Bool.not_true, Bool.not_false, if_true, if_false, Bool.false_eq_true, ne_eq, Int.reduceLE, Int.reduceLT, Int.reduceEq, Nat.reduceLT, Int.cast_ofNat_Int, Int.reducePow, Int.reduceToNat, Int.reduceMul, Int.reduceAdd, Int.reduceSub, Int.reduceNeg, Int.reduceMod, Int.reduceDiv, Int.reduceGT, Int.reduceGE, Int.reduceNe, not_false_eq_true, not_true_eq_false, forall_eq', exists_eq_left', eq_self, true_and, and_true, dlE0, dlE1, w_law_primes, w_law_bad_places, w_law_whole, w_law_wholes, w_law_shared, w_law_shared2]; try simp only [List.cons.injEq, S.val.injEq, PyData.int.injEq, w_ex1, w_ex2, w_ex3, true_and, and_true]))
noncomputable def b_law_is_lowest : ST := (sSeq (sIf (tOr (tNot (tV (eCall p_law_wholes (aCons (eVar 0) (aCons (eC (.int 3)) aNil))))) (tV (eOp rNeD (pE (eCall p_law_shared (aCons (eVar 0) aNil))) (pE (eC (.int 1)))))) (sRet (eC (.bool false))) sNext) (sRet (eOp rGtD (pE (eOp rIxD (pE (eComp (iVal (eVar 0)) [1] (gVal 1) (tV (eOp rNeD (pVar 1) (pE (eC (.int 0))))) (eVar 1))) (pE (eC (.int 0))))) (pE (eC (.int 0))))))
/-! law_is_lowest: slots point number -/
theorem nz_at {xs : List Int} {ys : List D} {l : List Int} {a : Int} (h : nz xs = a :: l) : atI ((xs.filter fun x => decide (¬ x = 0)).map PyData.int) 0 = some (.int a) := by
  have : xs.filter (fun x => decide (¬ x = 0)) = a :: l := h
  rw [this]
  exact atI_0 _ _
def p_law_is_lowest : DSp := fun ds x q => ∃ (a b c : Int), ds = [.tuple [.int a, .int b, .int c]] ∧ (Low [a, b, c] ∧ q (.val (.bool true)))
theorem len_law_is_lowest : ∀ ds x q, p_law_is_lowest ds x q → ds.length = 1 := by
  rintro ds x q ⟨a, b, c, rfl, _⟩
  rfl
theorem w_law_is_lowest {a b c : Int} {x : XP} {q : S → Prop} : @callK p_law_is_lowest [.tuple [.int a, .int b, .int c]] x ⟨q⟩ = (Low [a, b, c] ∧ q (.val (.bool true))) := propext ⟨fun h => by
  obtain ⟨a', b', c', e, h⟩ := h
  simp only [List.cons.injEq, PyData.list.injEq, PyData.tuple.injEq, PyData.int.injEq, PyData.str.injEq, PyData.bool.injEq, ints_inj, parts_inj, and_true, and_assoc] at e
  obtain ⟨rfl, rfl, rfl⟩ := e
  exact h, fun h => ⟨_, _, _, rfl, h⟩⟩
--simp w_law_is_lowest
theorem spec_law_is_lowest : ∀ ds x q, p_law_is_lowest ds x q → bodyD 2 b_law_is_lowest ds x q := by
  rintro ds x q ⟨a, b, c, rfl, hw, h⟩
  unfold b_law_is_lowest
  walk_at "dl"
  rw [if_neg (by simp [hw.g])]
  refine comp_maps (as := [a, b, c]) (en := PyData.int) (fun x => decide (¬ x = 0)) PyData.int (by show 3 ≤ 1000000; decide) (fun x _ => ?_) ?_
  · walk_at "dl"
    split <;> simp_all
  obtain ⟨d, l, e, _, _⟩ := nz_some (xs := [a, b, c]) (by
    refine Classical.byContradiction fun z => ?_
    have hf := hw.f
    have : nz [a, b, c] = [] := by
      unfold nz
      rw [List.filter_eq_nil_iff]
      intro x hx
      have := fun h => z ⟨x, hx, h⟩
      simp at this ⊢
      exact this
    unfold fst0 at hf
    rw [this] at hf
    exact absurd hf (by decide))
  walk_at "dl"
  rw [nz_at (ys := []) e]
  walk_at "dl"
  have hf := hw.f
  unfold fst0 at hf
  rw [e] at hf
  rw [decide_eq_true (show 0 < d from hf)]
  exact h

local macro_rules | `(tactic| walk_at "dl") => `(tactic| (simp (maxSteps := 10000000) (disch := omega) only [↓dlD, dlP, List.mem_cons, List.not_mem_nil, or_false, sizeLine_eq, Nat.reduceLeDiff, startD, isNon, Bool.and_true, Bool.and_eq_true, List.all_cons, List.all_nil, List.any_cons, List.any_nil, id_eq, Bool.and_self, Bool.or_false, Bool.or_true, decide_true, decide_false, Option.map_some, Option.some.injEq, List.map, List.length, List.replicate, List.append, List.cons_append, List.nil_append, Nat.sub_self, Nat.reduceSub, Nat.reduceAdd, reduceCtorEq, PyData.int.injEq, decide_eq_true_eq, Bool.not_eq_true', decide_eq_false_iff_not, Bool.not_true, Bool.not_false, if_true, if_false, Bool.false_eq_true, ne_eq, Int.reduceLE, Int.reduceLT, Int.reduceEq, Nat.reduceLT, Int.cast_ofNat_Int, Int.reducePow, Int.reduceToNat, Int.reduceMul, Int.reduceAdd, Int.reduceSub, Int.reduceNeg, Int.reduceMod, Int.reduceDiv, Int.reduceGT, Int.reduceGE, Int.reduceNe, not_false_eq_true, not_true_eq_false, forall_eq', exists_eq_left', eq_self, true_and, and_true, dlE0, dlE1, w_law_primes, w_law_bad_places, w_law_whole, w_law_wholes, w_law_shared, w_law_shared2, w_law_is_lowest]; try simp only [List.cons.injEq, S.val.injEq, PyData.int.injEq, w_ex1, w_ex2, w_ex3, true_and, and_true]))
noncomputable def b_law_small : ST := (sSeq (sIf (tNot (tV (eCall p_law_is_lowest (aCons (eVar 1) aNil)))) (sRet (eC (.bool false))) sNext) (sSeq (sIf (tV (eOp rNeD (pE (eB rSumD (apCons (pE (eComp (iRng1 (aCons (eC (.int 3)) aNil)) [4] (gVal 4) tYesD (eOp rMulD (pE (eOp rMulD (pE (eOp rIxD (pVar 0) (pVar 4))) (pE (eOp rIxD (pVar 1) (pVar 4))))) (pE (eOp rIxD (pVar 1) (pVar 4)))))) apNil))) (pE (eC (.int 0))))) (sRet (eC (.bool false))) sNext) (sSeq (sAsg (eComp (iVal (eVar 1)) [5] (gVal 5) tYesD (eOp rMulD (pVar 5) (pVar 5))) (gVal 2)) (sSeq (sAsg (eComp (iRng1 (aCons (eC (.int 3)) aNil)) [4] (gVal 4) tYesD (eB rAbsD (apCons (pE (eOp rMulD (pE (eOp rIxD (pVar 0) (pE (eOp rSubD (pVar 4) (pE (eC (.int 1))))))) (pE (eOp rIxD (pVar 0) (pE (eOp rSubD (pVar 4) (pE (eC (.int 2))))))))) apNil))) (gVal 3)) (sRet (eB rAllD (apCons (pE (eComp (iRng1 (aCons (eC (.int 3)) aNil)) [4] (gVal 4) tYesD (eOp rLeD (pE (eOp rIxD (pVar 2) (pVar 4))) (pE (eOp rIxD (pVar 3) (pVar 4)))))) apNil)))))))
/-! law_small: slots triple_here point squares products k number -/
def p_law_small : DSp := fun ds x q => ∃ (a b c u v w : Int), ds = [.list [.int a, .int b, .int c], .tuple [.int u, .int v, .int w]] ∧ ((a.natAbs ≤ 1000 ∧ b.natAbs ≤ 1000 ∧ c.natAbs ≤ 1000) ∧ Low [u, v, w] ∧ Sml a b c u v w ∧ q (.val (.bool true)))
theorem len_law_small : ∀ ds x q, p_law_small ds x q → ds.length = 2 := by
  rintro ds x q ⟨a, b, c, u, v, w, rfl, _⟩
  rfl
theorem w_law_small {a b c u v w : Int} {x : XP} {q : S → Prop} : @callK p_law_small [.list [.int a, .int b, .int c], .tuple [.int u, .int v, .int w]] x ⟨q⟩ = ((a.natAbs ≤ 1000 ∧ b.natAbs ≤ 1000 ∧ c.natAbs ≤ 1000) ∧ Low [u, v, w] ∧ Sml a b c u v w ∧ q (.val (.bool true))) := propext ⟨fun h => by
  obtain ⟨a', b', c', u', v', w', e, h⟩ := h
  simp only [List.cons.injEq, PyData.list.injEq, PyData.tuple.injEq, PyData.int.injEq, PyData.str.injEq, PyData.bool.injEq, ints_inj, parts_inj, and_true, and_assoc] at e
  obtain ⟨rfl, rfl, rfl, rfl, rfl, rfl⟩ := e
  exact h, fun h => ⟨_, _, _, _, _, _, rfl, h⟩⟩
--simp w_law_small
theorem spec_law_small : ∀ ds x q, p_law_small ds x q → bodyD 6 b_law_small ds x q := by
  rintro ds x q ⟨a, b, c, u, v, w, rfl, ⟨la, lb, lc⟩, hL, hs, h⟩
  unfold b_law_small
  walk_at "dl"
  have zn : ∀ {n : Int}, n.natAbs ≤ 1000 → Sz 20 n := fun h => Sz.mono (Sz.of_le (j := 1000) (by omega) (by decide +kernel) : Sz 10 _) (by decide)
  obtain ⟨hn, e, h1, h2, h3⟩ := id hs
  have bd : ∀ {t m n : Int}, m.natAbs ≤ 1000 → n.natAbs ≤ 1000 → t * t ≤ (m * n).natAbs → t.natAbs ≤ 1000 := fun {t m n} l1 l2 h => by
    have k1 := Nat.mul_le_mul l1 l2
    rw [← Int.natAbs_mul] at k1
    refine Classical.byContradiction fun n => ?_
    have k3 := Nat.mul_le_mul (show 1001 ≤ t.natAbs by omega) (show 1001 ≤ t.natAbs by omega)
    have k4 := sq_abs t
    have k5 : ((t.natAbs * t.natAbs : Nat) : Int) = t * t := by rw [Int.natCast_mul]; exact k4
    omega
  have zu := zn (bd lb lc h1)
  have zv := zn (bd lc la h2)
  have zw := zn (bd la lb h3)
  have za := zn la
  have zb := zn lb
  have zc := zn lc
  have im : ∀ {m n : Int}, Sz 20 m → Sz 20 n → IntMulOk m n ∧ Sz 41 (m * n) := fun {m n} h k => ⟨IntMulOk.of_le h k (by decide), by walk_at "sz"⟩
  have im2 : ∀ {m n : Int}, Sz 41 m → Sz 20 n → IntMulOk m n := fun {m n} h k => IntMulOk.of_le h k (by decide)
  refine ⟨hL, comp_lit [.int (a * u * u), .int (b * v * v), .int (c * w * w)] (by show 3 ≤ 1000000; decide) ?_ ?_⟩
  · walk_at "dl"
    exact ⟨⟨(im za zu).1, im2 (im za zu).2 zu⟩, ⟨(im zb zv).1, im2 (im zb zv).2 zv⟩, (im zc zw).1, im2 (im zc zw).2 zw⟩
  walk_at "dl"
  have e : a * u * u + b * v * v + c * w * w = 0 := by rw [Int.mul_assoc, Int.mul_assoc, Int.mul_assoc]; exact e
  rw [if_neg (by simp only [List.sum_cons, List.sum_nil]; omega)]
  refine comp_lit [.int (u * u), .int (v * v), .int (w * w)] (by show 3 ≤ 1000000; decide) ?_ ?_
  · walk_at "dl"
    exact ⟨(im zu zu).1, (im zv zv).1, (im zw zw).1⟩
  walk_at "dl"
  refine comp_lit [.int ((c * b).natAbs : Int), .int ((a * c).natAbs : Int), .int ((b * a).natAbs : Int)] (by show 3 ≤ 1000000; decide) ?_ ?_
  · walk_at "dl"
    exact ⟨(im zc zb).1, (im za zc).1, (im zb za).1⟩
  walk_at "dl"
  refine comp_lit [.bool true, .bool true, .bool true] (by show 3 ≤ 1000000; decide) ?_ ?_
  · walk_at "dl"
    rw [Int.mul_comm c b, Int.mul_comm a c, Int.mul_comm b a, decide_eq_true h1, decide_eq_true h2, decide_eq_true h3]
    exact ⟨rfl, rfl, rfl⟩
  walk_at "dl"
  exact h

def dlE2 := And.intro @w_law_primes (And.intro @w_law_bad_places (And.intro @w_law_whole (And.intro @w_law_wholes (And.intro @w_law_shared (And.intro @w_law_shared2 (And.intro @w_law_is_lowest (@w_law_small)))))))
local macro_rules | `(tactic| walk_at "dl") => `(tactic| (simp (maxSteps := 10000000) (disch := omega) only [↓dlD, dlP, List.mem_cons, List.not_mem_nil, or_false, sizeLine_eq, Nat.reduceLeDiff, startD, isNon, Bool.and_true, Bool.and_eq_true, List.all_cons, List.all_nil, List.any_cons, List.any_nil, id_eq, Bool.and_self, Bool.or_false, Bool.or_true, decide_true, decide_false, Option.map_some, Option.some.injEq, List.map, List.length, List.replicate, List.append, List.cons_append, List.nil_append, Nat.sub_self, Nat.reduceSub, Nat.reduceAdd, reduceCtorEq, PyData.int.injEq, decide_eq_true_eq, Bool.not_eq_true', decide_eq_false_iff_not, Bool.not_true, Bool.not_false, if_true, if_false, Bool.false_eq_true, ne_eq, Int.reduceLE, Int.reduceLT, Int.reduceEq, Nat.reduceLT, Int.cast_ofNat_Int, Int.reducePow, Int.reduceToNat, Int.reduceMul, Int.reduceAdd, Int.reduceSub, Int.reduceNeg, Int.reduceMod, Int.reduceDiv, Int.reduceGT, Int.reduceGE, Int.reduceNe, not_false_eq_true, not_true_eq_false, forall_eq', exists_eq_left', eq_self, true_and, and_true, dlE0, dlE1, dlE2]; try simp only [List.cons.injEq, S.val.injEq, PyData.int.injEq, w_ex1, w_ex2, w_ex3, true_and, and_true]))
noncomputable def b_shares_of : ST := (sSeq (sAsg (eTup (aCons (eVar 0) (aCons (eC (.int 1)) (aCons (eC (.int 0)) aNil)))) (gVal 2)) (sSeq (sAsg (eTup (aCons (eVar 1) (aCons (eC (.int 0)) (aCons (eC (.int 1)) aNil)))) (gVal 3)) (sSeq (sWhile (tV (eOp rNeD (pE (eOp rIxD (pVar 3) (pE (eC (.int 0))))) (pE (eC (.int 0))))) (sSeq (sAsg (eOp rFdivD (pE (eOp rIxD (pVar 2) (pE (eC (.int 0))))) (pE (eOp rIxD (pVar 3) (pE (eC (.int 0)))))) (gVal 4)) (sSeq (sAsg (eB rTupleD (apCons (pE (eComp (iRng1 (aCons (eC (.int 3)) aNil)) [6] (gVal 6) tYesD (eOp rSubD (pE (eOp rIxD (pVar 2) (pVar 6))) (pE (eOp rMulD (pVar 4) (pE (eOp rIxD (pVar 3) (pVar 6)))))))) apNil)) (gVal 5)) (sSeq (sAsg (eVar 3) (gVal 2)) (sAsg (eVar 5) (gVal 3)))))) (sSeq (sIf (tV (eOp rLtD (pE (eOp rIxD (pVar 2) (pE (eC (.int 0))))) (pE (eC (.int 0))))) (sRet (eTup (aCons (eOp rSubD (pE (eC (.int 0))) (pE (eOp rIxD (pVar 2) (pE (eC (.int 0)))))) (aCons (eOp rSubD (pE (eC (.int 0))) (pE (eOp rIxD (pVar 2) (pE (eC (.int 1)))))) (aCons (eOp rSubD (pE (eC (.int 0))) (pE (eOp rIxD (pVar 2) (pE (eC (.int 2)))))) aNil))))) sNext) (sRet (eVar 2))))))
/-! shares_of: slots one other here there often rest k -/
/-! the shares of two numbers: the loop's numbers and how large they grow -/
structure Grown (a b r0 s0 t0 r1 s1 t1 : Int) (C : Nat) : Prop where
  sg : 0 < r0 ∧ 0 ≤ r1 ∧ r1 < r0 ∨ r0 < 0 ∧ r1 ≤ 0 ∧ r0 < r1
  r0b : r0.natAbs ≤ b.natAbs
  M : ∃ M : Nat, s0.natAbs ≤ M ∧ t0.natAbs ≤ M ∧ s1.natAbs ≤ M ∧ t1.natAbs ≤ M ∧ M * (r0.natAbs * r1.natAbs) ≤ C ∧ M ≤ (b.natAbs + 1) * C
theorem grown_first {a b : Int} (hb : b ≠ 0) : Grown a b b 0 1 (a - a.fdiv b * b) (1 - a.fdiv b * 0) (0 - a.fdiv b * 1) ((a.natAbs + 1) * (b.natAbs * b.natAbs)) := by
  have e : a - a.fdiv b * b = a.fmod b := by rw [Int.fmod_def, Int.mul_comm]
  rw [e]
  have hq := natAbs_fdiv_le a b
  have hs : 0 < b ∧ 0 ≤ a.fmod b ∧ a.fmod b < b ∨ b < 0 ∧ a.fmod b ≤ 0 ∧ b < a.fmod b := by
    rcases Int.lt_trichotomy b 0 with h | h | h
    · refine .inr ⟨h, ?_, ?_⟩
      · have := Int.fmod_nonneg_of_pos (-a) (show 0 < -b by omega)
        rw [Int.neg_fmod_neg] at this
        omega
      · have := Int.fmod_lt_of_pos (-a) (show 0 < -b by omega)
        rw [Int.neg_fmod_neg] at this
        omega
    · exact absurd h hb
    · exact .inl ⟨h, Int.fmod_nonneg_of_pos a h, Int.fmod_lt_of_pos a h⟩
  refine ⟨hs, Nat.le_refl _, a.natAbs + 1, by simp, by simp, by simp, by simp only [Int.mul_one, Int.zero_sub, Int.natAbs_neg]; omega, ?_, ?_⟩
  · exact Nat.mul_le_mul_left _ (Nat.mul_le_mul_left _ (by omega))
  · have h1 : 0 < b.natAbs := by omega
    have h2 : 1 ≤ b.natAbs * b.natAbs := Nat.mul_pos h1 h1
    calc a.natAbs + 1 = (a.natAbs + 1) * 1 := (Nat.mul_one _).symm
      _ ≤ (a.natAbs + 1) * (b.natAbs * b.natAbs) := Nat.mul_le_mul_left _ h2
      _ = 1 * ((a.natAbs + 1) * (b.natAbs * b.natAbs)) := (Nat.one_mul _).symm
      _ ≤ _ := Nat.mul_le_mul_right _ (by omega)

theorem grown_step {a b r0 s0 t0 r1 s1 t1 : Int} {C : Nat} (g : Grown a b r0 s0 t0 r1 s1 t1 C) (h : r1 ≠ 0) :
    Grown a b r1 s1 t1 (r0 - r0.fdiv r1 * r1) (s0 - r0.fdiv r1 * s1) (t0 - r0.fdiv r1 * t1) C := by
  obtain ⟨sg, rb, M, h1, h2, h3, h4, h5, h6⟩ := g
  have e : r0 - r0.fdiv r1 * r1 = r0.fmod r1 := by rw [Int.fmod_def, Int.mul_comm]
  have e2 : r0.fdiv r1 * r1 + r0.fmod r1 = r0 := Int.fdiv_mul_add_fmod r0 r1
  rw [e]
  generalize hq : r0.fdiv r1 = q at *
  generalize hr : r0.fmod r1 = r2 at *
  have hs : 0 < r1 ∧ 0 ≤ r2 ∧ r2 < r1 ∨ r1 < 0 ∧ r2 ≤ 0 ∧ r1 < r2 := by
    rcases Int.lt_trichotomy r1 0 with z | z | z
    · refine .inr ⟨z, ?_, ?_⟩
      · have := Int.fmod_nonneg_of_pos (-r0) (show 0 < -r1 by omega)
        rw [Int.neg_fmod_neg, hr] at this
        omega
      · have := Int.fmod_lt_of_pos (-r0) (show 0 < -r1 by omega)
        rw [Int.neg_fmod_neg, hr] at this
        omega
    · exact absurd z h
    · exact .inl ⟨z, by rw [← hr]; exact Int.fmod_nonneg_of_pos r0 z, by rw [← hr]; exact Int.fmod_lt_of_pos r0 z⟩
  have hq0 : 0 ≤ q := by
    rw [← hq]
    rcases sg with z | z
    · exact Int.fdiv_nonneg (by omega) (by omega)
    · exact Int.fdiv_nonneg_of_nonpos_of_nonpos (by omega) (by omega)
  -- in naturals
  have n0 : r0.natAbs = q.natAbs * r1.natAbs + r2.natAbs := by
    have x : r0 = q * r1 + r2 := e2.symm
    rcases hs with ⟨y1, y2, y3⟩ | ⟨y1, y2, y3⟩
    · have : 0 ≤ q * r1 := Int.mul_nonneg hq0 (by omega)
      rw [← Int.natAbs_mul]
      omega
    · have : q * r1 ≤ 0 := Int.mul_nonpos_of_nonneg_of_nonpos hq0 (by omega)
      rw [← Int.natAbs_mul]
      omega
  have lt : r2.natAbs < r1.natAbs := by omega
  have lt0 : r1.natAbs < r0.natAbs := by omega
  have b1 : ∀ x y : Int, x.natAbs ≤ M → y.natAbs ≤ M → (x - q * y).natAbs ≤ (q.natAbs + 1) * M := fun x y hx hy => by
    have k1 : (x - q * y).natAbs ≤ x.natAbs + (q * y).natAbs := Int.natAbs_sub_le x (q * y)
    have k2 : q.natAbs * y.natAbs ≤ q.natAbs * M := Nat.mul_le_mul_left _ hy
    rw [Int.natAbs_mul] at k1
    rw [Nat.add_mul, Nat.one_mul]
    omega
  have hr1 : 1 ≤ r1.natAbs := by omega
  have hr0 : 1 ≤ r0.natAbs := by omega
  have MC : M ≤ C := by
    have : M * 1 ≤ M * (r0.natAbs * r1.natAbs) := Nat.mul_le_mul_left _ (Nat.mul_le_mul hr0 hr1)
    omega
  have qb : q.natAbs ≤ b.natAbs := by
    have : q.natAbs * 1 ≤ q.natAbs * r1.natAbs := Nat.mul_le_mul_left _ hr1
    omega
  refine ⟨hs, by omega, (q.natAbs + 1) * M, ?_, ?_, b1 _ _ h1 h3, b1 _ _ h2 h4, ?_, ?_⟩
  · have : 1 * M ≤ (q.natAbs + 1) * M := Nat.mul_le_mul_right _ (by omega)
    omega
  · have : 1 * M ≤ (q.natAbs + 1) * M := Nat.mul_le_mul_right _ (by omega)
    omega
  · have k : (q.natAbs + 1) * r2.natAbs ≤ r0.natAbs := by
      rw [n0, Nat.add_mul, Nat.one_mul]
      have : q.natAbs * r2.natAbs ≤ q.natAbs * r1.natAbs := Nat.mul_le_mul_left _ (by omega)
      omega
    calc (q.natAbs + 1) * M * (r1.natAbs * r2.natAbs) = M * (((q.natAbs + 1) * r2.natAbs) * r1.natAbs) := by
          rw [Nat.mul_comm r1.natAbs, Nat.mul_comm (q.natAbs + 1) M, Nat.mul_assoc, Nat.mul_assoc (q.natAbs + 1)]
      _ ≤ M * (r0.natAbs * r1.natAbs) := Nat.mul_le_mul_left _ (Nat.mul_le_mul_right _ k)
      _ ≤ C := h5
  · exact Nat.mul_le_mul (by omega) MC
/-- the loop's numbers -/
structure Share (a b r0 s0 t0 r1 s1 t1 : Int) : Prop where
  e0 : s0 * a + t0 * b = r0
  e1 : s1 * a + t1 * b = r1
  dv : ∀ d : Int, (d ∣ r0 ∧ d ∣ r1) ↔ (d ∣ a ∧ d ∣ b)
  gr : (r0 = a ∧ s0 = 1 ∧ t0 = 0 ∧ r1 = b ∧ s1 = 0 ∧ t1 = 1) ∨ Grown a b r0 s0 t0 r1 s1 t1 ((a.natAbs + 1) * (b.natAbs * b.natAbs))
theorem share_start (a b : Int) : Share a b a 1 0 b 0 1 := ⟨by omega, by omega, fun _ => Iff.rfl, .inl ⟨rfl, rfl, rfl, rfl, rfl, rfl⟩⟩
theorem share_step {a b r0 s0 t0 r1 s1 t1 : Int} (g : Share a b r0 s0 t0 r1 s1 t1) (h : r1 ≠ 0) :
    Share a b r1 s1 t1 (r0 - r0.fdiv r1 * r1) (s0 - r0.fdiv r1 * s1) (t0 - r0.fdiv r1 * t1) ∧ (r0 - r0.fdiv r1 * r1).natAbs < r1.natAbs := by
  obtain ⟨e0, e1, dv, gr⟩ := g
  have gr2 : Grown a b r1 s1 t1 (r0 - r0.fdiv r1 * r1) (s0 - r0.fdiv r1 * s1) (t0 - r0.fdiv r1 * t1) ((a.natAbs + 1) * (b.natAbs * b.natAbs)) := by
    rcases gr with ⟨rfl, rfl, rfl, rfl, rfl, rfl⟩ | gr
    · exact grown_first h
    · exact grown_step gr h
  refine ⟨⟨e1, ?_, fun d => ?_, .inr gr2⟩, ?_⟩
  · rw [← e0]
    generalize r0.fdiv r1 = q
    grind
  · rw [← dv d]
    generalize r0.fdiv r1 = q
    constructor
    · rintro ⟨h1, h2⟩
      refine ⟨?_, h1⟩
      have : r0 = (r0 - q * r1) + q * r1 := by omega
      rw [this]
      exact Int.dvd_add h2 (Int.dvd_mul_of_dvd_right h1)
    · rintro ⟨h1, h2⟩
      exact ⟨h2, Int.dvd_sub h1 (Int.dvd_mul_of_dvd_right h2)⟩
  · have := gr2.sg
    omega
theorem share_sz {a b r0 s0 t0 r1 s1 t1 : Int} (g : Share a b r0 s0 t0 r1 s1 t1) {n : Nat} (ha : Sz n a) (hb : Sz n b) :
    (Sz n r0 ∧ Sz n r1) ∧ Sz (4 * n + 2) s0 ∧ Sz (4 * n + 2) t0 ∧ Sz (4 * n + 2) s1 ∧ Sz (4 * n + 2) t1 := by
  have ha' := intBits_le_iff.mp ha
  have hb' := intBits_le_iff.mp hb
  rcases g.gr with ⟨rfl, rfl, rfl, rfl, rfl, rfl⟩ | ⟨sg, rb, M, h1, h2, h3, h4, h5, h6⟩
  · have one : Sz (4 * n + 2) 1 := by show (1 : Nat) ≤ 4 * n + 2; omega
    have zero : Sz (4 * n + 2) 0 := Nat.zero_le _
    exact ⟨⟨ha, hb⟩, one, zero, zero, one⟩
  · have p : 0 < 2 ^ n := Nat.two_pow_pos n
    have hM : M < 2 ^ (4 * n + 2) := by
      have k1 : (b.natAbs + 1) * ((a.natAbs + 1) * (b.natAbs * b.natAbs)) ≤ 2 ^ n * (2 ^ n * (2 ^ n * 2 ^ n)) :=
        Nat.mul_le_mul hb' (Nat.mul_le_mul ha' (Nat.mul_le_mul (Nat.le_of_lt hb') (Nat.le_of_lt hb')))
      rw [← Nat.pow_add, ← Nat.pow_add, ← Nat.pow_add] at k1
      refine Nat.lt_of_le_of_lt (Nat.le_trans h6 k1) (Nat.pow_lt_pow_right (by decide) (by omega))
    exact ⟨⟨intBits_le_iff.mpr (by omega), intBits_le_iff.mpr (by omega)⟩, intBits_le_iff.mpr (by omega), intBits_le_iff.mpr (by omega), intBits_le_iff.mpr (by omega), intBits_le_iff.mpr (by omega)⟩
/-- the greatest number that divides both -/
theorem gcd_of_share {a b r0 s0 t0 s1 t1 : Int} (g : Share a b r0 s0 t0 0 s1 t1) : (Int.gcd a b : Int) = r0.natAbs := by
  have h1 := (g.dv r0).mp ⟨Int.dvd_refl r0, Int.dvd_zero r0⟩
  have h2 : r0.natAbs ∣ Int.gcd a b := Nat.dvd_gcd (Int.natAbs_dvd_natAbs.mpr h1.1) (Int.natAbs_dvd_natAbs.mpr h1.2)
  have h3 : (Int.gcd a b : Int) ∣ r0 := by
    rw [← g.e0]
    exact Int.dvd_add (Int.dvd_mul_of_dvd_right (Int.gcd_dvd_left ..)) (Int.dvd_mul_of_dvd_right (Int.gcd_dvd_right ..))
  have h4 : Int.gcd a b ∣ r0.natAbs := by
    have := Int.natAbs_dvd_natAbs.mpr h3
    simpa using this
  exact congrArg _ (Nat.dvd_antisymm h4 h2)
def p_shares_of : DSp
  | [.int a, .int b], _, q => ∃ n, n ≤ 9000 ∧ Sz n a ∧ Sz n b ∧ ∀ s t : Int, s * a + t * b = Int.gcd a b → Sz (4 * n + 2) s → Sz (4 * n + 2) t → q (.val (.tuple [.int (Int.gcd a b), .int s, .int t]))
  | _, _, _ => False
theorem len_shares_of : ∀ ds x q, p_shares_of ds x q → ds.length = 2 := by
  intro ds x q h; unfold p_shares_of at h; split at h; rfl; exact h.elim
theorem spec_shares_of : ∀ ds x q, p_shares_of ds x q → bodyD 7 b_shares_of ds x q := by
  intro ds x q h
  unfold p_shares_of at h
  split at h
  · rename_i a b
    obtain ⟨n, hn, ha, hb, h⟩ := h
    unfold b_shares_of
    walk_at "dl"
    refine while_ (fun m δ => ∃ r0 s0 t0 r1 s1 t1 o r, δ = [.val (.int a), .val (.int b), .val (.tuple [.int r0, .int s0, .int t0]), .val (.tuple [.int r1, .int s1, .int t1]), o, r, .no] ∧ Share a b r0 s0 t0 r1 s1 t1 ∧ m = r1.natAbs) b.natAbs
      ⟨a, 1, 0, b, 0, 1, .no, .no, rfl, share_start a b, rfl⟩ fun m δ w => ?_
    obtain ⟨r0, s0, t0, r1, s1, t1, o, r, rfl, g, rfl⟩ := w
    walk_at "dl"
    obtain ⟨⟨z0, z1⟩, z2, z3, z4, z5⟩ := share_sz g ha hb
    have zq : Sz n (r0.fdiv r1) := intBits_fdiv_le z0
    split
    · rename_i hr
      obtain ⟨g2, lt⟩ := share_step g hr
      refine ⟨DivOk.of hr z1 hn, ?_⟩
      refine comp_lit [.int (r0 - r0.fdiv r1 * r1), .int (s0 - r0.fdiv r1 * s1), .int (t0 - r0.fdiv r1 * t1)] (by show 3 ≤ 1000000; decide) ?_ ?_
      · walk_at "dl"
        exact ⟨IntMulOk.of_le zq z1 (by omega), IntMulOk.of_le zq z4 (by omega), IntMulOk.of_le zq z5 (by omega)⟩
      · walk_at "dl"
        exact ⟨_, lt, _, _, _, _, _, _, _, _, ⟨rfl, rfl, rfl, rfl⟩, g2, rfl⟩
    · rename_i hr
      have hr : r1 = 0 := by omega
      subst hr
      have e := gcd_of_share g
      split
      · rename_i hneg
        have e1 : (0 - r0 : Int) = Int.gcd a b := by rw [e]; omega
        rw [e1]
        refine h _ _ ?_ ?_ ?_
        · rw [← e1, ← g.e0]; grind
        · rw [Int.zero_sub]; exact intBits_neg_le z2
        · rw [Int.zero_sub]; exact intBits_neg_le z3
      · rename_i hneg
        have e1 : r0 = Int.gcd a b := by rw [e]; omega
        rw [e1]
        exact h _ _ (by rw [← e1]; exact g.e0) z2 z3
  · exact h.elim
theorem w_shares_of {a b : Int} {x : XP} {q : S → Prop} : @callK p_shares_of [.int a, .int b] x ⟨q⟩ = (∃ n, n ≤ 9000 ∧ Sz n a ∧ Sz n b ∧ ∀ s t : Int, s * a + t * b = Int.gcd a b → Sz (4 * n + 2) s → Sz (4 * n + 2) t → q (.val (.tuple [.int (Int.gcd a b), .int s, .int t]))) := rfl
--simp w_shares_of

local macro_rules | `(tactic| walk_at "dl") => `(tactic| (simp (maxSteps := 10000000) (disch := omega) only [↓dlD, dlP, List.mem_cons, List.not_mem_nil, or_false, sizeLine_eq, Nat.reduceLeDiff, startD, isNon, Bool.and_true, Bool.and_eq_true, List.all_cons, List.all_nil, List.any_cons, List.any_nil, id_eq, Bool.and_self, Bool.or_false, Bool.or_true, decide_true, decide_false, Option.map_some, Option.some.injEq, List.map, List.length, List.replicate, List.append, List.cons_append, List.nil_append, Nat.sub_self, Nat.reduceSub, Nat.reduceAdd, reduceCtorEq, PyData.int.injEq, decide_eq_true_eq, Bool.not_eq_true', decide_eq_false_iff_not, Bool.not_true, Bool.not_false, if_true, if_false, Bool.false_eq_true, ne_eq, Int.reduceLE, Int.reduceLT, Int.reduceEq, Nat.reduceLT, Int.cast_ofNat_Int, Int.reducePow, Int.reduceToNat, Int.reduceMul, Int.reduceAdd, Int.reduceSub, Int.reduceNeg, Int.reduceMod, Int.reduceDiv, Int.reduceGT, Int.reduceGE, Int.reduceNe, not_false_eq_true, not_true_eq_false, forall_eq', exists_eq_left', eq_self, true_and, and_true, dlE0, dlE1, dlE2, w_shares_of]; try simp only [List.cons.injEq, S.val.injEq, PyData.int.injEq, w_ex1, w_ex2, w_ex3, true_and, and_true]))
noncomputable def b_prime_parts : ST := (sSeq (sIf (tV (eOp rLtD (pVar 0) (pE (eC (.int 1))))) (sRaise "NoNumber") sNext) (sSeq (sAsg (eLst aNil) (gVar 1)) (sSeq (sAsg (eVar 0) (gVal 2)) (sSeq (sAsg (eC (.int 2)) (gVal 3)) (sSeq (sWhile (tV (eOp rLeD (pE (eOp rMulD (pVar 3) (pVar 3))) (pVar 2))) (sSeq (sAsg (eC (.int 0)) (gVal 4)) (sSeq (sWhile (tV (eOp rEqD (pE (eOp rModD (pVar 2) (pVar 3))) (pE (eC (.int 0))))) (sSeq (sAsg (eOp rFdivD (pVar 2) (pVar 3)) (gVal 2)) (sAsg (eOp rAddD (pVar 4) (pE (eC (.int 1)))) (gVal 4)))) (sCut (sIf (tV (eOp rGtD (pVar 4) (pE (eC (.int 0))))) (sApp 1 (eTup (aCons (eVar 3) (aCons (eVar 4) aNil)))) sNext) (sAsg (eOp rAddD (pVar 3) (pE (eC (.int 1)))) (gVal 3)))))) (sCut (sIf (tV (eOp rGtD (pVar 2) (pE (eC (.int 1))))) (sApp 1 (eTup (aCons (eVar 2) (aCons (eC (.int 1)) aNil)))) sNext) (sRetOwn 1)))))))
/-! prime_parts: slots number found rest prime often -/
theorem Parts.len {l : List Part} (h : Parts l) : (2 : Int) ^ l.length ≤ prodL l := by
  have : ∀ l : List Part, (∀ x ∈ l, Pr x.1 ∧ 1 ≤ x.2) → (2 : Int) ^ l.length ≤ prodL l := by
    intro l
    induction l with
    | nil => intro _; decide
    | cons x l ih =>
      intro h
      obtain ⟨p, e⟩ := x
      have ih := ih fun y hy => h y (List.mem_cons_of_mem _ hy)
      obtain ⟨hp, he⟩ := h (p, e) List.mem_cons_self
      have he : 1 ≤ e := he
      have hp : Pr p := hp
      have h2 : 2 ≤ p ^ e.toNat := by
        have d := pow_dvd_pow (p := p) (show 1 ≤ e.toNat by omega)
        have := Int.le_of_dvd (pow_pos' hp.pos _) d
        rw [Int.pow_succ, Int.pow_zero, Int.one_mul] at this
        have := hp.two
        omega
      have h3 := pow_pos' (show (0 : Int) < 2 by decide) l.length
      show (2 : Int) ^ (l.length + 1) ≤ p ^ e.toNat * prodL l
      rw [Int.pow_succ, Int.mul_comm]
      exact Int.mul_le_mul h2 ih (by omega) (by omega)
  exact this l h.pr
theorem Parts.short {l : List Part} {n : Int} {k : Nat} (h : Parts l) (hn : prodL l ≤ n) (hz : Sz k n) : l.length ≤ k := by
  have h1 := h.len
  have h2 : n.natAbs < 2 ^ k := intBits_le_iff.mp hz
  have e : (2 : Int) ^ l.length = ((2 ^ l.length : Nat) : Int) := by rw [Int.natCast_pow]; rfl
  rw [e] at h1
  have h3 : 2 ^ l.length < 2 ^ k := by omega
  exact Nat.le_of_lt ((Nat.pow_lt_pow_iff_right (by decide)).mp h3)
theorem Parts.snoc {l : List Part} (h : Parts l) {p e : Int} (hp : Pr p) (he : 1 ≤ e) (hl : ∀ x ∈ l, x.1 < p) : Parts (l ++ [(p, e)]) :=
  ⟨fun x hx => by
    rcases List.mem_append.mp hx with z | z
    · exact h.pr x z
    · rw [List.mem_singleton.mp z]; exact ⟨hp, he⟩, List.pairwise_append.mpr ⟨h.up, List.pairwise_singleton .., fun x hx y hy => by rw [List.mem_singleton.mp hy]; exact hl x hx⟩⟩
theorem prodL_snoc (l : List Part) (p e : Int) : prodL (l ++ [(p, e)]) = prodL l * p ^ e.toNat := by
  rw [prodL_append]
  show prodL l * (p ^ e.toNat * 1) = _
  rw [Int.mul_one]
theorem le_of_prod {a b n : Int} (ha : 1 ≤ a) (hb : 1 ≤ b) (h : a * b = n) : a ≤ n ∧ b ≤ n := by
  have h1 : a * 1 ≤ a * b := Int.mul_le_mul_of_nonneg_left hb (by omega)
  have h2 : 1 * b ≤ a * b := Int.mul_le_mul_of_nonneg_right ha (by omega)
  omega
def p_prime_parts : DSp := fun ds x q => ∃ (n : Int), ds = [.int n] ∧ (Sz 9000 n ∧ (n < 1 → x ⟨"NoNumber", none⟩) ∧ (1 ≤ n → ∀ l, PP n l → q (.own (l.map encP))))
theorem len_prime_parts : ∀ ds x q, p_prime_parts ds x q → ds.length = 1 := by
  rintro ds x q ⟨n, rfl, _⟩
  rfl
theorem w_prime_parts {n : Int} {x : XP} {q : S → Prop} : @callK p_prime_parts [.int n] x ⟨q⟩ = (Sz 9000 n ∧ (n < 1 → x ⟨"NoNumber", none⟩) ∧ (1 ≤ n → ∀ l, PP n l → q (.own (l.map encP)))) := propext ⟨fun h => by
  obtain ⟨n', e, h⟩ := h
  simp only [List.cons.injEq, PyData.list.injEq, PyData.tuple.injEq, PyData.int.injEq, PyData.str.injEq, PyData.bool.injEq, ints_inj, parts_inj, and_true, and_assoc] at e
  obtain ⟨rfl⟩ := e
  exact h, fun h => ⟨_, rfl, h⟩⟩
--simp w_prime_parts
theorem spec_prime_parts : ∀ ds x q, p_prime_parts ds x q → bodyD 5 b_prime_parts ds x q := by
  rintro ds x q ⟨n, rfl, hz, hx, hq⟩
  unfold b_prime_parts
  walk_at "dl"
  split
  · rename_i c
    exact hx c
  rename_i c
  have hn : 1 ≤ n := by omega
  have hq := hq hn
  clear hx
  have zn : ∀ i : Int, 0 ≤ i → i ≤ n + 2 → Sz 9002 i := fun i h1 h2 => Sz.of_le (j := n + 2) (by omega) (by walk_at "sz")
  refine while_ (fun m δ' => ∃ (l : List Part) (r p : Int) (s4 : S), δ' = [.val (.int n), .own (l.map encP), .val (.int r), .val (.int p), s4] ∧ m = (r + 1 - p).toNat ∧ (2 ≤ p ∧ p ≤ n + 2) ∧ 1 ≤ r ∧ prodL l * r = n ∧ Parts l ∧ (∀ x ∈ l, x.1 < p) ∧ (∀ d, 2 ≤ d → d < p → ¬ d ∣ r)) (n + 1 - 2).toNat
    ⟨[], n, 2, .no, rfl, rfl, ⟨by decide, by omega⟩, hn, Int.one_mul n, ⟨(fun _ h => nomatch h), List.Pairwise.nil⟩, (fun _ h => nomatch h), fun d h1 h2 => by omega⟩ fun m δ' w => ?_
  obtain ⟨l, r, p, s4, rfl, rfl, ⟨hp, hpn⟩, hr, he, hP, hl, hs⟩ := w
  have hl1 : 1 ≤ prodL l := hP.pos
  have hlr := le_of_prod hl1 hr he
  have zp := zn p (by omega) hpn
  have len : l.length ≤ 9000 := hP.short hlr.1 hz
  walk_at "dl"
  refine ⟨by walk_at "sz", ?_⟩
  split
  · rename_i c
    refine while_ (fun m' δ' => ∃ r' e : Int, δ' = [.val (.int n), .own (l.map encP), .val (.int r'), .val (.int p), .val (.int e)] ∧ m' = r'.toNat ∧ 1 ≤ r' ∧ 0 ≤ e ∧ p ^ e.toNat * r' = r) r.toNat ⟨r, 0, rfl, rfl, hr, by decide, by show p ^ 0 * r = r; rw [Int.pow_zero, Int.one_mul]⟩ fun m' δ' w => ?_
    obtain ⟨r', e, rfl, rfl, hr', he0, her⟩ := w
    have hpe : 1 ≤ p ^ e.toNat := pow_pos' (by omega) _
    have hr2 := le_of_prod hpe hr' her
    walk_at "dl"
    refine ⟨by omega, ?_⟩
    split
    · rename_i d
      have d : r' % p = 0 := by simpa using d
      obtain ⟨k, hk⟩ := Int.dvd_of_emod_eq_zero d
      have e1 : r' / p = k := by rw [hk]; exact Int.mul_ediv_cancel_left k (by omega)
      have k1 : 1 ≤ k := by
        rcases Int.lt_or_le k 1 with z | z
        · have : p * k ≤ p * 0 := Int.mul_le_mul_of_nonneg_left (by omega) (by omega)
          omega
        · exact z
      have k2 : 2 * k ≤ p * k := Int.mul_le_mul_of_nonneg_right hp (by omega)
      have pk : p * 1 ≤ p * k := Int.mul_le_mul_of_nonneg_left k1 (by omega)
      refine ⟨DivOk.of (by omega) (Sz.of_le (j := n) (by omega) hz) (by decide), ?_⟩
      rw [e1]
      refine ⟨_, by omega, k, e + 1, ⟨rfl, rfl⟩, rfl, k1, by omega, ?_⟩
      have : (e + 1).toNat = e.toNat + 1 := by omega
      rw [this, Int.pow_succ, ← her, hk]
      grind
    · rename_i d
      have d : ¬ p ∣ r' := fun z => d (by simpa using Int.emod_eq_zero_of_dvd z)
      have hs' : ∀ d, 2 ≤ d → d < p + 1 → ¬ d ∣ r' := fun y h1 h2 h3 => by
        rcases Int.lt_or_le y p with z | z
        · exact hs y h1 z (Int.dvd_trans h3 ⟨p ^ e.toNat, by rw [← her, Int.mul_comm]⟩)
        · exact d (by rw [show p = y by omega]; exact h3)
      have hpr : 0 < e → Pr p := fun z => ⟨hp, fun y h1 h2 h3 => hs y h1 h2 (Int.dvd_trans h3 (by
        rw [← her]
        refine Int.dvd_trans ?_ (Int.dvd_mul_right ..)
        have := pow_dvd_pow (p := p) (show 1 ≤ e.toNat by omega)
        rw [Int.pow_succ, Int.pow_zero, Int.one_mul] at this
        exact this))⟩
      refine cut_ (fun δ' => ∃ l' : List Part, δ' = [.val (.int n), .own (l'.map encP), .val (.int r'), .val (.int p), .val (.int e)] ∧ prodL l' * r' = n ∧ Parts l' ∧ ∀ x ∈ l', x.1 < p + 1) ?_ fun δ' w => ?_
      · walk_at "dl"
        split
        · rename_i z
          refine ⟨by rw [List.length_map]; omega, ?_⟩
          refine ⟨l ++ [(p, e)], by rw [List.map_append]; rfl, by rw [prodL_snoc, ← he, ← her]; grind, hP.snoc (hpr z) (by omega) hl, fun x hx => ?_⟩
          rcases List.mem_append.mp hx with y | y
          · have := hl x y; omega
          · rw [List.mem_singleton.mp y]; show p < p + 1; omega
        · rename_i z
          have : e = 0 := by omega
          subst this
          have her : p ^ 0 * r' = r := her
          have : r' = r := by rw [← her, Int.pow_zero, Int.one_mul]
          exact ⟨l, rfl, by rw [this]; exact he, hP, fun x hx => by have := hl x hx; omega⟩
      · obtain ⟨l', rfl, h1, h2, h3⟩ := w
        walk_at "dl"
        have sq : p * 2 ≤ p * p := Int.mul_le_mul_of_nonneg_left hp (by omega)
        exact ⟨_, by omega, l', r', p + 1, _, ⟨rfl, rfl, rfl, rfl⟩, rfl, ⟨by omega, by omega⟩, hr', h1, h2, h3, hs'⟩
  · rename_i c
    refine cut_ (fun δ' => ∃ l' : List Part, PP n l' ∧ δ' = [.val (.int n), .own (l'.map encP), .val (.int r), .val (.int p), s4]) ?_ fun δ' w => ?_
    · walk_at "dl"
      split
      · rename_i z
        refine ⟨by rw [List.length_map]; omega, ?_⟩
        have hpr : Pr r := pr_of (by omega) (by omega) hs (by omega)
        have hlt : ∀ x ∈ l, x.1 < r := fun x hx => by
          have := hl x hx
          rcases Int.lt_or_le r p with y | y
          · exact absurd (Int.dvd_refl r) (hs r (by omega) y)
          · omega
        exact ⟨l ++ [(r, 1)], ⟨hP.snoc hpr (by decide) hlt, by rw [prodL_snoc, ← he]; show prodL l * r ^ 1 = _; rw [Int.pow_succ, Int.pow_zero, Int.one_mul]⟩, by rw [List.map_append]; rfl⟩
      · rename_i z
        have : r = 1 := by omega
        exact ⟨l, ⟨hP, by rw [← he, this, Int.mul_one]⟩, rfl⟩
    · obtain ⟨l', hPP, rfl⟩ := w
      walk_at "dl"
      exact hq l' hPP

local macro_rules | `(tactic| walk_at "dl") => `(tactic| (simp (maxSteps := 10000000) (disch := omega) only [↓dlD, dlP, List.mem_cons, List.not_mem_nil, or_false, sizeLine_eq, Nat.reduceLeDiff, startD, isNon, Bool.and_true, Bool.and_eq_true, List.all_cons, List.all_nil, List.any_cons, List.any_nil, id_eq, Bool.and_self, Bool.or_false, Bool.or_true, decide_true, decide_false, Option.map_some, Option.some.injEq, List.map, List.length, List.replicate, List.append, List.cons_append, List.nil_append, Nat.sub_self, Nat.reduceSub, Nat.reduceAdd, reduceCtorEq, PyData.int.injEq, decide_eq_true_eq, Bool.not_eq_true', decide_eq_false_iff_not, Bool.not_true, Bool.not_false, if_true, if_false, Bool.false_eq_true, ne_eq, Int.reduceLE, Int.reduceLT, Int.reduceEq, Nat.reduceLT, Int.cast_ofNat_Int, Int.reducePow, Int.reduceToNat, Int.reduceMul, Int.reduceAdd, Int.reduceSub, Int.reduceNeg, Int.reduceMod, Int.reduceDiv, Int.reduceGT, Int.reduceGE, Int.reduceNe, not_false_eq_true, not_true_eq_false, forall_eq', exists_eq_left', eq_self, true_and, and_true, dlE0, dlE1, dlE2, w_shares_of, w_prime_parts]; try simp only [List.cons.injEq, S.val.injEq, PyData.int.injEq, w_ex1, w_ex2, w_ex3, true_and, and_true]))
noncomputable def b_core_of : ST := (sSeq (sIf (tV (eOp rEqD (pVar 0) (pE (eC (.int 0))))) (sRaise "NoNumber") sNext) (sSeq (sAsg (eC (.int 1)) (gVal 1)) (sCut (sIf (tV (eOp rLtD (pVar 0) (pE (eC (.int 0))))) (sAsg (eOp rSubD (pE (eC (.int 0))) (pE (eC (.int 1)))) (gVal 1)) sNext) (sSeq (sAsg (eC (.int 1)) (gVal 2)) (sSeq (sFor (iVal (eCall p_prime_parts (aCons (eB rAbsD (apCons (pVar 0) apNil)) aNil))) (gTup 2 (gCons (gVal 3) (gCons (gVal 4) gNil))) (sSeq (sFor (iRng1 (aCons (eOp rFdivD (pVar 4) (pE (eC (.int 2)))) aNil)) (gVal 5) (sAsg (eOp rMulD (pVar 2) (pVar 3)) (gVal 2))) (sIf (tV (eOp rEqD (pE (eOp rModD (pVar 4) (pE (eC (.int 2))))) (pE (eC (.int 1))))) (sAsg (eOp rMulD (pVar 1) (pVar 3)) (gVal 1)) sNext))) (sRet (eTup (aCons (eVar 1) (aCons (eVar 2) aNil)))))))))
/-! core_of: slots number core root prime often k -/
/-- what of the parts may be multiplied, stays below the number -/
theorem part_dvd {done : List Part} {p e : Int} {rest : List Part} (h : ∀ x ∈ done ++ (p, e) :: rest, Pr x.1 ∧ 1 ≤ x.2) {i : Nat} (hi : (i : Int) ≤ e / 2) : rootL done * p ^ i ∣ prodL (done ++ (p, e) :: rest) := by
  rw [prodL_append]
  have hd := core_root (l := done) fun x hx => h x (List.mem_append_left _ hx)
  have h1 : rootL done ∣ prodL done := ⟨coreL done * rootL done, by rw [hd]; grind⟩
  refine Int.mul_dvd_mul h1 (Int.dvd_trans (pow_dvd_pow (show i ≤ e.toNat by omega)) (Int.dvd_mul_right ..))
theorem core_part {done : List Part} {x : Part} {rest : List Part} (h : ∀ y ∈ done ++ x :: rest, Pr y.1 ∧ 1 ≤ y.2) : coreL done ∣ prodL (done ++ x :: rest) := by
  rw [prodL_append]
  have hd := core_root (l := done) fun y hy => h y (List.mem_append_left _ hy)
  exact Int.dvd_trans ⟨rootL done * rootL done, by rw [hd]; grind⟩ (Int.dvd_mul_right ..)
theorem coreL_append : ∀ (l r : List Part), coreL (l ++ r) = coreL l * coreL r
  | [], r => (Int.one_mul _).symm
  | (p, e) :: l, r => by
    show (if e % 2 = 1 then p * coreL (l ++ r) else coreL (l ++ r)) = (if e % 2 = 1 then p * coreL l else coreL l) * coreL r
    rw [coreL_append l r]
    split
    · rw [Int.mul_assoc]
    · rfl
theorem rootL_append : ∀ (l r : List Part), rootL (l ++ r) = rootL l * rootL r
  | [], r => (Int.one_mul _).symm
  | (p, e) :: l, r => by
    show p ^ (e / 2).toNat * rootL (l ++ r) = p ^ (e / 2).toNat * rootL l * rootL r
    rw [rootL_append l r, Int.mul_assoc]
theorem coreL_snoc (l : List Part) (p e : Int) : coreL (l ++ [(p, e)]) = if e % 2 = 1 then coreL l * p else coreL l := by
  rw [coreL_append]
  show coreL l * (if e % 2 = 1 then p * 1 else 1) = _
  split <;> rw [Int.mul_one]
theorem w_abs' {n : Int} : (if n < 0 then -n else n) = (n.natAbs : Int) := by split <;> omega
def p_core_of : DSp := fun ds x q => ∃ (n : Int), ds = [.int n] ∧ (Sz 9000 n ∧ (n = 0 → x ⟨"NoNumber", none⟩) ∧ (n ≠ 0 → ∀ c r, Core n c r → q (.val (.tuple [.int c, .int r]))))
theorem len_core_of : ∀ ds x q, p_core_of ds x q → ds.length = 1 := by
  rintro ds x q ⟨n, rfl, _⟩
  rfl
theorem w_core_of {n : Int} {x : XP} {q : S → Prop} : @callK p_core_of [.int n] x ⟨q⟩ = (Sz 9000 n ∧ (n = 0 → x ⟨"NoNumber", none⟩) ∧ (n ≠ 0 → ∀ c r, Core n c r → q (.val (.tuple [.int c, .int r])))) := propext ⟨fun h => by
  obtain ⟨n', e, h⟩ := h
  simp only [List.cons.injEq, PyData.list.injEq, PyData.tuple.injEq, PyData.int.injEq, PyData.str.injEq, PyData.bool.injEq, ints_inj, parts_inj, and_true, and_assoc] at e
  obtain ⟨rfl⟩ := e
  exact h, fun h => ⟨_, rfl, h⟩⟩
--simp w_core_of
theorem spec_core_of : ∀ ds x q, p_core_of ds x q → bodyD 6 b_core_of ds x q := by
  rintro ds x q ⟨n, rfl, hz, hx, hq⟩
  unfold b_core_of
  walk_at "dl"
  split
  · rename_i c
    exact hx (by simpa using c)
  rename_i c
  have hn : n ≠ 0 := by simpa using c
  have hq := hq hn
  refine cut_int 1 (fun s => (s = 1 ∨ s = -1) ∧ n = s * n.natAbs) ?_ fun s hs => ?_
  · walk_at "dl"
    split
    · exact ⟨by simp, by omega⟩
    · exact ⟨by simp, by omega⟩
  obtain ⟨hs, hns⟩ := hs
  walk_at "dl"
  have za : Sz 9000 (n.natAbs : Int) := Sz.of_le (j := n) (by omega) hz
  refine ⟨za, fun z => absurd z (by omega), fun h1 l hl => ?_⟩
  have zd : ∀ d : Int, d ∣ (n.natAbs : Int) → Sz 9000 d := fun d h => Sz.of_dvd h (by omega) za
  have zp : ∀ x ∈ l, Sz 9000 x.1 := fun x hx => zd _ (by
    obtain ⟨p, e⟩ := x
    have := (hl.times hx).1
    rw [hl.eq] at this
    have e1 : 1 ≤ e := (hl.pr _ hx).2
    refine Int.dvd_trans ?_ this
    have := pow_dvd_pow (p := p) (show 1 ≤ e.toNat by omega)
    rw [Int.pow_succ, Int.pow_zero, Int.one_mul] at this
    exact this)
  have el : prodL l = n.natAbs := hl.eq
  refine for_maps (as := l) (en := encP) (fun done rest δ' => ∃ s3 s4 s5, l = done ++ rest ∧ δ' = [.val (.int n), .val (.int (s * coreL done)), .val (.int (rootL done)), s3, s4, s5]) ⟨_, _, _, rfl, by rw [show coreL [] = 1 from rfl, Int.mul_one]; rfl⟩ (fun done x rest δ' ha w => ?_) fun δ' w => ?_
  · obtain ⟨s3, s4, s5, -, rfl⟩ := w
    obtain ⟨p, e⟩ := x
    have hpr : ∀ y ∈ done ++ (p, e) :: rest, Pr y.1 ∧ 1 ≤ y.2 := by rw [← ha]; exact hl.pr
    have hp := (hpr (p, e) (List.mem_append_right _ List.mem_cons_self)).1
    have he : 1 ≤ e := (hpr (p, e) (List.mem_append_right _ List.mem_cons_self)).2
    have zp1 : Sz 9000 p := zp (p, e) (by rw [ha]; exact List.mem_append_right _ List.mem_cons_self)
    have ee : e.toNat ≤ 9000 := by
      have h2 := (hl.times (p := p) (e := e) (by rw [ha]; exact List.mem_append_right _ List.mem_cons_self)).1
      rw [el] at h2
      have h3 := Int.le_of_dvd (by omega) h2
      have h4 : (2 : Int) ^ e.toNat ≤ p ^ e.toNat := by
        have : ∀ k : Nat, (2 : Int) ^ k ≤ p ^ k := fun k => by
          induction k with
          | zero => rw [Int.pow_zero, Int.pow_zero]; decide
          | succ k ih => rw [Int.pow_succ, Int.pow_succ]; exact Int.mul_le_mul ih hp.two (by decide) (Int.le_of_lt (pow_pos' hp.pos k))
        exact this _
      have e5 : (2 : Int) ^ e.toNat = ((2 ^ e.toNat : Nat) : Int) := by rw [Int.natCast_pow]; rfl
      have h6 : (n.natAbs : Int).natAbs < 2 ^ 9000 := intBits_le_iff.mp za
      rw [e5] at h4
      have h7 : 2 ^ e.toNat < 2 ^ 9000 := by omega
      exact Nat.le_of_lt ((Nat.pow_lt_pow_iff_right (by decide)).mp h7)
    rw [encP_mk]
    walk_at "dl"
    refine ⟨by decide +kernel, by omega, ?_⟩
    refine for_rng (fun i δ' => ∃ s5, δ' = [.val (.int n), .val (.int (s * coreL done)), .val (.int (rootL done * p ^ i)), .val (.int p), .val (.int e), s5]) ⟨_, by rw [Int.pow_zero, Int.mul_one]⟩ (fun i δ' hi w => ?_) fun δ' w => ?_
    · obtain ⟨s5, rfl⟩ := w
      walk_at "dl"
      have zr : Sz 9000 (rootL done * p ^ i) := zd _ (by have := part_dvd hpr (i := i) (by omega); rw [← ha, el] at this; exact this)
      refine ⟨by walk_at "sz", ?_⟩
      rw [Int.pow_succ, Int.mul_assoc]
    · obtain ⟨s5, rfl⟩ := w
      walk_at "dl"
      have er : rootL (done ++ [(p, e)]) = rootL done * p ^ (e / 2).toNat := by rw [rootL_append]; show rootL done * (p ^ (e / 2).toNat * 1) = _; rw [Int.mul_one]
      have zc : Sz 9000 (coreL done) := zd _ (by have := core_part hpr; rw [← ha, el] at this; exact this)
      have zsc : Sz 9000 (s * coreL done) := Sz.of_le (j := coreL done) (by rw [Int.natAbs_mul]; rcases hs with h | h <;> rw [h] <;> simp) zc
      split
      · rename_i d
        have d : e % 2 = 1 := by simpa using d
        exact ⟨by walk_at "sz", _, _, _, by rw [ha, List.append_assoc]; rfl, by rw [coreL_snoc, if_pos d, Int.mul_assoc], er.symm, rfl, rfl, rfl⟩
      · rename_i d
        have d : ¬ e % 2 = 1 := by simpa using d
        exact ⟨_, _, _, by rw [ha, List.append_assoc]; rfl, by rw [coreL_snoc, if_neg d], er.symm, rfl, rfl, rfl⟩
  · obtain ⟨s3, s4, s5, -, rfl⟩ := w
    walk_at "dl"
    have hc := hl.core
    refine hq _ _ ?_
    rw [hns]
    rcases hs with h | h
    · rw [h, Int.one_mul, Int.one_mul]; exact hc
    · rw [h, Int.neg_mul, Int.neg_mul, Int.one_mul, Int.one_mul]; exact hc.neg

local macro_rules | `(tactic| walk_at "dl") => `(tactic| (simp (maxSteps := 10000000) (disch := omega) only [↓dlD, dlP, List.mem_cons, List.not_mem_nil, or_false, sizeLine_eq, Nat.reduceLeDiff, startD, isNon, Bool.and_true, Bool.and_eq_true, List.all_cons, List.all_nil, List.any_cons, List.any_nil, id_eq, Bool.and_self, Bool.or_false, Bool.or_true, decide_true, decide_false, Option.map_some, Option.some.injEq, List.map, List.length, List.replicate, List.append, List.cons_append, List.nil_append, Nat.sub_self, Nat.reduceSub, Nat.reduceAdd, reduceCtorEq, PyData.int.injEq, decide_eq_true_eq, Bool.not_eq_true', decide_eq_false_iff_not, Bool.not_true, Bool.not_false, if_true, if_false, Bool.false_eq_true, ne_eq, Int.reduceLE, Int.reduceLT, Int.reduceEq, Nat.reduceLT, Int.cast_ofNat_Int, Int.reducePow, Int.reduceToNat, Int.reduceMul, Int.reduceAdd, Int.reduceSub, Int.reduceNeg, Int.reduceMod, Int.reduceDiv, Int.reduceGT, Int.reduceGE, Int.reduceNe, not_false_eq_true, not_true_eq_false, forall_eq', exists_eq_left', eq_self, true_and, and_true, dlE0, dlE1, dlE2, w_shares_of, w_prime_parts, w_core_of]; try simp only [List.cons.injEq, S.val.injEq, PyData.int.injEq, w_ex1, w_ex2, w_ex3, true_and, and_true]))
noncomputable def b_is_plain : ST := (sSeq (sFor (iVal (eLst (aCons (eVar 0) (aCons (eVar 1) (aCons (eVar 2) aNil))))) (gVal 3) (sIf (tOr (tV (eOp rEqD (pVar 3) (pE (eC (.int 0))))) (tV (eOp rNeD (pE (eOp rIxD (pE (eCall p_core_of (aCons (eVar 3) aNil))) (pE (eC (.int 1))))) (pE (eC (.int 1)))))) (sRet (eC (.bool false))) sNext)) (sSeq (sFor (iVal (eLst (aCons (eTup (aCons (eVar 0) (aCons (eVar 1) aNil))) (aCons (eTup (aCons (eVar 1) (aCons (eVar 2) aNil))) (aCons (eTup (aCons (eVar 2) (aCons (eVar 0) aNil))) aNil))))) (gTup 2 (gCons (gVal 4) (gCons (gVal 5) gNil))) (sIf (tV (eOp rNeD (pE (eOp rIxD (pE (eCall p_shares_of (aCons (eVar 4) (aCons (eVar 5) aNil)))) (pE (eC (.int 0))))) (pE (eC (.int 1))))) (sRet (eC (.bool false))) sNext)) (sRet (eC (.bool true)))))
/-! is_plain: slots a b c number one other -/
def p_is_plain : DSp := fun ds x q => ∃ (a b c : Int), ds = [.int a, .int b, .int c] ∧ ((Sz 2000 a ∧ Sz 2000 b ∧ Sz 2000 c) ∧ (Pln a b c → q (.val (.bool true))) ∧ (¬ Pln a b c → q (.val (.bool false))))
theorem len_is_plain : ∀ ds x q, p_is_plain ds x q → ds.length = 3 := by
  rintro ds x q ⟨a, b, c, rfl, _⟩
  rfl
theorem w_is_plain {a b c : Int} {x : XP} {q : S → Prop} : @callK p_is_plain [.int a, .int b, .int c] x ⟨q⟩ = ((Sz 2000 a ∧ Sz 2000 b ∧ Sz 2000 c) ∧ (Pln a b c → q (.val (.bool true))) ∧ (¬ Pln a b c → q (.val (.bool false)))) := propext ⟨fun h => by
  obtain ⟨a', b', c', e, h⟩ := h
  simp only [List.cons.injEq, PyData.list.injEq, PyData.tuple.injEq, PyData.int.injEq, PyData.str.injEq, PyData.bool.injEq, ints_inj, parts_inj, and_true, and_assoc] at e
  obtain ⟨rfl, rfl, rfl⟩ := e
  exact h, fun h => ⟨_, _, _, rfl, h⟩⟩
--simp w_is_plain
theorem spec_is_plain : ∀ ds x q, p_is_plain ds x q → bodyD 6 b_is_plain ds x q := by
  rintro ds x q ⟨a, b, c, rfl, ⟨za, zb, zc⟩, h1, h2⟩
  unfold b_is_plain
  have key : ∀ {n : Int} {P : Prop}, Sz 2000 n → (¬ SqF n → q (.val (.bool false))) → (SqF n → P) → (if n = 0 then q (.val (.bool false)) else Sz 9000 n ∧ (n = 0 → x ⟨Str.ofString "NoNumber", none⟩) ∧ (¬ n = 0 → ∀ c r : Int, Core n c r → if ¬ r = 1 then q (.val (.bool false)) else P)) := fun {n P} z k1 k2 => by
    by_cases n0 : n = 0
    · rw [if_pos n0]; exact k1 fun k => k.ne n0
    · rw [if_neg n0]
      refine ⟨z.mono (by decide), fun k => absurd k n0, fun _ c r k => ?_⟩
      by_cases r1 : r = 1
      · rw [if_neg (fun k => k r1)]; exact k2 (k.one.mp r1)
      · rw [if_pos r1]; exact k1 fun w => r1 (k.one.mpr w)
  have key2 : ∀ {m n : Int} {P : Prop}, Sz 2000 m → Sz 2000 n → (Int.gcd m n ≠ 1 → q (.val (.bool false))) → (Int.gcd m n = 1 → P) → ∃ k, k ≤ 9000 ∧ Sz k m ∧ Sz k n ∧ ∀ s t : Int, s * m + t * n = Int.gcd m n → Sz (4 * k + 2) s → Sz (4 * k + 2) t → if ¬ (Int.gcd m n : Int) = 1 then q (.val (.bool false)) else P := fun {m n P} zm zn k1 k2 => by
    refine ⟨2000, by decide, zm, zn, fun s t _ _ _ => ?_⟩
    by_cases r1 : Int.gcd m n = 1
    · rw [if_neg (fun k => k (by omega))]; exact k2 r1
    · rw [if_pos (fun k => r1 (by omega))]; exact k1 r1
  walk_at "dl"
  refine for_lit ?_
  walk_at "dl"
  refine key za (fun k => h2 fun w => k w.fa) fun fa => ?_
  refine key zb (fun k => h2 fun w => k w.fb) fun fb => ?_
  refine key zc (fun k => h2 fun w => k w.fc) fun fc => ?_
  refine for_lit ?_
  walk_at "dl"
  refine key2 za zb (fun k => h2 fun w => k w.ab) fun ab => ?_
  refine key2 zb zc (fun k => h2 fun w => k w.bc) fun bc => ?_
  refine key2 zc za (fun k => h2 fun w => k w.ca) fun ca => ?_
  exact h1 ⟨fa, fb, fc, ab, bc, ca⟩

local macro_rules | `(tactic| walk_at "dl") => `(tactic| (simp (maxSteps := 10000000) (disch := omega) only [↓dlD, dlP, List.mem_cons, List.not_mem_nil, or_false, sizeLine_eq, Nat.reduceLeDiff, startD, isNon, Bool.and_true, Bool.and_eq_true, List.all_cons, List.all_nil, List.any_cons, List.any_nil, id_eq, Bool.and_self, Bool.or_false, Bool.or_true, decide_true, decide_false, Option.map_some, Option.some.injEq, List.map, List.length, List.replicate, List.append, List.cons_append, List.nil_append, Nat.sub_self, Nat.reduceSub, Nat.reduceAdd, reduceCtorEq, PyData.int.injEq, decide_eq_true_eq, Bool.not_eq_true', decide_eq_false_iff_not, Bool.not_true, Bool.not_false, if_true, if_false, Bool.false_eq_true, ne_eq, Int.reduceLE, Int.reduceLT, Int.reduceEq, Nat.reduceLT, Int.cast_ofNat_Int, Int.reducePow, Int.reduceToNat, Int.reduceMul, Int.reduceAdd, Int.reduceSub, Int.reduceNeg, Int.reduceMod, Int.reduceDiv, Int.reduceGT, Int.reduceGE, Int.reduceNe, not_false_eq_true, not_true_eq_false, forall_eq', exists_eq_left', eq_self, true_and, and_true, dlE0, dlE1, dlE2, w_shares_of, w_prime_parts, w_core_of, w_is_plain]; try simp only [List.cons.injEq, S.val.injEq, PyData.int.injEq, w_ex1, w_ex2, w_ex3, true_and, and_true]))
noncomputable def b_ask_plain : ST := (sIf (tNot (tV (eCall p_is_plain (aCons (eVar 0) (aCons (eVar 1) (aCons (eVar 2) aNil)))))) (sRaise "NotPlain") sNext)
/-! ask_plain: slots a b c -/
def p_ask_plain : DSp := fun ds x q => ∃ (a b c : Int), ds = [.int a, .int b, .int c] ∧ ((Sz 2000 a ∧ Sz 2000 b ∧ Sz 2000 c) ∧ (¬ Pln a b c → x ⟨"NotPlain", none⟩) ∧ (Pln a b c → q (.val .none)))
theorem len_ask_plain : ∀ ds x q, p_ask_plain ds x q → ds.length = 3 := by
  rintro ds x q ⟨a, b, c, rfl, _⟩
  rfl
theorem w_ask_plain {a b c : Int} {x : XP} {q : S → Prop} : @callK p_ask_plain [.int a, .int b, .int c] x ⟨q⟩ = ((Sz 2000 a ∧ Sz 2000 b ∧ Sz 2000 c) ∧ (¬ Pln a b c → x ⟨"NotPlain", none⟩) ∧ (Pln a b c → q (.val .none))) := propext ⟨fun h => by
  obtain ⟨a', b', c', e, h⟩ := h
  simp only [List.cons.injEq, PyData.list.injEq, PyData.tuple.injEq, PyData.int.injEq, PyData.str.injEq, PyData.bool.injEq, ints_inj, parts_inj, and_true, and_assoc] at e
  obtain ⟨rfl, rfl, rfl⟩ := e
  exact h, fun h => ⟨_, _, _, rfl, h⟩⟩
--simp w_ask_plain
theorem spec_ask_plain : ∀ ds x q, p_ask_plain ds x q → bodyD 3 b_ask_plain ds x q := by
  rintro ds x q ⟨a, b, c, rfl, zz, hx, hq⟩
  unfold b_ask_plain
  walk_at "dl"
  refine ⟨zz, fun k => ?_, fun k => ?_⟩
  · exact hq k
  · exact hx k

local macro_rules | `(tactic| walk_at "dl") => `(tactic| (simp (maxSteps := 10000000) (disch := omega) only [↓dlD, dlP, List.mem_cons, List.not_mem_nil, or_false, sizeLine_eq, Nat.reduceLeDiff, startD, isNon, Bool.and_true, Bool.and_eq_true, List.all_cons, List.all_nil, List.any_cons, List.any_nil, id_eq, Bool.and_self, Bool.or_false, Bool.or_true, decide_true, decide_false, Option.map_some, Option.some.injEq, List.map, List.length, List.replicate, List.append, List.cons_append, List.nil_append, Nat.sub_self, Nat.reduceSub, Nat.reduceAdd, reduceCtorEq, PyData.int.injEq, decide_eq_true_eq, Bool.not_eq_true', decide_eq_false_iff_not, Bool.not_true, Bool.not_false, if_true, if_false, Bool.false_eq_true, ne_eq, Int.reduceLE, Int.reduceLT, Int.reduceEq, Nat.reduceLT, Int.cast_ofNat_Int, Int.reducePow, Int.reduceToNat, Int.reduceMul, Int.reduceAdd, Int.reduceSub, Int.reduceNeg, Int.reduceMod, Int.reduceDiv, Int.reduceGT, Int.reduceGE, Int.reduceNe, not_false_eq_true, not_true_eq_false, forall_eq', exists_eq_left', eq_self, true_and, and_true, dlE0, dlE1, dlE2, w_shares_of, w_prime_parts, w_core_of, w_is_plain, w_ask_plain]; try simp only [List.cons.injEq, S.val.injEq, PyData.int.injEq, w_ex1, w_ex2, w_ex3, true_and, and_true]))
noncomputable def b_odd_primes : ST := (sRet (eComp (iVal (eCall p_prime_parts (aCons (eB rAbsD (apCons (pVar 0) apNil)) aNil))) [1, 2] (gTup 2 (gCons (gVal 1) (gCons (gVal 2) gNil))) (tV (eOp rGtD (pVar 1) (pE (eC (.int 2))))) (eVar 1)))
/-! odd_primes: slots number prime many -/
/-- the odd primes of a number, rising -/
structure OPr (n : Int) (l : List Int) : Prop where
  mem : ∀ p, p ∈ l ↔ Pr p ∧ 2 < p ∧ p ∣ n
  up : l.Pairwise (· < ·)
  len : l.length ≤ 2000
theorem prodL_has {p : Int} (hp : Pr p) : ∀ {l : List Part}, (∀ x ∈ l, Pr x.1 ∧ 1 ≤ x.2) → p ∣ prodL l → ∃ x ∈ l, x.1 = p
  | [], _, d => absurd d hp.not_one
  | (u, e) :: l, h, d => by
    rcases hp.euclid (show p ∣ u ^ e.toNat * prodL l from d) with k | k
    · exact ⟨(u, e), List.mem_cons_self, (hp.eq (h _ List.mem_cons_self).1 (hp.pow k)).symm⟩
    · obtain ⟨x, hx, ex⟩ := prodL_has hp (fun y hy => h y (List.mem_cons_of_mem _ hy)) k
      exact ⟨x, List.mem_cons_of_mem _ hx, ex⟩
theorem PP.odds {n : Int} {l : List Part} (h : PP (n.natAbs : Int) l) (z : Sz 2000 n) : OPr n ((l.filter fun x => decide (2 < x.1)).map fun x => x.1) where
  mem p := by
    rw [List.mem_map]
    constructor
    · rintro ⟨⟨u, e⟩, hx, rfl⟩
      obtain ⟨hm, h2⟩ := List.mem_filter.mp hx
      refine ⟨(h.pr _ hm).1, of_decide_eq_true h2, ?_⟩
      have d := (h.times hm).1
      rw [h.eq] at d
      have e1 : 1 ≤ e := (h.pr _ hm).2
      have := pow_dvd_pow (p := u) (show 1 ≤ e.toNat by omega)
      rw [Int.pow_succ, Int.pow_zero, Int.one_mul] at this
      exact Int.dvd_natAbs.mp (Int.dvd_trans this d)
    · rintro ⟨hp, h2, d⟩
      obtain ⟨x, hx, ex⟩ := prodL_has hp h.pr (by rw [h.eq]; exact Int.dvd_natAbs.mpr d)
      exact ⟨x, List.mem_filter.mpr ⟨hx, decide_eq_true (by rw [ex]; exact h2)⟩, ex⟩
  up := List.pairwise_map.mpr (h.up.filter _)
  len := by
    rw [List.length_map]
    exact Nat.le_trans (List.length_filter_le ..) (h.toParts.short (Int.le_of_eq h.eq) (Sz.of_le (j := n) (by omega) z))
def p_odd_primes : DSp := fun ds x q => ∃ (n : Int), ds = [.int n] ∧ (Sz 2000 n ∧ n ≠ 0 ∧ (∀ l, OPr n l → q (.own (l.map PyData.int))))
theorem len_odd_primes : ∀ ds x q, p_odd_primes ds x q → ds.length = 1 := by
  rintro ds x q ⟨n, rfl, _⟩
  rfl
theorem w_odd_primes {n : Int} {x : XP} {q : S → Prop} : @callK p_odd_primes [.int n] x ⟨q⟩ = (Sz 2000 n ∧ n ≠ 0 ∧ (∀ l, OPr n l → q (.own (l.map PyData.int)))) := propext ⟨fun h => by
  obtain ⟨n', e, h⟩ := h
  simp only [List.cons.injEq, PyData.list.injEq, PyData.tuple.injEq, PyData.int.injEq, PyData.str.injEq, PyData.bool.injEq, ints_inj, parts_inj, and_true, and_assoc] at e
  obtain ⟨rfl⟩ := e
  exact h, fun h => ⟨_, rfl, h⟩⟩
--simp w_odd_primes
theorem spec_odd_primes : ∀ ds x q, p_odd_primes ds x q → bodyD 3 b_odd_primes ds x q := by
  rintro ds x q ⟨n, rfl, zn, n0, h⟩
  unfold b_odd_primes
  walk_at "dl"
  refine ⟨Sz.of_le (j := n) (by omega) (zn.mono (by decide)), fun k => by omega, fun _ l hl => ?_⟩
  have ho := hl.odds zn
  refine comp_maps (as := l) (en := encP) (fun x => decide (2 < x.1)) (fun x => PyData.int x.1) ?_ (fun x hx => ?_) ?_
  · have := hl.toParts.short (Int.le_of_eq hl.eq) (Sz.of_le (j := n) (by omega) zn)
    omega
  · obtain ⟨u, e⟩ := x
    rw [encP_mk]
    walk_at "dl"
    split <;> rename_i c <;> simp [c]
  · have := h _ ho
    rw [List.map_map] at this
    exact this

local macro_rules | `(tactic| walk_at "dl") => `(tactic| (simp (maxSteps := 10000000) (disch := omega) only [↓dlD, dlP, List.mem_cons, List.not_mem_nil, or_false, sizeLine_eq, Nat.reduceLeDiff, startD, isNon, Bool.and_true, Bool.and_eq_true, List.all_cons, List.all_nil, List.any_cons, List.any_nil, id_eq, Bool.and_self, Bool.or_false, Bool.or_true, decide_true, decide_false, Option.map_some, Option.some.injEq, List.map, List.length, List.replicate, List.append, List.cons_append, List.nil_append, Nat.sub_self, Nat.reduceSub, Nat.reduceAdd, reduceCtorEq, PyData.int.injEq, decide_eq_true_eq, Bool.not_eq_true', decide_eq_false_iff_not, Bool.not_true, Bool.not_false, if_true, if_false, Bool.false_eq_true, ne_eq, Int.reduceLE, Int.reduceLT, Int.reduceEq, Nat.reduceLT, Int.cast_ofNat_Int, Int.reducePow, Int.reduceToNat, Int.reduceMul, Int.reduceAdd, Int.reduceSub, Int.reduceNeg, Int.reduceMod, Int.reduceDiv, Int.reduceGT, Int.reduceGE, Int.reduceNe, not_false_eq_true, not_true_eq_false, forall_eq', exists_eq_left', eq_self, true_and, and_true, dlE0, dlE1, dlE2, w_shares_of, w_prime_parts, w_core_of, w_is_plain, w_ask_plain, w_odd_primes]; try simp only [List.cons.injEq, S.val.injEq, PyData.int.injEq, w_ex1, w_ex2, w_ex3, true_and, and_true]))
noncomputable def b_fits_by_8 : ST := (sSeq (sFor (iVal (eC (.tuple [(.int 0), (.int 1), (.int 4)]))) (gVal 3) (sFor (iVal (eC (.tuple [(.int 0), (.int 1), (.int 4)]))) (gVal 4) (sFor (iVal (eC (.tuple [(.int 0), (.int 1), (.int 4)]))) (gVal 5) (sIf (tAnd (tV (eOp rInD (pE (eC (.int 1))) (pE (eTup (aCons (eVar 3) (aCons (eVar 4) (aCons (eVar 5) aNil))))))) (tV (eOp rEqD (pE (eOp rModD (pE (eOp rAddD (pE (eOp rAddD (pE (eOp rMulD (pVar 0) (pVar 3))) (pE (eOp rMulD (pVar 1) (pVar 4))))) (pE (eOp rMulD (pVar 2) (pVar 5))))) (pE (eC (.int 8))))) (pE (eC (.int 0)))))) (sRet (eC (.bool true))) sNext)))) (sRet (eC (.bool false))))
/-! fits_by_8: slots a b c x y z -/
def p_fits_by_8 : DSp := fun ds x q => ∃ (a b c : Int), ds = [.int a, .int b, .int c] ∧ ((Sz 2000 a ∧ Sz 2000 b ∧ Sz 2000 c) ∧ (Fit8 a b c → q (.val (.bool true))) ∧ (¬ Fit8 a b c → q (.val (.bool false))))
theorem len_fits_by_8 : ∀ ds x q, p_fits_by_8 ds x q → ds.length = 3 := by
  rintro ds x q ⟨a, b, c, rfl, _⟩
  rfl
theorem w_fits_by_8 {a b c : Int} {x : XP} {q : S → Prop} : @callK p_fits_by_8 [.int a, .int b, .int c] x ⟨q⟩ = ((Sz 2000 a ∧ Sz 2000 b ∧ Sz 2000 c) ∧ (Fit8 a b c → q (.val (.bool true))) ∧ (¬ Fit8 a b c → q (.val (.bool false)))) := propext ⟨fun h => by
  obtain ⟨a', b', c', e, h⟩ := h
  simp only [List.cons.injEq, PyData.list.injEq, PyData.tuple.injEq, PyData.int.injEq, PyData.str.injEq, PyData.bool.injEq, ints_inj, parts_inj, and_true, and_assoc] at e
  obtain ⟨rfl, rfl, rfl⟩ := e
  exact h, fun h => ⟨_, _, _, rfl, h⟩⟩
--simp w_fits_by_8
theorem spec_fits_by_8 : ∀ ds x q, p_fits_by_8 ds x q → bodyD 6 b_fits_by_8 ds x q := by
  rintro ds x q ⟨a, b, c, rfl, ⟨za, zb, zc⟩, h1, h2⟩
  unfold b_fits_by_8
  walk_at "dl"
  refine for_maps (as := ([0, 1, 4] : List Int)) (en := PyData.int) (fun done rest δ' => ∃ s3 s4 s5, δ' = [.val (.int a), .val (.int b), .val (.int c), s3, s4, s5] ∧ [0, 1, 4] = done ++ rest ∧ ∀ x ∈ done, ∀ y ∈ [0, 1, 4], ∀ z ∈ [0, 1, 4], ¬ Fit1 a b c x y z) ⟨_, _, _, rfl, rfl, by simp⟩ (fun done x rest δ' ha w => ?_) fun δ' w => ?_
  · obtain ⟨s3, s4, s5, rfl, e, w⟩ := w
    have hx : x ∈ ([0, 1, 4] : List Int) := by rw [ha]; simp
    walk_at "dl"
    refine for_maps (as := ([0, 1, 4] : List Int)) (en := PyData.int) (fun done2 rest δ' => ∃ s4 s5, δ' = [.val (.int a), .val (.int b), .val (.int c), .val (.int x), s4, s5] ∧ [0, 1, 4] = done2 ++ rest ∧ ∀ y ∈ done2, ∀ z ∈ [0, 1, 4], ¬ Fit1 a b c x y z) ⟨_, _, rfl, rfl, by simp⟩ (fun done2 y rest2 δ' hb w2 => ?_) fun δ' w2 => ?_
    · obtain ⟨s4, s5, rfl, e2, w2⟩ := w2
      have hy : y ∈ ([0, 1, 4] : List Int) := by rw [hb]; simp
      walk_at "dl"
      refine for_maps (as := ([0, 1, 4] : List Int)) (en := PyData.int) (fun done3 rest δ' => ∃ s5, δ' = [.val (.int a), .val (.int b), .val (.int c), .val (.int x), .val (.int y), s5] ∧ [0, 1, 4] = done3 ++ rest ∧ ∀ z ∈ done3, ¬ Fit1 a b c x y z) ⟨_, rfl, rfl, by simp⟩ (fun done3 z rest3 δ' hc w3 => ?_) fun δ' w3 => ?_
      · obtain ⟨s5, rfl, e3, w3⟩ := w3
        have hz : z ∈ ([0, 1, 4] : List Int) := by rw [hc]; simp
        walk_at "dl"
        have sx : Sz 3 x := Sz.of_le (j := 4) (by simp at hx; omega) (by decide +kernel)
        have sy : Sz 3 y := Sz.of_le (j := 4) (by simp at hy; omega) (by decide +kernel)
        have sz : Sz 3 z := Sz.of_le (j := 4) (by simp at hz; omega) (by decide +kernel)
        have nxt : ¬ Fit1 a b c x y z → ∃ s5, S.val (.int z) = s5 ∧ [0, 1, 4] = done3 ++ [z] ++ rest3 ∧ ∀ z' : Int, z' ∈ done3 ++ [z] → ¬ Fit1 a b c x y z' := fun k => ⟨_, rfl, by rw [hc, List.append_assoc]; rfl, fun z' h => by
          rcases List.mem_append.mp h with m | m
          · exact w3 z' m
          · rw [List.mem_singleton.mp m]; exact k⟩
        split
        · rename_i c1
          refine ⟨by walk_at "sz", by walk_at "sz", by walk_at "sz", ?_⟩
          split
          · rename_i c2
            exact h1 ⟨x, hx, y, hy, z, hz, by omega, c2⟩
          · rename_i c2
            exact nxt fun k => c2 k.2
        · rename_i c1
          exact nxt fun k => c1 (by have := k.1; omega)
      · obtain ⟨s5, rfl, e3, w3⟩ := w3
        refine ⟨_, _, rfl, by rw [hb, List.append_assoc]; rfl, fun y' h z' hz' => ?_⟩
        rcases List.mem_append.mp h with m | m
        · exact w2 y' m z' hz'
        · rw [List.mem_singleton.mp m]; exact w3 z' (by rw [List.append_nil] at e3; rw [← e3]; exact hz')
    · obtain ⟨s4, s5, rfl, e2, w2⟩ := w2
      refine ⟨_, _, _, rfl, by rw [ha, List.append_assoc]; rfl, fun x' h y' hy' z' hz' => ?_⟩
      rcases List.mem_append.mp h with m | m
      · exact w x' m y' hy' z' hz'
      · rw [List.mem_singleton.mp m]; exact w2 y' (by rw [List.append_nil] at e2; rw [← e2]; exact hy') z' hz'
  · obtain ⟨s3, s4, s5, rfl, e, w⟩ := w
    walk_at "dl"
    refine h2 fun ⟨x, hx, y, hy, z, hz, f⟩ => w x (by rw [List.append_nil] at e; rw [← e]; exact hx) y hy z hz f

local macro_rules | `(tactic| walk_at "dl") => `(tactic| (simp (maxSteps := 10000000) (disch := omega) only [↓dlD, dlP, List.mem_cons, List.not_mem_nil, or_false, sizeLine_eq, Nat.reduceLeDiff, startD, isNon, Bool.and_true, Bool.and_eq_true, List.all_cons, List.all_nil, List.any_cons, List.any_nil, id_eq, Bool.and_self, Bool.or_false, Bool.or_true, decide_true, decide_false, Option.map_some, Option.some.injEq, List.map, List.length, List.replicate, List.append, List.cons_append, List.nil_append, Nat.sub_self, Nat.reduceSub, Nat.reduceAdd, reduceCtorEq, PyData.int.injEq, decide_eq_true_eq, Bool.not_eq_true', decide_eq_false_iff_not, Bool.not_true, Bool.not_false, if_true, if_false, Bool.false_eq_true, ne_eq, Int.reduceLE, Int.reduceLT, Int.reduceEq, Nat.reduceLT, Int.cast_ofNat_Int, Int.reducePow, Int.reduceToNat, Int.reduceMul, Int.reduceAdd, Int.reduceSub, Int.reduceNeg, Int.reduceMod, Int.reduceDiv, Int.reduceGT, Int.reduceGE, Int.reduceNe, not_false_eq_true, not_true_eq_false, forall_eq', exists_eq_left', eq_self, true_and, and_true, dlE0, dlE1, dlE2, w_shares_of, w_prime_parts, w_core_of, w_is_plain, w_ask_plain, w_odd_primes, w_fits_by_8]; try simp only [List.cons.injEq, S.val.injEq, PyData.int.injEq, w_ex1, w_ex2, w_ex3, true_and, and_true]))
noncomputable def b_without_twos : ST := (sSeq (sAsg (eC (.int 1)) (gVal 2)) (sSeq (sWhile (tV (eOp rEqD (pE (eOp rModD (pVar 0) (pE (eC (.int 2))))) (pE (eC (.int 0))))) (sSeq (sAsg (eOp rFdivD (pVar 0) (pE (eC (.int 2)))) (gVal 0)) (sIf (tV (eOp rInD (pE (eOp rModD (pVar 1) (pE (eC (.int 8))))) (pE (eTup (aCons (eC (.int 3)) (aCons (eC (.int 5)) aNil)))))) (sAsg (eOp rSubD (pE (eC (.int 0))) (pVar 2)) (gVal 2)) sNext))) (sRet (eTup (aCons (eVar 0) (aCons (eVar 2) aNil))))))
/-! without_twos: slots number n sign -/
def p_without_twos : DSp := fun ds x q => ∃ (m n : Int), ds = [.int m, .int n] ∧ ((Odd n ∧ 1 ≤ m) ∧ (Sz 100000 m ∧ Sz 100000 n) ∧ ∀ l s, Odd l → l ≤ m → (s = 1 ∨ s = -1) → J m n = s * J l n → q (.val (.tuple [.int l, .int s])))
theorem len_without_twos : ∀ ds x q, p_without_twos ds x q → ds.length = 2 := by
  rintro ds x q ⟨m, n, rfl, _⟩
  rfl
theorem w_without_twos {m n : Int} {x : XP} {q : S → Prop} : @callK p_without_twos [.int m, .int n] x ⟨q⟩ = ((Odd n ∧ 1 ≤ m) ∧ (Sz 100000 m ∧ Sz 100000 n) ∧ ∀ l s, Odd l → l ≤ m → (s = 1 ∨ s = -1) → J m n = s * J l n → q (.val (.tuple [.int l, .int s]))) := propext ⟨fun h => by
  obtain ⟨m', n', e, h⟩ := h
  simp only [List.cons.injEq, PyData.list.injEq, PyData.tuple.injEq, PyData.int.injEq, PyData.str.injEq, PyData.bool.injEq, ints_inj, parts_inj, and_true, and_assoc] at e
  obtain ⟨rfl, rfl⟩ := e
  exact h, fun h => ⟨_, _, rfl, h⟩⟩
--simp w_without_twos
theorem spec_without_twos : ∀ ds x q, p_without_twos ds x q → bodyD 3 b_without_twos ds x q := by
  rintro ds x q ⟨m, n, rfl, ⟨hn, hm⟩, ⟨zm, zn⟩, h⟩
  unfold b_without_twos
  walk_at "dl"
  refine while_ (fun k δ' => ∃ l s : Int, δ' = [.val (.int l), .val (.int n), .val (.int s)] ∧ k = l.toNat ∧ 1 ≤ l ∧ l ≤ m ∧ (s = 1 ∨ s = -1) ∧ J m n = s * J l n) m.toNat ⟨m, 1, rfl, rfl, hm, by omega, .inl rfl, (Int.one_mul _).symm⟩ fun k δ' w => ?_
  obtain ⟨l, s, rfl, rfl, hl, hlm, hs, hj⟩ := w
  walk_at "dl"
  split
  · rename_i c
    have e : J l n = J (l / 2) n * (if n % 8 = 3 ∨ n % 8 = 5 then -1 else 1) := by
      rw [← J_two hn, ← J_mul hn]
      congr 1
      omega
    refine ⟨by decide +kernel, ?_⟩
    split
    · rename_i d
      rw [if_pos d] at e
      exact ⟨_, by omega, _, _, ⟨rfl, rfl⟩, rfl, by omega, by omega, by omega, by rw [hj, e]; grind⟩
    · rename_i d
      rw [if_neg d] at e
      exact ⟨_, by omega, _, _, ⟨rfl, rfl⟩, rfl, by omega, by omega, hs, by rw [hj, e]; grind⟩
  · rename_i c
    exact h l s ⟨by omega, by omega⟩ hlm hs hj

def dlE3 := And.intro @w_shares_of (And.intro @w_prime_parts (And.intro @w_core_of (And.intro @w_is_plain (And.intro @w_ask_plain (And.intro @w_odd_primes (And.intro @w_fits_by_8 (@w_without_twos)))))))
local macro_rules | `(tactic| walk_at "dl") => `(tactic| (simp (maxSteps := 10000000) (disch := omega) only [↓dlD, dlP, List.mem_cons, List.not_mem_nil, or_false, sizeLine_eq, Nat.reduceLeDiff, startD, isNon, Bool.and_true, Bool.and_eq_true, List.all_cons, List.all_nil, List.any_cons, List.any_nil, id_eq, Bool.and_self, Bool.or_false, Bool.or_true, decide_true, decide_false, Option.map_some, Option.some.injEq, List.map, List.length, List.replicate, List.append, List.cons_append, List.nil_append, Nat.sub_self, Nat.reduceSub, Nat.reduceAdd, reduceCtorEq, PyData.int.injEq, decide_eq_true_eq, Bool.not_eq_true', decide_eq_false_iff_not, Bool.not_true, Bool.not_false, if_true, if_false, Bool.false_eq_true, ne_eq, Int.reduceLE, Int.reduceLT, Int.reduceEq, Nat.reduceLT, Int.cast_ofNat_Int, Int.reducePow, Int.reduceToNat, Int.reduceMul, Int.reduceAdd, Int.reduceSub, Int.reduceNeg, Int.reduceMod, Int.reduceDiv, Int.reduceGT, Int.reduceGE, Int.reduceNe, not_false_eq_true, not_true_eq_false, forall_eq', exists_eq_left', eq_self, true_and, and_true, dlE0, dlE1, dlE2, dlE3]; try simp only [List.cons.injEq, S.val.injEq, PyData.int.injEq, w_ex1, w_ex2, w_ex3, true_and, and_true]))
noncomputable def b_sign_by : ST := (sSeq (sIf (tOr (tV (eOp rLtD (pVar 1) (pE (eC (.int 1))))) (tV (eOp rEqD (pE (eOp rModD (pVar 1) (pE (eC (.int 2))))) (pE (eC (.int 0)))))) (sRaise "NoSign") sNext) (sSeq (sAsg (eC (.int 1)) (gVal 2)) (sSeq (sAsg (eOp rModD (pVar 0) (pVar 1)) (gVal 3)) (sSeq (sWhile (tV (eOp rNeD (pVar 3) (pE (eC (.int 0))))) (sSeq (sAsg (eCall p_without_twos (aCons (eVar 3) (aCons (eVar 1) aNil))) (gTup 2 (gCons (gVal 3) (gCons (gVal 4) gNil)))) (sSeq (sAsg (eOp rMulD (pVar 2) (pVar 4)) (gVal 2)) (sCut (sIf (tAnd (tV (eOp rEqD (pE (eOp rModD (pVar 3) (pE (eC (.int 4))))) (pE (eC (.int 3))))) (tV (eOp rEqD (pE (eOp rModD (pVar 1) (pE (eC (.int 4))))) (pE (eC (.int 3)))))) (sAsg (eOp rSubD (pE (eC (.int 0))) (pVar 2)) (gVal 2)) sNext) (sPar 3 1 (aCons (eOp rModD (pVar 1) (pVar 3)) (aCons (eVar 3) aNil))))))) (sSeq (sIf (tV (eOp rEqD (pVar 1) (pE (eC (.int 1))))) (sRet (eVar 2)) sNext) (sRet (eC (.int 0))))))))
/-! sign_by: slots number n found left sign -/
theorem J_turn4 {a n : Int} (ha : Odd a) (hn : Odd n) : J a n = J n a * (if a % 4 = 3 ∧ n % 4 = 3 then -1 else 1) := by
  rw [J_turn ha hn]
  congr 1
  have h1 := ha.odd
  have h2 := hn.odd
  unfold sg
  have p : (a / 2 * (n / 2)) % 2 = ((a / 2) % 2) * ((n / 2) % 2) % 2 := Int.mul_emod ..
  rcases (by omega : (a / 2) % 2 = 0 ∨ (a / 2) % 2 = 1) with h3 | h3 <;> rcases (by omega : (n / 2) % 2 = 0 ∨ (n / 2) % 2 = 1) with h4 | h4
  · rw [h3, h4] at p
    rw [if_pos (by omega), if_neg (by omega)]
  · rw [h3, h4] at p
    rw [if_pos (by omega), if_neg (by omega)]
  · rw [h3, h4] at p
    rw [if_pos (by omega), if_neg (by omega)]
  · rw [h3, h4] at p
    rw [if_neg (by omega), if_pos (by omega)]
def p_sign_by : DSp := fun ds x q => ∃ (a n : Int), ds = [.int a, .int n] ∧ ((Sz 100000 a ∧ Sz 100000 n) ∧ (n < 1 ∨ n % 2 = 0 → x ⟨"NoSign", none⟩) ∧ (Odd n → q (.val (.int (J a n)))))
theorem len_sign_by : ∀ ds x q, p_sign_by ds x q → ds.length = 2 := by
  rintro ds x q ⟨a, n, rfl, _⟩
  rfl
theorem w_sign_by {a n : Int} {x : XP} {q : S → Prop} : @callK p_sign_by [.int a, .int n] x ⟨q⟩ = ((Sz 100000 a ∧ Sz 100000 n) ∧ (n < 1 ∨ n % 2 = 0 → x ⟨"NoSign", none⟩) ∧ (Odd n → q (.val (.int (J a n))))) := propext ⟨fun h => by
  obtain ⟨a', n', e, h⟩ := h
  simp only [List.cons.injEq, PyData.list.injEq, PyData.tuple.injEq, PyData.int.injEq, PyData.str.injEq, PyData.bool.injEq, ints_inj, parts_inj, and_true, and_assoc] at e
  obtain ⟨rfl, rfl⟩ := e
  exact h, fun h => ⟨_, _, rfl, h⟩⟩
--simp w_sign_by
theorem spec_sign_by : ∀ ds x q, p_sign_by ds x q → bodyD 5 b_sign_by ds x q := by
  rintro ds x q ⟨a, n, rfl, ⟨za, zn⟩, hx, hq⟩
  unfold b_sign_by
  walk_at "dl"
  split
  · rename_i c
    exact hx (.inl c)
  rename_i c1
  split
  · rename_i c
    exact hx (.inr c)
  rename_i c2
  have hn : Odd n := ⟨by omega, by omega⟩
  have hq := hq hn
  clear hx
  refine ⟨by omega, ?_⟩
  have hr := Int.emod_nonneg a (show n ≠ 0 by omega)
  have hr2 := Int.emod_lt_of_pos a (show 0 < n by omega)
  refine while_ (fun k δ' => ∃ (l m f : Int) (s5 : S), δ' = [.val (.int a), .val (.int m), .val (.int f), .val (.int l), s5] ∧ k = l.toNat ∧ Odd m ∧ m ≤ n ∧ 0 ≤ l ∧ l < m ∧ (f = 1 ∨ f = -1) ∧ J a n = f * J l m) (a % n).toNat ⟨a % n, n, 1, _, rfl, rfl, hn, by omega, hr, hr2, .inl rfl, by rw [J_mod, Int.one_mul]⟩ fun k δ' w => ?_
  obtain ⟨l, m, f, s5, rfl, rfl, hm, hmn, hl, hlm, hf, hj⟩ := w
  have hm0 := hm.pos
  walk_at "dl"
  split
  · rename_i c
    have c : l ≠ 0 := by simpa using c
    have zl : Sz 100000 l := Sz.of_le (j := n) (by omega) zn
    have zm : Sz 100000 m := Sz.of_le (j := n) (by omega) zn
    refine ⟨⟨hm, by omega⟩, ⟨zl, zm⟩, fun l' s hl' hle hs hjs => ?_⟩
    have hp := hl'.pos
    have zf : Sz 2 f := Sz.of_le (j := 1) (by omega) (by decide +kernel)
    have zs : Sz 2 s := Sz.of_le (j := 1) (by omega) (by decide +kernel)
    have hfs : f * s = 1 ∨ f * s = -1 := by rcases hf with h | h <;> rcases hs with k | k <;> rw [h, k] <;> simp
    have h1 := Int.emod_nonneg m (show l' ≠ 0 by omega)
    have h2 := Int.emod_lt_of_pos m (show 0 < l' by omega)
    have ht := J_turn4 hl' hm
    refine ⟨by walk_at "sz", ?_⟩
    refine cut_int 2 (fun g => (g = 1 ∨ g = -1) ∧ J a n = g * J m l') ?_ fun g hg => ?_
    · walk_at "dl"
      by_cases d : l' % 4 = 3 ∧ m % 4 = 3
      · rw [if_pos d] at ht
        rw [if_pos d.1, if_pos d.2]
        exact ⟨by omega, by rw [hj, hjs, ht]; grind⟩
      · rw [if_neg d] at ht
        have e : J a n = f * s * J m l' := by rw [hj, hjs, ht]; grind
        split
        · rename_i d1
          rw [if_neg (fun d2 => d ⟨d1, d2⟩)]
          exact ⟨hfs, e⟩
        · exact ⟨hfs, e⟩
    walk_at "dl"
    exact ⟨by omega, _, by omega, _, _, _, _, ⟨rfl, rfl, rfl, rfl⟩, rfl, hl', by omega, h1, h2, hg.1, by rw [J_mod]; exact hg.2⟩
  · rename_i c
    have c : l = 0 := by simpa using c
    subst c
    split
    · rename_i d
      subst d
      rw [J_by_one, Int.mul_one] at hj
      rw [hj] at hq
      exact hq
    · rename_i d
      rw [J_zero hm d, Int.mul_zero] at hj
      rw [hj] at hq
      exact hq

local macro_rules | `(tactic| walk_at "dl") => `(tactic| (simp (maxSteps := 10000000) (disch := omega) only [↓dlD, dlP, List.mem_cons, List.not_mem_nil, or_false, sizeLine_eq, Nat.reduceLeDiff, startD, isNon, Bool.and_true, Bool.and_eq_true, List.all_cons, List.all_nil, List.any_cons, List.any_nil, id_eq, Bool.and_self, Bool.or_false, Bool.or_true, decide_true, decide_false, Option.map_some, Option.some.injEq, List.map, List.length, List.replicate, List.append, List.cons_append, List.nil_append, Nat.sub_self, Nat.reduceSub, Nat.reduceAdd, reduceCtorEq, PyData.int.injEq, decide_eq_true_eq, Bool.not_eq_true', decide_eq_false_iff_not, Bool.not_true, Bool.not_false, if_true, if_false, Bool.false_eq_true, ne_eq, Int.reduceLE, Int.reduceLT, Int.reduceEq, Nat.reduceLT, Int.cast_ofNat_Int, Int.reducePow, Int.reduceToNat, Int.reduceMul, Int.reduceAdd, Int.reduceSub, Int.reduceNeg, Int.reduceMod, Int.reduceDiv, Int.reduceGT, Int.reduceGE, Int.reduceNe, not_false_eq_true, not_true_eq_false, forall_eq', exists_eq_left', eq_self, true_and, and_true, dlE0, dlE1, dlE2, dlE3, w_sign_by]; try simp only [List.cons.injEq, S.val.injEq, PyData.int.injEq, w_ex1, w_ex2, w_ex3, true_and, and_true]))
noncomputable def b_bad_at : ST := (sSeq (sIf (tV (eOp rEqD (pVar 3) (pE (eC (.int 0))))) (sRet (eAnd (eOp rEqD (pE (eOp rGtD (pVar 0) (pE (eC (.int 0))))) (pE (eOp rGtD (pVar 1) (pE (eC (.int 0)))))) (eOp rEqD (pE (eOp rGtD (pVar 1) (pE (eC (.int 0))))) (pE (eOp rGtD (pVar 2) (pE (eC (.int 0)))))))) sNext) (sSeq (sIf (tV (eOp rEqD (pVar 3) (pE (eC (.int 2))))) (sRet (eNot (eCall p_fits_by_8 (aCons (eVar 0) (aCons (eVar 1) (aCons (eVar 2) aNil)))))) sNext) (sSeq (sFor (iVal (eLst (aCons (eTup (aCons (eVar 0) (aCons (eVar 1) (aCons (eVar 2) aNil)))) (aCons (eTup (aCons (eVar 1) (aCons (eVar 2) (aCons (eVar 0) aNil)))) (aCons (eTup (aCons (eVar 2) (aCons (eVar 0) (aCons (eVar 1) aNil)))) aNil))))) (gTup 3 (gCons (gVal 4) (gCons (gVal 5) (gCons (gVal 6) gNil)))) (sIf (tV (eOp rEqD (pE (eOp rModD (pVar 4) (pVar 3))) (pE (eC (.int 0))))) (sRet (eOp rEqD (pE (eCall p_sign_by (aCons (eOp rSubD (pE (eC (.int 0))) (pE (eOp rMulD (pVar 5) (pVar 6)))) (aCons (eVar 3) aNil)))) (pE (eUn rNegD (pE (eC (.int 1))))))) sNext)) (sRet (eC (.bool false))))))
/-! bad_at: slots a b c place one other third -/
def p_bad_at : DSp := fun ds x q => ∃ (a b c p : Int), ds = [.int a, .int b, .int c, .int p] ∧ ((Sz 2000 a ∧ Sz 2000 b ∧ Sz 2000 c ∧ Sz 2000 p) ∧ (p = 0 ∨ p = 2 ∨ Odd p) ∧ (BadAt a b c p → q (.val (.bool true))) ∧ (¬ BadAt a b c p → q (.val (.bool false))))
theorem len_bad_at : ∀ ds x q, p_bad_at ds x q → ds.length = 4 := by
  rintro ds x q ⟨a, b, c, p, rfl, _⟩
  rfl
theorem w_bad_at {a b c p : Int} {x : XP} {q : S → Prop} : @callK p_bad_at [.int a, .int b, .int c, .int p] x ⟨q⟩ = ((Sz 2000 a ∧ Sz 2000 b ∧ Sz 2000 c ∧ Sz 2000 p) ∧ (p = 0 ∨ p = 2 ∨ Odd p) ∧ (BadAt a b c p → q (.val (.bool true))) ∧ (¬ BadAt a b c p → q (.val (.bool false)))) := propext ⟨fun h => by
  obtain ⟨a', b', c', p', e, h⟩ := h
  simp only [List.cons.injEq, PyData.list.injEq, PyData.tuple.injEq, PyData.int.injEq, PyData.str.injEq, PyData.bool.injEq, ints_inj, parts_inj, and_true, and_assoc] at e
  obtain ⟨rfl, rfl, rfl, rfl⟩ := e
  exact h, fun h => ⟨_, _, _, _, rfl, h⟩⟩
--simp w_bad_at
theorem spec_bad_at : ∀ ds x q, p_bad_at ds x q → bodyD 7 b_bad_at ds x q := by
  rintro ds x q ⟨a, b, c, p, rfl, ⟨za, zb, zc, zp⟩, hp, h1, h2⟩
  unfold b_bad_at
  walk_at "dl"
  unfold BadAt at h1 h2
  split
  · rename_i c0
    rw [if_pos c0] at h1 h2
    refine ⟨rfl, rfl, ?_⟩
    have sb : ∀ t : Bool, shapedB (.bool t) = true := fun t => rfl
    by_cases ea : 0 < a <;> by_cases eb : 0 < b <;> by_cases ec : 0 < c <;> simp [ea, eb, ec, sb] at h1 h2 ⊢ <;> assumption
  rename_i c0
  rw [if_neg c0] at h1 h2
  split
  · rename_i c2
    rw [if_pos c2] at h1 h2
    exact ⟨⟨za, zb, zc⟩, fun k => h2 fun w => w k, h1⟩
  rename_i c2
  rw [if_neg c2] at h1 h2
  have op : Odd p := by
    rcases hp with h | h | h
    · exact absurd h c0
    · exact absurd h c2
    · exact h
  refine for_lit ?_
  walk_at "dl"
  have ep : ∀ n : Int, n.fmod p = 0 ↔ p ∣ n := fun n => by rw [Int.fmod_eq_emod_of_nonneg _ (by have := op.pos; omega)]; exact (Int.dvd_iff_emod_eq_zero ..).symm
  have fin : ∀ {u v : Int}, Sz 2000 u → Sz 2000 v → ((J (0 - u * v) p = -1) → q (.val (.bool true))) → ((¬ J (0 - u * v) p = -1) → q (.val (.bool false))) → IntMulOk u v ∧ (Sz 100000 (0 - u * v) ∧ Sz 100000 p) ∧ (p < 1 ∨ p % 2 = 0 → x ⟨Str.ofString "NoSign", none⟩) ∧ (Odd p → q (.val (.bool (decide (J (0 - u * v) p = -1))))) := fun {u v} zu zv k1 k2 => by
    refine ⟨by walk_at "sz", ⟨by walk_at "sz", zp.mono (by decide)⟩, fun k => by have := op.pos; have := op.odd; omega, fun _ => ?_⟩
    by_cases e : J (0 - u * v) p = -1
    · rw [decide_eq_true e]; exact k1 e
    · rw [decide_eq_false e]; exact k2 e
  simp only [ep]
  refine ⟨c0, ?_⟩
  split
  · rename_i d
    rw [if_pos d] at h1 h2
    exact fin zb zc h1 h2
  rename_i d
  rw [if_neg d] at h1 h2
  refine ⟨c0, ?_⟩
  split
  · rename_i d
    rw [if_pos d] at h1 h2
    exact fin zc za h1 h2
  rename_i d
  rw [if_neg d] at h1 h2
  refine ⟨c0, ?_⟩
  split
  · rename_i d
    rw [if_pos d] at h1 h2
    exact fin za zb h1 h2
  rename_i d
  rw [if_neg d] at h1 h2
  exact h2 id

local macro_rules | `(tactic| walk_at "dl") => `(tactic| (simp (maxSteps := 10000000) (disch := omega) only [↓dlD, dlP, List.mem_cons, List.not_mem_nil, or_false, sizeLine_eq, Nat.reduceLeDiff, startD, isNon, Bool.and_true, Bool.and_eq_true, List.all_cons, List.all_nil, List.any_cons, List.any_nil, id_eq, Bool.and_self, Bool.or_false, Bool.or_true, decide_true, decide_false, Option.map_some, Option.some.injEq, List.map, List.length, List.replicate, List.append, List.cons_append, List.nil_append, Nat.sub_self, Nat.reduceSub, Nat.reduceAdd, reduceCtorEq, PyData.int.injEq, decide_eq_true_eq, Bool.not_eq_true', decide_eq_false_iff_not, Bool.not_true, Bool.not_false, if_true, if_false, Bool.false_eq_true, ne_eq, Int.reduceLE, Int.reduceLT, Int.reduceEq, Nat.reduceLT, Int.cast_ofNat_Int, Int.reducePow, Int.reduceToNat, Int.reduceMul, Int.reduceAdd, Int.reduceSub, Int.reduceNeg, Int.reduceMod, Int.reduceDiv, Int.reduceGT, Int.reduceGE, Int.reduceNe, not_false_eq_true, not_true_eq_false, forall_eq', exists_eq_left', eq_self, true_and, and_true, dlE0, dlE1, dlE2, dlE3, w_sign_by, w_bad_at]; try simp only [List.cons.injEq, S.val.injEq, PyData.int.injEq, w_ex1, w_ex2, w_ex3, true_and, and_true]))
noncomputable def b_bad_places : ST := (sSeq (sDrop (eCall p_ask_plain (aCons (eVar 0) (aCons (eVar 1) (aCons (eVar 2) aNil))))) (sSeq (sAsg (eB rSortedD (apCons (pE (eOp rAddD (pE (eOp rAddD (pE (eOp rAddD (pE (eLst (aCons (eC (.int 0)) (aCons (eC (.int 2)) aNil)))) (pE (eCall p_odd_primes (aCons (eVar 0) aNil))))) (pE (eCall p_odd_primes (aCons (eVar 1) aNil))))) (pE (eCall p_odd_primes (aCons (eVar 2) aNil))))) apNil)) (gVal 3)) (sRet (eComp (iVal (eVar 3)) [4] (gVal 4) (tV (eCall p_bad_at (aCons (eVar 0) (aCons (eVar 1) (aCons (eVar 2) (aCons (eVar 4) aNil)))))) (eVar 4)))))
/-! bad_places: slots a b c places place -/
def p_bad_places : DSp := fun ds x q => ∃ (a b c : Int), ds = [.int a, .int b, .int c] ∧ ((Sz 2000 a ∧ Sz 2000 b ∧ Sz 2000 c) ∧ (¬ Pln a b c → x ⟨"NotPlain", none⟩) ∧ (Pln a b c → ∀ l, BadL a b c l → q (.own (l.map PyData.int))))
theorem len_bad_places : ∀ ds x q, p_bad_places ds x q → ds.length = 3 := by
  rintro ds x q ⟨a, b, c, rfl, _⟩
  rfl
theorem w_bad_places {a b c : Int} {x : XP} {q : S → Prop} : @callK p_bad_places [.int a, .int b, .int c] x ⟨q⟩ = ((Sz 2000 a ∧ Sz 2000 b ∧ Sz 2000 c) ∧ (¬ Pln a b c → x ⟨"NotPlain", none⟩) ∧ (Pln a b c → ∀ l, BadL a b c l → q (.own (l.map PyData.int)))) := propext ⟨fun h => by
  obtain ⟨a', b', c', e, h⟩ := h
  simp only [List.cons.injEq, PyData.list.injEq, PyData.tuple.injEq, PyData.int.injEq, PyData.str.injEq, PyData.bool.injEq, ints_inj, parts_inj, and_true, and_assoc] at e
  obtain ⟨rfl, rfl, rfl⟩ := e
  exact h, fun h => ⟨_, _, _, rfl, h⟩⟩
--simp w_bad_places
theorem spec_bad_places : ∀ ds x q, p_bad_places ds x q → bodyD 5 b_bad_places ds x q := by
  rintro ds x q ⟨a, b, c, rfl, ⟨za, zb, zc⟩, hx, hq⟩
  unfold b_bad_places
  walk_at "dl"
  refine ⟨⟨za, zb, zc⟩, hx, fun hp => ?_⟩
  have hq := hq hp
  refine ⟨za, hp.fa.ne, fun la ha => ?_⟩
  simp only [List.length_map, List.length_append]
  refine ⟨by have := ha.len; omega, zb, hp.fb.ne, fun lb hb => ?_⟩
  refine ⟨by have := ha.len; have := hb.len; omega, zc, hp.fc.ne, fun lc hc => ?_⟩
  refine ⟨by have := ha.len; have := hb.len; have := hc.len; omega, ?_⟩
  rw [show PyData.int 0 :: PyData.int 2 :: (la.map PyData.int ++ lb.map PyData.int ++ lc.map PyData.int) = ([0, 2] ++ (la ++ lb ++ lc)).map PyData.int by simp, w_sorted]
  refine ⟨_, w_nums, fun ms hm hs => ?_⟩
  have hn : (0 :: 2 :: (la ++ lb ++ lc)).Nodup := by
    have dis : ∀ {u v : Int} {l r : List Int}, OPr u l → OPr v r → Int.gcd u v = 1 → ∀ p ∈ l, ∀ r' ∈ r, p ≠ r' := fun {u v l r} hl hr g p hp' r' hr' e => by
      have h1 := (hl.mem p).mp hp'
      have h2 := (hr.mem r').mp hr'
      rw [← e] at h2
      have := Int.dvd_coe_gcd h1.2.2 h2.2.2
      rw [g] at this
      exact h1.1.not_one this
    have nd : ∀ {u : Int} {l : List Int}, OPr u l → l.Nodup := fun h => h.up.imp fun k => by omega
    have gt : ∀ y ∈ la ++ lb ++ lc, 2 < y := fun y hy => by
      rcases List.mem_append.mp hy with k | k
      · rcases List.mem_append.mp k with k | k
        · exact ((ha.mem y).mp k).2.1
        · exact ((hb.mem y).mp k).2.1
      · exact ((hc.mem y).mp k).2.1
    refine List.nodup_cons.mpr ⟨fun k => ?_, List.nodup_cons.mpr ⟨fun k => ?_, ?_⟩⟩
    · rcases List.mem_cons.mp k with k | k
      · omega
      · have := gt _ k; omega
    · have := gt _ k; omega
    · refine List.nodup_append.mpr ⟨List.nodup_append.mpr ⟨nd ha, nd hb, dis ha hb hp.ab⟩, nd hc, fun p k r kr => ?_⟩
      rcases List.mem_append.mp k with k | k
      · exact fun e => dis hc ha hp.ca r kr p k e.symm
      · exact dis hb hc hp.bc p k r kr
  have hms : ms.Pairwise (· < ·) := by
    have n2 := hm.nodup_iff.mpr hn
    exact (hs.and n2).imp fun k => by omega
  have hmem : ∀ p, p ∈ ms ↔ p = 0 ∨ p = 2 ∨ Pr p ∧ 2 < p ∧ (p ∣ a ∨ p ∣ b ∨ p ∣ c) := fun p => by
    rw [hm.mem_iff]
    simp only [List.mem_append, List.mem_cons, List.not_mem_nil, or_false, ha.mem, hb.mem, hc.mem]
    constructor
    · rintro ((k | k) | (k | k) | k)
      · exact .inl k
      · exact .inr (.inl k)
      · exact .inr (.inr ⟨k.1, k.2.1, .inl k.2.2⟩)
      · exact .inr (.inr ⟨k.1, k.2.1, .inr (.inl k.2.2)⟩)
      · exact .inr (.inr ⟨k.1, k.2.1, .inr (.inr k.2.2)⟩)
    · rintro (k | k | ⟨k1, k2, k | k | k⟩)
      · exact .inl (.inl k)
      · exact .inl (.inr k)
      · exact .inr (.inl (.inl ⟨k1, k2, k⟩))
      · exact .inr (.inl (.inr ⟨k1, k2, k⟩))
      · exact .inr (.inr ⟨k1, k2, k⟩)
  have hlen : ms.length ≤ 6002 := by
    have e := hm.length_eq
    simp only [List.length_append, List.length_cons, List.length_nil] at e
    have := ha.len; have := hb.len; have := hc.len
    omega
  walk_at "dl"
  letI : DecidablePred (BadAt a b c) := fun _ => Classical.propDecidable _
  refine comp_maps (as := ms) (en := PyData.int) (fun p => decide (BadAt a b c p)) PyData.int (by omega) (fun p hx' => ?_) ?_
  · have hz : Sz 2000 p ∧ (p = 0 ∨ p = 2 ∨ Odd p) := by
      rcases (hmem p).mp hx' with k | k | ⟨k1, k2, k3⟩
      · exact ⟨by rw [k]; decide +kernel, .inl k⟩
      · exact ⟨by rw [k]; decide +kernel, .inr (.inl k)⟩
      · refine ⟨?_, .inr (.inr (k1.odd (by omega)))⟩
        rcases k3 with k | k | k
        · exact Sz.of_dvd k hp.fa.ne za
        · exact Sz.of_dvd k hp.fb.ne zb
        · exact Sz.of_dvd k hp.fc.ne zc
    walk_at "dl"
    exact ⟨⟨za, zb, zc, hz.1⟩, hz.2, id, id⟩
  · refine hq _ ⟨fun p => ?_, hms.filter _, Nat.le_trans (List.length_filter_le ..) hlen⟩
    rw [List.mem_filter, hmem, decide_eq_true_iff]

local macro_rules | `(tactic| walk_at "dl") => `(tactic| (simp (maxSteps := 10000000) (disch := omega) only [↓dlD, dlP, List.mem_cons, List.not_mem_nil, or_false, sizeLine_eq, Nat.reduceLeDiff, startD, isNon, Bool.and_true, Bool.and_eq_true, List.all_cons, List.all_nil, List.any_cons, List.any_nil, id_eq, Bool.and_self, Bool.or_false, Bool.or_true, decide_true, decide_false, Option.map_some, Option.some.injEq, List.map, List.length, List.replicate, List.append, List.cons_append, List.nil_append, Nat.sub_self, Nat.reduceSub, Nat.reduceAdd, reduceCtorEq, PyData.int.injEq, decide_eq_true_eq, Bool.not_eq_true', decide_eq_false_iff_not, Bool.not_true, Bool.not_false, if_true, if_false, Bool.false_eq_true, ne_eq, Int.reduceLE, Int.reduceLT, Int.reduceEq, Nat.reduceLT, Int.cast_ofNat_Int, Int.reducePow, Int.reduceToNat, Int.reduceMul, Int.reduceAdd, Int.reduceSub, Int.reduceNeg, Int.reduceMod, Int.reduceDiv, Int.reduceGT, Int.reduceGE, Int.reduceNe, not_false_eq_true, not_true_eq_false, forall_eq', exists_eq_left', eq_self, true_and, and_true, dlE0, dlE1, dlE2, dlE3, w_sign_by, w_bad_at, w_bad_places]; try simp only [List.cons.injEq, S.val.injEq, PyData.int.injEq, w_ex1, w_ex2, w_ex3, true_and, and_true]))
noncomputable def b_root_of : ST := (sSeq (sIf (tV (eOp rLtD (pVar 0) (pE (eC (.int 0))))) (sRaise "NoNumber") sNext) (sSeq (sAsg (eOp rShlD (pE (eC (.int 1))) (pE (eOp rAddD (pE (eOp rFdivD (pE (eUn rBitLenD (pVar 0))) (pE (eC (.int 2))))) (pE (eC (.int 1)))))) (gVal 1)) (sSeq (sWhile (tV (eOp rGtD (pE (eOp rMulD (pVar 1) (pVar 1))) (pVar 0))) (sAsg (eOp rFdivD (pE (eOp rAddD (pVar 1) (pE (eOp rFdivD (pVar 0) (pVar 1))))) (pE (eC (.int 2)))) (gVal 1))) (sRet (eVar 1)))))
/-! root_of: slots number found -/
/-- the greatest number whose square is no more -/
def isqN : Nat → Nat
  | 0 => 0
  | n + 1 => if (isqN n + 1) * (isqN n + 1) ≤ n + 1 then isqN n + 1 else isqN n
theorem isqN_spec : ∀ n : Nat, isqN n * isqN n ≤ n ∧ n < (isqN n + 1) * (isqN n + 1)
  | 0 => ⟨Nat.le_refl 0, by decide⟩
  | n + 1 => by
    have h := isqN_spec n
    unfold isqN
    split
    · rename_i c
      refine ⟨c, ?_⟩
      have : (isqN n + 1 + 1) * (isqN n + 1 + 1) = (isqN n + 1) * (isqN n + 1) + 2 * (isqN n + 1) + 1 := by grind
      omega
    · rename_i c
      exact ⟨by omega, by omega⟩
def isq (n : Int) : Int := (isqN n.toNat : Int)
theorem isq_nonneg (n : Int) : 0 ≤ isq n := Int.natCast_nonneg _
theorem isq_spec {n : Int} (h : 0 ≤ n) : isq n * isq n ≤ n ∧ n < (isq n + 1) * (isq n + 1) := by
  have z := isqN_spec n.toNat
  unfold isq
  have e : n = (n.toNat : Int) := by omega
  constructor
  · have := Int.ofNat_le.mpr z.1
    rw [Int.natCast_mul] at this
    omega
  · have := Int.ofNat_lt.mpr z.2
    rw [Int.natCast_mul, Int.natCast_add] at this
    simp only [Int.natCast_one] at this
    omega
theorem sq_lt {a b : Int} (ha : 0 ≤ a) (h : a < b) : a * a < b * b := by
  have h1 : a * a ≤ a * b := Int.mul_le_mul_of_nonneg_left (Int.le_of_lt h) ha
  have h2 : a * b < b * b := Int.mul_lt_mul_of_pos_right h (by omega)
  omega
theorem sq_le {a b : Int} (ha : 0 ≤ a) (h : a ≤ b) : a * a ≤ b * b := Int.mul_le_mul h h ha (by omega)
theorem sq_lt_iff {a b : Int} (ha : 0 ≤ a) (hb : 0 ≤ b) (h : a * a < b * b) : a < b := by
  rcases Int.lt_or_le a b with z | z
  · exact z
  · have := sq_le hb z; omega
theorem isq_unique {n r : Int} (h0 : 0 ≤ r) (h1 : r * r ≤ n) (h2 : n < (r + 1) * (r + 1)) : isq n = r := by
  have hn : 0 ≤ n := Int.le_trans (Int.mul_nonneg h0 h0) h1
  have z := isq_spec hn
  have z0 := isq_nonneg n
  have a1 : isq n < r + 1 := sq_lt_iff z0 (by omega) (by omega)
  have a2 : r < isq n + 1 := sq_lt_iff h0 (by omega) (by omega)
  omega
/-- a step of the search -/
theorem newton {n f : Int} (hn : 0 ≤ n) (hf : 0 < f) (h : n < f * f) : 0 ≤ (f + n / f) / 2 ∧ (f + n / f) / 2 < f ∧ n < ((f + n / f) / 2 + 1) * ((f + n / f) / 2 + 1) := by
  have hd : 0 ≤ n / f := Int.ediv_nonneg hn (by omega)
  have hd2 : n / f < f := (Int.ediv_lt_iff_lt_mul hf).mpr h
  have hd3 : n < f * (n / f) + f := by
    have := Int.emod_add_mul_ediv n f
    have := Int.emod_lt_of_pos n hf
    omega
  generalize n / f = d at *
  refine ⟨by omega, by omega, ?_⟩
  have hg : f + d < 2 * ((f + d) / 2 + 1) := by omega
  generalize (f + d) / 2 + 1 = g at *
  have hh : f + d + 1 ≤ 2 * g := by omega
  have h4 : (f + d + 1) * (f + d + 1) ≤ (2 * g) * (2 * g) := sq_le (by omega) hh
  have h5 : 0 ≤ (f - d - 1) * (f - d - 1) := by
    rcases Int.le_total 0 (f - d - 1) with z | z
    · exact Int.mul_nonneg z z
    · exact Int.mul_nonneg_of_nonpos_of_nonpos z z
  have h6 : (f + d + 1) * (f + d + 1) = (f - d - 1) * (f - d - 1) + 4 * (f * d + f) := by grind
  have h7 : (2 * g) * (2 * g) = 4 * (g * g) := by grind
  omega
theorem isq_le {n : Int} : isq n ≤ n ∨ n < 0 := by
  rcases Int.lt_or_le n 0 with h | h
  · exact .inr h
  · refine .inl ?_
    have z := isq_spec h
    have z0 := isq_nonneg n
    rcases Int.lt_or_le (isq n) 1 with a | a
    · have : isq n = 0 := by omega
      omega
    · have : isq n * 1 ≤ isq n * isq n := Int.mul_le_mul_of_nonneg_left a z0
      omega
theorem isq_sz {n : Int} {k : Nat} (h : Sz k n) : Sz k (isq n) := by
  rcases isq_le (n := n) with z | z
  · exact Sz.of_le (j := n) (by have := isq_nonneg n; omega) h
  · have : isq n = 0 := by unfold isq; rw [Int.toNat_of_nonpos (by omega)]; rfl
    rw [this]
    exact Nat.zero_le _
def p_root_of : DSp := fun ds x q => ∃ (n : Int), ds = [.int n] ∧ (Sz 8000 n ∧ (n < 0 → x ⟨"NoNumber", none⟩) ∧ (0 ≤ n → q (.val (.int (isq n)))))
theorem len_root_of : ∀ ds x q, p_root_of ds x q → ds.length = 1 := by
  rintro ds x q ⟨n, rfl, _⟩
  rfl
theorem w_root_of {n : Int} {x : XP} {q : S → Prop} : @callK p_root_of [.int n] x ⟨q⟩ = (Sz 8000 n ∧ (n < 0 → x ⟨"NoNumber", none⟩) ∧ (0 ≤ n → q (.val (.int (isq n))))) := propext ⟨fun h => by
  obtain ⟨n', e, h⟩ := h
  simp only [List.cons.injEq, PyData.list.injEq, PyData.tuple.injEq, PyData.int.injEq, PyData.str.injEq, PyData.bool.injEq, ints_inj, parts_inj, and_true, and_assoc] at e
  obtain ⟨rfl⟩ := e
  exact h, fun h => ⟨_, rfl, h⟩⟩
--simp w_root_of
theorem spec_root_of : ∀ ds x q, p_root_of ds x q → bodyD 2 b_root_of ds x q := by
  rintro ds x q ⟨n, rfl, hz, hx, hq⟩
  unfold b_root_of
  walk_at "dl"
  split
  · rename_i c
    exact hx c
  rename_i c
  have h0 : 0 ≤ n := by omega
  have hb : n.natAbs < 2 ^ Builtin.Int.intBits n := intBits_le_iff.mp (Nat.le_refl _)
  have hz8 : Builtin.Int.intBits n ≤ 8000 := hz
  clear hz
  generalize Builtin.Int.intBits n = b at *
  refine ⟨by decide +kernel, ⟨by omega, by omega, by decide +kernel⟩, ?_⟩
  have eb : ((b : Int) / 2 + 1).toNat = b / 2 + 1 := by omega
  rw [eb, Int.one_mul]
  have e1 : (2 : Int) ^ (b / 2 + 1) = ((2 ^ (b / 2 + 1) : Nat) : Int) := by rw [Int.natCast_pow]; rfl
  have e2 : 2 ^ b ≤ 2 ^ (b / 2 + 1) * 2 ^ (b / 2 + 1) := by rw [← Nat.pow_add]; exact Nat.pow_le_pow_right (by decide) (by omega)
  have e3 : Sz 4002 ((2 : Int) ^ (b / 2 + 1)) := intBits_le_iff.mpr (by rw [e1, Int.natAbs_natCast]; exact Nat.pow_lt_pow_right (by decide) (by omega))
  have e4 : 0 < (2 : Int) ^ (b / 2 + 1) := by rw [e1]; exact Int.natCast_pos.mpr (Nat.pow_pos (by decide))
  have e5 : n < (2 : Int) ^ (b / 2 + 1) * (2 : Int) ^ (b / 2 + 1) := by
    rw [e1, ← Int.natCast_mul]
    omega
  generalize (2 : Int) ^ (b / 2 + 1) = f0 at *
  refine while_ (fun m δ' => ∃ f : Int, δ' = [.val (.int n), .val (.int f)] ∧ m = f.toNat ∧ 0 ≤ f ∧ f ≤ f0 ∧ n < (f + 1) * (f + 1)) f0.toNat ⟨f0, rfl, rfl, by omega, by omega, ?_⟩ fun m δ' w => ?_
  · have : (f0 + 1) * (f0 + 1) = f0 * f0 + 2 * f0 + 1 := by grind
    omega
  obtain ⟨f, rfl, rfl, hf, hf0, hi⟩ := w
  have zf : Sz 4002 f := Sz.of_le (j := f0) (by omega) e3
  walk_at "dl"
  refine ⟨by walk_at "sz", ?_⟩
  split
  · rename_i c
    have hpos : 0 < f := by
      rcases Int.lt_or_le 0 f with z | z
      · exact z
      · have : f = 0 := by omega
        rw [this] at c
        omega
    refine ⟨DivOk.of (by omega) zf (by decide), by decide +kernel, ?_⟩
    have z := newton h0 hpos c
    exact ⟨_, by omega, _, rfl, rfl, z.1, by omega, z.2.2⟩
  · rename_i c
    have e := isq_unique hf (by omega) hi
    have hq := hq h0
    rw [e] at hq
    exact hq
local macro_rules | `(tactic| walk_at "szx") => `(tactic| (with_reducible show Sz _ (isq _); with_reducible exact isq_sz (by walk_at "szx")))

local macro_rules | `(tactic| walk_at "dl") => `(tactic| (simp (maxSteps := 10000000) (disch := omega) only [↓dlD, dlP, List.mem_cons, List.not_mem_nil, or_false, sizeLine_eq, Nat.reduceLeDiff, startD, isNon, Bool.and_true, Bool.and_eq_true, List.all_cons, List.all_nil, List.any_cons, List.any_nil, id_eq, Bool.and_self, Bool.or_false, Bool.or_true, decide_true, decide_false, Option.map_some, Option.some.injEq, List.map, List.length, List.replicate, List.append, List.cons_append, List.nil_append, Nat.sub_self, Nat.reduceSub, Nat.reduceAdd, reduceCtorEq, PyData.int.injEq, decide_eq_true_eq, Bool.not_eq_true', decide_eq_false_iff_not, Bool.not_true, Bool.not_false, if_true, if_false, Bool.false_eq_true, ne_eq, Int.reduceLE, Int.reduceLT, Int.reduceEq, Nat.reduceLT, Int.cast_ofNat_Int, Int.reducePow, Int.reduceToNat, Int.reduceMul, Int.reduceAdd, Int.reduceSub, Int.reduceNeg, Int.reduceMod, Int.reduceDiv, Int.reduceGT, Int.reduceGE, Int.reduceNe, not_false_eq_true, not_true_eq_false, forall_eq', exists_eq_left', eq_self, true_and, and_true, dlE0, dlE1, dlE2, dlE3, w_sign_by, w_bad_at, w_bad_places, w_root_of]; try simp only [List.cons.injEq, S.val.injEq, PyData.int.injEq, w_ex1, w_ex2, w_ex3, true_and, and_true]))
noncomputable def b_first_number : ST := (sSeq (sAsg (eOp rSubD (pE (eOp rSubD (pE (eC (.int 0))) (pE (eOp rMulD (pE (eOp rMulD (pVar 1) (pVar 3))) (pVar 3))))) (pE (eOp rMulD (pE (eOp rMulD (pVar 2) (pVar 4))) (pVar 4)))) (gVal 6)) (sSeq (sIf (tOr (tV (eOp rNeD (pE (eOp rModD (pVar 6) (pVar 0))) (pE (eC (.int 0))))) (tV (eOp rLtD (pE (eOp rFdivD (pVar 6) (pVar 0))) (pE (eC (.int 0)))))) (sRet (eC .none)) sNext) (sSeq (sAsg (eCall p_root_of (aCons (eOp rFdivD (pVar 6) (pVar 0)) aNil)) (gVal 7)) (sSeq (sIf (tOr (tV (eOp rNeD (pE (eOp rMulD (pVar 7) (pVar 7))) (pE (eOp rFdivD (pVar 6) (pVar 0))))) (tV (eOp rGtD (pVar 7) (pVar 5)))) (sRet (eC .none)) sNext) (sRet (eVar 7))))))
/-! first_number: slots a b c y z most top x -/
/-- what first_number looks for -/
def Fst (a b c y z m x : Int) : Prop := 0 ≤ x ∧ x ≤ m ∧ a * (x * x) + b * (y * y) + c * (z * z) = 0
def p_first_number : DSp := fun ds x q => ∃ (a b c y z m : Int), ds = [.int a, .int b, .int c, .int y, .int z, .int m] ∧ ((a ≠ 0 ∧ a.natAbs ≤ 1000 ∧ b.natAbs ≤ 1000 ∧ c.natAbs ≤ 1000) ∧ ((0 ≤ y ∧ y ≤ 1000) ∧ (0 ≤ z ∧ z ≤ 1000) ∧ (0 ≤ m ∧ m ≤ 1000)) ∧ ((∀ x, ¬ Fst a b c y z m x) → q (.val .none)) ∧ (∀ x, Fst a b c y z m x → q (.val (.int x))))
theorem len_first_number : ∀ ds x q, p_first_number ds x q → ds.length = 6 := by
  rintro ds x q ⟨a, b, c, y, z, m, rfl, _⟩
  rfl
theorem w_first_number {a b c y z m : Int} {x : XP} {q : S → Prop} : @callK p_first_number [.int a, .int b, .int c, .int y, .int z, .int m] x ⟨q⟩ = ((a ≠ 0 ∧ a.natAbs ≤ 1000 ∧ b.natAbs ≤ 1000 ∧ c.natAbs ≤ 1000) ∧ ((0 ≤ y ∧ y ≤ 1000) ∧ (0 ≤ z ∧ z ≤ 1000) ∧ (0 ≤ m ∧ m ≤ 1000)) ∧ ((∀ x, ¬ Fst a b c y z m x) → q (.val .none)) ∧ (∀ x, Fst a b c y z m x → q (.val (.int x)))) := propext ⟨fun h => by
  obtain ⟨a', b', c', y', z', m', e, h⟩ := h
  simp only [List.cons.injEq, PyData.list.injEq, PyData.tuple.injEq, PyData.int.injEq, PyData.str.injEq, PyData.bool.injEq, ints_inj, parts_inj, and_true, and_assoc] at e
  obtain ⟨rfl, rfl, rfl, rfl, rfl, rfl⟩ := e
  exact h, fun h => ⟨_, _, _, _, _, _, rfl, h⟩⟩
--simp w_first_number
theorem spec_first_number : ∀ ds x q, p_first_number ds x q → bodyD 8 b_first_number ds x q := by
  rintro ds x q ⟨a, b, c, y, z, m, rfl, ⟨a0, la, lb, lc⟩, ⟨hy, hz, hm⟩, h1, h2⟩
  unfold b_first_number
  walk_at "dl"
  have zn : ∀ {n : Int}, n.natAbs ≤ 1000 → Sz 10 n := fun h => Sz.of_le (j := 1000) (by omega) (by decide +kernel)
  have zy : Sz 10 y := zn (by omega)
  have zz : Sz 10 z := zn (by omega)
  have zb := zn lb
  have zc := zn lc
  have i1 := IntMulOk.of_le zb zy (by decide)
  have i2 := IntMulOk.of_le (show Sz 21 (b * y) by walk_at "sz") zy (by decide)
  have i3 := IntMulOk.of_le zc zz (by decide)
  have i4 := IntMulOk.of_le (show Sz 21 (c * z) by walk_at "sz") zz (by decide)
  have zT : Sz 60 (0 - b * y * y - c * z * z) := by walk_at "sz"
  have da : DivOk a := DivOk.of a0 (zn la) (by decide)
  have fst : ∀ x, Fst a b c y z m x ↔ 0 ≤ x ∧ x ≤ m ∧ a * (x * x) = 0 - b * y * y - c * z * z := fun x => by
    unfold Fst
    rw [Int.mul_assoc b y y, Int.mul_assoc c z z]
    constructor
    · rintro ⟨h1, h2, h3⟩; exact ⟨h1, h2, by omega⟩
    · rintro ⟨h1, h2, h3⟩; exact ⟨h1, h2, by omega⟩
  generalize 0 - b * y * y - c * z * z = T at *
  refine ⟨i1, i2, i3, i4, a0, if_pn (fun k => h1 fun x hx => k ?_) fun k => ⟨da, ?_⟩⟩
  · rw [← ((fst x).mp hx).2.2]
    exact Int.mul_fmod_right _ _
  have k : T.fmod a = 0 := Classical.byContradiction k
  have eT : T = a * T.fdiv a := by
    have := Int.mul_fdiv_add_fmod T a
    omega
  have sq : ∀ x, Fst a b c y z m x ↔ 0 ≤ x ∧ x ≤ m ∧ x * x = T.fdiv a := fun x => by
    rw [fst]
    constructor
    · rintro ⟨h1, h2, h3⟩
      refine ⟨h1, h2, ?_⟩
      have := can0 (s := a) (t := x * x - T.fdiv a) a0 (by rw [Int.mul_sub, ← eT]; omega)
      omega
    · rintro ⟨h1, h2, h3⟩
      exact ⟨h1, h2, by rw [h3]; exact eT.symm⟩
  have zk : Sz 60 (T.fdiv a) := Sz.of_le (j := T) (by
    have h1 : T.natAbs = a.natAbs * (T.fdiv a).natAbs := by rw [← Int.natAbs_mul, ← eT]
    have : 1 * (T.fdiv a).natAbs ≤ a.natAbs * (T.fdiv a).natAbs := Nat.mul_le_mul_right _ (by omega)
    omega) zT
  generalize T.fdiv a = K at *
  refine if_pn (fun k => h1 fun x hx => ?_) fun k => ⟨da, zk.mono (by decide), fun k2 => absurd k2 k, fun k2 => ⟨IntMulOk.of_le (isq_sz zk) (isq_sz zk) (by decide), da, if_pn (fun n => h1 fun x hx => n ?_) fun n => if_pn (fun n2 => h1 fun x hx => ?_) fun n2 => h2 _ ((sq _).mpr ⟨isq_nonneg _, by omega, Classical.byContradiction n⟩)⟩⟩
  · have := ((sq x).mp hx).2.2
    have := sqn x
    omega
  · obtain ⟨x0, -, e⟩ := (sq x).mp hx
    have : isq K = x := isq_unique x0 (by omega) (by have : (x + 1) * (x + 1) = x * x + 2 * x + 1 := by grind
                                                     omega)
    rw [this, e]
  · obtain ⟨x0, xm, e⟩ := (sq x).mp hx
    have : isq K = x := isq_unique x0 (by omega) (by have : (x + 1) * (x + 1) = x * x + 2 * x + 1 := by grind
                                                     omega)
    omega

local macro_rules | `(tactic| walk_at "dl") => `(tactic| (simp (maxSteps := 10000000) (disch := omega) only [↓dlD, dlP, List.mem_cons, List.not_mem_nil, or_false, sizeLine_eq, Nat.reduceLeDiff, startD, isNon, Bool.and_true, Bool.and_eq_true, List.all_cons, List.all_nil, List.any_cons, List.any_nil, id_eq, Bool.and_self, Bool.or_false, Bool.or_true, decide_true, decide_false, Option.map_some, Option.some.injEq, List.map, List.length, List.replicate, List.append, List.cons_append, List.nil_append, Nat.sub_self, Nat.reduceSub, Nat.reduceAdd, reduceCtorEq, PyData.int.injEq, decide_eq_true_eq, Bool.not_eq_true', decide_eq_false_iff_not, Bool.not_true, Bool.not_false, if_true, if_false, Bool.false_eq_true, ne_eq, Int.reduceLE, Int.reduceLT, Int.reduceEq, Nat.reduceLT, Int.cast_ofNat_Int, Int.reducePow, Int.reduceToNat, Int.reduceMul, Int.reduceAdd, Int.reduceSub, Int.reduceNeg, Int.reduceMod, Int.reduceDiv, Int.reduceGT, Int.reduceGE, Int.reduceNe, not_false_eq_true, not_true_eq_false, forall_eq', exists_eq_left', eq_self, true_and, and_true, dlE0, dlE1, dlE2, dlE3, w_sign_by, w_bad_at, w_bad_places, w_root_of, w_first_number]; try simp only [List.cons.injEq, S.val.injEq, PyData.int.injEq, w_ex1, w_ex2, w_ex3, true_and, and_true]))
noncomputable def b_searched : ST := (sSeq (sAsg (eCall p_root_of (aCons (eB rAbsD (apCons (pE (eOp rMulD (pVar 1) (pVar 2))) apNil)) aNil)) (gVal 3)) (sSeq (sFor (iRng1 (aCons (eOp rAddD (pE (eCall p_root_of (aCons (eB rAbsD (apCons (pE (eOp rMulD (pVar 2) (pVar 0))) apNil)) aNil))) (pE (eC (.int 1)))) aNil)) (gVal 4) (sFor (iRng1 (aCons (eOp rAddD (pE (eCall p_root_of (aCons (eB rAbsD (apCons (pE (eOp rMulD (pVar 0) (pVar 1))) apNil)) aNil))) (pE (eC (.int 1)))) aNil)) (gVal 5) (sSeq (sAsg (eCall p_first_number (aCons (eVar 0) (aCons (eVar 1) (aCons (eVar 2) (aCons (eVar 4) (aCons (eVar 5) (aCons (eVar 3) aNil))))))) (gVal 6)) (sIf (tAnd (tV (eOp rNotND (pVar 6) (pE (eC .none)))) (tV (eOp rNeD (pE (eTup (aCons (eVar 6) (aCons (eVar 4) (aCons (eVar 5) aNil))))) (pE (eTup (aCons (eC (.int 0)) (aCons (eC (.int 0)) (aCons (eC (.int 0)) aNil)))))))) (sRet (eTup (aCons (eVar 6) (aCons (eVar 4) (aCons (eVar 5) aNil))))) sNext)))) (sRet (eC .none))))
/-! searched: slots a b c most y z x -/
theorem le_isq {n t : Int} (h0 : 0 ≤ t) (h : t * t ≤ n) : t ≤ isq n := by
  have hn : 0 ≤ n := Int.le_trans (Int.mul_nonneg h0 h0) h
  have := sq_lt_iff h0 (by have := isq_nonneg n; omega) (Int.lt_of_le_of_lt h (isq_spec hn).2)
  omega
theorem isq_1000 {m n : Int} (h : m.natAbs ≤ 1000) (k : n.natAbs ≤ 1000) : 0 ≤ isq ((m * n).natAbs : Int) ∧ isq ((m * n).natAbs : Int) ≤ 1000 := by
  have h1 := Nat.mul_le_mul h k
  rw [← Int.natAbs_mul] at h1
  refine ⟨isq_nonneg _, ?_⟩
  have h2 := (isq_spec (n := ((m * n).natAbs : Int)) (by omega)).1
  have h3 := sq_lt_iff (a := isq ((m * n).natAbs : Int)) (b := 1001) (isq_nonneg _) (by decide) (by omega)
  omega
/-- found by the search -/
def Hit (a b c x y z : Int) : Prop := Fst a b c y z (isq ((b * c).natAbs : Int)) x ∧ ¬ (x = 0 ∧ y = 0 ∧ z = 0)
theorem Hit.sml {a b c x y z : Int} (h : Hit a b c x y z) (hy : 0 ≤ y ∧ y ≤ isq ((c * a).natAbs : Int)) (hz : 0 ≤ z ∧ z ≤ isq ((a * b).natAbs : Int)) : Sml a b c x y z := by
  obtain ⟨⟨x0, x1, e⟩, n⟩ := h
  have sq : ∀ {t n : Int}, 0 ≤ n → 0 ≤ t → t ≤ isq n → t * t ≤ n := fun {t n} hn h0 h1 => Int.le_trans (sq_le h0 h1) (isq_spec hn).1
  exact ⟨by omega, e, sq (by omega) x0 x1, sq (by omega) hy.1 hy.2, sq (by omega) hz.1 hz.2⟩
theorem Sml.hit {a b c x y z : Int} (h : Sml a b c x y z) : ∃ (x : Int) (j k : Nat), (j : Int) ≤ isq ((c * a).natAbs : Int) ∧ (k : Int) ≤ isq ((a * b).natAbs : Int) ∧ Hit a b c x j k := by
  obtain ⟨n, e, h1, h2, h3⟩ := h.abs
  exact ⟨x.natAbs, y.natAbs, z.natAbs, le_isq (by omega) h2, le_isq (by omega) h3, ⟨by omega, le_isq (by omega) h1, e⟩, by omega⟩
def p_searched : DSp := fun ds x q => ∃ (a b c : Int), ds = [.int a, .int b, .int c] ∧ ((a ≠ 0 ∧ a.natAbs ≤ 1000 ∧ b.natAbs ≤ 1000 ∧ c.natAbs ≤ 1000) ∧ (∃ x y z, Sml a b c x y z) ∧ (∀ x y z : Int, Sml a b c x y z → (0 ≤ x ∧ x ≤ 1000 ∧ 0 ≤ y ∧ y ≤ 1000 ∧ 0 ≤ z ∧ z ≤ 1000) → q (.val (.tuple [.int x, .int y, .int z]))))
theorem len_searched : ∀ ds x q, p_searched ds x q → ds.length = 3 := by
  rintro ds x q ⟨a, b, c, rfl, _⟩
  rfl
theorem w_searched {a b c : Int} {x : XP} {q : S → Prop} : @callK p_searched [.int a, .int b, .int c] x ⟨q⟩ = ((a ≠ 0 ∧ a.natAbs ≤ 1000 ∧ b.natAbs ≤ 1000 ∧ c.natAbs ≤ 1000) ∧ (∃ x y z, Sml a b c x y z) ∧ (∀ x y z : Int, Sml a b c x y z → (0 ≤ x ∧ x ≤ 1000 ∧ 0 ≤ y ∧ y ≤ 1000 ∧ 0 ≤ z ∧ z ≤ 1000) → q (.val (.tuple [.int x, .int y, .int z])))) := propext ⟨fun h => by
  obtain ⟨a', b', c', e, h⟩ := h
  simp only [List.cons.injEq, PyData.list.injEq, PyData.tuple.injEq, PyData.int.injEq, PyData.str.injEq, PyData.bool.injEq, ints_inj, parts_inj, and_true, and_assoc] at e
  obtain ⟨rfl, rfl, rfl⟩ := e
  exact h, fun h => ⟨_, _, _, rfl, h⟩⟩
--simp w_searched
theorem spec_searched : ∀ ds x q, p_searched ds x q → bodyD 7 b_searched ds x q := by
  rintro ds x q ⟨a, b, c, rfl, ⟨a0, la, lb, lc⟩, hex, h⟩
  unfold b_searched
  have zn : ∀ {n : Int}, n.natAbs ≤ 1000 → Sz 10 n := fun h => Sz.of_le (j := 1000) (by omega) (by decide +kernel)
  have za := zn la
  have zb := zn lb
  have zc := zn lc
  have q1 := isq_1000 lb lc
  have q2 := isq_1000 lc la
  have q3 := isq_1000 la lb
  have im : ∀ {m n : Int}, Sz 10 m → Sz 10 n → IntMulOk m n ∧ Sz 8000 ((m * n).natAbs : Int) := fun {m n} h k => ⟨IntMulOk.of_le h k (by decide), Sz.mono (Sz.of_le (j := m * n) (by omega) (by walk_at "sz") : Sz 21 _) (by decide)⟩
  walk_at "dl"
  refine ⟨(im zb zc).1, (im zb zc).2, fun k => by omega, fun _ => ⟨(im zc za).1, (im zc za).2, fun k => by omega, fun _ => ⟨by omega, ?_⟩⟩⟩
  have el : isq ((c * a).natAbs : Int) = isqN (c * a).natAbs := by unfold isq; rw [Int.toNat_natCast]
  have em : isq ((a * b).natAbs : Int) = isqN (a * b).natAbs := by unfold isq; rw [Int.toNat_natCast]
  have hl : (isq ((c * a).natAbs : Int) + 1).toNat = isqN (c * a).natAbs + 1 := by omega
  have hm : (isq ((a * b).natAbs : Int) + 1).toNat = isqN (a * b).natAbs + 1 := by omega
  rw [hl]
  refine for_rng (fun i δ' => ∃ s4 s5 s6 : S, δ' = [.val (.int a), .val (.int b), .val (.int c), .val (.int (isq ((b * c).natAbs : Int))), s4, s5, s6] ∧ ∀ (j : Nat), j < i → ∀ (k : Nat) (x : Int), k < isqN (a * b).natAbs + 1 → ¬ Hit a b c x j k) ⟨_, _, _, rfl, fun j h => by omega⟩ (fun i δ' hi w => ?_) fun δ' w => ?_
  · obtain ⟨s4, s5, s6, rfl, w⟩ := w
    walk_at "dl"
    refine ⟨(im za zb).1, (im za zb).2, fun k => by omega, fun _ => ⟨by omega, ?_⟩⟩
    rw [hm]
    refine for_rng (fun m δ' => ∃ s5 s6 : S, δ' = [.val (.int a), .val (.int b), .val (.int c), .val (.int (isq ((b * c).natAbs : Int))), .val (.int (0 + (i : Int))), s5, s6] ∧ ∀ (k : Nat) (x : Int), k < m → ¬ Hit a b c x i k) ⟨_, _, rfl, fun k x h => by omega⟩ (fun m δ' hm w2 => ?_) fun δ' w2 => ?_
    · obtain ⟨s5, s6, rfl, w2⟩ := w2
      walk_at "dl"
      rw [Int.zero_add, Int.zero_add]
      have st : ∀ {k : Nat} {t : Int}, k < m + 1 → ¬ Hit a b c t i m → (∀ t, Hit a b c t i m → False) → ¬ Hit a b c t i k := fun {k t} hk _ n => by
        rcases Nat.lt_succ_iff_lt_or_eq.mp hk with r | rfl
        · exact w2 k t r
        · exact n t
      refine ⟨⟨a0, la, lb, lc⟩, ⟨⟨by omega, by omega⟩, ⟨by omega, by omega⟩, q1⟩, fun n => ⟨_, _, ⟨rfl, rfl⟩, fun k t hk => st hk (fun r => n t r.1) fun t r => n t r.1⟩, fun t ht => ⟨rfl, rfl, ?_⟩⟩
      by_cases z0 : t = 0 ∧ (i : Int) = 0 ∧ (m : Int) = 0
      · obtain ⟨e1, e2, e3⟩ := z0
        rw [decide_eq_true e1, decide_eq_true e2, decide_eq_true e3]
        have none : ∀ t', ¬ Hit a b c t' i m := fun t' r => by
          have h1 := r.1.2.2
          rw [e2, e3] at h1
          have h2 := mss (can0 (s := a) (t := t' * t') a0 (by simpa using h1))
          exact r.2 ⟨h2, e2, e3⟩
        exact ⟨_, _, ⟨rfl, rfl⟩, fun k t' hk => st hk (none t') none⟩
      · have e : (decide (t = 0) && (decide ((i : Int) = 0) && decide ((m : Int) = 0))) = false := by
          rw [← Bool.not_eq_true, Bool.and_eq_true, Bool.and_eq_true]
          simpa using z0
        rw [if_pos e]
        have hit : Hit a b c t i m := ⟨ht, z0⟩
        exact h _ _ _ (hit.sml ⟨by omega, by omega⟩ ⟨by omega, by omega⟩) ⟨ht.1, by have := ht.2.1; omega, by omega, by omega, by omega, by omega⟩
    · obtain ⟨s5, s6, rfl, w2⟩ := w2
      refine ⟨_, _, _, rfl, fun j hj => ?_⟩
      rcases Nat.lt_succ_iff_lt_or_eq.mp hj with k | rfl
      · exact w j k
      · exact fun k x hk => w2 k x hk
  · obtain ⟨s4, s5, s6, rfl, w⟩ := w
    exfalso
    obtain ⟨x, y, z, hs⟩ := hex
    obtain ⟨t, j, k, hj, hk, hh⟩ := hs.hit
    exact w j (by omega) k t (by omega) hh

local macro_rules | `(tactic| walk_at "dl") => `(tactic| (simp (maxSteps := 10000000) (disch := omega) only [↓dlD, dlP, List.mem_cons, List.not_mem_nil, or_false, sizeLine_eq, Nat.reduceLeDiff, startD, isNon, Bool.and_true, Bool.and_eq_true, List.all_cons, List.all_nil, List.any_cons, List.any_nil, id_eq, Bool.and_self, Bool.or_false, Bool.or_true, decide_true, decide_false, Option.map_some, Option.some.injEq, List.map, List.length, List.replicate, List.append, List.cons_append, List.nil_append, Nat.sub_self, Nat.reduceSub, Nat.reduceAdd, reduceCtorEq, PyData.int.injEq, decide_eq_true_eq, Bool.not_eq_true', decide_eq_false_iff_not, Bool.not_true, Bool.not_false, if_true, if_false, Bool.false_eq_true, ne_eq, Int.reduceLE, Int.reduceLT, Int.reduceEq, Nat.reduceLT, Int.cast_ofNat_Int, Int.reducePow, Int.reduceToNat, Int.reduceMul, Int.reduceAdd, Int.reduceSub, Int.reduceNeg, Int.reduceMod, Int.reduceDiv, Int.reduceGT, Int.reduceGE, Int.reduceNe, not_false_eq_true, not_true_eq_false, forall_eq', exists_eq_left', eq_self, true_and, and_true, dlE0, dlE1, dlE2, dlE3, w_sign_by, w_bad_at, w_bad_places, w_root_of, w_first_number, w_searched]; try simp only [List.cons.injEq, S.val.injEq, PyData.int.injEq, w_ex1, w_ex2, w_ex3, true_and, and_true]))
noncomputable def b_shared_by : ST := (sSeq (sAsg (eC (.int 0)) (gVal 1)) (sSeq (sFor (iVal (eVar 0)) (gVal 2) (sSeq (sAsg (eB rAbsD (apCons (pVar 2) apNil)) (gVal 3)) (sWhile (tV (eOp rNeD (pVar 3) (pE (eC (.int 0))))) (sPar 1 3 (aCons (eVar 3) (aCons (eOp rModD (pVar 1) (pVar 3)) aNil)))))) (sRet (eVar 1))))
/-! shared_by: slots numbers found number rest -/
abbrev p_shared_by : DSp := p_law_shared
abbrev len_shared_by := len_law_shared
theorem spec_shared_by : ∀ ds x q, p_shared_by ds x q → bodyD 4 b_shared_by ds x q := spec_law_shared
--simp p_shared_by
local macro_rules | `(tactic| walk_at "dl") => `(tactic| (simp (maxSteps := 10000000) (disch := omega) only [↓dlD, dlP, List.mem_cons, List.not_mem_nil, or_false, sizeLine_eq, Nat.reduceLeDiff, startD, isNon, Bool.and_true, Bool.and_eq_true, List.all_cons, List.all_nil, List.any_cons, List.any_nil, id_eq, Bool.and_self, Bool.or_false, Bool.or_true, decide_true, decide_false, Option.map_some, Option.some.injEq, List.map, List.length, List.replicate, List.append, List.cons_append, List.nil_append, Nat.sub_self, Nat.reduceSub, Nat.reduceAdd, reduceCtorEq, PyData.int.injEq, decide_eq_true_eq, Bool.not_eq_true', decide_eq_false_iff_not, Bool.not_true, Bool.not_false, if_true, if_false, Bool.false_eq_true, ne_eq, Int.reduceLE, Int.reduceLT, Int.reduceEq, Nat.reduceLT, Int.cast_ofNat_Int, Int.reducePow, Int.reduceToNat, Int.reduceMul, Int.reduceAdd, Int.reduceSub, Int.reduceNeg, Int.reduceMod, Int.reduceDiv, Int.reduceGT, Int.reduceGE, Int.reduceNe, not_false_eq_true, not_true_eq_false, forall_eq', exists_eq_left', eq_self, true_and, and_true, dlE0, dlE1, dlE2, dlE3, w_sign_by, w_bad_at, w_bad_places, w_root_of, w_first_number, w_searched, p_shared_by]; try simp only [List.cons.injEq, S.val.injEq, PyData.int.injEq, w_ex1, w_ex2, w_ex3, true_and, and_true]))
noncomputable def b_lowest_point : ST := (sSeq (sAsg (eCall p_shared_by (aCons (eVar 0) aNil)) (gVal 1)) (sSeq (sAsg (eOp rIxD (pE (eComp (iVal (eVar 0)) [3] (gVal 3) (tV (eOp rNeD (pVar 3) (pE (eC (.int 0))))) (eVar 3))) (pE (eC (.int 0)))) (gVal 2)) (sCut (sIf (tV (eOp rLtD (pVar 2) (pE (eC (.int 0))))) (sAsg (eOp rSubD (pE (eC (.int 0))) (pVar 1)) (gVal 1)) sNext) (sRet (eB rTupleD (apCons (pE (eComp (iVal (eVar 0)) [3] (gVal 3) tYesD (eOp rFdivD (pVar 3) (pVar 1)))) apNil))))))
/-! lowest_point: slots point share first number -/
def p_lowest_point : DSp := fun ds x q => ∃ (es : List D), ds = [.tuple es] ∧ (optK (nums es) fun xs => (∃ n, n ≤ 9000 ∧ ∀ x ∈ xs, Sz n x) ∧ (∃ x ∈ xs, x ≠ 0) ∧ xs.length ≤ 1000000 ∧ q (.val (.tuple ((lowP xs).map PyData.int))))
theorem len_lowest_point : ∀ ds x q, p_lowest_point ds x q → ds.length = 1 := by
  rintro ds x q ⟨es, rfl, _⟩
  rfl
theorem w_lowest_point {es : List D} {x : XP} {q : S → Prop} : @callK p_lowest_point [.tuple es] x ⟨q⟩ = (optK (nums es) fun xs => (∃ n, n ≤ 9000 ∧ ∀ x ∈ xs, Sz n x) ∧ (∃ x ∈ xs, x ≠ 0) ∧ xs.length ≤ 1000000 ∧ q (.val (.tuple ((lowP xs).map PyData.int)))) := propext ⟨fun h => by
  obtain ⟨es', e, h⟩ := h
  simp only [List.cons.injEq, PyData.list.injEq, PyData.tuple.injEq, PyData.int.injEq, PyData.str.injEq, PyData.bool.injEq, ints_inj, parts_inj, and_true, and_assoc] at e
  obtain ⟨rfl⟩ := e
  exact h, fun h => ⟨_, rfl, h⟩⟩
--simp w_lowest_point
theorem spec_lowest_point : ∀ ds x q, p_lowest_point ds x q → bodyD 4 b_lowest_point ds x q := by
  rintro ds x q ⟨es, rfl, h0⟩
  unfold b_lowest_point
  obtain ⟨xs, rfl, ⟨n, hn, hz⟩, hx, hl, h⟩ := optK_nums h0
  obtain ⟨a, l, e, ha, a0⟩ := nz_some hx
  have hs := (low_spec hx).1
  have zg : Sz n (gcdL xs) := Sz.of_le (natAbs_le_of_dvd (gcdL_dvd ha) a0) (hz a ha)
  walk_at "dl"
  refine comp_maps (fun x => decide (¬ x = 0)) PyData.int hl (fun x _ => ?_) ?_
  · walk_at "dl"
    split <;> simp_all
  have e' : List.filter (fun x => decide (¬ x = 0)) xs = a :: l := e
  rw [e']
  walk_at "dl"
  have hf : fst0 xs = a := by unfold fst0; rw [e]; rfl
  refine cut_int 1 (fun s => s = lowS xs) ?_ fun s es => ?_
  · walk_at "dl"
    unfold lowS
    rw [hf]
    split <;> rfl
  subst es
  walk_at "dl"
  have zs : Sz n (lowS xs) := Sz.of_le (j := gcdL xs) (by unfold lowS; split <;> omega) zg
  refine comp_all (fun x => .int (x.fdiv (lowS xs))) hl (fun x _ => ?_) ?_
  · walk_at "dl"
    exact DivOk.of hs zs hn
  walk_at "dl"
  unfold lowP at h
  rw [List.map_map] at h
  exact h

local macro_rules | `(tactic| walk_at "dl") => `(tactic| (simp (maxSteps := 10000000) (disch := omega) only [↓dlD, dlP, List.mem_cons, List.not_mem_nil, or_false, sizeLine_eq, Nat.reduceLeDiff, startD, isNon, Bool.and_true, Bool.and_eq_true, List.all_cons, List.all_nil, List.any_cons, List.any_nil, id_eq, Bool.and_self, Bool.or_false, Bool.or_true, decide_true, decide_false, Option.map_some, Option.some.injEq, List.map, List.length, List.replicate, List.append, List.cons_append, List.nil_append, Nat.sub_self, Nat.reduceSub, Nat.reduceAdd, reduceCtorEq, PyData.int.injEq, decide_eq_true_eq, Bool.not_eq_true', decide_eq_false_iff_not, Bool.not_true, Bool.not_false, if_true, if_false, Bool.false_eq_true, ne_eq, Int.reduceLE, Int.reduceLT, Int.reduceEq, Nat.reduceLT, Int.cast_ofNat_Int, Int.reducePow, Int.reduceToNat, Int.reduceMul, Int.reduceAdd, Int.reduceSub, Int.reduceNeg, Int.reduceMod, Int.reduceDiv, Int.reduceGT, Int.reduceGE, Int.reduceNe, not_false_eq_true, not_true_eq_false, forall_eq', exists_eq_left', eq_self, true_and, and_true, dlE0, dlE1, dlE2, dlE3, w_sign_by, w_bad_at, w_bad_places, w_root_of, w_first_number, w_searched, p_shared_by, w_lowest_point]; try simp only [List.cons.injEq, S.val.injEq, PyData.int.injEq, w_ex1, w_ex2, w_ex3, true_and, and_true]))
noncomputable def b_small_point : ST := (sSeq (sAsg (eCall p_bad_places (aCons (eVar 0) (aCons (eVar 1) (aCons (eVar 2) aNil)))) (gVal 3)) (sSeq (sIf (tV (eOp rNeD (pVar 3) (pE (eLst aNil)))) (sRaise1 "BadPlace" "place" (eOp rIxD (pVar 3) (pE (eC (.int 0))))) sNext) (sSeq (sAsg (eB rMin3D (apCons (pE (eB rAbsD (apCons (pVar 0) apNil))) (apCons (pE (eB rAbsD (apCons (pVar 1) apNil))) (apCons (pE (eB rAbsD (apCons (pVar 2) apNil))) apNil)))) (gVal 4)) (sSeq (sIf (tV (eOp rEqD (pE (eB rAbsD (apCons (pVar 0) apNil))) (pVar 4))) (sRet (eCall p_lowest_point (aCons (eCall p_searched (aCons (eVar 0) (aCons (eVar 1) (aCons (eVar 2) aNil)))) aNil))) sNext) (sSeq (sIf (tV (eOp rEqD (pE (eB rAbsD (apCons (pVar 1) apNil))) (pVar 4))) (sSeq (sAsg (eCall p_searched (aCons (eVar 1) (aCons (eVar 2) (aCons (eVar 0) aNil)))) (gTup 3 (gCons (gVal 5) (gCons (gVal 6) (gCons (gVal 7) gNil))))) (sRet (eCall p_lowest_point (aCons (eTup (aCons (eVar 7) (aCons (eVar 5) (aCons (eVar 6) aNil)))) aNil)))) sNext) (sSeq (sAsg (eCall p_searched (aCons (eVar 2) (aCons (eVar 0) (aCons (eVar 1) aNil)))) (gTup 3 (gCons (gVal 6) (gCons (gVal 7) (gCons (gVal 5) gNil))))) (sRet (eCall p_lowest_point (aCons (eTup (aCons (eVar 7) (aCons (eVar 5) (aCons (eVar 6) aNil)))) aNil)))))))))
/-! small_point: slots a b c bad least y z x -/
theorem Sml.low {a b c s d e f : Int} (s0 : s ≠ 0) (h : Sml a b c (s * d) (s * e) (s * f)) : Sml a b c d e f := by
  obtain ⟨n, e0, h1, h2, h3⟩ := h
  have s1 : 1 ≤ s * s := by
    have := sqn s
    have : s * s ≠ 0 := Int.mul_ne_zero s0 s0
    omega
  have le : ∀ {t : Int} {B : Nat}, s * t * (s * t) ≤ (B : Int) → t * t ≤ (B : Int) := fun {t B} h => by
    have : 1 * (t * t) ≤ s * s * (t * t) := Int.mul_le_mul_of_nonneg_right s1 (sqn t)
    have : s * t * (s * t) = s * s * (t * t) := by grind
    omega
  refine ⟨?_, ?_, le h1, le h2, le h3⟩
  · refine Classical.byContradiction fun k => ?_
    have k1 : d = 0 := by omega
    have k2 : e = 0 := by omega
    have k3 : f = 0 := by omega
    subst k1; subst k2; subst k3
    simp at n
  · exact can0 (s := s * s) (Int.mul_ne_zero s0 s0) (by grind)
def p_small_point : DSp := fun ds x q => ∃ (a b c : Int), ds = [.int a, .int b, .int c] ∧ ((a.natAbs ≤ 1000 ∧ b.natAbs ≤ 1000 ∧ c.natAbs ≤ 1000) ∧ (¬ Pln a b c → x ⟨"NotPlain", none⟩) ∧ (Pln a b c → ∀ (p : Int) (l : List Int), BadL a b c (p :: l) → x ⟨"BadPlace", some ("place", .int p)⟩) ∧ (Pln a b c → (∀ p, ¬ BadP a b c p) → ∀ u v w : Int, Low [u, v, w] → Sml a b c u v w → q (.val (.tuple [.int u, .int v, .int w]))))
theorem len_small_point : ∀ ds x q, p_small_point ds x q → ds.length = 3 := by
  rintro ds x q ⟨a, b, c, rfl, _⟩
  rfl
theorem w_small_point {a b c : Int} {x : XP} {q : S → Prop} : @callK p_small_point [.int a, .int b, .int c] x ⟨q⟩ = ((a.natAbs ≤ 1000 ∧ b.natAbs ≤ 1000 ∧ c.natAbs ≤ 1000) ∧ (¬ Pln a b c → x ⟨"NotPlain", none⟩) ∧ (Pln a b c → ∀ (p : Int) (l : List Int), BadL a b c (p :: l) → x ⟨"BadPlace", some ("place", .int p)⟩) ∧ (Pln a b c → (∀ p, ¬ BadP a b c p) → ∀ u v w : Int, Low [u, v, w] → Sml a b c u v w → q (.val (.tuple [.int u, .int v, .int w])))) := propext ⟨fun h => by
  obtain ⟨a', b', c', e, h⟩ := h
  simp only [List.cons.injEq, PyData.list.injEq, PyData.tuple.injEq, PyData.int.injEq, PyData.str.injEq, PyData.bool.injEq, ints_inj, parts_inj, and_true, and_assoc] at e
  obtain ⟨rfl, rfl, rfl⟩ := e
  exact h, fun h => ⟨_, _, _, rfl, h⟩⟩
--simp w_small_point
theorem spec_small_point : ∀ ds x q, p_small_point ds x q → bodyD 8 b_small_point ds x q := by
  rintro ds x q ⟨a, b, c, rfl, ⟨la, lb, lc⟩, hx, hb, h⟩
  unfold b_small_point
  have zn : ∀ {n : Int}, n.natAbs ≤ 1000 → Sz 2000 n := fun h => Sz.mono (Sz.of_le (j := 1000) (by omega) (by decide +kernel) : Sz 10 _) (by decide)
  walk_at "dl"
  refine ⟨⟨zn la, zn lb, zn lc⟩, hx, fun pl l hl => ?_⟩
  cases l with
  | cons p l =>
    walk_at "dl"
    exact ⟨shaped_ints (xs := p :: l), rfl, hb pl p l hl⟩
  | nil =>
    walk_at "dl"
    have nb : ∀ p, ¬ BadP a b c p := fun p k => nomatch (hl.mem' pl p).mpr k
    have h := h pl nb
    have ex := small_any pl nb
    have fin : ∀ {u v w : Int}, Sml a b c u v w → u.natAbs ≤ 1000 → v.natAbs ≤ 1000 → w.natAbs ≤ 1000 → (∃ n, n ≤ 9000 ∧ ∀ t : Int, t = u ∨ t = v ∨ t = w → Sz n t) ∧ (∃ t : Int, (t = u ∨ t = v ∨ t = w) ∧ ¬ t = 0) ∧ q (.val (.tuple ((lowP [u, v, w]).map PyData.int))) := fun {u v w} s b1 b2 b3 => by
      refine ⟨⟨2000, by decide, fun t ht => zn (by rcases ht with rfl | rfl | rfl <;> assumption)⟩, ?_, ?_⟩
      · rcases s.1 with k | k | k
        · exact ⟨_, .inl rfl, k⟩
        · exact ⟨_, .inr (.inl rfl), k⟩
        · exact ⟨_, .inr (.inr rfl), k⟩
      · obtain ⟨r, d, e, f, r0, rfl, rfl, rfl, hL, eq⟩ := low3v s.1
        rw [eq]
        exact h d e f hL (s.low r0)
    obtain ⟨x0, y0, z0, s0⟩ := ex
    refine ⟨rfl, rfl, if_pn (fun _ => ⟨⟨pl.fa.ne, la, lb, lc⟩, ⟨_, _, _, s0⟩, fun u v w s b => fin s (by omega) (by omega) (by omega)⟩) fun _ => if_pn (fun _ => ⟨⟨pl.fb.ne, lb, lc, la⟩, ⟨_, _, _, s0.turn⟩, fun u v w s b => fin s.turn.turn (by omega) (by omega) (by omega)⟩) fun _ => ⟨⟨pl.fc.ne, lc, la, lb⟩, ⟨_, _, _, s0.turn.turn⟩, fun u v w s b => fin s.turn (by omega) (by omega) (by omega)⟩⟩

def dlE4 := And.intro @w_sign_by (And.intro @w_bad_at (And.intro @w_bad_places (And.intro @w_root_of (And.intro @w_first_number (And.intro @w_searched (And.intro @w_lowest_point (@w_small_point)))))))
local macro_rules | `(tactic| walk_at "dl") => `(tactic| (simp (maxSteps := 10000000) (disch := omega) only [↓dlD, dlP, List.mem_cons, List.not_mem_nil, or_false, sizeLine_eq, Nat.reduceLeDiff, startD, isNon, Bool.and_true, Bool.and_eq_true, List.all_cons, List.all_nil, List.any_cons, List.any_nil, id_eq, Bool.and_self, Bool.or_false, Bool.or_true, decide_true, decide_false, Option.map_some, Option.some.injEq, List.map, List.length, List.replicate, List.append, List.cons_append, List.nil_append, Nat.sub_self, Nat.reduceSub, Nat.reduceAdd, reduceCtorEq, PyData.int.injEq, decide_eq_true_eq, Bool.not_eq_true', decide_eq_false_iff_not, Bool.not_true, Bool.not_false, if_true, if_false, Bool.false_eq_true, ne_eq, Int.reduceLE, Int.reduceLT, Int.reduceEq, Nat.reduceLT, Int.cast_ofNat_Int, Int.reducePow, Int.reduceToNat, Int.reduceMul, Int.reduceAdd, Int.reduceSub, Int.reduceNeg, Int.reduceMod, Int.reduceDiv, Int.reduceGT, Int.reduceGE, Int.reduceNe, not_false_eq_true, not_true_eq_false, forall_eq', exists_eq_left', eq_self, true_and, and_true, dlE0, dlE1, dlE2, dlE3, p_shared_by, dlE4]; try simp only [List.cons.injEq, S.val.injEq, PyData.int.injEq, w_ex1, w_ex2, w_ex3, true_and, and_true]))
noncomputable def b_law_refused_by_any : ST := (sSeq (sAsg (eC (.bool false)) (gVal 1)) (sSeq (sTry (sDrop (eCall p_small_point (aCons (eOp rIxD (pVar 0) (pE (eC (.int 0)))) (aCons (eOp rIxD (pVar 0) (pE (eC (.int 1)))) (aCons (eOp rIxD (pVar 0) (pE (eC (.int 2)))) aNil))))) [⟨["BadPlace", "NotPlain", "NoPlace"], "CurveError", some 2, (sAsg (eIsE ["BadPlace", "NotPlain", "NoPlace"] "ValueError" (eVar 2)) (gVal 1))⟩]) (sRet (eVar 1))))
/-! law_refused_by_any: slots triple_here base e -/
def p_law_refused_by_any : DSp := fun ds x q => ∃ (a b c : Int), ds = [.list [.int a, .int b, .int c]] ∧ ((a.natAbs ≤ 1000 ∧ b.natAbs ≤ 1000 ∧ c.natAbs ≤ 1000) ∧ (¬ Pln a b c ∨ (Pln a b c ∧ ∃ p, BadP a b c p)) ∧ q (.val (.bool true)))
theorem len_law_refused_by_any : ∀ ds x q, p_law_refused_by_any ds x q → ds.length = 1 := by
  rintro ds x q ⟨a, b, c, rfl, _⟩
  rfl
theorem w_law_refused_by_any {a b c : Int} {x : XP} {q : S → Prop} : @callK p_law_refused_by_any [.list [.int a, .int b, .int c]] x ⟨q⟩ = ((a.natAbs ≤ 1000 ∧ b.natAbs ≤ 1000 ∧ c.natAbs ≤ 1000) ∧ (¬ Pln a b c ∨ (Pln a b c ∧ ∃ p, BadP a b c p)) ∧ q (.val (.bool true))) := propext ⟨fun h => by
  obtain ⟨a', b', c', e, h⟩ := h
  simp only [List.cons.injEq, PyData.list.injEq, PyData.tuple.injEq, PyData.int.injEq, PyData.str.injEq, PyData.bool.injEq, ints_inj, parts_inj, and_true, and_assoc] at e
  obtain ⟨rfl, rfl, rfl⟩ := e
  exact h, fun h => ⟨_, _, _, rfl, h⟩⟩
--simp w_law_refused_by_any
theorem spec_law_refused_by_any : ∀ ds x q, p_law_refused_by_any ds x q → bodyD 3 b_law_refused_by_any ds x q := by
  rintro ds x q ⟨a, b, c, rfl, ll, hn, h⟩
  unfold b_law_refused_by_any
  walk_at "dl"
  refine ⟨ll, fun n => ⟨.inr (.inl trivial), .inr (.inl trivial), h⟩, fun pl p l hl => ⟨.inl trivial, .inl trivial, h⟩, fun pl nb => ?_⟩
  rcases hn with n | ⟨_, p, k⟩
  · exact absurd pl n
  · exact absurd k (nb p)

local macro_rules | `(tactic| walk_at "dl") => `(tactic| (simp (maxSteps := 10000000) (disch := omega) only [↓dlD, dlP, List.mem_cons, List.not_mem_nil, or_false, sizeLine_eq, Nat.reduceLeDiff, startD, isNon, Bool.and_true, Bool.and_eq_true, List.all_cons, List.all_nil, List.any_cons, List.any_nil, id_eq, Bool.and_self, Bool.or_false, Bool.or_true, decide_true, decide_false, Option.map_some, Option.some.injEq, List.map, List.length, List.replicate, List.append, List.cons_append, List.nil_append, Nat.sub_self, Nat.reduceSub, Nat.reduceAdd, reduceCtorEq, PyData.int.injEq, decide_eq_true_eq, Bool.not_eq_true', decide_eq_false_iff_not, Bool.not_true, Bool.not_false, if_true, if_false, Bool.false_eq_true, ne_eq, Int.reduceLE, Int.reduceLT, Int.reduceEq, Nat.reduceLT, Int.cast_ofNat_Int, Int.reducePow, Int.reduceToNat, Int.reduceMul, Int.reduceAdd, Int.reduceSub, Int.reduceNeg, Int.reduceMod, Int.reduceDiv, Int.reduceGT, Int.reduceGE, Int.reduceNe, not_false_eq_true, not_true_eq_false, forall_eq', exists_eq_left', eq_self, true_and, and_true, dlE0, dlE1, dlE2, dlE3, p_shared_by, dlE4, w_law_refused_by_any]; try simp only [List.cons.injEq, S.val.injEq, PyData.int.injEq, w_ex1, w_ex2, w_ex3, true_and, and_true]))
noncomputable def b_law_refused : ST := (sSeq (sAsg (eLst (aCons (eC (.bool false)) (aCons (eC (.bool false)) (aCons (eC .none) aNil)))) (gVal 1)) (sSeq (sTry (sDrop (eCall p_small_point (aCons (eOp rIxD (pVar 0) (pE (eC (.int 0)))) (aCons (eOp rIxD (pVar 0) (pE (eC (.int 1)))) (aCons (eOp rIxD (pVar 0) (pE (eC (.int 2)))) aNil))))) [⟨["BadPlace", "NotPlain", "NoPlace"], "BadPlace", some 2, (sAsg (eLst (aCons (eIsE ["BadPlace", "NotPlain", "NoPlace"] "NotPlain" (eVar 2)) (aCons (eIsE ["BadPlace", "NotPlain", "NoPlace"] "NoPlace" (eVar 2)) (aCons (eFld ["BadPlace"] "place" (eVar 2)) aNil)))) (gVal 1))⟩, ⟨["BadPlace", "NotPlain", "NoPlace"], "NotPlain", some 2, (sAsg (eLst (aCons (eC (.bool true)) (aCons (eIsE ["BadPlace", "NotPlain", "NoPlace"] "BadPlace" (eVar 2)) (aCons (eC .none) aNil)))) (gVal 1))⟩]) (sRet (eVar 1))))
/-! law_refused: slots triple_here told e -/
def p_law_refused : DSp := fun ds x q => ∃ (a b c : Int), ds = [.list [.int a, .int b, .int c]] ∧ ((a.natAbs ≤ 1000 ∧ b.natAbs ≤ 1000 ∧ c.natAbs ≤ 1000) ∧ ((¬ Pln a b c ∧ q (.val (.list [.bool true, .bool false, .none]))) ∨ (Pln a b c ∧ ∃ (p : Int) (l : List Int), (∀ r, r ∈ p :: l ↔ BadP a b c r) ∧ (p :: l).Pairwise (· < ·) ∧ q (.val (.list [.bool false, .bool false, .int p])))))
theorem len_law_refused : ∀ ds x q, p_law_refused ds x q → ds.length = 1 := by
  rintro ds x q ⟨a, b, c, rfl, _⟩
  rfl
theorem w_law_refused {a b c : Int} {x : XP} {q : S → Prop} : @callK p_law_refused [.list [.int a, .int b, .int c]] x ⟨q⟩ = ((a.natAbs ≤ 1000 ∧ b.natAbs ≤ 1000 ∧ c.natAbs ≤ 1000) ∧ ((¬ Pln a b c ∧ q (.val (.list [.bool true, .bool false, .none]))) ∨ (Pln a b c ∧ ∃ (p : Int) (l : List Int), (∀ r, r ∈ p :: l ↔ BadP a b c r) ∧ (p :: l).Pairwise (· < ·) ∧ q (.val (.list [.bool false, .bool false, .int p]))))) := propext ⟨fun h => by
  obtain ⟨a', b', c', e, h⟩ := h
  simp only [List.cons.injEq, PyData.list.injEq, PyData.tuple.injEq, PyData.int.injEq, PyData.str.injEq, PyData.bool.injEq, ints_inj, parts_inj, and_true, and_assoc] at e
  obtain ⟨rfl, rfl, rfl⟩ := e
  exact h, fun h => ⟨_, _, _, rfl, h⟩⟩
--simp w_law_refused
theorem spec_law_refused : ∀ ds x q, p_law_refused ds x q → bodyD 3 b_law_refused ds x q := by
  rintro ds x q ⟨a, b, c, rfl, ll, h⟩
  unfold b_law_refused
  walk_at "dl"
  refine ⟨ll, fun n => ?_, fun pl p l hl => ?_, fun pl nb => ?_⟩
  · rcases h with ⟨_, h⟩ | ⟨pl, _⟩
    · exact ⟨.inr (.inl trivial), .inr (.inl trivial), .inr (.inl trivial), h⟩
    · exact absurd pl n
  · rcases h with ⟨n, _⟩ | ⟨_, p', l', hm, up, h⟩
    · exact absurd pl n
    · have e := hl.uniq (a' := a) (b' := b) (c' := c) pl up hm
      cases e
      exact ⟨.inl trivial, .inl trivial, .inl trivial, h⟩
  · rcases h with ⟨n, _⟩ | ⟨_, p', l', hm, up, h⟩
    · exact absurd pl n
    · exact absurd ((hm p').mp List.mem_cons_self) (nb p')

local macro_rules | `(tactic| walk_at "dl") => `(tactic| (simp (maxSteps := 10000000) (disch := omega) only [↓dlD, dlP, List.mem_cons, List.not_mem_nil, or_false, sizeLine_eq, Nat.reduceLeDiff, startD, isNon, Bool.and_true, Bool.and_eq_true, List.all_cons, List.all_nil, List.any_cons, List.any_nil, id_eq, Bool.and_self, Bool.or_false, Bool.or_true, decide_true, decide_false, Option.map_some, Option.some.injEq, List.map, List.length, List.replicate, List.append, List.cons_append, List.nil_append, Nat.sub_self, Nat.reduceSub, Nat.reduceAdd, reduceCtorEq, PyData.int.injEq, decide_eq_true_eq, Bool.not_eq_true', decide_eq_false_iff_not, Bool.not_true, Bool.not_false, if_true, if_false, Bool.false_eq_true, ne_eq, Int.reduceLE, Int.reduceLT, Int.reduceEq, Nat.reduceLT, Int.cast_ofNat_Int, Int.reducePow, Int.reduceToNat, Int.reduceMul, Int.reduceAdd, Int.reduceSub, Int.reduceNeg, Int.reduceMod, Int.reduceDiv, Int.reduceGT, Int.reduceGE, Int.reduceNe, not_false_eq_true, not_true_eq_false, forall_eq', exists_eq_left', eq_self, true_and, and_true, dlE0, dlE1, dlE2, dlE3, p_shared_by, dlE4, w_law_refused_by_any, w_law_refused]; try simp only [List.cons.injEq, S.val.injEq, PyData.int.injEq, w_ex1, w_ex2, w_ex3, true_and, and_true]))
noncomputable def b_law : ST := (sSeq (sAsg (eCall p_law_triple (aCons (eVar 0) aNil)) (gTup 2 (gCons (gVal 1) (gCons (gVal 2) gNil)))) (sSeq (sIf (tNot (tV (eVar 2))) (sRet (eAnd (eOp rEqD (pE (eCall p_law_refused (aCons (eVar 1) aNil))) (pE (eLst (aCons (eC (.bool true)) (aCons (eC (.bool false)) (aCons (eC .none) aNil)))))) (eCall p_law_refused_by_any (aCons (eVar 1) aNil)))) sNext) (sSeq (sAsg (eCall p_law_bad_places (aCons (eVar 1) (aCons (eOp rMulD (pE (eOp rMulD (pE (eOp rIxD (pVar 1) (pE (eC (.int 0))))) (pE (eOp rIxD (pVar 1) (pE (eC (.int 1))))))) (pE (eOp rIxD (pVar 1) (pE (eC (.int 2)))))) aNil))) (gVal 3)) (sSeq (sIf (tV (eOp rNeD (pVar 3) (pE (eLst aNil)))) (sRet (eAnd (eOp rEqD (pE (eCall p_law_refused (aCons (eVar 1) aNil))) (pE (eLst (aCons (eC (.bool false)) (aCons (eC (.bool false)) (aCons (eOp rIxD (pVar 3) (pE (eC (.int 0)))) aNil)))))) (eCall p_law_refused_by_any (aCons (eVar 1) aNil)))) sNext) (sRet (eCall p_law_small (aCons (eVar 1) (aCons (eCall p_small_point (aCons (eOp rIxD (pVar 1) (pE (eC (.int 0)))) (aCons (eOp rIxD (pVar 1) (pE (eC (.int 1)))) (aCons (eOp rIxD (pVar 1) (pE (eC (.int 2)))) aNil)))) aNil))))))))
/-! law: slots script triple_here plain bad_here -/
theorem spec_law : ∀ ds x q, p_law ds x q → bodyD 4 b_law ds x q := by
  intro ds x q h
  unfold p_law spLaw at h
  split at h
  case h_2 => exact h.elim
  rename_i xs
  obtain ⟨ns, rfl, hs, h⟩ := h
  unfold b_law
  walk_at "dl"
  refine ⟨hs, fun a b c ll n => ⟨ll, .inl ⟨n, rfl, rfl, ll, .inl n, h⟩⟩, fun a b c ll pl => ?_⟩
  obtain ⟨la, lb, lc⟩ := id ll
  have zn : ∀ {n : Int}, n.natAbs ≤ 1000 → Sz 10 n := fun h => Sz.of_le (j := 1000) (by omega) (by decide +kernel)
  have za := zn la
  have zb := zn lb
  have zc := zn lc
  have n0 : a * b * c ≠ 0 := Int.mul_ne_zero (Int.mul_ne_zero pl.fa.ne pl.fb.ne) pl.fc.ne
  have lab : (a * b * c).natAbs ≤ 1000000000 := by
    rw [Int.natAbs_mul, Int.natAbs_mul]
    exact Nat.mul_le_mul (Nat.mul_le_mul la lb) lc
  refine ⟨IntMulOk.of_le za zb (by decide), IntMulOk.of_le (show Sz 21 (a * b) by walk_at "sz") zc (by decide), ⟨pl, by omega, by omega, by omega⟩, ⟨n0, lab⟩, fun p bad => ?_, fun l hm up => ?_⟩
  · rcases bad with ⟨k, _⟩ | ⟨k, _⟩ | ⟨_, _, k⟩
    · exact .inl k
    · exact .inr (.inl k)
    · refine .inr (.inr ?_)
      rcases k with ⟨k, _⟩ | ⟨k, _⟩ | ⟨k, _⟩
      · exact Int.dvd_mul_of_dvd_left (Int.dvd_mul_of_dvd_left k)
      · exact Int.dvd_mul_of_dvd_left (Int.dvd_mul_of_dvd_right k)
      · exact Int.dvd_mul_of_dvd_right k
  · refine ⟨shaped_ints, rfl, ?_⟩
    cases l with
    | nil =>
      walk_at "dl"
      have nb : ∀ p, ¬ BadP a b c p := fun p k => nomatch (hm p).mpr k
      refine ⟨ll, fun n => absurd pl n, fun _ p l hl => absurd ((hl.mem' pl p).mp List.mem_cons_self) (nb p), fun _ _ u v w hL s => ⟨ll, hL, s, h⟩⟩
    | cons p l =>
      walk_at "dl"
      refine ⟨ll, .inr ⟨pl, p, l, fun r => ?_, up, ?_⟩⟩
      · rw [← hm r, List.mem_cons]
      · exact ⟨rfl, rfl, by rw [if_pos rfl]; exact ⟨ll, .inr ⟨pl, p, (hm p).mp List.mem_cons_self⟩, h⟩⟩

end DL
namespace DL
open PySem L2
def topS (i : Nat) : Stmt := PySem.Challenge.pw_conicplaces_k44_small_points.main.body.getD i (.Pass ⟨0, 0, 0, 0⟩)
abbrev s_law_drawn : Stmt := topS 33
abbrev s_law_of : Stmt := topS 32
abbrev s_law_plain_drawn : Stmt := topS 38
abbrev s_law_great : Stmt := topS 44
abbrev s_law_triple : Stmt := topS 45
abbrev s_law_none_by_8 : Stmt := topS 40
abbrev s_law_no_square : Stmt := topS 39
abbrev s_law_bad : Stmt := topS 41
abbrev s_law_primes : Stmt := topS 42
abbrev s_law_bad_places : Stmt := topS 43
abbrev s_law_whole : Stmt := topS 34
abbrev s_law_wholes : Stmt := topS 35
abbrev s_law_shared : Stmt := topS 36
abbrev s_law_is_lowest : Stmt := topS 37
abbrev s_law_small : Stmt := topS 48
abbrev s_shares_of : Stmt := topS 14
abbrev s_prime_parts : Stmt := topS 8
abbrev s_core_of : Stmt := topS 9
abbrev s_is_plain : Stmt := topS 18
abbrev s_ask_plain : Stmt := topS 19
abbrev s_odd_primes : Stmt := topS 21
abbrev s_fits_by_8 : Stmt := topS 20
abbrev s_without_twos : Stmt := topS 11
abbrev s_sign_by : Stmt := topS 12
abbrev s_bad_at : Stmt := topS 22
abbrev s_bad_places : Stmt := topS 23
abbrev s_root_of : Stmt := topS 15
abbrev s_first_number : Stmt := topS 28
abbrev s_searched : Stmt := topS 29
abbrev s_shared_by : Stmt := topS 25
abbrev s_lowest_point : Stmt := topS 26
abbrev s_small_point : Stmt := topS 30
abbrev s_law_refused_by_any : Stmt := topS 47
abbrev s_law_refused : Stmt := topS 46
abbrev s_law : Stmt := topS 49
structure Bi (mg : Str → Option Value) : Prop where
  n_abs : mg "abs" = none
  n_all : mg "all" = none
  n_bool : mg "bool" = none
  n_int : mg "int" = none
  n_isinstance : mg "isinstance" = none
  n_len : mg "len" = none
  n_list : mg "list" = none
  n_max : mg "max" = none
  n_min : mg "min" = none
  n_range : mg "range" = none
  n_set : mg "set" = none
  n_sorted : mg "sorted" = none
  n_sum : mg "sum" = none
  n_tuple : mg "tuple" = none
abbrev i_BadPlace : Stmt := L2.inClass (topS 6) 0
theorem sci_BadPlace : FnScope ["self", "place"] ["self", "place"] (defScope i_BadPlace) := ⟨rfl, rfl, rfl, by decide +kernel, rfl, by decide +kernel, by decide +kernel⟩
def made_BadPlace {P : Program} {w : World} {K : PySem.W.Frag} {mg : Str → Option Value} {base : Heap} (TB : BaseI K mg "CurveError") (E : ExE1 K mg "BadPlace" "place" "BadPlace.__init__" i_BadPlace) : ExD1 P w K mg base "BadPlace" "place" :=
  E.made (init_ok (B := "CurveError") (m := "no point at this place") E.F sci_BadPlace TB fun cdv A outer s H E => ⟨_, pss_cons (ps_expr (pe_binit TB rfl (by decide) (pa_cons (pv 0) (pa_cons pe_str pa_nil)))) (pss_one (ps_ost (pv 0) (pv 1))), fun _ _ _ h => h⟩)
def N_law_drawn : List Str := ["_law_cell", "_law_prime", "_law_many", "_law_part"]
theorem sc_law_drawn : FnScope N_law_drawn ["_law_cell", "_law_prime", "_law_many"] (defScope s_law_drawn) := ⟨rfl, rfl, rfl, by decide +kernel, rfl, by decide +kernel, by decide +kernel⟩
theorem ok_law_drawn {P : Program} {w : World} {K : PySem.W.Frag} {mg : Str → Option Value} {base : Heap} (T : Bi mg) (D_law_drawn : Df K mg "_law_drawn" s_law_drawn ["_law_cell", "_law_prime", "_law_many"]) : FnOk P w K mg base (L2N.CX P w) 1 D_law_drawn.a D_law_drawn.fd ["_law_cell", "_law_prime", "_law_many"] (spD K mg p_law_drawn) :=
  fnD D_law_drawn.F sc_law_drawn len_law_drawn (fun cdv A outer s H E hr => (jss_cons (js_set (je_bin os_add (jp_of (je_bin os_mod (jp_var 0) (jp_var 1))) (jp_of je_int)) (jg_val 3 sc_law_drawn.nd)) (jss_one (js_ret (je_bin os_mod (jp_of (je_bin os_mod (jp_of (je_bin os_add (jp_of (je_bin os_mul (jp_of (je_bin os_mul (jp_var 3) (jp_var 3))) (jp_var 3))) (jp_of (je_bin os_mul (jp_of je_int) (jp_var 3))))) (jp_of je_int))) (jp_var 2)))))) spec_law_drawn
def N_law_of : List Str := ["_law_script", "_law_k"]
theorem sc_law_of : FnScope N_law_of ["_law_script", "_law_k"] (defScope s_law_of) := ⟨rfl, rfl, rfl, by decide +kernel, rfl, by decide +kernel, by decide +kernel⟩
theorem ok_law_of {P : Program} {w : World} {K : PySem.W.Frag} {mg : Str → Option Value} {base : Heap} (T : Bi mg) (D_law_of : Df K mg "_law_of" s_law_of ["_law_script", "_law_k"]) : FnOk P w K mg base (L2N.CX P w) 1 D_law_of.a D_law_of.fd ["_law_script", "_law_k"] (spD K mg p_law_of) :=
  fnD D_law_of.F sc_law_of len_law_of (fun cdv A outer s H E hr => (jss_cons (js_if (jt_cmp os_lt (jp_var 1) (jp_of (je_callB cs_len T.n_len (by decide +kernel) (jap_cons (jp_var 0) jap_nil))) (nomark _)) (jss_one (js_ret (je_ix (jp_var 0) (jp_var 1)))) jss_nil) (jss_one (js_ret (je_bin os_add (jp_of (je_bin os_mul (jp_of je_int) (jp_var 1))) (jp_of je_int)))))) spec_law_of
def N_law_plain_drawn : List Str := ["_law_cell", "_law_most", "_law_found", "_law_prime", "_law_by", "_law_at", "_law_signs", "_law_k"]
theorem sc_law_plain_drawn : FnScope N_law_plain_drawn ["_law_cell", "_law_most"] (defScope s_law_plain_drawn) := ⟨rfl, rfl, rfl, by decide +kernel, rfl, by decide +kernel, by decide +kernel⟩
theorem ok_law_plain_drawn {P : Program} {w : World} {K : PySem.W.Frag} {mg : Str → Option Value} {base : Heap} (T : Bi mg) (D_law_plain_drawn : Df K mg "_law_plain_drawn" s_law_plain_drawn ["_law_cell", "_law_most"]) (D_law_drawn : Df K mg "_law_drawn" s_law_drawn ["_law_cell", "_law_prime", "_law_many"]) (G_law_drawn : FnOk P w K mg base (L2N.CX P w) 1 D_law_drawn.a D_law_drawn.fd ["_law_cell", "_law_prime", "_law_many"] (spD K mg p_law_drawn)) : FnOk P w K mg base (L2N.CX P w) 2 D_law_plain_drawn.a D_law_plain_drawn.fd ["_law_cell", "_law_most"] (spD K mg p_law_plain_drawn) :=
  fnD D_law_plain_drawn.F sc_law_plain_drawn len_law_plain_drawn (fun cdv A outer s H E hr => (jss_cons (js_set (je_lst (ja_cons je_int (ja_cons je_int (ja_cons je_int ja_nil)))) (jg_var 2 sc_law_plain_drawn.nd)) (jss_cons (js_for passesD rfl (ji_val (je_lst (ja_cons (je_tup (ja_cons je_int (ja_cons je_int ja_nil))) (ja_cons (je_tup (ja_cons je_int (ja_cons je_int ja_nil))) (ja_cons (je_tup (ja_cons je_int (ja_cons je_int ja_nil))) (ja_cons (je_tup (ja_cons je_int (ja_cons je_int ja_nil))) ja_nil)))))) (jg_tup rfl (jgs_cons (jg_val 3 sc_law_plain_drawn.nd) (jgs_cons (jg_val 4 sc_law_plain_drawn.nd) jgs_nil))) (jss_cons (js_set (je_call G_law_drawn (hr.mono (by decide)) takesD D_law_drawn.m D_law_drawn.F.kp D_law_drawn.b (ja_cons (je_var 0) (ja_cons (je_var 4) (ja_cons je_int ja_nil)))) (jg_val 5 sc_law_plain_drawn.nd)) (jss_one (js_if (JW.pt (jw_and (jt_cmp os_lt (jp_var 5) (jp_of je_int) (nomark _)) (jw_and1 (jt_cmp os_le (jp_of (je_bin os_mul (jp_of (je_ix (jp_var 2) (jp_var 5))) (jp_var 3))) (jp_var 1) (nomark _))))) (jss_one (js_item 2 (je_bin os_mul (jp_of (je_ix (jp_var 2) (jp_var 5))) (jp_var 3)) (je_var 5))) jss_nil)))) (jss_cons (js_set (je_call G_law_drawn (hr.mono (by decide)) takesD D_law_drawn.m D_law_drawn.F.kp D_law_drawn.b (ja_cons (je_var 0) (ja_cons je_int (ja_cons je_int ja_nil)))) (jg_val 6 sc_law_plain_drawn.nd)) (jss_one (js_ret (je_callTy cs_tuple T.n_tuple (by decide +kernel) (jap_cons (jp_of (je_lc (own := [("_law_k", 7)]) rfl sc_law_plain_drawn.nd (ji_rng1 T.n_range (ja_cons je_int ja_nil)) (blkOk_by (own := [("_law_k", 7)]) (N := N_law_plain_drawn) (sc := defScope s_law_plain_drawn) (by decide +kernel)) (by decide) (fun _ _ _ _ _ => (jg_val 7 sc_law_plain_drawn.nd)) (fun _ _ _ _ _ => jts_nil) (fun _ _ _ _ _ => (je_bin os_mul (jp_of (je_ix (jp_var 2) (jp_var 7))) (jp_of (je_bin os_sub (jp_of je_int) (jp_of (je_bin os_mul (jp_of je_int) (jp_of (je_bin os_and (jp_of (je_bin os_shr (jp_var 6) (jp_var 7))) (jp_of je_int))))))))))) jap_nil)))))))) spec_law_plain_drawn
def N_law_great : List Str := ["_law_cell", "_law_other", "_law_found", "_law_at", "_law_primes_here", "_law_k"]
theorem sc_law_great : FnScope N_law_great ["_law_cell", "_law_other"] (defScope s_law_great) := ⟨rfl, rfl, rfl, by decide +kernel, rfl, by decide +kernel, by decide +kernel⟩
theorem ok_law_great {P : Program} {w : World} {K : PySem.W.Frag} {mg : Str → Option Value} {base : Heap} (T : Bi mg) (D_law_great : Df K mg "_law_great" s_law_great ["_law_cell", "_law_other"]) (D_law_plain_drawn : Df K mg "_law_plain_drawn" s_law_plain_drawn ["_law_cell", "_law_most"]) (G_law_plain_drawn : FnOk P w K mg base (L2N.CX P w) 2 D_law_plain_drawn.a D_law_plain_drawn.fd ["_law_cell", "_law_most"] (spD K mg p_law_plain_drawn)) (D_law_drawn : Df K mg "_law_drawn" s_law_drawn ["_law_cell", "_law_prime", "_law_many"]) (G_law_drawn : FnOk P w K mg base (L2N.CX P w) 1 D_law_drawn.a D_law_drawn.fd ["_law_cell", "_law_prime", "_law_many"] (spD K mg p_law_drawn)) : FnOk P w K mg base (L2N.CX P w) 3 D_law_great.a D_law_great.fd ["_law_cell", "_law_other"] (spD K mg p_law_great) :=
  fnD D_law_great.F sc_law_great len_law_great (fun cdv A outer s H E hr => (jss_cons (js_set (je_callTy cs_list T.n_list (by decide +kernel) (jap_cons (jp_of (je_call G_law_plain_drawn (hr.mono (by decide)) takesD D_law_plain_drawn.m D_law_plain_drawn.F.kp D_law_plain_drawn.b (ja_cons (je_var 0) (ja_cons je_int ja_nil)))) jap_nil)) (jg_var 2 sc_law_great.nd)) (jss_cons (js_set (je_call G_law_drawn (hr.mono (by decide)) takesD D_law_drawn.m D_law_drawn.F.kp D_law_drawn.b (ja_cons (je_var 1) (ja_cons je_int (ja_cons je_int ja_nil)))) (jg_val 3 sc_law_great.nd)) (jss_cons (js_item 2 (je_bin os_mul (jp_of (je_ix (jp_var 2) (jp_var 3))) (jp_of (je_ix (jp_of (je_lst (ja_cons je_int (ja_cons je_int ja_nil)))) (jp_of (je_call G_law_drawn (hr.mono (by decide)) takesD D_law_drawn.m D_law_drawn.F.kp D_law_drawn.b (ja_cons (je_var 1) (ja_cons je_int (ja_cons je_int ja_nil)))))))) (je_var 3)) (jss_cons (js_set (je_lst (ja_cons je_int (ja_cons je_int (ja_cons je_int (ja_cons je_int (ja_cons je_int (ja_cons je_int (ja_cons je_int (ja_cons je_int (ja_cons je_int (ja_cons je_int (ja_cons je_int (ja_cons je_int ja_nil))))))))))))) (jg_val 4 sc_law_great.nd)) (jss_cons (js_for passesD rfl (ji_rng1 T.n_range (ja_cons je_int ja_nil)) (jg_val 5 sc_law_great.nd) (jss_cons (js_set (je_bin os_add (jp_of je_int) (jp_of (je_call G_law_drawn (hr.mono (by decide)) takesD D_law_drawn.m D_law_drawn.F.kp D_law_drawn.b (ja_cons (je_bin os_add (jp_var 1) (jp_of (je_bin os_mul (jp_of je_int) (jp_var 5)))) (ja_cons je_int (ja_cons je_int ja_nil)))))) (jg_val 3 sc_law_great.nd)) (jss_one (js_if (JW.pt (jw_and (jt_cmp os_lt (jp_var 3) (jp_of je_int) (nomark _)) (jw_and1 (jt_cmp os_le (jp_of (je_bin os_mul (jp_of (je_callB cs_abs T.n_abs (by decide +kernel) (jap_cons (jp_of (je_ix (jp_var 2) (jp_var 3))) jap_nil))) (jp_of (je_ix (jp_var 4) (jp_var 5))))) (jp_of je_int) (nomark _))))) (jss_one (js_item 2 (je_bin os_mul (jp_of (je_ix (jp_var 2) (jp_var 3))) (jp_of (je_ix (jp_var 4) (jp_var 5)))) (je_var 3))) jss_nil)))) (jss_one (js_retOwn 2)))))))) spec_law_great
def N_law_triple : List Str := ["_law_script", "_law_kind", "_law_triple_here", "_law_at", "_law_k"]
theorem sc_law_triple : FnScope N_law_triple ["_law_script"] (defScope s_law_triple) := ⟨rfl, rfl, rfl, by decide +kernel, rfl, by decide +kernel, by decide +kernel⟩
theorem ok_law_triple {P : Program} {w : World} {K : PySem.W.Frag} {mg : Str → Option Value} {base : Heap} (T : Bi mg) (D_law_triple : Df K mg "_law_triple" s_law_triple ["_law_script"]) (D_law_drawn : Df K mg "_law_drawn" s_law_drawn ["_law_cell", "_law_prime", "_law_many"]) (G_law_drawn : FnOk P w K mg base (L2N.CX P w) 1 D_law_drawn.a D_law_drawn.fd ["_law_cell", "_law_prime", "_law_many"] (spD K mg p_law_drawn)) (D_law_of : Df K mg "_law_of" s_law_of ["_law_script", "_law_k"]) (G_law_of : FnOk P w K mg base (L2N.CX P w) 1 D_law_of.a D_law_of.fd ["_law_script", "_law_k"] (spD K mg p_law_of)) (D_law_plain_drawn : Df K mg "_law_plain_drawn" s_law_plain_drawn ["_law_cell", "_law_most"]) (G_law_plain_drawn : FnOk P w K mg base (L2N.CX P w) 2 D_law_plain_drawn.a D_law_plain_drawn.fd ["_law_cell", "_law_most"] (spD K mg p_law_plain_drawn)) (D_law_great : Df K mg "_law_great" s_law_great ["_law_cell", "_law_other"]) (G_law_great : FnOk P w K mg base (L2N.CX P w) 3 D_law_great.a D_law_great.fd ["_law_cell", "_law_other"] (spD K mg p_law_great)) : FnOk P w K mg base (L2N.CX P w) 4 D_law_triple.a D_law_triple.fd ["_law_script"] (spD K mg p_law_triple) :=
  fnD D_law_triple.F sc_law_triple len_law_triple (fun cdv A outer s H E hr => (jss_cons (js_set (je_call G_law_drawn (hr.mono (by decide)) takesD D_law_drawn.m D_law_drawn.F.kp D_law_drawn.b (ja_cons (je_call G_law_of (hr.mono (by decide)) takesD D_law_of.m D_law_of.F.kp D_law_of.b (ja_cons (je_var 0) (ja_cons je_int ja_nil))) (ja_cons je_int (ja_cons je_int ja_nil)))) (jg_val 1 sc_law_triple.nd)) (jss_cons (js_set (je_callTy cs_list T.n_list (by decide +kernel) (jap_cons (jp_of (je_call G_law_plain_drawn (hr.mono (by decide)) takesD D_law_plain_drawn.m D_law_plain_drawn.F.kp D_law_plain_drawn.b (ja_cons (je_call G_law_of (hr.mono (by decide)) takesD D_law_of.m D_law_of.F.kp D_law_of.b (ja_cons (je_var 0) (ja_cons je_int ja_nil))) (ja_cons (je_ix (jp_of (je_lst (ja_cons je_int (ja_cons je_int ja_nil)))) (jp_of (je_callTy cs_int T.n_int (by decide +kernel) (jap_cons (jp_of (je_cmp os_gt (jp_var 1) (jp_of je_int) (nomark _))) jap_nil)))) ja_nil)))) jap_nil)) (jg_var 2 sc_law_triple.nd)) (jss_cut (js_if (jt_cmp os_gt (jp_var 1) (jp_of je_int) (nomark _)) (jss_one (js_set (je_call G_law_great (hr.mono (by decide)) takesD D_law_great.m D_law_great.F.kp D_law_great.b (ja_cons (je_call G_law_of (hr.mono (by decide)) takesD D_law_of.m D_law_of.F.kp D_law_of.b (ja_cons (je_var 0) (ja_cons je_int ja_nil))) (ja_cons (je_call G_law_of (hr.mono (by decide)) takesD D_law_of.m D_law_of.F.kp D_law_of.b (ja_cons (je_var 0) (ja_cons je_int ja_nil))) ja_nil))) (jg_var 2 sc_law_triple.nd))) jss_nil) (jss_cut (js_if (JW.pt (jw_and (jt_cmp (os_eq (units_ok hr)) (jp_of (je_call G_law_drawn (hr.mono (by decide)) takesD D_law_drawn.m D_law_drawn.F.kp D_law_drawn.b (ja_cons (je_call G_law_of (hr.mono (by decide)) takesD D_law_of.m D_law_of.F.kp D_law_of.b (ja_cons (je_var 0) (ja_cons je_int ja_nil))) (ja_cons je_int (ja_cons je_int ja_nil))))) (jp_of je_int) (nomark _)) (jw_and1 (jt_cmp (os_eq (units_ok hr)) (jp_of (je_cmp os_gt (jp_of (je_ix (jp_var 2) (jp_of je_int))) (jp_of je_int) (nomark _))) (jp_of (je_cmp os_gt (jp_of (je_ix (jp_var 2) (jp_of je_int))) (jp_of je_int) (nomark _))) (nomark _))))) (jss_one (js_item 2 (je_bin os_mul (jp_of (je_callB cs_abs T.n_abs (by decide +kernel) (jap_cons (jp_of (je_ix (jp_var 2) (jp_of je_int))) jap_nil))) (jp_of (je_bin os_sub (jp_of je_int) (jp_of (je_bin os_mul (jp_of je_int) (jp_of (je_callTy cs_int T.n_int (by decide +kernel) (jap_cons (jp_of (je_cmp os_gt (jp_of (je_ix (jp_var 2) (jp_of je_int))) (jp_of je_int) (nomark _))) jap_nil)))))))) je_int)) jss_nil) (jss_cons (js_set (je_call G_law_drawn (hr.mono (by decide)) takesD D_law_drawn.m D_law_drawn.F.kp D_law_drawn.b (ja_cons (je_call G_law_of (hr.mono (by decide)) takesD D_law_of.m D_law_of.F.kp D_law_of.b (ja_cons (je_var 0) (ja_cons je_int ja_nil))) (ja_cons je_int (ja_cons je_int ja_nil)))) (jg_val 3 sc_law_triple.nd)) (jss_cut (js_if (jt_cmp (os_eq (units_ok hr)) (jp_var 1) (jp_of je_int) (nomark _)) (jss_one (js_item 2 je_int (je_var 3))) jss_nil) (jss_cut (js_if (jt_cmp (os_eq (units_ok hr)) (jp_var 1) (jp_of je_int) (nomark _)) (jss_one (js_item 2 (je_bin os_mul (jp_of (je_ix (jp_var 2) (jp_var 3))) (jp_of (je_ix (jp_of (je_lst (ja_cons je_int (ja_cons je_int ja_nil)))) (jp_of (je_call G_law_drawn (hr.mono (by decide)) takesD D_law_drawn.m D_law_drawn.F.kp D_law_drawn.b (ja_cons (je_call G_law_of (hr.mono (by decide)) takesD D_law_of.m D_law_of.F.kp D_law_of.b (ja_cons (je_var 0) (ja_cons je_int ja_nil))) (ja_cons je_int (ja_cons je_int ja_nil)))))))) (je_var 3))) jss_nil) (jss_cut (js_if (jt_cmp (os_eq (units_ok hr)) (jp_var 1) (jp_of je_int) (nomark _)) (jss_one (js_set (je_lc (own := [("_law_k", 4)]) rfl sc_law_triple.nd (ji_rng1 T.n_range (ja_cons je_int ja_nil)) (blkOk_by (own := [("_law_k", 4)]) (N := N_law_triple) (sc := defScope s_law_triple) (by decide +kernel)) (by decide) (fun _ _ _ _ _ => (jg_val 4 sc_law_triple.nd)) (fun _ _ _ _ _ => jts_nil) (fun _ _ _ _ _ => (je_bin os_mul (jp_of (je_ix (jp_var 2) (jp_var 4))) (jp_of (je_ix (jp_of (je_lst (ja_cons je_int (ja_cons je_int ja_nil)))) (jp_of (je_callTy cs_int T.n_int (by decide +kernel) (jap_cons (jp_of (je_cmp (os_eq (units_ok hr)) (jp_var 4) (jp_var 3) (nomark _))) jap_nil)))))))) (jg_var 2 sc_law_triple.nd))) jss_nil) (jss_frz 2 (jss_one (js_ret (je_tup (ja_cons (je_var 2) (ja_cons (je_cmp os_gt (jp_var 1) (jp_of je_int) (nomark _)) ja_nil))))))))))))))) spec_law_triple
def N_law_none_by_8 : List Str := ["_law_triple_here", "_law_a", "_law_b", "_law_c", "_law_x", "_law_y", "_law_z"]
theorem sc_law_none_by_8 : FnScope N_law_none_by_8 ["_law_triple_here"] (defScope s_law_none_by_8) := ⟨rfl, rfl, rfl, by decide +kernel, rfl, by decide +kernel, by decide +kernel⟩
theorem ok_law_none_by_8 {P : Program} {w : World} {K : PySem.W.Frag} {mg : Str → Option Value} {base : Heap} (T : Bi mg) (D_law_none_by_8 : Df K mg "_law_none_by_8" s_law_none_by_8 ["_law_triple_here"]) : FnOk P w K mg base (L2N.CX P w) 1 D_law_none_by_8.a D_law_none_by_8.fd ["_law_triple_here"] (spD K mg p_law_none_by_8) :=
  fnD D_law_none_by_8.F sc_law_none_by_8 len_law_none_by_8 (fun cdv A outer s H E hr => (jss_cons (js_asg (je_var 0) (jg_lst rfl (jgs_cons (jg_val 1 sc_law_none_by_8.nd) (jgs_cons (jg_val 2 sc_law_none_by_8.nd) (jgs_cons (jg_val 3 sc_law_none_by_8.nd) jgs_nil))))) (jss_cons (js_for passesD rfl (ji_val (je_lst (ja_cons je_int (ja_cons je_int (ja_cons je_int ja_nil))))) (jg_val 4 sc_law_none_by_8.nd) (jss_one (js_for passesD rfl (ji_val (je_lst (ja_cons je_int (ja_cons je_int (ja_cons je_int ja_nil))))) (jg_val 5 sc_law_none_by_8.nd) (jss_one (js_for passesD rfl (ji_val (je_lst (ja_cons je_int (ja_cons je_int (ja_cons je_int ja_nil))))) (jg_val 6 sc_law_none_by_8.nd) (jss_one (js_if (JW.pt (jw_and (jt_cmp os_in (jp_of je_int) (jp_of (je_lst (ja_cons (je_var 4) (ja_cons (je_var 5) (ja_cons (je_var 6) ja_nil))))) (by rfl)) (jw_and1 (jt_cmp (os_eq (units_ok hr)) (jp_of (je_bin os_mod (jp_of (je_bin os_add (jp_of (je_bin os_add (jp_of (je_bin os_mul (jp_var 1) (jp_var 4))) (jp_of (je_bin os_mul (jp_var 2) (jp_var 5))))) (jp_of (je_bin os_mul (jp_var 3) (jp_var 6))))) (jp_of je_int))) (jp_of je_int) (nomark _))))) (jss_one (js_ret je_bl)) jss_nil))))))) (jss_one (js_ret je_bl))))) spec_law_none_by_8
def N_law_no_square : List Str := ["_law_number", "_law_prime", "_law_found", "_law_factor", "_law_rest"]
theorem sc_law_no_square : FnScope N_law_no_square ["_law_number", "_law_prime"] (defScope s_law_no_square) := ⟨rfl, rfl, rfl, by decide +kernel, rfl, by decide +kernel, by decide +kernel⟩
theorem ok_law_no_square {P : Program} {w : World} {K : PySem.W.Frag} {mg : Str → Option Value} {base : Heap} (T : Bi mg) (D_law_no_square : Df K mg "_law_no_square" s_law_no_square ["_law_number", "_law_prime"]) : FnOk P w K mg base (L2N.CX P w) 1 D_law_no_square.a D_law_no_square.fd ["_law_number", "_law_prime"] (spD K mg p_law_no_square) :=
  fnD D_law_no_square.F sc_law_no_square len_law_no_square (fun cdv A outer s H E hr => (jss_cons (js_set je_int (jg_val 2 sc_law_no_square.nd)) (jss_cons (js_set (je_bin os_mod (jp_var 0) (jp_var 1)) (jg_val 3 sc_law_no_square.nd)) (jss_cons (js_set (je_bin os_fdiv (jp_var 1) (jp_of je_int)) (jg_val 4 sc_law_no_square.nd)) (jss_cons (js_while passesD (jt_cmp os_gt (jp_var 4) (jp_of je_int) (nomark _)) (jss_cut (js_if (jt_cmp (os_eq (units_ok hr)) (jp_of (je_bin os_mod (jp_var 4) (jp_of je_int))) (jp_of je_int) (nomark _)) (jss_one (js_set (je_bin os_mod (jp_of (je_bin os_mul (jp_var 2) (jp_var 3))) (jp_var 1)) (jg_val 2 sc_law_no_square.nd))) jss_nil) (jss_cons (js_set (je_bin os_mod (jp_of (je_bin os_mul (jp_var 3) (jp_var 3))) (jp_var 1)) (jg_val 3 sc_law_no_square.nd)) (jss_one (js_set (je_bin os_fdiv (jp_var 4) (jp_of je_int)) (jg_val 4 sc_law_no_square.nd)))))) (jss_one (js_ret (je_cmp (os_eq (units_ok hr)) (jp_var 2) (jp_of (je_bin os_sub (jp_var 1) (jp_of je_int))) (nomark _))))))))) spec_law_no_square
def N_law_bad : List Str := ["_law_triple_here", "_law_place", "_law_k"]
theorem sc_law_bad : FnScope N_law_bad ["_law_triple_here", "_law_place"] (defScope s_law_bad) := ⟨rfl, rfl, rfl, by decide +kernel, rfl, by decide +kernel, by decide +kernel⟩
theorem ok_law_bad {P : Program} {w : World} {K : PySem.W.Frag} {mg : Str → Option Value} {base : Heap} (T : Bi mg) (D_law_bad : Df K mg "_law_bad" s_law_bad ["_law_triple_here", "_law_place"]) (D_law_none_by_8 : Df K mg "_law_none_by_8" s_law_none_by_8 ["_law_triple_here"]) (G_law_none_by_8 : FnOk P w K mg base (L2N.CX P w) 1 D_law_none_by_8.a D_law_none_by_8.fd ["_law_triple_here"] (spD K mg p_law_none_by_8)) (D_law_no_square : Df K mg "_law_no_square" s_law_no_square ["_law_number", "_law_prime"]) (G_law_no_square : FnOk P w K mg base (L2N.CX P w) 1 D_law_no_square.a D_law_no_square.fd ["_law_number", "_law_prime"] (spD K mg p_law_no_square)) : FnOk P w K mg base (L2N.CX P w) 2 D_law_bad.a D_law_bad.fd ["_law_triple_here", "_law_place"] (spD K mg p_law_bad) :=
  fnD D_law_bad.F sc_law_bad len_law_bad (fun cdv A outer s H E hr => (jss_cons (js_if (jt_cmp (os_eq (units_ok hr)) (jp_var 1) (jp_of je_int) (nomark _)) (jss_one (js_ret (je_or (je_cmp os_gt (jp_of (je_callB (cs_min rfl) T.n_min (by decide +kernel) (jap_cons (jp_var 0) jap_nil))) (jp_of je_int) (nomark _)) (je_one (je_cmp os_lt (jp_of (je_callB (cs_max rfl) T.n_max (by decide +kernel) (jap_cons (jp_var 0) jap_nil))) (jp_of je_int) (nomark _)))))) jss_nil) (jss_cons (js_if (jt_cmp (os_eq (units_ok hr)) (jp_var 1) (jp_of je_int) (nomark _)) (jss_one (js_ret (je_call G_law_none_by_8 (hr.mono (by decide)) takesD D_law_none_by_8.m D_law_none_by_8.F.kp D_law_none_by_8.b (ja_cons (je_var 0) ja_nil)))) jss_nil) (jss_cons (js_for passesD rfl (ji_rng1 T.n_range (ja_cons je_int ja_nil)) (jg_val 2 sc_law_bad.nd) (jss_one (js_if (jt_cmp (os_eq (units_ok hr)) (jp_of (je_bin os_mod (jp_of (je_ix (jp_var 0) (jp_var 2))) (jp_var 1))) (jp_of je_int) (nomark _)) (jss_one (js_ret (je_call G_law_no_square (hr.mono (by decide)) takesD D_law_no_square.m D_law_no_square.F.kp D_law_no_square.b (ja_cons (je_bin os_sub (jp_of je_int) (jp_of (je_bin os_mul (jp_of (je_ix (jp_var 0) (jp_of (je_bin os_sub (jp_var 2) (jp_of je_int))))) (jp_of (je_ix (jp_var 0) (jp_of (je_bin os_sub (jp_var 2) (jp_of je_int)))))))) (ja_cons (je_var 1) ja_nil))))) jss_nil))) (jss_one (js_ret je_bl)))))) spec_law_bad
def N_law_primes : List Str := ["_law_number", "_law_found", "_law_rest", "_law_d"]
theorem sc_law_primes : FnScope N_law_primes ["_law_number"] (defScope s_law_primes) := ⟨rfl, rfl, rfl, by decide +kernel, rfl, by decide +kernel, by decide +kernel⟩
theorem ok_law_primes {P : Program} {w : World} {K : PySem.W.Frag} {mg : Str → Option Value} {base : Heap} (T : Bi mg) (D_law_primes : Df K mg "_law_primes" s_law_primes ["_law_number"]) : FnOk P w K mg base (L2N.CX P w) 1 D_law_primes.a D_law_primes.fd ["_law_number"] (spD K mg p_law_primes) :=
  fnD D_law_primes.F sc_law_primes len_law_primes (fun cdv A outer s H E hr => (jss_cons (js_set (je_lst ja_nil) (jg_var 1 sc_law_primes.nd)) (jss_cons (js_set (je_callB cs_abs T.n_abs (by decide +kernel) (jap_cons (jp_var 0) jap_nil)) (jg_val 2 sc_law_primes.nd)) (jss_cons (js_set je_int (jg_val 3 sc_law_primes.nd)) (jss_cons (js_while passesD (jt_cmp os_le (jp_of (je_bin os_mul (jp_var 3) (jp_var 3))) (jp_var 2) (nomark _)) (jss_one (js_if (jt_cmp (os_eq (units_ok hr)) (jp_of (je_bin os_mod (jp_var 2) (jp_var 3))) (jp_of je_int) (nomark _)) (jss_cons (js_app 1 (je_var 3)) (jss_one (js_set (je_bin os_fdiv (jp_var 2) (jp_var 3)) (jg_val 2 sc_law_primes.nd)))) (jss_one (js_set (je_bin os_add (jp_var 3) (jp_of je_int)) (jg_val 3 sc_law_primes.nd)))))) (jss_one (js_ret (je_bin os_add (jp_var 1) (jp_of (je_repE (je_lst (ja_cons (je_var 2) ja_nil)) (je_callTy cs_int T.n_int (by decide +kernel) (jap_cons (jp_of (je_cmp os_gt (jp_var 2) (jp_of je_int) (nomark _))) jap_nil)))))))))))) spec_law_primes
def N_law_bad_places : List Str := ["_law_triple_here", "_law_number", "_law_places", "_law_place"]
theorem sc_law_bad_places : FnScope N_law_bad_places ["_law_triple_here", "_law_number"] (defScope s_law_bad_places) := ⟨rfl, rfl, rfl, by decide +kernel, rfl, by decide +kernel, by decide +kernel⟩
theorem ok_law_bad_places {P : Program} {w : World} {K : PySem.W.Frag} {mg : Str → Option Value} {base : Heap} (T : Bi mg) (D_law_bad_places : Df K mg "_law_bad_places" s_law_bad_places ["_law_triple_here", "_law_number"]) (D_law_primes : Df K mg "_law_primes" s_law_primes ["_law_number"]) (G_law_primes : FnOk P w K mg base (L2N.CX P w) 1 D_law_primes.a D_law_primes.fd ["_law_number"] (spD K mg p_law_primes)) (D_law_bad : Df K mg "_law_bad" s_law_bad ["_law_triple_here", "_law_place"]) (G_law_bad : FnOk P w K mg base (L2N.CX P w) 2 D_law_bad.a D_law_bad.fd ["_law_triple_here", "_law_place"] (spD K mg p_law_bad)) : FnOk P w K mg base (L2N.CX P w) 3 D_law_bad_places.a D_law_bad_places.fd ["_law_triple_here", "_law_number"] (spD K mg p_law_bad_places) :=
  fnD D_law_bad_places.F sc_law_bad_places len_law_bad_places (fun cdv A outer s H E hr => (jss_cons (js_set (je_srtSet rfl T.n_sorted T.n_set (jp_of (je_bin os_add (jp_of (je_lst (ja_cons je_int (ja_cons je_int ja_nil)))) (jp_of (je_call G_law_primes (hr.mono (by decide)) takesD D_law_primes.m D_law_primes.F.kp D_law_primes.b (ja_cons (je_var 1) ja_nil)))))) (jg_val 2 sc_law_bad_places.nd)) (jss_one (js_ret (je_lc (own := [("_law_place", 3)]) rfl sc_law_bad_places.nd (ji_val (je_var 2)) (blkOk_by (own := [("_law_place", 3)]) (N := N_law_bad_places) (sc := defScope s_law_bad_places) (by decide +kernel)) (by decide) (fun _ _ _ _ _ => (jg_val 3 sc_law_bad_places.nd)) (fun _ _ _ _ _ => (jts_one (jt_val (je_call G_law_bad (hr.mono (by decide)) takesF D_law_bad.m D_law_bad.F.kp D_law_bad.b (ja_cons (je_var 0) (ja_cons (je_var 3) ja_nil)))))) (fun _ _ _ _ _ => (je_var 3))))))) spec_law_bad_places
def N_law_whole : List Str := ["_law_found"]
theorem sc_law_whole : FnScope N_law_whole ["_law_found"] (defScope s_law_whole) := ⟨rfl, rfl, rfl, by decide +kernel, rfl, by decide +kernel, by decide +kernel⟩
theorem ok_law_whole {P : Program} {w : World} {K : PySem.W.Frag} {mg : Str → Option Value} {base : Heap} (T : Bi mg) (D_law_whole : Df K mg "_law_whole" s_law_whole ["_law_found"]) : FnOk P w K mg base (L2N.CX P w) 1 D_law_whole.a D_law_whole.fd ["_law_found"] (spD K mg p_law_whole) :=
  fnD D_law_whole.F sc_law_whole len_law_whole (fun cdv A outer s H E hr => (jss_one (js_ret (je_and (je_isi T.n_isinstance T.n_int (by decide +kernel) hk_int (jp_var 0)) (je_one (je_not (je_isi T.n_isinstance T.n_bool (by decide +kernel) hk_bool (jp_var 0)))))))) spec_law_whole
def N_law_wholes : List Str := ["_law_found", "_law_many", "_law_one"]
theorem sc_law_wholes : FnScope N_law_wholes ["_law_found", "_law_many"] (defScope s_law_wholes) := ⟨rfl, rfl, rfl, by decide +kernel, rfl, by decide +kernel, by decide +kernel⟩
theorem ok_law_wholes {P : Program} {w : World} {K : PySem.W.Frag} {mg : Str → Option Value} {base : Heap} (T : Bi mg) (D_law_wholes : Df K mg "_law_wholes" s_law_wholes ["_law_found", "_law_many"]) (D_law_whole : Df K mg "_law_whole" s_law_whole ["_law_found"]) (G_law_whole : FnOk P w K mg base (L2N.CX P w) 1 D_law_whole.a D_law_whole.fd ["_law_found"] (spD K mg p_law_whole)) : FnOk P w K mg base (L2N.CX P w) 2 D_law_wholes.a D_law_wholes.fd ["_law_found", "_law_many"] (spD K mg p_law_wholes) :=
  fnD D_law_wholes.F sc_law_wholes len_law_wholes (fun cdv A outer s H E hr => (jss_cons (js_if (JW.pt (jw_or (jt_not (jt_val (je_isi T.n_isinstance T.n_tuple (by decide +kernel) hk_tuple (jp_var 0)))) (jw_or1 (jt_cmp (os_ne (units_ok hr)) (jp_of (je_callB cs_len T.n_len (by decide +kernel) (jap_cons (jp_var 0) jap_nil))) (jp_var 1) (nomark _))))) (jss_one (js_ret je_bl)) jss_nil) (jss_one (js_ret (je_callB (cs_all rfl) T.n_all (by decide +kernel) (jap_cons (jp_of (je_lc (own := [("_law_one", 2)]) rfl sc_law_wholes.nd (ji_val (je_var 0)) (blkOk_by (own := [("_law_one", 2)]) (N := N_law_wholes) (sc := defScope s_law_wholes) (by decide +kernel)) (by decide) (fun _ _ _ _ _ => (jg_val 2 sc_law_wholes.nd)) (fun _ _ _ _ _ => jts_nil) (fun _ _ _ _ _ => (je_call G_law_whole (hr.mono (by decide)) takesF D_law_whole.m D_law_whole.F.kp D_law_whole.b (ja_cons (je_var 2) ja_nil))))) jap_nil)))))) spec_law_wholes
def N_law_shared : List Str := ["_law_numbers", "_law_found", "_law_number", "_law_other"]
theorem sc_law_shared : FnScope N_law_shared ["_law_numbers"] (defScope s_law_shared) := ⟨rfl, rfl, rfl, by decide +kernel, rfl, by decide +kernel, by decide +kernel⟩
theorem ok_law_shared {P : Program} {w : World} {K : PySem.W.Frag} {mg : Str → Option Value} {base : Heap} (T : Bi mg) (D_law_shared : Df K mg "_law_shared" s_law_shared ["_law_numbers"]) : FnOk P w K mg base (L2N.CX P w) 1 D_law_shared.a D_law_shared.fd ["_law_numbers"] (spD K mg p_law_shared) :=
  fnD D_law_shared.F sc_law_shared len_law_shared (fun cdv A outer s H E hr => (jss_cons (js_set je_int (jg_val 1 sc_law_shared.nd)) (jss_cons (js_for passesD rfl (ji_val (je_var 0)) (jg_val 2 sc_law_shared.nd) (jss_cons (js_set (je_callB cs_abs T.n_abs (by decide +kernel) (jap_cons (jp_var 2) jap_nil)) (jg_val 3 sc_law_shared.nd)) (jss_one (js_while passesD (jt_cmp (os_ne (units_ok hr)) (jp_var 3) (jp_of je_int) (nomark _)) (jss_one (js_par rfl sc_law_shared.nd (ja_cons (je_var 3) (ja_cons (je_bin os_mod (jp_var 1) (jp_var 3)) ja_nil)) rfl rfl (by decide) (fun ta pa => ps_par rfl sc_law_shared.nd rfl rfl (by decide) rfl rfl pa (by rfl)))))))) (jss_one (js_ret (je_var 1)))))) spec_law_shared
def N_law_is_lowest : List Str := ["_law_point", "_law_number"]
theorem sc_law_is_lowest : FnScope N_law_is_lowest ["_law_point"] (defScope s_law_is_lowest) := ⟨rfl, rfl, rfl, by decide +kernel, rfl, by decide +kernel, by decide +kernel⟩
theorem ok_law_is_lowest {P : Program} {w : World} {K : PySem.W.Frag} {mg : Str → Option Value} {base : Heap} (T : Bi mg) (D_law_is_lowest : Df K mg "_law_is_lowest" s_law_is_lowest ["_law_point"]) (D_law_shared : Df K mg "_law_shared" s_law_shared ["_law_numbers"]) (G_law_shared : FnOk P w K mg base (L2N.CX P w) 1 D_law_shared.a D_law_shared.fd ["_law_numbers"] (spD K mg p_law_shared)) (D_law_wholes : Df K mg "_law_wholes" s_law_wholes ["_law_found", "_law_many"]) (G_law_wholes : FnOk P w K mg base (L2N.CX P w) 2 D_law_wholes.a D_law_wholes.fd ["_law_found", "_law_many"] (spD K mg p_law_wholes)) : FnOk P w K mg base (L2N.CX P w) 3 D_law_is_lowest.a D_law_is_lowest.fd ["_law_point"] (spD K mg p_law_is_lowest) :=
  fnD D_law_is_lowest.F sc_law_is_lowest len_law_is_lowest (fun cdv A outer s H E hr => (jss_cons (js_if (JW.pt (jw_or (jt_not (jt_val (je_call G_law_wholes (hr.mono (by decide)) takesD D_law_wholes.m D_law_wholes.F.kp D_law_wholes.b (ja_cons (je_var 0) (ja_cons je_int ja_nil))))) (jw_or1 (jt_cmp (os_ne (units_ok hr)) (jp_of (je_call G_law_shared (hr.mono (by decide)) takesD D_law_shared.m D_law_shared.F.kp D_law_shared.b (ja_cons (je_var 0) ja_nil))) (jp_of je_int) (nomark _))))) (jss_one (js_ret je_bl)) jss_nil) (jss_one (js_ret (je_cmp os_gt (jp_of (je_ix (jp_of (je_lc (own := [("_law_number", 1)]) rfl sc_law_is_lowest.nd (ji_val (je_var 0)) (blkOk_by (own := [("_law_number", 1)]) (N := N_law_is_lowest) (sc := defScope s_law_is_lowest) (by decide +kernel)) (by decide) (fun _ _ _ _ _ => (jg_val 1 sc_law_is_lowest.nd)) (fun _ _ _ _ _ => (jts_one (jt_cmp (os_ne (units_ok hr)) (jp_var 1) (jp_of je_int) (nomark _)))) (fun _ _ _ _ _ => (je_var 1)))) (jp_of je_int))) (jp_of je_int) (nomark _)))))) spec_law_is_lowest
def N_law_small : List Str := ["_law_triple_here", "_law_point", "_law_squares", "_law_products", "_law_k", "_law_number"]
theorem sc_law_small : FnScope N_law_small ["_law_triple_here", "_law_point"] (defScope s_law_small) := ⟨rfl, rfl, rfl, by decide +kernel, rfl, by decide +kernel, by decide +kernel⟩
theorem ok_law_small {P : Program} {w : World} {K : PySem.W.Frag} {mg : Str → Option Value} {base : Heap} (T : Bi mg) (D_law_small : Df K mg "_law_small" s_law_small ["_law_triple_here", "_law_point"]) (D_law_is_lowest : Df K mg "_law_is_lowest" s_law_is_lowest ["_law_point"]) (G_law_is_lowest : FnOk P w K mg base (L2N.CX P w) 3 D_law_is_lowest.a D_law_is_lowest.fd ["_law_point"] (spD K mg p_law_is_lowest)) : FnOk P w K mg base (L2N.CX P w) 4 D_law_small.a D_law_small.fd ["_law_triple_here", "_law_point"] (spD K mg p_law_small) :=
  fnD D_law_small.F sc_law_small len_law_small (fun cdv A outer s H E hr => (jss_cons (js_if (jt_not (jt_val (je_call G_law_is_lowest (hr.mono (by decide)) takesD D_law_is_lowest.m D_law_is_lowest.F.kp D_law_is_lowest.b (ja_cons (je_var 1) ja_nil)))) (jss_one (js_ret je_bl)) jss_nil) (jss_cons (js_if (jt_cmp (os_ne (units_ok hr)) (jp_of (je_callB (cs_sum rfl) T.n_sum (by decide +kernel) (jap_cons (jp_of (je_lc (own := [("_law_k", 4)]) rfl sc_law_small.nd (ji_rng1 T.n_range (ja_cons je_int ja_nil)) (blkOk_by (own := [("_law_k", 4)]) (N := N_law_small) (sc := defScope s_law_small) (by decide +kernel)) (by decide) (fun _ _ _ _ _ => (jg_val 4 sc_law_small.nd)) (fun _ _ _ _ _ => jts_nil) (fun _ _ _ _ _ => (je_bin os_mul (jp_of (je_bin os_mul (jp_of (je_ix (jp_var 0) (jp_var 4))) (jp_of (je_ix (jp_var 1) (jp_var 4))))) (jp_of (je_ix (jp_var 1) (jp_var 4))))))) jap_nil))) (jp_of je_int) (nomark _)) (jss_one (js_ret je_bl)) jss_nil) (jss_cons (js_set (je_lc (own := [("_law_number", 5)]) rfl sc_law_small.nd (ji_val (je_var 1)) (blkOk_by (own := [("_law_number", 5)]) (N := N_law_small) (sc := defScope s_law_small) (by decide +kernel)) (by decide) (fun _ _ _ _ _ => (jg_val 5 sc_law_small.nd)) (fun _ _ _ _ _ => jts_nil) (fun _ _ _ _ _ => (je_bin os_mul (jp_var 5) (jp_var 5)))) (jg_val 2 sc_law_small.nd)) (jss_cons (js_set (je_lc (own := [("_law_k", 4)]) rfl sc_law_small.nd (ji_rng1 T.n_range (ja_cons je_int ja_nil)) (blkOk_by (own := [("_law_k", 4)]) (N := N_law_small) (sc := defScope s_law_small) (by decide +kernel)) (by decide) (fun _ _ _ _ _ => (jg_val 4 sc_law_small.nd)) (fun _ _ _ _ _ => jts_nil) (fun _ _ _ _ _ => (je_callB cs_abs T.n_abs (by decide +kernel) (jap_cons (jp_of (je_bin os_mul (jp_of (je_ix (jp_var 0) (jp_of (je_bin os_sub (jp_var 4) (jp_of je_int))))) (jp_of (je_ix (jp_var 0) (jp_of (je_bin os_sub (jp_var 4) (jp_of je_int))))))) jap_nil)))) (jg_val 3 sc_law_small.nd)) (jss_one (js_ret (je_callB (cs_all rfl) T.n_all (by decide +kernel) (jap_cons (jp_of (je_lc (own := [("_law_k", 4)]) rfl sc_law_small.nd (ji_rng1 T.n_range (ja_cons je_int ja_nil)) (blkOk_by (own := [("_law_k", 4)]) (N := N_law_small) (sc := defScope s_law_small) (by decide +kernel)) (by decide) (fun _ _ _ _ _ => (jg_val 4 sc_law_small.nd)) (fun _ _ _ _ _ => jts_nil) (fun _ _ _ _ _ => (je_cmp os_le (jp_of (je_ix (jp_var 2) (jp_var 4))) (jp_of (je_ix (jp_var 3) (jp_var 4))) (nomark _))))) jap_nil))))))))) spec_law_small
def N_shares_of : List Str := ["one", "other", "here", "there", "often", "rest", "k"]
theorem sc_shares_of : FnScope N_shares_of ["one", "other"] (defScope s_shares_of) := ⟨rfl, rfl, rfl, by decide +kernel, rfl, by decide +kernel, by decide +kernel⟩
theorem ok_shares_of {P : Program} {w : World} {K : PySem.W.Frag} {mg : Str → Option Value} {base : Heap} (T : Bi mg) (D_shares_of : Df K mg "shares_of" s_shares_of ["one", "other"]) : FnOk P w K mg base (L2N.CX P w) 1 D_shares_of.a D_shares_of.fd ["one", "other"] (spD K mg p_shares_of) :=
  fnD D_shares_of.F sc_shares_of len_shares_of (fun cdv A outer s H E hr => (jss_cons (js_set (je_tup (ja_cons (je_var 0) (ja_cons je_int (ja_cons je_int ja_nil)))) (jg_val 2 sc_shares_of.nd)) (jss_cons (js_set (je_tup (ja_cons (je_var 1) (ja_cons je_int (ja_cons je_int ja_nil)))) (jg_val 3 sc_shares_of.nd)) (jss_cons (js_while passesD (jt_cmp (os_ne (units_ok hr)) (jp_of (je_ix (jp_var 3) (jp_of je_int))) (jp_of je_int) (nomark _)) (jss_cons (js_set (je_bin os_fdiv (jp_of (je_ix (jp_var 2) (jp_of je_int))) (jp_of (je_ix (jp_var 3) (jp_of je_int)))) (jg_val 4 sc_shares_of.nd)) (jss_cons (js_set (je_callTy cs_tuple T.n_tuple (by decide +kernel) (jap_cons (jp_of (je_lc (own := [("k", 6)]) rfl sc_shares_of.nd (ji_rng1 T.n_range (ja_cons je_int ja_nil)) (blkOk_by (own := [("k", 6)]) (N := N_shares_of) (sc := defScope s_shares_of) (by decide +kernel)) (by decide) (fun _ _ _ _ _ => (jg_val 6 sc_shares_of.nd)) (fun _ _ _ _ _ => jts_nil) (fun _ _ _ _ _ => (je_bin os_sub (jp_of (je_ix (jp_var 2) (jp_var 6))) (jp_of (je_bin os_mul (jp_var 4) (jp_of (je_ix (jp_var 3) (jp_var 6))))))))) jap_nil)) (jg_val 5 sc_shares_of.nd)) (jss_cons (js_set (je_var 3) (jg_val 2 sc_shares_of.nd)) (jss_one (js_set (je_var 5) (jg_val 3 sc_shares_of.nd))))))) (jss_cons (js_if (jt_cmp os_lt (jp_of (je_ix (jp_var 2) (jp_of je_int))) (jp_of je_int) (nomark _)) (jss_one (js_ret (je_tup (ja_cons (je_bin os_sub (jp_of je_int) (jp_of (je_ix (jp_var 2) (jp_of je_int)))) (ja_cons (je_bin os_sub (jp_of je_int) (jp_of (je_ix (jp_var 2) (jp_of je_int)))) (ja_cons (je_bin os_sub (jp_of je_int) (jp_of (je_ix (jp_var 2) (jp_of je_int)))) ja_nil)))))) jss_nil) (jss_one (js_ret (je_var 2)))))))) spec_shares_of
def N_prime_parts : List Str := ["number", "found", "rest", "prime", "often"]
theorem sc_prime_parts : FnScope N_prime_parts ["number"] (defScope s_prime_parts) := ⟨rfl, rfl, rfl, by decide +kernel, rfl, by decide +kernel, by decide +kernel⟩
theorem ok_prime_parts {P : Program} {w : World} {K : PySem.W.Frag} {mg : Str → Option Value} {base : Heap} (T : Bi mg) (D_prime_parts : Df K mg "prime_parts" s_prime_parts ["number"]) (C_NoNumber : ExD K mg "NoNumber") : FnOk P w K mg base (L2N.CX P w) 1 D_prime_parts.a D_prime_parts.fd ["number"] (spD K mg p_prime_parts) :=
  fnD D_prime_parts.F sc_prime_parts len_prime_parts (fun cdv A outer s H E hr => (jss_cons (js_if (jt_cmp os_lt (jp_var 0) (jp_of je_int) (nomark _)) (jss_one (js_raise rfl takesD C_NoNumber)) jss_nil) (jss_cons (js_set (je_lst ja_nil) (jg_var 1 sc_prime_parts.nd)) (jss_cons (js_set (je_var 0) (jg_val 2 sc_prime_parts.nd)) (jss_cons (js_set je_int (jg_val 3 sc_prime_parts.nd)) (jss_cons (js_while passesD (jt_cmp os_le (jp_of (je_bin os_mul (jp_var 3) (jp_var 3))) (jp_var 2) (nomark _)) (jss_cons (js_set je_int (jg_val 4 sc_prime_parts.nd)) (jss_cons (js_while passesD (jt_cmp (os_eq (units_ok hr)) (jp_of (je_bin os_mod (jp_var 2) (jp_var 3))) (jp_of je_int) (nomark _)) (jss_cons (js_set (je_bin os_fdiv (jp_var 2) (jp_var 3)) (jg_val 2 sc_prime_parts.nd)) (jss_one (js_set (je_bin os_add (jp_var 4) (jp_of je_int)) (jg_val 4 sc_prime_parts.nd))))) (jss_cut (js_if (jt_cmp os_gt (jp_var 4) (jp_of je_int) (nomark _)) (jss_one (js_app 1 (je_tup (ja_cons (je_var 3) (ja_cons (je_var 4) ja_nil))))) jss_nil) (jss_one (js_set (je_bin os_add (jp_var 3) (jp_of je_int)) (jg_val 3 sc_prime_parts.nd))))))) (jss_cut (js_if (jt_cmp os_gt (jp_var 2) (jp_of je_int) (nomark _)) (jss_one (js_app 1 (je_tup (ja_cons (je_var 2) (ja_cons je_int ja_nil))))) jss_nil) (jss_one (js_retOwn 1))))))))) spec_prime_parts
def N_core_of : List Str := ["number", "core", "root", "prime", "often", "k"]
theorem sc_core_of : FnScope N_core_of ["number"] (defScope s_core_of) := ⟨rfl, rfl, rfl, by decide +kernel, rfl, by decide +kernel, by decide +kernel⟩
theorem ok_core_of {P : Program} {w : World} {K : PySem.W.Frag} {mg : Str → Option Value} {base : Heap} (T : Bi mg) (D_core_of : Df K mg "core_of" s_core_of ["number"]) (D_prime_parts : Df K mg "prime_parts" s_prime_parts ["number"]) (G_prime_parts : FnOk P w K mg base (L2N.CX P w) 1 D_prime_parts.a D_prime_parts.fd ["number"] (spD K mg p_prime_parts)) (C_NoNumber : ExD K mg "NoNumber") : FnOk P w K mg base (L2N.CX P w) 2 D_core_of.a D_core_of.fd ["number"] (spD K mg p_core_of) :=
  fnD D_core_of.F sc_core_of len_core_of (fun cdv A outer s H E hr => (jss_cons (js_if (jt_cmp (os_eq (units_ok hr)) (jp_var 0) (jp_of je_int) (nomark _)) (jss_one (js_raise rfl takesD C_NoNumber)) jss_nil) (jss_cons (js_set je_int (jg_val 1 sc_core_of.nd)) (jss_cut (js_if (jt_cmp os_lt (jp_var 0) (jp_of je_int) (nomark _)) (jss_one (js_set (je_bin os_sub (jp_of je_int) (jp_of je_int)) (jg_val 1 sc_core_of.nd))) jss_nil) (jss_cons (js_set je_int (jg_val 2 sc_core_of.nd)) (jss_cons (js_for passesD rfl (ji_val (je_call G_prime_parts (hr.mono (by decide)) takesD D_prime_parts.m D_prime_parts.F.kp D_prime_parts.b (ja_cons (je_callB cs_abs T.n_abs (by decide +kernel) (jap_cons (jp_var 0) jap_nil)) ja_nil))) (jg_tup rfl (jgs_cons (jg_val 3 sc_core_of.nd) (jgs_cons (jg_val 4 sc_core_of.nd) jgs_nil))) (jss_cons (js_for passesD rfl (ji_rng1 T.n_range (ja_cons (je_bin os_fdiv (jp_var 4) (jp_of je_int)) ja_nil)) (jg_val 5 sc_core_of.nd) (jss_one (js_set (je_bin os_mul (jp_var 2) (jp_var 3)) (jg_val 2 sc_core_of.nd)))) (jss_one (js_if (jt_cmp (os_eq (units_ok hr)) (jp_of (je_bin os_mod (jp_var 4) (jp_of je_int))) (jp_of je_int) (nomark _)) (jss_one (js_set (je_bin os_mul (jp_var 1) (jp_var 3)) (jg_val 1 sc_core_of.nd))) jss_nil)))) (jss_one (js_ret (je_tup (ja_cons (je_var 1) (ja_cons (je_var 2) ja_nil))))))))))) spec_core_of
def N_is_plain : List Str := ["a", "b", "c", "number", "one", "other"]
theorem sc_is_plain : FnScope N_is_plain ["a", "b", "c"] (defScope s_is_plain) := ⟨rfl, rfl, rfl, by decide +kernel, rfl, by decide +kernel, by decide +kernel⟩
theorem ok_is_plain {P : Program} {w : World} {K : PySem.W.Frag} {mg : Str → Option Value} {base : Heap} (T : Bi mg) (D_is_plain : Df K mg "is_plain" s_is_plain ["a", "b", "c"]) (D_core_of : Df K mg "core_of" s_core_of ["number"]) (G_core_of : FnOk P w K mg base (L2N.CX P w) 2 D_core_of.a D_core_of.fd ["number"] (spD K mg p_core_of)) (D_shares_of : Df K mg "shares_of" s_shares_of ["one", "other"]) (G_shares_of : FnOk P w K mg base (L2N.CX P w) 1 D_shares_of.a D_shares_of.fd ["one", "other"] (spD K mg p_shares_of)) : FnOk P w K mg base (L2N.CX P w) 3 D_is_plain.a D_is_plain.fd ["a", "b", "c"] (spD K mg p_is_plain) :=
  fnD D_is_plain.F sc_is_plain len_is_plain (fun cdv A outer s H E hr => (jss_cons (js_for passesD rfl (ji_val (je_lst (ja_cons (je_var 0) (ja_cons (je_var 1) (ja_cons (je_var 2) ja_nil))))) (jg_val 3 sc_is_plain.nd) (jss_one (js_if (JW.pt (jw_or (jt_cmp (os_eq (units_ok hr)) (jp_var 3) (jp_of je_int) (nomark _)) (jw_or1 (jt_cmp (os_ne (units_ok hr)) (jp_of (je_ix (jp_of (je_call G_core_of (hr.mono (by decide)) takesD D_core_of.m D_core_of.F.kp D_core_of.b (ja_cons (je_var 3) ja_nil))) (jp_of je_int))) (jp_of je_int) (nomark _))))) (jss_one (js_ret je_bl)) jss_nil))) (jss_cons (js_for passesD rfl (ji_val (je_lst (ja_cons (je_tup (ja_cons (je_var 0) (ja_cons (je_var 1) ja_nil))) (ja_cons (je_tup (ja_cons (je_var 1) (ja_cons (je_var 2) ja_nil))) (ja_cons (je_tup (ja_cons (je_var 2) (ja_cons (je_var 0) ja_nil))) ja_nil))))) (jg_tup rfl (jgs_cons (jg_val 4 sc_is_plain.nd) (jgs_cons (jg_val 5 sc_is_plain.nd) jgs_nil))) (jss_one (js_if (jt_cmp (os_ne (units_ok hr)) (jp_of (je_ix (jp_of (je_call G_shares_of (hr.mono (by decide)) takesD D_shares_of.m D_shares_of.F.kp D_shares_of.b (ja_cons (je_var 4) (ja_cons (je_var 5) ja_nil)))) (jp_of je_int))) (jp_of je_int) (nomark _)) (jss_one (js_ret je_bl)) jss_nil))) (jss_one (js_ret je_bl))))) spec_is_plain
def N_ask_plain : List Str := ["a", "b", "c"]
theorem sc_ask_plain : FnScope N_ask_plain ["a", "b", "c"] (defScope s_ask_plain) := ⟨rfl, rfl, rfl, by decide +kernel, rfl, by decide +kernel, by decide +kernel⟩
theorem ok_ask_plain {P : Program} {w : World} {K : PySem.W.Frag} {mg : Str → Option Value} {base : Heap} (T : Bi mg) (D_ask_plain : Df K mg "ask_plain" s_ask_plain ["a", "b", "c"]) (D_is_plain : Df K mg "is_plain" s_is_plain ["a", "b", "c"]) (G_is_plain : FnOk P w K mg base (L2N.CX P w) 3 D_is_plain.a D_is_plain.fd ["a", "b", "c"] (spD K mg p_is_plain)) (C_NotPlain : ExD K mg "NotPlain") : FnOk P w K mg base (L2N.CX P w) 4 D_ask_plain.a D_ask_plain.fd ["a", "b", "c"] (spD K mg p_ask_plain) :=
  fnD D_ask_plain.F sc_ask_plain len_ask_plain (fun cdv A outer s H E hr => (jss_one (js_if (jt_not (jt_val (je_call G_is_plain (hr.mono (by decide)) takesD D_is_plain.m D_is_plain.F.kp D_is_plain.b (ja_cons (je_var 0) (ja_cons (je_var 1) (ja_cons (je_var 2) ja_nil)))))) (jss_one (js_raise rfl takesD C_NotPlain)) jss_nil))) spec_ask_plain
def N_odd_primes : List Str := ["number", "prime", "many"]
theorem sc_odd_primes : FnScope N_odd_primes ["number"] (defScope s_odd_primes) := ⟨rfl, rfl, rfl, by decide +kernel, rfl, by decide +kernel, by decide +kernel⟩
theorem ok_odd_primes {P : Program} {w : World} {K : PySem.W.Frag} {mg : Str → Option Value} {base : Heap} (T : Bi mg) (D_odd_primes : Df K mg "odd_primes" s_odd_primes ["number"]) (D_prime_parts : Df K mg "prime_parts" s_prime_parts ["number"]) (G_prime_parts : FnOk P w K mg base (L2N.CX P w) 1 D_prime_parts.a D_prime_parts.fd ["number"] (spD K mg p_prime_parts)) : FnOk P w K mg base (L2N.CX P w) 2 D_odd_primes.a D_odd_primes.fd ["number"] (spD K mg p_odd_primes) :=
  fnD D_odd_primes.F sc_odd_primes len_odd_primes (fun cdv A outer s H E hr => (jss_one (js_ret (je_lc (own := [("prime", 1), ("many", 2)]) rfl sc_odd_primes.nd (ji_val (je_call G_prime_parts (hr.mono (by decide)) takesD D_prime_parts.m D_prime_parts.F.kp D_prime_parts.b (ja_cons (je_callB cs_abs T.n_abs (by decide +kernel) (jap_cons (jp_var 0) jap_nil)) ja_nil))) (blkOk_by (own := [("prime", 1), ("many", 2)]) (N := N_odd_primes) (sc := defScope s_odd_primes) (by decide +kernel)) (by decide) (fun _ _ _ _ _ => (jg_tup rfl (jgs_cons (jg_val 1 sc_odd_primes.nd) (jgs_cons (jg_val 2 sc_odd_primes.nd) jgs_nil)))) (fun _ _ _ _ _ => (jts_one (jt_cmp os_gt (jp_var 1) (jp_of je_int) (nomark _)))) (fun _ _ _ _ _ => (je_var 1)))))) spec_odd_primes
def N_fits_by_8 : List Str := ["a", "b", "c", "x", "y", "z"]
theorem sc_fits_by_8 : FnScope N_fits_by_8 ["a", "b", "c"] (defScope s_fits_by_8) := ⟨rfl, rfl, rfl, by decide +kernel, rfl, by decide +kernel, by decide +kernel⟩
theorem ok_fits_by_8 {P : Program} {w : World} {K : PySem.W.Frag} {mg : Str → Option Value} {base : Heap} (T : Bi mg) (D_fits_by_8 : Df K mg "fits_by_8" s_fits_by_8 ["a", "b", "c"]) (CO_SQUARES_BY_8 : CoD K mg "SQUARES_BY_8" (.tuple [(.int 0), (.int 1), (.int 4)])) : FnOk P w K mg base (L2N.CX P w) 1 D_fits_by_8.a D_fits_by_8.fd ["a", "b", "c"] (spD K mg p_fits_by_8) :=
  fnD D_fits_by_8.F sc_fits_by_8 len_fits_by_8 (fun cdv A outer s H E hr => (jss_cons (js_for passesD rfl (ji_val (je_const CO_SQUARES_BY_8)) (jg_val 3 sc_fits_by_8.nd) (jss_one (js_for passesD rfl (ji_val (je_const CO_SQUARES_BY_8)) (jg_val 4 sc_fits_by_8.nd) (jss_one (js_for passesD rfl (ji_val (je_const CO_SQUARES_BY_8)) (jg_val 5 sc_fits_by_8.nd) (jss_one (js_if (JW.pt (jw_and (jt_cmp os_in (jp_of je_int) (jp_of (je_tup (ja_cons (je_var 3) (ja_cons (je_var 4) (ja_cons (je_var 5) ja_nil))))) (by rfl)) (jw_and1 (jt_cmp (os_eq (units_ok hr)) (jp_of (je_bin os_mod (jp_of (je_bin os_add (jp_of (je_bin os_add (jp_of (je_bin os_mul (jp_var 0) (jp_var 3))) (jp_of (je_bin os_mul (jp_var 1) (jp_var 4))))) (jp_of (je_bin os_mul (jp_var 2) (jp_var 5))))) (jp_of je_int))) (jp_of je_int) (nomark _))))) (jss_one (js_ret je_bl)) jss_nil))))))) (jss_one (js_ret je_bl)))) spec_fits_by_8
def N_without_twos : List Str := ["number", "n", "sign"]
theorem sc_without_twos : FnScope N_without_twos ["number", "n"] (defScope s_without_twos) := ⟨rfl, rfl, rfl, by decide +kernel, rfl, by decide +kernel, by decide +kernel⟩
theorem ok_without_twos {P : Program} {w : World} {K : PySem.W.Frag} {mg : Str → Option Value} {base : Heap} (T : Bi mg) (D_without_twos : Df K mg "without_twos" s_without_twos ["number", "n"]) : FnOk P w K mg base (L2N.CX P w) 1 D_without_twos.a D_without_twos.fd ["number", "n"] (spD K mg p_without_twos) :=
  fnD D_without_twos.F sc_without_twos len_without_twos (fun cdv A outer s H E hr => (jss_cons (js_set je_int (jg_val 2 sc_without_twos.nd)) (jss_cons (js_while passesD (jt_cmp (os_eq (units_ok hr)) (jp_of (je_bin os_mod (jp_var 0) (jp_of je_int))) (jp_of je_int) (nomark _)) (jss_cons (js_set (je_bin os_fdiv (jp_var 0) (jp_of je_int)) (jg_val 0 sc_without_twos.nd)) (jss_one (js_if (jt_cmp os_in (jp_of (je_bin os_mod (jp_var 1) (jp_of je_int))) (jp_of (je_tup (ja_cons je_int (ja_cons je_int ja_nil)))) (by rfl)) (jss_one (js_set (je_bin os_sub (jp_of je_int) (jp_var 2)) (jg_val 2 sc_without_twos.nd))) jss_nil)))) (jss_one (js_ret (je_tup (ja_cons (je_var 0) (ja_cons (je_var 2) ja_nil)))))))) spec_without_twos
def N_sign_by : List Str := ["number", "n", "found", "left", "sign"]
theorem sc_sign_by : FnScope N_sign_by ["number", "n"] (defScope s_sign_by) := ⟨rfl, rfl, rfl, by decide +kernel, rfl, by decide +kernel, by decide +kernel⟩
theorem ok_sign_by {P : Program} {w : World} {K : PySem.W.Frag} {mg : Str → Option Value} {base : Heap} (T : Bi mg) (D_sign_by : Df K mg "sign_by" s_sign_by ["number", "n"]) (D_without_twos : Df K mg "without_twos" s_without_twos ["number", "n"]) (G_without_twos : FnOk P w K mg base (L2N.CX P w) 1 D_without_twos.a D_without_twos.fd ["number", "n"] (spD K mg p_without_twos)) (C_NoSign : ExD K mg "NoSign") : FnOk P w K mg base (L2N.CX P w) 2 D_sign_by.a D_sign_by.fd ["number", "n"] (spD K mg p_sign_by) :=
  fnD D_sign_by.F sc_sign_by len_sign_by (fun cdv A outer s H E hr => (jss_cons (js_if (JW.pt (jw_or (jt_cmp os_lt (jp_var 1) (jp_of je_int) (nomark _)) (jw_or1 (jt_cmp (os_eq (units_ok hr)) (jp_of (je_bin os_mod (jp_var 1) (jp_of je_int))) (jp_of je_int) (nomark _))))) (jss_one (js_raise rfl takesD C_NoSign)) jss_nil) (jss_cons (js_set je_int (jg_val 2 sc_sign_by.nd)) (jss_cons (js_set (je_bin os_mod (jp_var 0) (jp_var 1)) (jg_val 3 sc_sign_by.nd)) (jss_cons (js_while passesD (jt_cmp (os_ne (units_ok hr)) (jp_var 3) (jp_of je_int) (nomark _)) (jss_cons (js_asg (je_call G_without_twos (hr.mono (by decide)) takesD D_without_twos.m D_without_twos.F.kp D_without_twos.b (ja_cons (je_var 3) (ja_cons (je_var 1) ja_nil))) (jg_tup rfl (jgs_cons (jg_val 3 sc_sign_by.nd) (jgs_cons (jg_val 4 sc_sign_by.nd) jgs_nil)))) (jss_cons (js_set (je_bin os_mul (jp_var 2) (jp_var 4)) (jg_val 2 sc_sign_by.nd)) (jss_cut (js_if (JW.pt (jw_and (jt_cmp (os_eq (units_ok hr)) (jp_of (je_bin os_mod (jp_var 3) (jp_of je_int))) (jp_of je_int) (nomark _)) (jw_and1 (jt_cmp (os_eq (units_ok hr)) (jp_of (je_bin os_mod (jp_var 1) (jp_of je_int))) (jp_of je_int) (nomark _))))) (jss_one (js_set (je_bin os_sub (jp_of je_int) (jp_var 2)) (jg_val 2 sc_sign_by.nd))) jss_nil) (jss_one (js_par rfl sc_sign_by.nd (ja_cons (je_bin os_mod (jp_var 1) (jp_var 3)) (ja_cons (je_var 3) ja_nil)) rfl rfl (by decide) (fun ta pa => ps_par rfl sc_sign_by.nd rfl rfl (by decide) rfl rfl pa (by rfl)))))))) (jss_cons (js_if (jt_cmp (os_eq (units_ok hr)) (jp_var 1) (jp_of je_int) (nomark _)) (jss_one (js_ret (je_var 2))) jss_nil) (jss_one (js_ret je_int)))))))) spec_sign_by
def N_bad_at : List Str := ["a", "b", "c", "place", "one", "other", "third"]
theorem sc_bad_at : FnScope N_bad_at ["a", "b", "c", "place"] (defScope s_bad_at) := ⟨rfl, rfl, rfl, by decide +kernel, rfl, by decide +kernel, by decide +kernel⟩
theorem ok_bad_at {P : Program} {w : World} {K : PySem.W.Frag} {mg : Str → Option Value} {base : Heap} (T : Bi mg) (D_bad_at : Df K mg "bad_at" s_bad_at ["a", "b", "c", "place"]) (D_fits_by_8 : Df K mg "fits_by_8" s_fits_by_8 ["a", "b", "c"]) (G_fits_by_8 : FnOk P w K mg base (L2N.CX P w) 1 D_fits_by_8.a D_fits_by_8.fd ["a", "b", "c"] (spD K mg p_fits_by_8)) (D_sign_by : Df K mg "sign_by" s_sign_by ["number", "n"]) (G_sign_by : FnOk P w K mg base (L2N.CX P w) 2 D_sign_by.a D_sign_by.fd ["number", "n"] (spD K mg p_sign_by)) : FnOk P w K mg base (L2N.CX P w) 3 D_bad_at.a D_bad_at.fd ["a", "b", "c", "place"] (spD K mg p_bad_at) :=
  fnD D_bad_at.F sc_bad_at len_bad_at (fun cdv A outer s H E hr => (jss_cons (js_if (jt_cmp (os_eq (units_ok hr)) (jp_var 3) (jp_of je_int) (nomark _)) (jss_one (js_ret (je_and (je_cmp (os_eq (units_ok hr)) (jp_of (je_cmp os_gt (jp_var 0) (jp_of je_int) (nomark _))) (jp_of (je_cmp os_gt (jp_var 1) (jp_of je_int) (nomark _))) (nomark _)) (je_one (je_cmp (os_eq (units_ok hr)) (jp_of (je_cmp os_gt (jp_var 1) (jp_of je_int) (nomark _))) (jp_of (je_cmp os_gt (jp_var 2) (jp_of je_int) (nomark _))) (nomark _)))))) jss_nil) (jss_cons (js_if (jt_cmp (os_eq (units_ok hr)) (jp_var 3) (jp_of je_int) (nomark _)) (jss_one (js_ret (je_not (je_call G_fits_by_8 (hr.mono (by decide)) takesD D_fits_by_8.m D_fits_by_8.F.kp D_fits_by_8.b (ja_cons (je_var 0) (ja_cons (je_var 1) (ja_cons (je_var 2) ja_nil))))))) jss_nil) (jss_cons (js_for passesD rfl (ji_val (je_lst (ja_cons (je_tup (ja_cons (je_var 0) (ja_cons (je_var 1) (ja_cons (je_var 2) ja_nil)))) (ja_cons (je_tup (ja_cons (je_var 1) (ja_cons (je_var 2) (ja_cons (je_var 0) ja_nil)))) (ja_cons (je_tup (ja_cons (je_var 2) (ja_cons (je_var 0) (ja_cons (je_var 1) ja_nil)))) ja_nil))))) (jg_tup rfl (jgs_cons (jg_val 4 sc_bad_at.nd) (jgs_cons (jg_val 5 sc_bad_at.nd) (jgs_cons (jg_val 6 sc_bad_at.nd) jgs_nil)))) (jss_one (js_if (jt_cmp (os_eq (units_ok hr)) (jp_of (je_bin os_mod (jp_var 4) (jp_var 3))) (jp_of je_int) (nomark _)) (jss_one (js_ret (je_cmp (os_eq (units_ok hr)) (jp_of (je_call G_sign_by (hr.mono (by decide)) takesD D_sign_by.m D_sign_by.F.kp D_sign_by.b (ja_cons (je_bin os_sub (jp_of je_int) (jp_of (je_bin os_mul (jp_var 5) (jp_var 6)))) (ja_cons (je_var 3) ja_nil)))) (jp_of (je_neg (jp_of je_int))) (nomark _)))) jss_nil))) (jss_one (js_ret je_bl)))))) spec_bad_at
def N_bad_places : List Str := ["a", "b", "c", "places", "place"]
theorem sc_bad_places : FnScope N_bad_places ["a", "b", "c"] (defScope s_bad_places) := ⟨rfl, rfl, rfl, by decide +kernel, rfl, by decide +kernel, by decide +kernel⟩
theorem ok_bad_places {P : Program} {w : World} {K : PySem.W.Frag} {mg : Str → Option Value} {base : Heap} (T : Bi mg) (D_bad_places : Df K mg "bad_places" s_bad_places ["a", "b", "c"]) (D_ask_plain : Df K mg "ask_plain" s_ask_plain ["a", "b", "c"]) (G_ask_plain : FnOk P w K mg base (L2N.CX P w) 4 D_ask_plain.a D_ask_plain.fd ["a", "b", "c"] (spD K mg p_ask_plain)) (D_odd_primes : Df K mg "odd_primes" s_odd_primes ["number"]) (G_odd_primes : FnOk P w K mg base (L2N.CX P w) 2 D_odd_primes.a D_odd_primes.fd ["number"] (spD K mg p_odd_primes)) (D_bad_at : Df K mg "bad_at" s_bad_at ["a", "b", "c", "place"]) (G_bad_at : FnOk P w K mg base (L2N.CX P w) 3 D_bad_at.a D_bad_at.fd ["a", "b", "c", "place"] (spD K mg p_bad_at)) : FnOk P w K mg base (L2N.CX P w) 5 D_bad_places.a D_bad_places.fd ["a", "b", "c"] (spD K mg p_bad_places) :=
  fnD D_bad_places.F sc_bad_places len_bad_places (fun cdv A outer s H E hr => (jss_cons (js_drop (je_call G_ask_plain (hr.mono (by decide)) takesD D_ask_plain.m D_ask_plain.F.kp D_ask_plain.b (ja_cons (je_var 0) (ja_cons (je_var 1) (ja_cons (je_var 2) ja_nil))))) (jss_cons (js_set (je_callB cs_sorted T.n_sorted (by decide +kernel) (jap_cons (jp_of (je_bin os_add (jp_of (je_bin os_add (jp_of (je_bin os_add (jp_of (je_lst (ja_cons je_int (ja_cons je_int ja_nil)))) (jp_of (je_call G_odd_primes (hr.mono (by decide)) takesD D_odd_primes.m D_odd_primes.F.kp D_odd_primes.b (ja_cons (je_var 0) ja_nil))))) (jp_of (je_call G_odd_primes (hr.mono (by decide)) takesD D_odd_primes.m D_odd_primes.F.kp D_odd_primes.b (ja_cons (je_var 1) ja_nil))))) (jp_of (je_call G_odd_primes (hr.mono (by decide)) takesD D_odd_primes.m D_odd_primes.F.kp D_odd_primes.b (ja_cons (je_var 2) ja_nil))))) jap_nil)) (jg_val 3 sc_bad_places.nd)) (jss_one (js_ret (je_lc (own := [("place", 4)]) rfl sc_bad_places.nd (ji_val (je_var 3)) (blkOk_by (own := [("place", 4)]) (N := N_bad_places) (sc := defScope s_bad_places) (by decide +kernel)) (by decide) (fun _ _ _ _ _ => (jg_val 4 sc_bad_places.nd)) (fun _ _ _ _ _ => (jts_one (jt_val (je_call G_bad_at (hr.mono (by decide)) takesF D_bad_at.m D_bad_at.F.kp D_bad_at.b (ja_cons (je_var 0) (ja_cons (je_var 1) (ja_cons (je_var 2) (ja_cons (je_var 4) ja_nil)))))))) (fun _ _ _ _ _ => (je_var 4)))))))) spec_bad_places
def N_root_of : List Str := ["number", "found"]
theorem sc_root_of : FnScope N_root_of ["number"] (defScope s_root_of) := ⟨rfl, rfl, rfl, by decide +kernel, rfl, by decide +kernel, by decide +kernel⟩
theorem ok_root_of {P : Program} {w : World} {K : PySem.W.Frag} {mg : Str → Option Value} {base : Heap} (T : Bi mg) (D_root_of : Df K mg "root_of" s_root_of ["number"]) (C_NoNumber : ExD K mg "NoNumber") : FnOk P w K mg base (L2N.CX P w) 1 D_root_of.a D_root_of.fd ["number"] (spD K mg p_root_of) :=
  fnD D_root_of.F sc_root_of len_root_of (fun cdv A outer s H E hr => (jss_cons (js_if (jt_cmp os_lt (jp_var 0) (jp_of je_int) (nomark _)) (jss_one (js_raise rfl takesD C_NoNumber)) jss_nil) (jss_cons (js_set (je_bin os_shl (jp_of je_int) (jp_of (je_bin os_add (jp_of (je_bin os_fdiv (jp_of (je_bitlen (jp_var 0))) (jp_of je_int))) (jp_of je_int)))) (jg_val 1 sc_root_of.nd)) (jss_cons (js_while passesD (jt_cmp os_gt (jp_of (je_bin os_mul (jp_var 1) (jp_var 1))) (jp_var 0) (nomark _)) (jss_one (js_set (je_bin os_fdiv (jp_of (je_bin os_add (jp_var 1) (jp_of (je_bin os_fdiv (jp_var 0) (jp_var 1))))) (jp_of je_int)) (jg_val 1 sc_root_of.nd)))) (jss_one (js_ret (je_var 1))))))) spec_root_of
def N_first_number : List Str := ["a", "b", "c", "y", "z", "most", "top", "x"]
theorem sc_first_number : FnScope N_first_number ["a", "b", "c", "y", "z", "most"] (defScope s_first_number) := ⟨rfl, rfl, rfl, by decide +kernel, rfl, by decide +kernel, by decide +kernel⟩
theorem ok_first_number {P : Program} {w : World} {K : PySem.W.Frag} {mg : Str → Option Value} {base : Heap} (T : Bi mg) (D_first_number : Df K mg "first_number" s_first_number ["a", "b", "c", "y", "z", "most"]) (D_root_of : Df K mg "root_of" s_root_of ["number"]) (G_root_of : FnOk P w K mg base (L2N.CX P w) 1 D_root_of.a D_root_of.fd ["number"] (spD K mg p_root_of)) : FnOk P w K mg base (L2N.CX P w) 2 D_first_number.a D_first_number.fd ["a", "b", "c", "y", "z", "most"] (spD K mg p_first_number) :=
  fnD D_first_number.F sc_first_number len_first_number (fun cdv A outer s H E hr => (jss_cons (js_set (je_bin os_sub (jp_of (je_bin os_sub (jp_of je_int) (jp_of (je_bin os_mul (jp_of (je_bin os_mul (jp_var 1) (jp_var 3))) (jp_var 3))))) (jp_of (je_bin os_mul (jp_of (je_bin os_mul (jp_var 2) (jp_var 4))) (jp_var 4)))) (jg_val 6 sc_first_number.nd)) (jss_cons (js_if (JW.pt (jw_or (jt_cmp (os_ne (units_ok hr)) (jp_of (je_bin os_mod (jp_var 6) (jp_var 0))) (jp_of je_int) (nomark _)) (jw_or1 (jt_cmp os_lt (jp_of (je_bin os_fdiv (jp_var 6) (jp_var 0))) (jp_of je_int) (nomark _))))) (jss_one (js_ret je_non)) jss_nil) (jss_cons (js_set (je_call G_root_of (hr.mono (by decide)) takesD D_root_of.m D_root_of.F.kp D_root_of.b (ja_cons (je_bin os_fdiv (jp_var 6) (jp_var 0)) ja_nil)) (jg_val 7 sc_first_number.nd)) (jss_cons (js_if (JW.pt (jw_or (jt_cmp (os_ne (units_ok hr)) (jp_of (je_bin os_mul (jp_var 7) (jp_var 7))) (jp_of (je_bin os_fdiv (jp_var 6) (jp_var 0))) (nomark _)) (jw_or1 (jt_cmp os_gt (jp_var 7) (jp_var 5) (nomark _))))) (jss_one (js_ret je_non)) jss_nil) (jss_one (js_ret (je_var 7)))))))) spec_first_number
def N_searched : List Str := ["a", "b", "c", "most", "y", "z", "x"]
theorem sc_searched : FnScope N_searched ["a", "b", "c"] (defScope s_searched) := ⟨rfl, rfl, rfl, by decide +kernel, rfl, by decide +kernel, by decide +kernel⟩
theorem ok_searched {P : Program} {w : World} {K : PySem.W.Frag} {mg : Str → Option Value} {base : Heap} (T : Bi mg) (D_searched : Df K mg "searched" s_searched ["a", "b", "c"]) (D_root_of : Df K mg "root_of" s_root_of ["number"]) (G_root_of : FnOk P w K mg base (L2N.CX P w) 1 D_root_of.a D_root_of.fd ["number"] (spD K mg p_root_of)) (D_first_number : Df K mg "first_number" s_first_number ["a", "b", "c", "y", "z", "most"]) (G_first_number : FnOk P w K mg base (L2N.CX P w) 2 D_first_number.a D_first_number.fd ["a", "b", "c", "y", "z", "most"] (spD K mg p_first_number)) : FnOk P w K mg base (L2N.CX P w) 3 D_searched.a D_searched.fd ["a", "b", "c"] (spD K mg p_searched) :=
  fnD D_searched.F sc_searched len_searched (fun cdv A outer s H E hr => (jss_cons (js_set (je_call G_root_of (hr.mono (by decide)) takesD D_root_of.m D_root_of.F.kp D_root_of.b (ja_cons (je_callB cs_abs T.n_abs (by decide +kernel) (jap_cons (jp_of (je_bin os_mul (jp_var 1) (jp_var 2))) jap_nil)) ja_nil)) (jg_val 3 sc_searched.nd)) (jss_cons (js_for passesD rfl (ji_rng1 T.n_range (ja_cons (je_bin os_add (jp_of (je_call G_root_of (hr.mono (by decide)) takesD D_root_of.m D_root_of.F.kp D_root_of.b (ja_cons (je_callB cs_abs T.n_abs (by decide +kernel) (jap_cons (jp_of (je_bin os_mul (jp_var 2) (jp_var 0))) jap_nil)) ja_nil))) (jp_of je_int)) ja_nil)) (jg_val 4 sc_searched.nd) (jss_one (js_for passesD rfl (ji_rng1 T.n_range (ja_cons (je_bin os_add (jp_of (je_call G_root_of (hr.mono (by decide)) takesD D_root_of.m D_root_of.F.kp D_root_of.b (ja_cons (je_callB cs_abs T.n_abs (by decide +kernel) (jap_cons (jp_of (je_bin os_mul (jp_var 0) (jp_var 1))) jap_nil)) ja_nil))) (jp_of je_int)) ja_nil)) (jg_val 5 sc_searched.nd) (jss_cons (js_set (je_call G_first_number (hr.mono (by decide)) takesD D_first_number.m D_first_number.F.kp D_first_number.b (ja_cons (je_var 0) (ja_cons (je_var 1) (ja_cons (je_var 2) (ja_cons (je_var 4) (ja_cons (je_var 5) (ja_cons (je_var 3) ja_nil))))))) (jg_val 6 sc_searched.nd)) (jss_one (js_if (JW.pt (jw_and (jt_cmp os_notN (jp_var 6) (jp_of je_non) (nomark _)) (jw_and1 (jt_cmp (os_ne (units_ok hr)) (jp_of (je_tup (ja_cons (je_var 6) (ja_cons (je_var 4) (ja_cons (je_var 5) ja_nil))))) (jp_of (je_tup (ja_cons je_int (ja_cons je_int (ja_cons je_int ja_nil))))) (nomark _))))) (jss_one (js_ret (je_tup (ja_cons (je_var 6) (ja_cons (je_var 4) (ja_cons (je_var 5) ja_nil)))))) jss_nil)))))) (jss_one (js_ret je_non))))) spec_searched
def N_shared_by : List Str := ["numbers", "found", "number", "rest"]
theorem sc_shared_by : FnScope N_shared_by ["numbers"] (defScope s_shared_by) := ⟨rfl, rfl, rfl, by decide +kernel, rfl, by decide +kernel, by decide +kernel⟩
theorem ok_shared_by {P : Program} {w : World} {K : PySem.W.Frag} {mg : Str → Option Value} {base : Heap} (T : Bi mg) (D_shared_by : Df K mg "shared_by" s_shared_by ["numbers"]) : FnOk P w K mg base (L2N.CX P w) 1 D_shared_by.a D_shared_by.fd ["numbers"] (spD K mg p_shared_by) :=
  fnD D_shared_by.F sc_shared_by len_shared_by (fun cdv A outer s H E hr => (jss_cons (js_set je_int (jg_val 1 sc_shared_by.nd)) (jss_cons (js_for passesD rfl (ji_val (je_var 0)) (jg_val 2 sc_shared_by.nd) (jss_cons (js_set (je_callB cs_abs T.n_abs (by decide +kernel) (jap_cons (jp_var 2) jap_nil)) (jg_val 3 sc_shared_by.nd)) (jss_one (js_while passesD (jt_cmp (os_ne (units_ok hr)) (jp_var 3) (jp_of je_int) (nomark _)) (jss_one (js_par rfl sc_shared_by.nd (ja_cons (je_var 3) (ja_cons (je_bin os_mod (jp_var 1) (jp_var 3)) ja_nil)) rfl rfl (by decide) (fun ta pa => ps_par rfl sc_shared_by.nd rfl rfl (by decide) rfl rfl pa (by rfl)))))))) (jss_one (js_ret (je_var 1)))))) spec_shared_by
def N_lowest_point : List Str := ["point", "share", "first", "number"]
theorem sc_lowest_point : FnScope N_lowest_point ["point"] (defScope s_lowest_point) := ⟨rfl, rfl, rfl, by decide +kernel, rfl, by decide +kernel, by decide +kernel⟩
theorem ok_lowest_point {P : Program} {w : World} {K : PySem.W.Frag} {mg : Str → Option Value} {base : Heap} (T : Bi mg) (D_lowest_point : Df K mg "lowest_point" s_lowest_point ["point"]) (D_shared_by : Df K mg "shared_by" s_shared_by ["numbers"]) (G_shared_by : FnOk P w K mg base (L2N.CX P w) 1 D_shared_by.a D_shared_by.fd ["numbers"] (spD K mg p_shared_by)) : FnOk P w K mg base (L2N.CX P w) 2 D_lowest_point.a D_lowest_point.fd ["point"] (spD K mg p_lowest_point) :=
  fnD D_lowest_point.F sc_lowest_point len_lowest_point (fun cdv A outer s H E hr => (jss_cons (js_set (je_call G_shared_by (hr.mono (by decide)) takesD D_shared_by.m D_shared_by.F.kp D_shared_by.b (ja_cons (je_var 0) ja_nil)) (jg_val 1 sc_lowest_point.nd)) (jss_cons (js_set (je_ix (jp_of (je_lc (own := [("number", 3)]) rfl sc_lowest_point.nd (ji_val (je_var 0)) (blkOk_by (own := [("number", 3)]) (N := N_lowest_point) (sc := defScope s_lowest_point) (by decide +kernel)) (by decide) (fun _ _ _ _ _ => (jg_val 3 sc_lowest_point.nd)) (fun _ _ _ _ _ => (jts_one (jt_cmp (os_ne (units_ok hr)) (jp_var 3) (jp_of je_int) (nomark _)))) (fun _ _ _ _ _ => (je_var 3)))) (jp_of je_int)) (jg_val 2 sc_lowest_point.nd)) (jss_cut (js_if (jt_cmp os_lt (jp_var 2) (jp_of je_int) (nomark _)) (jss_one (js_set (je_bin os_sub (jp_of je_int) (jp_var 1)) (jg_val 1 sc_lowest_point.nd))) jss_nil) (jss_one (js_ret (je_callTy cs_tuple T.n_tuple (by decide +kernel) (jap_cons (jp_of (je_lc (own := [("number", 3)]) rfl sc_lowest_point.nd (ji_val (je_var 0)) (blkOk_by (own := [("number", 3)]) (N := N_lowest_point) (sc := defScope s_lowest_point) (by decide +kernel)) (by decide) (fun _ _ _ _ _ => (jg_val 3 sc_lowest_point.nd)) (fun _ _ _ _ _ => jts_nil) (fun _ _ _ _ _ => (je_bin os_fdiv (jp_var 3) (jp_var 1))))) jap_nil)))))))) spec_lowest_point
def N_small_point : List Str := ["a", "b", "c", "bad", "least", "y", "z", "x"]
theorem sc_small_point : FnScope N_small_point ["a", "b", "c"] (defScope s_small_point) := ⟨rfl, rfl, rfl, by decide +kernel, rfl, by decide +kernel, by decide +kernel⟩
theorem ok_small_point {P : Program} {w : World} {K : PySem.W.Frag} {mg : Str → Option Value} {base : Heap} (T : Bi mg) (D_small_point : Df K mg "small_point" s_small_point ["a", "b", "c"]) (D_bad_places : Df K mg "bad_places" s_bad_places ["a", "b", "c"]) (G_bad_places : FnOk P w K mg base (L2N.CX P w) 5 D_bad_places.a D_bad_places.fd ["a", "b", "c"] (spD K mg p_bad_places)) (D_lowest_point : Df K mg "lowest_point" s_lowest_point ["point"]) (G_lowest_point : FnOk P w K mg base (L2N.CX P w) 2 D_lowest_point.a D_lowest_point.fd ["point"] (spD K mg p_lowest_point)) (D_searched : Df K mg "searched" s_searched ["a", "b", "c"]) (G_searched : FnOk P w K mg base (L2N.CX P w) 3 D_searched.a D_searched.fd ["a", "b", "c"] (spD K mg p_searched)) (C_BadPlace : ExD1 P w K mg base "BadPlace" "place") : FnOk P w K mg base (L2N.CX P w) 6 D_small_point.a D_small_point.fd ["a", "b", "c"] (spD K mg p_small_point) :=
  fnD D_small_point.F sc_small_point len_small_point (fun cdv A outer s H E hr => (jss_cons (js_set (je_call G_bad_places (hr.mono (by decide)) takesD D_bad_places.m D_bad_places.F.kp D_bad_places.b (ja_cons (je_var 0) (ja_cons (je_var 1) (ja_cons (je_var 2) ja_nil)))) (jg_val 3 sc_small_point.nd)) (jss_cons (js_if (jt_cmp (os_ne (units_ok hr)) (jp_var 3) (jp_of (je_lst ja_nil)) (nomark _)) (jss_one (js_raise1 rfl takesD C_BadPlace (hr.mono (by decide)) (je_ix (jp_var 3) (jp_of je_int)))) jss_nil) (jss_cons (js_set (je_callB (cs_min3 rfl) T.n_min (by decide +kernel) (jap_cons (jp_of (je_callB cs_abs T.n_abs (by decide +kernel) (jap_cons (jp_var 0) jap_nil))) (jap_cons (jp_of (je_callB cs_abs T.n_abs (by decide +kernel) (jap_cons (jp_var 1) jap_nil))) (jap_cons (jp_of (je_callB cs_abs T.n_abs (by decide +kernel) (jap_cons (jp_var 2) jap_nil))) jap_nil)))) (jg_val 4 sc_small_point.nd)) (jss_cons (js_if (jt_cmp (os_eq (units_ok hr)) (jp_of (je_callB cs_abs T.n_abs (by decide +kernel) (jap_cons (jp_var 0) jap_nil))) (jp_var 4) (nomark _)) (jss_one (js_ret (je_call G_lowest_point (hr.mono (by decide)) takesD D_lowest_point.m D_lowest_point.F.kp D_lowest_point.b (ja_cons (je_call G_searched (hr.mono (by decide)) takesD D_searched.m D_searched.F.kp D_searched.b (ja_cons (je_var 0) (ja_cons (je_var 1) (ja_cons (je_var 2) ja_nil)))) ja_nil)))) jss_nil) (jss_cons (js_if (jt_cmp (os_eq (units_ok hr)) (jp_of (je_callB cs_abs T.n_abs (by decide +kernel) (jap_cons (jp_var 1) jap_nil))) (jp_var 4) (nomark _)) (jss_cons (js_asg (je_call G_searched (hr.mono (by decide)) takesD D_searched.m D_searched.F.kp D_searched.b (ja_cons (je_var 1) (ja_cons (je_var 2) (ja_cons (je_var 0) ja_nil)))) (jg_tup rfl (jgs_cons (jg_val 5 sc_small_point.nd) (jgs_cons (jg_val 6 sc_small_point.nd) (jgs_cons (jg_val 7 sc_small_point.nd) jgs_nil))))) (jss_one (js_ret (je_call G_lowest_point (hr.mono (by decide)) takesD D_lowest_point.m D_lowest_point.F.kp D_lowest_point.b (ja_cons (je_tup (ja_cons (je_var 7) (ja_cons (je_var 5) (ja_cons (je_var 6) ja_nil)))) ja_nil))))) jss_nil) (jss_cons (js_asg (je_call G_searched (hr.mono (by decide)) takesD D_searched.m D_searched.F.kp D_searched.b (ja_cons (je_var 2) (ja_cons (je_var 0) (ja_cons (je_var 1) ja_nil)))) (jg_tup rfl (jgs_cons (jg_val 6 sc_small_point.nd) (jgs_cons (jg_val 7 sc_small_point.nd) (jgs_cons (jg_val 5 sc_small_point.nd) jgs_nil))))) (jss_one (js_ret (je_call G_lowest_point (hr.mono (by decide)) takesD D_lowest_point.m D_lowest_point.F.kp D_lowest_point.b (ja_cons (je_tup (ja_cons (je_var 7) (ja_cons (je_var 5) (ja_cons (je_var 6) ja_nil)))) ja_nil))))))))))) spec_small_point
def N_law_refused_by_any : List Str := ["_law_triple_here", "_law_base", "e"]
theorem sc_law_refused_by_any : FnScope N_law_refused_by_any ["_law_triple_here"] (defScope s_law_refused_by_any) := ⟨rfl, rfl, rfl, by decide +kernel, rfl, by decide +kernel, by decide +kernel⟩
theorem ok_law_refused_by_any {P : Program} {w : World} {K : PySem.W.Frag} {mg : Str → Option Value} {base : Heap} (T : Bi mg) (D_law_refused_by_any : Df K mg "_law_refused_by_any" s_law_refused_by_any ["_law_triple_here"]) (D_small_point : Df K mg "small_point" s_small_point ["a", "b", "c"]) (G_small_point : FnOk P w K mg base (L2N.CX P w) 6 D_small_point.a D_small_point.fd ["a", "b", "c"] (spD K mg p_small_point)) (XT_CurveError : ExT K mg ["BadPlace", "NotPlain", "NoPlace"] "CurveError") (IT_ValueError : IsT K mg ["BadPlace", "NotPlain", "NoPlace"] "ValueError") (EI : ExIs K ["BadPlace", "NotPlain", "NoPlace"]) : FnOk P w K mg base (L2N.CX P w) 7 D_law_refused_by_any.a D_law_refused_by_any.fd ["_law_triple_here"] (spD K mg p_law_refused_by_any) :=
  fnD D_law_refused_by_any.F sc_law_refused_by_any len_law_refused_by_any (fun cdv A outer s H E hr => (jss_cons (js_set je_bl (jg_val 1 sc_law_refused_by_any.nd)) (jss_cons (js_try rfl rfl rfl sc_law_refused_by_any.nd takesD (fun _ pn1 _ tk1 po1 => (jss_one (js_drop (je_call G_small_point (hr.mono (by decide)) tk1 D_small_point.m D_small_point.F.kp D_small_point.b (ja_cons (je_ix (jp_var 0) (jp_of je_int)) (ja_cons (je_ix (jp_var 0) (jp_of je_int)) (ja_cons (je_ix (jp_var 0) (jp_of je_int)) ja_nil))))))) (HdsD.cons XT_CurveError rfl (by decide) (on_as 2 rfl rfl) (fun _ _ _ ez => (jss_one (js_set (je_isE T.n_isinstance EI IT_ValueError (je_var 2)) (jg_val 1 sc_law_refused_by_any.nd)))) HdsD.nil)) (jss_one (js_ret (je_var 1)))))) spec_law_refused_by_any
def N_law_refused : List Str := ["_law_triple_here", "_law_told", "e"]
theorem sc_law_refused : FnScope N_law_refused ["_law_triple_here"] (defScope s_law_refused) := ⟨rfl, rfl, rfl, by decide +kernel, rfl, by decide +kernel, by decide +kernel⟩
theorem ok_law_refused {P : Program} {w : World} {K : PySem.W.Frag} {mg : Str → Option Value} {base : Heap} (T : Bi mg) (D_law_refused : Df K mg "_law_refused" s_law_refused ["_law_triple_here"]) (D_small_point : Df K mg "small_point" s_small_point ["a", "b", "c"]) (G_small_point : FnOk P w K mg base (L2N.CX P w) 6 D_small_point.a D_small_point.fd ["a", "b", "c"] (spD K mg p_small_point)) (XT_BadPlace : ExT K mg ["BadPlace", "NotPlain", "NoPlace"] "BadPlace") (FT_place : FldT K ["BadPlace"] "place") (EI : ExIs K ["BadPlace", "NotPlain", "NoPlace"]) (IT_NoPlace : IsT K mg ["BadPlace", "NotPlain", "NoPlace"] "NoPlace") (IT_NotPlain : IsT K mg ["BadPlace", "NotPlain", "NoPlace"] "NotPlain") (XT_NotPlain : ExT K mg ["BadPlace", "NotPlain", "NoPlace"] "NotPlain") (IT_BadPlace : IsT K mg ["BadPlace", "NotPlain", "NoPlace"] "BadPlace") : FnOk P w K mg base (L2N.CX P w) 7 D_law_refused.a D_law_refused.fd ["_law_triple_here"] (spD K mg p_law_refused) :=
  fnD D_law_refused.F sc_law_refused len_law_refused (fun cdv A outer s H E hr => (jss_cons (js_set (je_lst (ja_cons je_bl (ja_cons je_bl (ja_cons je_non ja_nil)))) (jg_val 1 sc_law_refused.nd)) (jss_cons (js_try rfl rfl rfl sc_law_refused.nd takesD (fun _ pn1 _ tk1 po1 => (jss_one (js_drop (je_call G_small_point (hr.mono (by decide)) tk1 D_small_point.m D_small_point.F.kp D_small_point.b (ja_cons (je_ix (jp_var 0) (jp_of je_int)) (ja_cons (je_ix (jp_var 0) (jp_of je_int)) (ja_cons (je_ix (jp_var 0) (jp_of je_int)) ja_nil))))))) (HdsD.cons XT_BadPlace rfl (by decide) (on_as 2 rfl rfl) (fun _ _ _ ez => (jss_one (js_set (je_lst (ja_cons (je_isE T.n_isinstance EI IT_NotPlain (je_var 2)) (ja_cons (je_isE T.n_isinstance EI IT_NoPlace (je_var 2)) (ja_cons (je_fld EI FT_place (by decide) (je_var 2)) ja_nil)))) (jg_val 1 sc_law_refused.nd)))) (HdsD.cons XT_NotPlain rfl (by decide) (on_as 2 rfl rfl) (fun _ _ _ ez => (jss_one (js_set (je_lst (ja_cons je_bl (ja_cons (je_isE T.n_isinstance EI IT_BadPlace (je_var 2)) (ja_cons je_non ja_nil)))) (jg_val 1 sc_law_refused.nd)))) HdsD.nil))) (jss_one (js_ret (je_var 1)))))) spec_law_refused
def N_law : List Str := ["_law_script", "_law_triple_here", "_law_plain", "_law_bad_here"]
theorem sc_law : FnScope N_law ["_law_script"] (defScope s_law) := ⟨rfl, rfl, rfl, by decide +kernel, rfl, by decide +kernel, by decide +kernel⟩
theorem ok_law {P : Program} {w : World} {K : PySem.W.Frag} {mg : Str → Option Value} {base : Heap} (T : Bi mg) (D_law : Df K mg "law" s_law ["_law_script"]) (D_law_triple : Df K mg "_law_triple" s_law_triple ["_law_script"]) (G_law_triple : FnOk P w K mg base (L2N.CX P w) 4 D_law_triple.a D_law_triple.fd ["_law_script"] (spD K mg p_law_triple)) (D_law_refused_by_any : Df K mg "_law_refused_by_any" s_law_refused_by_any ["_law_triple_here"]) (G_law_refused_by_any : FnOk P w K mg base (L2N.CX P w) 7 D_law_refused_by_any.a D_law_refused_by_any.fd ["_law_triple_here"] (spD K mg p_law_refused_by_any)) (D_law_refused : Df K mg "_law_refused" s_law_refused ["_law_triple_here"]) (G_law_refused : FnOk P w K mg base (L2N.CX P w) 7 D_law_refused.a D_law_refused.fd ["_law_triple_here"] (spD K mg p_law_refused)) (D_law_bad_places : Df K mg "_law_bad_places" s_law_bad_places ["_law_triple_here", "_law_number"]) (G_law_bad_places : FnOk P w K mg base (L2N.CX P w) 3 D_law_bad_places.a D_law_bad_places.fd ["_law_triple_here", "_law_number"] (spD K mg p_law_bad_places)) (D_law_small : Df K mg "_law_small" s_law_small ["_law_triple_here", "_law_point"]) (G_law_small : FnOk P w K mg base (L2N.CX P w) 4 D_law_small.a D_law_small.fd ["_law_triple_here", "_law_point"] (spD K mg p_law_small)) (D_small_point : Df K mg "small_point" s_small_point ["a", "b", "c"]) (G_small_point : FnOk P w K mg base (L2N.CX P w) 6 D_small_point.a D_small_point.fd ["a", "b", "c"] (spD K mg p_small_point)) : FnOk P w K mg base (L2N.CX P w) 8 D_law.a D_law.fd ["_law_script"] (spD K mg p_law) :=
  fnD D_law.F sc_law len_law (fun cdv A outer s H E hr => (jss_cons (js_asg (je_call G_law_triple (hr.mono (by decide)) takesD D_law_triple.m D_law_triple.F.kp D_law_triple.b (ja_cons (je_var 0) ja_nil)) (jg_tup rfl (jgs_cons (jg_val 1 sc_law.nd) (jgs_cons (jg_val 2 sc_law.nd) jgs_nil)))) (jss_cons (js_if (jt_not (jt_val (je_var 2))) (jss_one (js_ret (je_and (je_cmp (os_eq (units_ok hr)) (jp_of (je_call G_law_refused (hr.mono (by decide)) takesD D_law_refused.m D_law_refused.F.kp D_law_refused.b (ja_cons (je_var 1) ja_nil))) (jp_of (je_lst (ja_cons je_bl (ja_cons je_bl (ja_cons je_non ja_nil))))) (nomark _)) (je_one (je_call G_law_refused_by_any (hr.mono (by decide)) takesD D_law_refused_by_any.m D_law_refused_by_any.F.kp D_law_refused_by_any.b (ja_cons (je_var 1) ja_nil)))))) jss_nil) (jss_cons (js_set (je_call G_law_bad_places (hr.mono (by decide)) takesD D_law_bad_places.m D_law_bad_places.F.kp D_law_bad_places.b (ja_cons (je_var 1) (ja_cons (je_bin os_mul (jp_of (je_bin os_mul (jp_of (je_ix (jp_var 1) (jp_of je_int))) (jp_of (je_ix (jp_var 1) (jp_of je_int))))) (jp_of (je_ix (jp_var 1) (jp_of je_int)))) ja_nil))) (jg_val 3 sc_law.nd)) (jss_cons (js_if (jt_cmp (os_ne (units_ok hr)) (jp_var 3) (jp_of (je_lst ja_nil)) (nomark _)) (jss_one (js_ret (je_and (je_cmp (os_eq (units_ok hr)) (jp_of (je_call G_law_refused (hr.mono (by decide)) takesD D_law_refused.m D_law_refused.F.kp D_law_refused.b (ja_cons (je_var 1) ja_nil))) (jp_of (je_lst (ja_cons je_bl (ja_cons je_bl (ja_cons (je_ix (jp_var 3) (jp_of je_int)) ja_nil))))) (nomark _)) (je_one (je_call G_law_refused_by_any (hr.mono (by decide)) takesD D_law_refused_by_any.m D_law_refused_by_any.F.kp D_law_refused_by_any.b (ja_cons (je_var 1) ja_nil)))))) jss_nil) (jss_one (js_ret (je_call G_law_small (hr.mono (by decide)) takesD D_law_small.m D_law_small.F.kp D_law_small.b (ja_cons (je_var 1) (ja_cons (je_call G_small_point (hr.mono (by decide)) takesD D_small_point.m D_small_point.F.kp D_small_point.b (ja_cons (je_ix (jp_var 1) (jp_of je_int)) (ja_cons (je_ix (jp_var 1) (jp_of je_int)) (ja_cons (je_ix (jp_var 1) (jp_of je_int)) ja_nil)))) ja_nil)))))))))) spec_law
end DL
open PySem PySem.W PyProof.Rows
set_option maxRecDepth 100000 in
set_option maxHeartbeats 0 in
theorem PySem.Challenge.cw_conicplaces_k44_small_points_holds : PySem.Challenge.rw_conicplaces_k44_small_points.Holds := by
  w_on; o_law; k_head; (case hw => w_witness2)
  k_fill
  refine DL.walkD (l := PySem.Challenge.rw_conicplaces_k44_small_points) (k := 8) (x := "_law_script") rfl rfl ⟨rfl, by decide, by decide⟩ (fun w h Y => PySem.W.kIn_of Y) ?F
  case F =>
    intro w mg fa h KX G hmg
    refine' DL.use (x := "abs") KX G ?z fun z0 => ?rz0
    (case z => k_is)
    refine' DL.use (x := "all") KX G ?z fun z1 => ?rz1
    (case z => k_is)
    refine' DL.use (x := "bool") KX G ?z fun z2 => ?rz2
    (case z => k_is)
    refine' DL.use (x := "int") KX G ?z fun z3 => ?rz3
    (case z => k_is)
    refine' DL.use (x := "isinstance") KX G ?z fun z4 => ?rz4
    (case z => k_is)
    refine' DL.use (x := "len") KX G ?z fun z5 => ?rz5
    (case z => k_is)
    refine' DL.use (x := "list") KX G ?z fun z6 => ?rz6
    (case z => k_is)
    refine' DL.use (x := "max") KX G ?z fun z7 => ?rz7
    (case z => k_is)
    refine' DL.use (x := "min") KX G ?z fun z8 => ?rz8
    (case z => k_is)
    refine' DL.use (x := "range") KX G ?z fun z9 => ?rz9
    (case z => k_is)
    refine' DL.use (x := "set") KX G ?z fun z10 => ?rz10
    (case z => k_is)
    refine' DL.use (x := "sorted") KX G ?z fun z11 => ?rz11
    (case z => k_is)
    refine' DL.use (x := "sum") KX G ?z fun z12 => ?rz12
    (case z => k_is)
    refine' DL.use (x := "tuple") KX G ?z fun z13 => ?rz13
    (case z => k_is)
    have T : DL.Bi mg := ⟨z0, z1, z2, z3, z4, z5, z6, z7, z8, z9, z10, z11, z12, z13⟩
    refine' DL.co_use (x := "SQUARES_BY_8") (d := (.tuple [(.int 0), (.int 1), (.int 4)])) KX G ?co_SQUARES_BY_8_a (DL.CoV.tup ?co_SQUARES_BY_8_0 ?co_SQUARES_BY_8_0_s ?co_SQUARES_BY_8_0_v) fun CO_SQUARES_BY_8 => ?co_SQUARES_BY_8_r
    (case co_SQUARES_BY_8_a => k_is)
    (case co_SQUARES_BY_8_0 => k_is)
    (case co_SQUARES_BY_8_0_s => decide)
    case' co_SQUARES_BY_8_0_v => refine' (DL.CoVs.cons (DL.CoV.int _ _) (DL.CoVs.cons (DL.CoV.int _ _) (DL.CoVs.cons (DL.CoV.int _ _) DL.CoVs.nil)))
    refine' DL.binit_use (B := "CurveError") KX G ?a ?r ?g ?f fun TB_CurveError => ?r_TB_CurveError
    (case a => k_is)
    (case r => k_is)
    (case g => k_is)
    (case f => k_is)
    refine' DL.exe1_use (c := "BadPlace") (f := "place") (qual := "BadPlace.__init__") (st := DL.i_BadPlace) KX G (fun _ _ _ _ _ _ us hl => match us, hl with | [_, _], _ => rfl) ?a ?l ?s ?e ?t ?k ?i ?y ?h ?m ?d ?n fun E_BadPlace => ?r_E_BadPlace
    (case a => k_is)
    (case l => k_is)
    (case s => k_is)
    (case e => k_is)
    (case t => k_is)
    (case k => k_is)
    (case i => k_is)
    (case y => k_is)
    (case h => k_is)
    (case m => k_is)
    (case d => k_is)
    (case n => k_is)
    refine' DL.exd_use (c := "NoNumber") KX G ?a ?x ?k ?b ?t fun C_NoNumber => ?r_C_NoNumber
    (case a => k_is)
    (case x => k_exc)
    (case k => k_is)
    (case b => k_is)
    (case t => k_is)
    refine' DL.exd_use (c := "NoSign") KX G ?a ?x ?k ?b ?t fun C_NoSign => ?r_C_NoSign
    (case a => k_is)
    (case x => k_exc)
    (case k => k_is)
    (case b => k_is)
    (case t => k_is)
    refine' DL.exd_use (c := "NotPlain") KX G ?a ?x ?k ?b ?t fun C_NotPlain => ?r_C_NotPlain
    (case a => k_is)
    (case x => k_exc)
    (case k => k_is)
    (case b => k_is)
    (case t => k_is)
    refine' DL.exi_use (R := ["BadPlace", "NotPlain", "NoPlace"]) KX (.cons ⟨?C_BadPlace, ?n_BadPlace, DL.exi_mk ?cl_BadPlace ?ga_BadPlace ?gt_BadPlace ?sb_BadPlace ?ca_BadPlace ?cn_BadPlace ?tk_BadPlace ?mr_BadPlace ?hd_BadPlace⟩ (.cons ⟨?C_NotPlain, ?n_NotPlain, DL.exi_mk ?cl_NotPlain ?ga_NotPlain ?gt_NotPlain ?sb_NotPlain ?ca_NotPlain ?cn_NotPlain ?tk_NotPlain ?mr_NotPlain ?hd_NotPlain⟩ (.cons ⟨?C_NoPlace, ?n_NoPlace, DL.exi_mk ?cl_NoPlace ?ga_NoPlace ?gt_NoPlace ?sb_NoPlace ?ca_NoPlace ?cn_NoPlace ?tk_NoPlace ?mr_NoPlace ?hd_NoPlace⟩ .nil))) fun EI => ?r_EI
    (case n_BadPlace => k_is)
    (case cl_BadPlace => k_is)
    (case ga_BadPlace => k_is)
    (case gt_BadPlace => k_is)
    (case sb_BadPlace => k_is)
    (case ca_BadPlace => k_is)
    (case cn_BadPlace => k_is)
    (case tk_BadPlace => k_is)
    (case mr_BadPlace => k_is)
    (case hd_BadPlace => k_is)
    (case n_NotPlain => k_is)
    (case cl_NotPlain => k_is)
    (case ga_NotPlain => k_is)
    (case gt_NotPlain => k_is)
    (case sb_NotPlain => k_is)
    (case ca_NotPlain => k_is)
    (case cn_NotPlain => k_is)
    (case tk_NotPlain => k_is)
    (case mr_NotPlain => k_is)
    (case hd_NotPlain => k_is)
    (case n_NoPlace => k_is)
    (case cl_NoPlace => k_is)
    (case ga_NoPlace => k_is)
    (case gt_NoPlace => k_is)
    (case sb_NoPlace => k_is)
    (case ca_NoPlace => k_is)
    (case cn_NoPlace => k_is)
    (case tk_NoPlace => k_is)
    (case mr_NoPlace => k_is)
    (case hd_NoPlace => k_is)
    refine' DL.fld_use (R := ["BadPlace"]) (g := "place") KX (.cons ⟨?C_BadPlace, ?n_BadPlace, ?e_BadPlace⟩ .nil) fun FT_place => ?r_FT_place
    (case n_BadPlace => k_is)
    (case e_BadPlace => k_is)
    refine' DL.ist_use (R := ["BadPlace", "NotPlain", "NoPlace"]) (T := "BadPlace") KX G ?a ?c ?t ?s (.cons ⟨?C_BadPlace, true, ?n_BadPlace, ?e_BadPlace, by decide⟩ (.cons ⟨?C_NotPlain, false, ?n_NotPlain, ?e_NotPlain, by decide⟩ (.cons ⟨?C_NoPlace, false, ?n_NoPlace, ?e_NoPlace, by decide⟩ .nil))) fun IT_BadPlace => ?r_IT_BadPlace
    (case a => k_is)
    (case c => k_is)
    (case t => k_is)
    (case s => k_is)
    (case n_BadPlace => k_is)
    (case e_BadPlace => k_is)
    (case n_NotPlain => k_is)
    (case e_NotPlain => k_is)
    (case n_NoPlace => k_is)
    (case e_NoPlace => k_is)
    refine' DL.ist_use (R := ["BadPlace", "NotPlain", "NoPlace"]) (T := "NoPlace") KX G ?a ?c ?t ?s (.cons ⟨?C_BadPlace, false, ?n_BadPlace, ?e_BadPlace, by decide⟩ (.cons ⟨?C_NotPlain, false, ?n_NotPlain, ?e_NotPlain, by decide⟩ (.cons ⟨?C_NoPlace, true, ?n_NoPlace, ?e_NoPlace, by decide⟩ .nil))) fun IT_NoPlace => ?r_IT_NoPlace
    (case a => k_is)
    (case c => k_is)
    (case t => k_is)
    (case s => k_is)
    (case n_BadPlace => k_is)
    (case e_BadPlace => k_is)
    (case n_NotPlain => k_is)
    (case e_NotPlain => k_is)
    (case n_NoPlace => k_is)
    (case e_NoPlace => k_is)
    refine' DL.ist_use (R := ["BadPlace", "NotPlain", "NoPlace"]) (T := "NotPlain") KX G ?a ?c ?t ?s (.cons ⟨?C_BadPlace, false, ?n_BadPlace, ?e_BadPlace, by decide⟩ (.cons ⟨?C_NotPlain, true, ?n_NotPlain, ?e_NotPlain, by decide⟩ (.cons ⟨?C_NoPlace, false, ?n_NoPlace, ?e_NoPlace, by decide⟩ .nil))) fun IT_NotPlain => ?r_IT_NotPlain
    (case a => k_is)
    (case c => k_is)
    (case t => k_is)
    (case s => k_is)
    (case n_BadPlace => k_is)
    (case e_BadPlace => k_is)
    (case n_NotPlain => k_is)
    (case e_NotPlain => k_is)
    (case n_NoPlace => k_is)
    (case e_NoPlace => k_is)
    refine' DL.ist_useB (R := ["BadPlace", "NotPlain", "NoPlace"]) (T := "ValueError") (n := "ValueError") KX G ?a (by decide +kernel) (by decide) (by decide +kernel) (.cons ⟨?C_BadPlace, true, ?n_BadPlace, ?e_BadPlace, by decide⟩ (.cons ⟨?C_NotPlain, true, ?n_NotPlain, ?e_NotPlain, by decide⟩ (.cons ⟨?C_NoPlace, true, ?n_NoPlace, ?e_NoPlace, by decide⟩ .nil))) fun IT_ValueError => ?r_IT_ValueError
    (case a => k_is)
    (case n_BadPlace => k_is)
    (case e_BadPlace => k_is)
    (case n_NotPlain => k_is)
    (case e_NotPlain => k_is)
    (case n_NoPlace => k_is)
    (case e_NoPlace => k_is)
    refine' DL.ext_use (R := ["BadPlace", "NotPlain", "NoPlace"]) (T := "BadPlace") KX G ?a ?b ?d ?t (.cons ⟨?C_BadPlace, true, ?n_BadPlace, ?e_BadPlace, by decide⟩ (.cons ⟨?C_NotPlain, false, ?n_NotPlain, ?e_NotPlain, by decide⟩ (.cons ⟨?C_NoPlace, false, ?n_NoPlace, ?e_NoPlace, by decide⟩ .nil))) fun XT_BadPlace => ?r_XT_BadPlace
    (case a => k_is)
    (case b => k_is)
    (case d => k_is)
    (case t => k_is)
    (case n_BadPlace => k_is)
    (case e_BadPlace => k_is)
    (case n_NotPlain => k_is)
    (case e_NotPlain => k_is)
    (case n_NoPlace => k_is)
    (case e_NoPlace => k_is)
    refine' DL.ext_use (R := ["BadPlace", "NotPlain", "NoPlace"]) (T := "CurveError") KX G ?a ?b ?d ?t (.cons ⟨?C_BadPlace, true, ?n_BadPlace, ?e_BadPlace, by decide⟩ (.cons ⟨?C_NotPlain, true, ?n_NotPlain, ?e_NotPlain, by decide⟩ (.cons ⟨?C_NoPlace, true, ?n_NoPlace, ?e_NoPlace, by decide⟩ .nil))) fun XT_CurveError => ?r_XT_CurveError
    (case a => k_is)
    (case b => k_is)
    (case d => k_is)
    (case t => k_is)
    (case n_BadPlace => k_is)
    (case e_BadPlace => k_is)
    (case n_NotPlain => k_is)
    (case e_NotPlain => k_is)
    (case n_NoPlace => k_is)
    (case e_NoPlace => k_is)
    refine' DL.ext_use (R := ["BadPlace", "NotPlain", "NoPlace"]) (T := "NotPlain") KX G ?a ?b ?d ?t (.cons ⟨?C_BadPlace, false, ?n_BadPlace, ?e_BadPlace, by decide⟩ (.cons ⟨?C_NotPlain, true, ?n_NotPlain, ?e_NotPlain, by decide⟩ (.cons ⟨?C_NoPlace, false, ?n_NoPlace, ?e_NoPlace, by decide⟩ .nil))) fun XT_NotPlain => ?r_XT_NotPlain
    (case a => k_is)
    (case b => k_is)
    (case d => k_is)
    (case t => k_is)
    (case n_BadPlace => k_is)
    (case e_BadPlace => k_is)
    (case n_NotPlain => k_is)
    (case e_NotPlain => k_is)
    (case n_NoPlace => k_is)
    (case e_NoPlace => k_is)
    refine' DL.df_use (x := "_law_drawn") (st := DL.s_law_drawn) (ps := ["_law_cell", "_law_prime", "_law_many"]) KX G (fun _ _ _ _ _ _ us hl => match us, hl with | [_, _, _], _ => rfl) ?a ?l ?c ?k fun D_law_drawn => ?r_law_drawn
    (case a => k_is)
    (case l => k_is)
    (case c => k_is)
    (case k => k_is)
    refine' DL.df_use (x := "_law_of") (st := DL.s_law_of) (ps := ["_law_script", "_law_k"]) KX G (fun _ _ _ _ _ _ us hl => match us, hl with | [_, _], _ => rfl) ?a ?l ?c ?k fun D_law_of => ?r_law_of
    (case a => k_is)
    (case l => k_is)
    (case c => k_is)
    (case k => k_is)
    refine' DL.df_use (x := "_law_plain_drawn") (st := DL.s_law_plain_drawn) (ps := ["_law_cell", "_law_most"]) KX G (fun _ _ _ _ _ _ us hl => match us, hl with | [_, _], _ => rfl) ?a ?l ?c ?k fun D_law_plain_drawn => ?r_law_plain_drawn
    (case a => k_is)
    (case l => k_is)
    (case c => k_is)
    (case k => k_is)
    refine' DL.df_use (x := "_law_great") (st := DL.s_law_great) (ps := ["_law_cell", "_law_other"]) KX G (fun _ _ _ _ _ _ us hl => match us, hl with | [_, _], _ => rfl) ?a ?l ?c ?k fun D_law_great => ?r_law_great
    (case a => k_is)
    (case l => k_is)
    (case c => k_is)
    (case k => k_is)
    refine' DL.df_use (x := "_law_triple") (st := DL.s_law_triple) (ps := ["_law_script"]) KX G (fun _ _ _ _ _ _ us hl => match us, hl with | [_], _ => rfl) ?a ?l ?c ?k fun D_law_triple => ?r_law_triple
    (case a => k_is)
    (case l => k_is)
    (case c => k_is)
    (case k => k_is)
    refine' DL.df_use (x := "_law_none_by_8") (st := DL.s_law_none_by_8) (ps := ["_law_triple_here"]) KX G (fun _ _ _ _ _ _ us hl => match us, hl with | [_], _ => rfl) ?a ?l ?c ?k fun D_law_none_by_8 => ?r_law_none_by_8
    (case a => k_is)
    (case l => k_is)
    (case c => k_is)
    (case k => k_is)
    refine' DL.df_use (x := "_law_no_square") (st := DL.s_law_no_square) (ps := ["_law_number", "_law_prime"]) KX G (fun _ _ _ _ _ _ us hl => match us, hl with | [_, _], _ => rfl) ?a ?l ?c ?k fun D_law_no_square => ?r_law_no_square
    (case a => k_is)
    (case l => k_is)
    (case c => k_is)
    (case k => k_is)
    refine' DL.df_use (x := "_law_bad") (st := DL.s_law_bad) (ps := ["_law_triple_here", "_law_place"]) KX G (fun _ _ _ _ _ _ us hl => match us, hl with | [_, _], _ => rfl) ?a ?l ?c ?k fun D_law_bad => ?r_law_bad
    (case a => k_is)
    (case l => k_is)
    (case c => k_is)
    (case k => k_is)
    refine' DL.df_use (x := "_law_primes") (st := DL.s_law_primes) (ps := ["_law_number"]) KX G (fun _ _ _ _ _ _ us hl => match us, hl with | [_], _ => rfl) ?a ?l ?c ?k fun D_law_primes => ?r_law_primes
    (case a => k_is)
    (case l => k_is)
    (case c => k_is)
    (case k => k_is)
    refine' DL.df_use (x := "_law_bad_places") (st := DL.s_law_bad_places) (ps := ["_law_triple_here", "_law_number"]) KX G (fun _ _ _ _ _ _ us hl => match us, hl with | [_, _], _ => rfl) ?a ?l ?c ?k fun D_law_bad_places => ?r_law_bad_places
    (case a => k_is)
    (case l => k_is)
    (case c => k_is)
    (case k => k_is)
    refine' DL.df_use (x := "_law_whole") (st := DL.s_law_whole) (ps := ["_law_found"]) KX G (fun _ _ _ _ _ _ us hl => match us, hl with | [_], _ => rfl) ?a ?l ?c ?k fun D_law_whole => ?r_law_whole
    (case a => k_is)
    (case l => k_is)
    (case c => k_is)
    (case k => k_is)
    refine' DL.df_use (x := "_law_wholes") (st := DL.s_law_wholes) (ps := ["_law_found", "_law_many"]) KX G (fun _ _ _ _ _ _ us hl => match us, hl with | [_, _], _ => rfl) ?a ?l ?c ?k fun D_law_wholes => ?r_law_wholes
    (case a => k_is)
    (case l => k_is)
    (case c => k_is)
    (case k => k_is)
    refine' DL.df_use (x := "_law_shared") (st := DL.s_law_shared) (ps := ["_law_numbers"]) KX G (fun _ _ _ _ _ _ us hl => match us, hl with | [_], _ => rfl) ?a ?l ?c ?k fun D_law_shared => ?r_law_shared
    (case a => k_is)
    (case l => k_is)
    (case c => k_is)
    (case k => k_is)
    refine' DL.df_use (x := "_law_is_lowest") (st := DL.s_law_is_lowest) (ps := ["_law_point"]) KX G (fun _ _ _ _ _ _ us hl => match us, hl with | [_], _ => rfl) ?a ?l ?c ?k fun D_law_is_lowest => ?r_law_is_lowest
    (case a => k_is)
    (case l => k_is)
    (case c => k_is)
    (case k => k_is)
    refine' DL.df_use (x := "_law_small") (st := DL.s_law_small) (ps := ["_law_triple_here", "_law_point"]) KX G (fun _ _ _ _ _ _ us hl => match us, hl with | [_, _], _ => rfl) ?a ?l ?c ?k fun D_law_small => ?r_law_small
    (case a => k_is)
    (case l => k_is)
    (case c => k_is)
    (case k => k_is)
    refine' DL.df_use (x := "shares_of") (st := DL.s_shares_of) (ps := ["one", "other"]) KX G (fun _ _ _ _ _ _ us hl => match us, hl with | [_, _], _ => rfl) ?a ?l ?c ?k fun D_shares_of => ?r_shares_of
    (case a => k_is)
    (case l => k_is)
    (case c => k_is)
    (case k => k_is)
    refine' DL.df_use (x := "prime_parts") (st := DL.s_prime_parts) (ps := ["number"]) KX G (fun _ _ _ _ _ _ us hl => match us, hl with | [_], _ => rfl) ?a ?l ?c ?k fun D_prime_parts => ?r_prime_parts
    (case a => k_is)
    (case l => k_is)
    (case c => k_is)
    (case k => k_is)
    refine' DL.df_use (x := "core_of") (st := DL.s_core_of) (ps := ["number"]) KX G (fun _ _ _ _ _ _ us hl => match us, hl with | [_], _ => rfl) ?a ?l ?c ?k fun D_core_of => ?r_core_of
    (case a => k_is)
    (case l => k_is)
    (case c => k_is)
    (case k => k_is)
    refine' DL.df_use (x := "is_plain") (st := DL.s_is_plain) (ps := ["a", "b", "c"]) KX G (fun _ _ _ _ _ _ us hl => match us, hl with | [_, _, _], _ => rfl) ?a ?l ?c ?k fun D_is_plain => ?r_is_plain
    (case a => k_is)
    (case l => k_is)
    (case c => k_is)
    (case k => k_is)
    refine' DL.df_use (x := "ask_plain") (st := DL.s_ask_plain) (ps := ["a", "b", "c"]) KX G (fun _ _ _ _ _ _ us hl => match us, hl with | [_, _, _], _ => rfl) ?a ?l ?c ?k fun D_ask_plain => ?r_ask_plain
    (case a => k_is)
    (case l => k_is)
    (case c => k_is)
    (case k => k_is)
    refine' DL.df_use (x := "odd_primes") (st := DL.s_odd_primes) (ps := ["number"]) KX G (fun _ _ _ _ _ _ us hl => match us, hl with | [_], _ => rfl) ?a ?l ?c ?k fun D_odd_primes => ?r_odd_primes
    (case a => k_is)
    (case l => k_is)
    (case c => k_is)
    (case k => k_is)
    refine' DL.df_use (x := "fits_by_8") (st := DL.s_fits_by_8) (ps := ["a", "b", "c"]) KX G (fun _ _ _ _ _ _ us hl => match us, hl with | [_, _, _], _ => rfl) ?a ?l ?c ?k fun D_fits_by_8 => ?r_fits_by_8
    (case a => k_is)
    (case l => k_is)
    (case c => k_is)
    (case k => k_is)
    refine' DL.df_use (x := "without_twos") (st := DL.s_without_twos) (ps := ["number", "n"]) KX G (fun _ _ _ _ _ _ us hl => match us, hl with | [_, _], _ => rfl) ?a ?l ?c ?k fun D_without_twos => ?r_without_twos
    (case a => k_is)
    (case l => k_is)
    (case c => k_is)
    (case k => k_is)
    refine' DL.df_use (x := "sign_by") (st := DL.s_sign_by) (ps := ["number", "n"]) KX G (fun _ _ _ _ _ _ us hl => match us, hl with | [_, _], _ => rfl) ?a ?l ?c ?k fun D_sign_by => ?r_sign_by
    (case a => k_is)
    (case l => k_is)
    (case c => k_is)
    (case k => k_is)
    refine' DL.df_use (x := "bad_at") (st := DL.s_bad_at) (ps := ["a", "b", "c", "place"]) KX G (fun _ _ _ _ _ _ us hl => match us, hl with | [_, _, _, _], _ => rfl) ?a ?l ?c ?k fun D_bad_at => ?r_bad_at
    (case a => k_is)
    (case l => k_is)
    (case c => k_is)
    (case k => k_is)
    refine' DL.df_use (x := "bad_places") (st := DL.s_bad_places) (ps := ["a", "b", "c"]) KX G (fun _ _ _ _ _ _ us hl => match us, hl with | [_, _, _], _ => rfl) ?a ?l ?c ?k fun D_bad_places => ?r_bad_places
    (case a => k_is)
    (case l => k_is)
    (case c => k_is)
    (case k => k_is)
    refine' DL.df_use (x := "root_of") (st := DL.s_root_of) (ps := ["number"]) KX G (fun _ _ _ _ _ _ us hl => match us, hl with | [_], _ => rfl) ?a ?l ?c ?k fun D_root_of => ?r_root_of
    (case a => k_is)
    (case l => k_is)
    (case c => k_is)
    (case k => k_is)
    refine' DL.df_use (x := "first_number") (st := DL.s_first_number) (ps := ["a", "b", "c", "y", "z", "most"]) KX G (fun _ _ _ _ _ _ us hl => match us, hl with | [_, _, _, _, _, _], _ => rfl) ?a ?l ?c ?k fun D_first_number => ?r_first_number
    (case a => k_is)
    (case l => k_is)
    (case c => k_is)
    (case k => k_is)
    refine' DL.df_use (x := "searched") (st := DL.s_searched) (ps := ["a", "b", "c"]) KX G (fun _ _ _ _ _ _ us hl => match us, hl with | [_, _, _], _ => rfl) ?a ?l ?c ?k fun D_searched => ?r_searched
    (case a => k_is)
    (case l => k_is)
    (case c => k_is)
    (case k => k_is)
    refine' DL.df_use (x := "shared_by") (st := DL.s_shared_by) (ps := ["numbers"]) KX G (fun _ _ _ _ _ _ us hl => match us, hl with | [_], _ => rfl) ?a ?l ?c ?k fun D_shared_by => ?r_shared_by
    (case a => k_is)
    (case l => k_is)
    (case c => k_is)
    (case k => k_is)
    refine' DL.df_use (x := "lowest_point") (st := DL.s_lowest_point) (ps := ["point"]) KX G (fun _ _ _ _ _ _ us hl => match us, hl with | [_], _ => rfl) ?a ?l ?c ?k fun D_lowest_point => ?r_lowest_point
    (case a => k_is)
    (case l => k_is)
    (case c => k_is)
    (case k => k_is)
    refine' DL.df_use (x := "small_point") (st := DL.s_small_point) (ps := ["a", "b", "c"]) KX G (fun _ _ _ _ _ _ us hl => match us, hl with | [_, _, _], _ => rfl) ?a ?l ?c ?k fun D_small_point => ?r_small_point
    (case a => k_is)
    (case l => k_is)
    (case c => k_is)
    (case k => k_is)
    refine' DL.df_use (x := "_law_refused_by_any") (st := DL.s_law_refused_by_any) (ps := ["_law_triple_here"]) KX G (fun _ _ _ _ _ _ us hl => match us, hl with | [_], _ => rfl) ?a ?l ?c ?k fun D_law_refused_by_any => ?r_law_refused_by_any
    (case a => k_is)
    (case l => k_is)
    (case c => k_is)
    (case k => k_is)
    refine' DL.df_use (x := "_law_refused") (st := DL.s_law_refused) (ps := ["_law_triple_here"]) KX G (fun _ _ _ _ _ _ us hl => match us, hl with | [_], _ => rfl) ?a ?l ?c ?k fun D_law_refused => ?r_law_refused
    (case a => k_is)
    (case l => k_is)
    (case c => k_is)
    (case k => k_is)
    refine' DL.df_use (x := "law") (st := DL.s_law) (ps := ["_law_script"]) KX G (fun _ _ _ _ _ _ us hl => match us, hl with | [_], _ => rfl) ?a ?l ?c ?k fun D_law => ?r_law
    (case a => k_is)
    (case l => k_is)
    (case c => k_is)
    (case k => k_is)
    refine DL.law_mk D_law hmg fun base => ?_
    have C_BadPlace := DL.made_BadPlace (P := PySem.Challenge.pw_conicplaces_k44_small_points) (w := w) (base := base) TB_CurveError E_BadPlace
    have G_law_drawn := DL.ok_law_drawn (P := PySem.Challenge.pw_conicplaces_k44_small_points) (w := w) (base := base) T D_law_drawn  
    have G_law_of := DL.ok_law_of (P := PySem.Challenge.pw_conicplaces_k44_small_points) (w := w) (base := base) T D_law_of  
    have G_law_plain_drawn := DL.ok_law_plain_drawn (P := PySem.Challenge.pw_conicplaces_k44_small_points) (w := w) (base := base) T D_law_plain_drawn D_law_drawn G_law_drawn 
    have G_law_great := DL.ok_law_great (P := PySem.Challenge.pw_conicplaces_k44_small_points) (w := w) (base := base) T D_law_great D_law_plain_drawn G_law_plain_drawn D_law_drawn G_law_drawn 
    have G_law_triple := DL.ok_law_triple (P := PySem.Challenge.pw_conicplaces_k44_small_points) (w := w) (base := base) T D_law_triple D_law_drawn G_law_drawn D_law_of G_law_of D_law_plain_drawn G_law_plain_drawn D_law_great G_law_great 
    have G_law_none_by_8 := DL.ok_law_none_by_8 (P := PySem.Challenge.pw_conicplaces_k44_small_points) (w := w) (base := base) T D_law_none_by_8  
    have G_law_no_square := DL.ok_law_no_square (P := PySem.Challenge.pw_conicplaces_k44_small_points) (w := w) (base := base) T D_law_no_square  
    have G_law_bad := DL.ok_law_bad (P := PySem.Challenge.pw_conicplaces_k44_small_points) (w := w) (base := base) T D_law_bad D_law_none_by_8 G_law_none_by_8 D_law_no_square G_law_no_square 
    have G_law_primes := DL.ok_law_primes (P := PySem.Challenge.pw_conicplaces_k44_small_points) (w := w) (base := base) T D_law_primes  
    have G_law_bad_places := DL.ok_law_bad_places (P := PySem.Challenge.pw_conicplaces_k44_small_points) (w := w) (base := base) T D_law_bad_places D_law_primes G_law_primes D_law_bad G_law_bad 
    have G_law_whole := DL.ok_law_whole (P := PySem.Challenge.pw_conicplaces_k44_small_points) (w := w) (base := base) T D_law_whole  
    have G_law_wholes := DL.ok_law_wholes (P := PySem.Challenge.pw_conicplaces_k44_small_points) (w := w) (base := base) T D_law_wholes D_law_whole G_law_whole 
    have G_law_shared := DL.ok_law_shared (P := PySem.Challenge.pw_conicplaces_k44_small_points) (w := w) (base := base) T D_law_shared  
    have G_law_is_lowest := DL.ok_law_is_lowest (P := PySem.Challenge.pw_conicplaces_k44_small_points) (w := w) (base := base) T D_law_is_lowest D_law_shared G_law_shared D_law_wholes G_law_wholes 
    have G_law_small := DL.ok_law_small (P := PySem.Challenge.pw_conicplaces_k44_small_points) (w := w) (base := base) T D_law_small D_law_is_lowest G_law_is_lowest 
    have G_shares_of := DL.ok_shares_of (P := PySem.Challenge.pw_conicplaces_k44_small_points) (w := w) (base := base) T D_shares_of  
    have G_prime_parts := DL.ok_prime_parts (P := PySem.Challenge.pw_conicplaces_k44_small_points) (w := w) (base := base) T D_prime_parts  C_NoNumber
    have G_core_of := DL.ok_core_of (P := PySem.Challenge.pw_conicplaces_k44_small_points) (w := w) (base := base) T D_core_of D_prime_parts G_prime_parts C_NoNumber
    have G_is_plain := DL.ok_is_plain (P := PySem.Challenge.pw_conicplaces_k44_small_points) (w := w) (base := base) T D_is_plain D_core_of G_core_of D_shares_of G_shares_of 
    have G_ask_plain := DL.ok_ask_plain (P := PySem.Challenge.pw_conicplaces_k44_small_points) (w := w) (base := base) T D_ask_plain D_is_plain G_is_plain C_NotPlain
    have G_odd_primes := DL.ok_odd_primes (P := PySem.Challenge.pw_conicplaces_k44_small_points) (w := w) (base := base) T D_odd_primes D_prime_parts G_prime_parts 
    have G_fits_by_8 := DL.ok_fits_by_8 (P := PySem.Challenge.pw_conicplaces_k44_small_points) (w := w) (base := base) T D_fits_by_8  CO_SQUARES_BY_8
    have G_without_twos := DL.ok_without_twos (P := PySem.Challenge.pw_conicplaces_k44_small_points) (w := w) (base := base) T D_without_twos  
    have G_sign_by := DL.ok_sign_by (P := PySem.Challenge.pw_conicplaces_k44_small_points) (w := w) (base := base) T D_sign_by D_without_twos G_without_twos C_NoSign
    have G_bad_at := DL.ok_bad_at (P := PySem.Challenge.pw_conicplaces_k44_small_points) (w := w) (base := base) T D_bad_at D_fits_by_8 G_fits_by_8 D_sign_by G_sign_by 
    have G_bad_places := DL.ok_bad_places (P := PySem.Challenge.pw_conicplaces_k44_small_points) (w := w) (base := base) T D_bad_places D_ask_plain G_ask_plain D_odd_primes G_odd_primes D_bad_at G_bad_at 
    have G_root_of := DL.ok_root_of (P := PySem.Challenge.pw_conicplaces_k44_small_points) (w := w) (base := base) T D_root_of  C_NoNumber
    have G_first_number := DL.ok_first_number (P := PySem.Challenge.pw_conicplaces_k44_small_points) (w := w) (base := base) T D_first_number D_root_of G_root_of 
    have G_searched := DL.ok_searched (P := PySem.Challenge.pw_conicplaces_k44_small_points) (w := w) (base := base) T D_searched D_root_of G_root_of D_first_number G_first_number 
    have G_shared_by := DL.ok_shared_by (P := PySem.Challenge.pw_conicplaces_k44_small_points) (w := w) (base := base) T D_shared_by  
    have G_lowest_point := DL.ok_lowest_point (P := PySem.Challenge.pw_conicplaces_k44_small_points) (w := w) (base := base) T D_lowest_point D_shared_by G_shared_by 
    have G_small_point := DL.ok_small_point (P := PySem.Challenge.pw_conicplaces_k44_small_points) (w := w) (base := base) T D_small_point D_bad_places G_bad_places D_lowest_point G_lowest_point D_searched G_searched C_BadPlace
    have G_law_refused_by_any := DL.ok_law_refused_by_any (P := PySem.Challenge.pw_conicplaces_k44_small_points) (w := w) (base := base) T D_law_refused_by_any D_small_point G_small_point XT_CurveError IT_ValueError EI
    have G_law_refused := DL.ok_law_refused (P := PySem.Challenge.pw_conicplaces_k44_small_points) (w := w) (base := base) T D_law_refused D_small_point G_small_point XT_BadPlace FT_place EI IT_NoPlace IT_NotPlain XT_NotPlain IT_BadPlace
    have G_law := DL.ok_law (P := PySem.Challenge.pw_conicplaces_k44_small_points) (w := w) (base := base) T D_law D_law_triple G_law_triple D_law_refused_by_any G_law_refused_by_any D_law_refused G_law_refused D_law_bad_places G_law_bad_places D_law_small G_law_small D_small_point G_small_point 
    exact G_law
