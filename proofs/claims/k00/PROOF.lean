import PyProof.Rows.All
import HandS.ForMost
import HandS.ForExc
import HandS.Deep
import HandS.Lambda
import HandS.TupAny
import HandS.IsInst
import HandS.Style
import HandS.Dict
import HandS.Wide
import HandS.Iter
import PyProof.StrBlock2
import HandS.TupMul
import HandS.Small
import KE.GoesMore
import KE.SortData
import KE.DataMinMax
import KE.DataEq
import HandS.Text
import HandS.DictTup
import HandS.Conv
import HandS.WordsExc
import HandS.ExcOwn
import HandS.EndOwn
import KE.KExcTry
import KE.KExcStr
import KE.KExcIs
import HandS.ExcInit
import HandS.ExcField
import HandS.ExcValue
import PyProof.StrLawsIn
import PySem.Challenge.RW_lineslaid_k00_whole_documents
set_option Elab.async false
set_option linter.all false
set_option maxRecDepth 100000
set_option maxHeartbeats 4000000
section
/-! DyBase: plain Lean denotations of Python texts over PyData values, on top of HandS.
 ow: who owns an address (0 nobody: frozen data; 1 a caller's; i + 2 the slot i of this def). -/
namespace L2.DY
open PySem PySem.Spec PyProof.Rows

abbrev Ow := Addr → Nat

/-- no table of code objects -/
def NTb (o : HO) : Prop := ∀ ps, o ≠ .tbl ps
/-- what is frozen stays -/
structure Later0 (ow : Ow) (H : Hp) (ow' : Ow) (H' : Hp) : Prop where
  ap : ∀ a o, ow a = 0 → H a = some o → (n : NTb o := by first | assumption | exact nofun) → H' a = some o ∧ ow' a = 0
/-- what is frozen, and what is another's, stays -/
structure Later (ow : Ow) (H : Hp) (ow' : Ow) (H' : Hp) : Prop where
  ap : ∀ a o, ow a ≤ 1 → H a = some o → (n : ow a = 0 → NTb o := by first | assumption | (intro z; assumption) | (intro z; exfalso; omega) | exact (fun _ => nofun)) → H' a = some o ∧ ow' a = ow a
theorem Later.z {ow ow' : Ow} {H H' : Hp} (l : Later ow H ow' H') : Later0 ow H ow' H' := .mk fun a o h e n => ⟨(l.ap a o (by omega) e (fun _ => n)).1, by rw [(l.ap a o (by omega) e (fun _ => n)).2]; exact h⟩
theorem Later.refl (ow : Ow) (H : Hp) : Later ow H ow H := .mk fun _ _ h e _ => ⟨e, rfl⟩
theorem Later.trans {ow ow1 ow2 : Ow} {H H1 H2 : Hp} (a : Later ow H ow1 H1) (b : Later ow1 H1 ow2 H2) : Later ow H ow2 H2 := .mk fun x o h e n => by
  obtain ⟨h1, h2⟩ := a.ap x o h e n
  obtain ⟨h3, h4⟩ := b.ap x o (by omega) h1 (fun z => n (by omega))
  exact ⟨h3, h4.trans h2⟩
theorem Later.same {ow : Ow} {H H' : Hp} (s : Same H H') : Later ow H ow H' := .mk fun a o h e _ => ⟨s a o e, rfl⟩
theorem Later0.same {ow : Ow} {H H' : Hp} (s : Same H H') : Later0 ow H ow H' := .mk fun a o h e _ => ⟨s a o e, h⟩

/-- a tuple that was made in the run, frozen -/
def SqTo (_K : PySem.W.Frag) (ow : Ow) (H : Hp) (a : Addr) (xs : List V) : Prop := ow a = 0 ∧ H a = some (.tup xs)
theorem SqTo.sq {K : PySem.W.Frag} {ow : Ow} {H : Hp} {a : Addr} {xs : List V} (h : SqTo K ow H a xs) : SqT K H a xs := .inl (.inl h.2)
theorem SqTo.later0 {K : PySem.W.Frag} {ow ow' : Ow} {H H' : Hp} {a : Addr} {xs : List V} (l : Later0 ow H ow' H') (h : SqTo K ow H a xs) : SqTo K ow' H' a xs := ⟨(l.ap _ _ h.1 h.2).2, (l.ap _ _ h.1 h.2).1⟩

def lineN : Nat := 16777216
theorem lineN_eq : sizeLine = lineN := sizeLine_eq
/-- a text as the machine lets it be -/
structure SOk (x : Str) : Prop where
  cp : PyData.strOk x = true
  len : x.length ≤ lineN
mutual
/-- no dict is within -/
def noD : PyData → Bool
  | .dict _ => false
  | .list xs => noDs xs
  | .tuple xs => noDs xs
  | .none => true
  | .bool _ => true
  | .int _ => true
  | .str _ => true
def noDs : List PyData → Bool
  | [] => true
  | x :: xs => noD x && noDs xs
end
def keyD : Key → PyData
  | .inl i => .int i
  | .inr x => .str x
def KOk : Key → Prop
  | .inl _ => True
  | .inr x => SOk x
mutual
/-- the value v is the data d, frozen -/
inductive Rp (K : PySem.W.Frag) (ow : Ow) (H : Hp) : V → PyData → Prop
  | non : Rp K ow H .non .none
  | bl (b : Bool) : Rp K ow H (.bl b) (.bool b)
  | int (i : Int) : Rp K ow H (.int i) (.int i)
  | str (x : Str) (h : SOk x) : Rp K ow H (.str x) (.str x)
  | lst {a : Addr} {xs : List V} {ds : List PyData} : ow a = 0 → H a = some (.lst xs) → RpA K ow H xs ds → Rp K ow H (.ref a) (.list ds)
  | tup {a : Addr} {xs : List V} {ds : List PyData} : SqTo K ow H a xs → RpA K ow H xs ds → Rp K ow H (.ref a) (.tuple ds)
  | dct {a : Addr} {u : HO} {ds : List (PyData × PyData)} : ow a = 0 → H a = some u → RpD K ow H u ds → Rp K ow H (.ref a) (.dict ds)
inductive RpA (K : PySem.W.Frag) (ow : Ow) (H : Hp) : List V → List PyData → Prop
  | nil : RpA K ow H [] []
  | cons {v : V} {vs : List V} {d : PyData} {ds : List PyData} : Rp K ow H v d → RpA K ow H vs ds → RpA K ow H (v :: vs) (d :: ds)
inductive RpK (K : PySem.W.Frag) (ow : Ow) (H : Hp) : List (Key × V) → List (PyData × PyData) → Prop
  | nil : RpK K ow H [] []
  | cons {k : Key} {v : V} {d : PyData} {ks : List (Key × V)} {ds : List (PyData × PyData)} : KOk k → Rp K ow H v d → RpK K ow H ks ds → RpK K ow H ((k, v) :: ks) ((keyD k, d) :: ds)
/-- keys that are tuples of ints and texts -/
inductive RpT (K : PySem.W.Frag) (ow : Ow) (H : Hp) : List (List Key × V) → List (PyData × PyData) → Prop
  | nil : RpT K ow H [] []
  | cons {k : List Key} {v : V} {d : PyData} {ks : List (List Key × V)} {ds : List (PyData × PyData)} : (∀ z ∈ k, KOk z) → Rp K ow H v d → RpT K ow H ks ds → RpT K ow H ((k, v) :: ks) ((.tuple (k.map keyD), d) :: ds)
/-- a dict; one with tuples as keys bears a mark ahead -/
inductive RpD (K : PySem.W.Frag) (ow : Ow) (H : Hp) : HO → List (PyData × PyData) → Prop
  | k {kvs : List (Key × V)} {ds : List (PyData × PyData)} : RpK K ow H kvs ds → RpD K ow H (.dK kvs) ds
  | t {kvs : List (List Key × V)} {ds : List (PyData × PyData)} : RpT K ow H kvs ds → RpD K ow H (.dT kvs) ((.none, .none) :: ds)
end
/-- the mark of a dict with tuples as keys -/
def tagB : List (PyData × PyData) → Bool
  | (.none, _) :: _ => true
  | _ => false
theorem RpK.tag {K : PySem.W.Frag} {ow : Ow} {H : Hp} {kvs : List (Key × V)} {ds : List (PyData × PyData)} (r : RpK K ow H kvs ds) : tagB ds = false := by
  cases r with
  | nil => rfl
  | @cons k v d ks ds z a b => cases k <;> rfl
mutual
theorem Rp.later0 {K : PySem.W.Frag} {ow ow' : Ow} {H H' : Hp} (l : Later0 ow H ow' H') : ∀ {v : V} {d : PyData}, Rp K ow H v d → Rp K ow' H' v d
  | _, _, .non => .non
  | _, _, .bl b => .bl b
  | _, _, .int i => .int i
  | _, _, .str x h => .str x h
  | _, _, .lst z s r => .lst (l.ap _ _ z s).2 (l.ap _ _ z s).1 (RpA.later0 l r)
  | _, _, .tup s r => .tup (s.later0 l) (RpA.later0 l r)
  | _, _, .dct z s r => .dct (l.ap _ _ z s (by cases r <;> exact nofun)).2 (l.ap _ _ z s (by cases r <;> exact nofun)).1 (RpD.later0 l r)
theorem RpA.later0 {K : PySem.W.Frag} {ow ow' : Ow} {H H' : Hp} (l : Later0 ow H ow' H') : ∀ {vs : List V} {ds : List PyData}, RpA K ow H vs ds → RpA K ow' H' vs ds
  | _, _, .nil => .nil
  | _, _, .cons a b => .cons (Rp.later0 l a) (RpA.later0 l b)
theorem RpK.later0 {K : PySem.W.Frag} {ow ow' : Ow} {H H' : Hp} (l : Later0 ow H ow' H') : ∀ {vs : List (Key × V)} {ds : List (PyData × PyData)}, RpK K ow H vs ds → RpK K ow' H' vs ds
  | _, _, .nil => .nil
  | _, _, .cons z a b => .cons z (Rp.later0 l a) (RpK.later0 l b)
theorem RpT.later0 {K : PySem.W.Frag} {ow ow' : Ow} {H H' : Hp} (l : Later0 ow H ow' H') : ∀ {vs : List (List Key × V)} {ds : List (PyData × PyData)}, RpT K ow H vs ds → RpT K ow' H' vs ds
  | _, _, .nil => .nil
  | _, _, .cons z a b => .cons z (Rp.later0 l a) (RpT.later0 l b)
theorem RpD.later0 {K : PySem.W.Frag} {ow ow' : Ow} {H H' : Hp} (l : Later0 ow H ow' H') : ∀ {u : HO} {ds : List (PyData × PyData)}, RpD K ow H u ds → RpD K ow' H' u ds
  | _, _, .k r => .k (RpK.later0 l r)
  | _, _, .t r => .t (RpT.later0 l r)
end
theorem Rp.later {K : PySem.W.Frag} {ow ow' : Ow} {H H' : Hp} {v : V} {d : PyData} (r : Rp K ow H v d) (l : Later ow H ow' H') : Rp K ow' H' v d := Rp.later0 l.z r
theorem RpA.later {K : PySem.W.Frag} {ow ow' : Ow} {H H' : Hp} {v : List V} {d : List PyData} (r : RpA K ow H v d) (l : Later ow H ow' H') : RpA K ow' H' v d := RpA.later0 l.z r
mutual
theorem Rp.dp {K : PySem.W.Frag} {ow : Ow} {H : Hp} : ∀ {v : V} {d : PyData}, Rp K ow H v d → noD d = true → Dp K H v d
  | _, _, .non, _ => .non
  | _, _, .bl b, _ => .bl b
  | _, _, .int i, _ => .int i
  | _, _, .str x _, _ => .str x
  | _, _, .lst _ s r, n => .lst (SqL.of s) (RpA.dp r (by simpa [noD] using n))
  | _, _, .tup s r, n => .tup s.sq (RpA.dp r (by simpa [noD] using n))
  | _, _, .dct _ _ _, n => by simp [noD] at n
theorem RpA.dp {K : PySem.W.Frag} {ow : Ow} {H : Hp} : ∀ {vs : List V} {ds : List PyData}, RpA K ow H vs ds → noDs ds = true → DpAll K H vs ds
  | _, _, .nil, _ => .nil
  | _, _, .cons a b, n => .cons (Rp.dp a (by simp [noDs] at n; exact n.1)) (RpA.dp b (by simp [noDs] at n; exact n.2))
end
section
variable {K : PySem.W.Frag} {ow : Ow} {H : Hp}
theorem RpA.length : ∀ {vs : List V} {ds : List PyData}, RpA K ow H vs ds → vs.length = ds.length
  | _, _, .nil => rfl
  | _, _, .cons _ b => by rw [List.length_cons, List.length_cons, RpA.length b]
theorem RpA.get : ∀ {vs : List V} {ds : List PyData} {i : Nat} {d : PyData}, RpA K ow H vs ds → ds[i]? = some d → ∃ v, vs[i]? = some v ∧ Rp K ow H v d
  | _, _, _, _, .nil, e => by simp at e
  | _, _, 0, d, .cons a _, e => by simp at e; subst e; exact ⟨_, rfl, a⟩
  | _, _, i + 1, d, .cons _ b, e => by
    obtain ⟨v, h1, h2⟩ := RpA.get (i := i) (d := d) b (by simpa using e)
    exact ⟨v, by simpa using h1, h2⟩
theorem RpA.append : ∀ {vs ws : List V} {ds es : List PyData}, RpA K ow H vs ds → RpA K ow H ws es → RpA K ow H (vs ++ ws) (ds ++ es)
  | _, _, _, _, .nil, s => s
  | _, _, _, _, .cons a b, s => .cons a (RpA.append b s)
theorem RpA.take : ∀ {vs : List V} {ds : List PyData} (n : Nat), RpA K ow H vs ds → RpA K ow H (vs.take n) (ds.take n)
  | _, _, 0, _ => .nil
  | _, _, _ + 1, .nil => .nil
  | _, _, n + 1, .cons a b => .cons a (RpA.take n b)
theorem RpA.drop : ∀ {vs : List V} {ds : List PyData} (n : Nat), RpA K ow H vs ds → RpA K ow H (vs.drop n) (ds.drop n)
  | _, _, 0, r => r
  | _, _, _ + 1, .nil => .nil
  | _, _, n + 1, .cons _ b => RpA.drop n b
theorem RpA.set : ∀ {vs : List V} {ds : List PyData} (i : Nat) {v : V} {d : PyData}, RpA K ow H vs ds → Rp K ow H v d → RpA K ow H (vs.set i v) (ds.set i d)
  | _, _, _, _, _, .nil, _ => .nil
  | _, _, 0, _, _, .cons _ b, r => .cons r b
  | _, _, i + 1, _, _, .cons a b, r => .cons a (RpA.set i b r)
theorem RpA.reverse : ∀ {vs : List V} {ds : List PyData}, RpA K ow H vs ds → RpA K ow H vs.reverse ds.reverse
  | _, _, .nil => .nil
  | _, _, .cons a b => by rw [List.reverse_cons, List.reverse_cons]; exact RpA.append (RpA.reverse b) (.cons a .nil)
mutual
theorem Rp.lay : ∀ {v : V} {d : PyData}, Rp K ow H v d → noD d = true → d.canLay0 = true
  | _, _, .non, _ => by simp [PyData.canLay0]
  | _, _, .bl b, _ => by simp [PyData.canLay0]
  | _, _, .int i, _ => by simp [PyData.canLay0]
  | _, _, .str x h, _ => by simpa [PyData.canLay0] using h.cp
  | _, _, .lst _ s r, n => by simpa [PyData.canLay0] using RpA.lay r (by simpa [noD] using n)
  | _, _, .tup s r, n => by simpa [PyData.canLay0] using RpA.lay r (by simpa [noD] using n)
  | _, _, .dct _ _ _, n => by simp [noD] at n
theorem RpA.lay : ∀ {vs : List V} {ds : List PyData}, RpA K ow H vs ds → noDs ds = true → PyData.canLayAll0 ds = true
  | _, _, .nil, _ => by simp [PyData.canLayAll0]
  | _, _, .cons a b, n => by
    simp only [noDs, Bool.and_eq_true] at n
    simp [PyData.canLayAll0, Rp.lay a n.1, RpA.lay b n.2]
end
end

/-! ### outcomes -/
inductive R (α : Type) where
  | ok (a : α)
  | exc (c : Nat) (x : PyData)
  | stk
  deriving Inhabited
def R.bind {α β : Type} : R α → (α → R β) → R β
  | .ok a, k => k a
  | .exc c x, _ => .exc c x
  | .stk, _ => .stk
theorem R.bind_ok {α β : Type} (a : α) (k : α → R β) : (R.ok a).bind k = k a := rfl
theorem R.bind_assoc {α β γ : Type} (x : R α) (k : α → R β) (l : β → R γ) : (x.bind k).bind l = x.bind fun a => (k a).bind l := by cases x <;> rfl
def R.map {α β : Type} (f : α → β) (r : R α) : R β := r.bind fun a => .ok (f a)
def R.guard (b : Bool) : R Unit := if b then .ok () else .stk
def R.ofO {α : Type} : Option α → R α
  | some a => .ok a
  | none => .stk

/-- the law's tape: cells, what is left, the seed -/
structure Tp where
  cells : List Int
  cur : Int
  seed : Int
  /-- the other tape has how many cells are read -/
  ix : Option Int := none
/-- what stands in the tape's own list behind the cells -/
def Tp.regs (t : Tp) : List V := match t.ix with
  | none => [.int t.cur, .int t.seed]
  | some i => [.int i, .int t.cur, .int t.seed]

/-- what a slot holds -/
inductive Sl where
  | u
  | d (x : PyData)
  | ol (xs : List PyData)
  | od (ds : List (PyData × PyData))
  | tp (t : Tp)
  /-- a dict with tuples as keys, locked while it is walked -/
  | dl (ds : List (PyData × PyData))
  /-- the law's own table of code objects -/
  | tb
  deriving Inhabited

abbrev Rho := List Sl

def RTp (ow : Ow) (H : Hp) (k : Nat) (p : Addr) (t : Tp) : Prop :=
  ∃ q, ow p = k ∧ ow q = k ∧ p ≠ q ∧ H p = some (.lst (.ref q :: t.regs)) ∧ H q = some (.lst (t.cells.map V.int))
/-- P is the table of the code object of the def law -/
def TabIn (K : PySem.W.Frag) (P : Addr) : Prop := ∃ (f : Addr) (o : Obj) (fd : FuncData) (c : Addr) (e : Value) (dd : Option Addr) (vs : Array Value) (sl : Array (Option Value)),
  PySem.W.nsIn K mainGlobals "law" = some (some (.ref f)) ∧ K.lookup f = some o ∧ o.data = .func fd ∧ fd.code = .ref c ∧ K.lookup c = some ⟨e, dd, .fields vs, sl⟩ ∧ vs[11]? = some (.ref P)
def lamQ : Str := "law.<locals>.<lambda>"
/-- the table at P, its code objects frozen -/
def TabSo (ow : Ow) (H : Hp) (P : Addr) : Prop := ∃ ps : Array Value, H P = some (.tbl ps) ∧ TriplesOk ps.toList ∧ ∀ (pos : Pos) (cv : Value), codeAmong pos ps.toList = some cv → ∃ c, cv = .ref c ∧ ow c = 0 ∧ H c = some (LamX.CodeO c lamQ)
def RTb (K : PySem.W.Frag) (ow : Ow) (H : Hp) (k : Nat) : Prop := ∀ P, TabIn K P → ow P = k ∧ TabSo ow H P
theorem RTb.moved {K : PySem.W.Frag} {ow ow' : Ow} {H H' : Hp} {k k' : Nat} (l : Later0 ow H ow' H') (h : ∀ a o, ow a = k → H a = some o → H' a = some o ∧ ow' a = k') (r : RTb K ow H k) : RTb K ow' H' k' := fun P hP => by
  obtain ⟨h1, ps, h2, h3, h4⟩ := r P hP
  obtain ⟨e1, e2⟩ := h P _ h1 h2
  refine ⟨e2, ps, e1, h3, fun pos cv hc => ?_⟩
  obtain ⟨c, q1, q2, q3⟩ := h4 pos cv hc
  obtain ⟨q4, q5⟩ := l.ap c _ q2 q3
  exact ⟨c, q1, q5, q4⟩
def RSl (K : PySem.W.Frag) (ow : Ow) (H : Hp) (i : Nat) (o : Option V) : Sl → Prop
  | .u => True
  | .dl ds => ∃ p od kvs, o = some (.ref p) ∧ ow p = 0 ∧ H p = some (.frz od (.dT kvs)) ∧ RpT K ow H kvs ds
  | .tb => RTb K ow H (i + 2)
  | .d x => ∃ v, o = some v ∧ Rp K ow H v x
  | .ol xs => ∃ p vs, o = some (.ref p) ∧ ow p = i + 2 ∧ H p = some (.lst vs) ∧ RpA K ow H vs xs
  | .od ds => ∃ p u, o = some (.ref p) ∧ ow p = i + 2 ∧ H p = some u ∧ RpD K ow H u ds
  | .tp t => ∃ p, o = some (.ref p) ∧ RTp ow H (i + 2) p t

/-- the def at hand: its entry -/
structure Cy where
  H0 : Hp
  ow0 : Ow
  σ0 : St
  /-- the slots of parameters that are handed on by reference -/
  br : Nat → Bool

/-- what is never owned -/
inductive BadO (K : PySem.W.Frag) (a : Addr) : HO → Prop
  | tup (xs : List V) : BadO K a (.tup xs)
  | ext (φ : Heap → Prop) : BadO K a (.ext φ)
  | tbl (ps : Array Value) (h : ¬ TabIn K a) : BadO K a (.tbl ps)
/-- what is owned is laid, and is no tuple, no code object, no table but the law's own -/
def OwO (K : PySem.W.Frag) (a : Addr) (o : Option HO) : Prop := o ≠ none ∧ ∀ u, BadO K a u → o ≠ some u
theorem OwO.of {K : PySem.W.Frag} {a : Addr} {o : Option HO} {u : HO} (e : o = some u) (h : ∀ a, ¬ BadO K a u) : OwO K a o := ⟨by rw [e]; exact nofun, fun u' b z => h a (by rw [e] at z; cases z; exact b)⟩
theorem OwO.stay {K : PySem.W.Frag} {H H' : Hp} {a : Addr} (k : ∀ o, H a = some o → H' a = some o) (h : OwO K a (H a)) : OwO K a (H' a) := by
  cases q : H a with
  | none => exact absurd q h.1
  | some o => rw [k o q, ← q]; exact h
theorem trk_nil {K : PySem.W.Frag} {ow : Ow} {H : Hp} (trk : ∀ a, ow a ≠ 0 → OwO K a (H a)) : ∀ a, H a = none → ow a = 0 := fun a h => by
  by_cases e : ow a = 0
  · exact e
  · exact absurd h (trk a e).1
structure SR (K : PySem.W.Frag) (C : Cy) (ρ : Rho) (ow : Ow) (σ : St) (H : Hp) : Prop where
  len : ρ.length = σ.length
  slots : ∀ i, RSl K ow H i (σ.getD i none) (ρ.getD i .u)
  ent : Later C.ow0 C.H0 ow H
  out : ∀ a, C.ow0 a = 1 → ow a = 1
  trk : ∀ a, ow a ≠ 0 → OwO K a (H a)
  dom : ∀ a, C.H0 a ≠ none → H a ≠ none
  par : ∀ i, C.br i = true → σ.getD i none = C.σ0.getD i none

theorem SR.fresh {K : PySem.W.Frag} {C : Cy} {ρ : Rho} {ow : Ow} {σ : St} {H : Hp} (S : SR K C ρ ow σ H) {p : Addr} (h : H p = none) : ow p = 0 := by
  by_cases e : ow p = 0
  · exact e
  · exact absurd h (S.trk p e).1

theorem RSl.same {K : PySem.W.Frag} {ow : Ow} {H H' : Hp} {i : Nat} {o : Option V} {s : Sl} (e : Same H H') (r : RSl K ow H i o s) : RSl K ow H' i o s := by
  cases s with
  | u => trivial
  | d x => obtain ⟨v, h1, h2⟩ := r; exact ⟨v, h1, h2.later (.same e)⟩
  | ol xs => obtain ⟨p, vs, h1, h2, h3, h4⟩ := r; exact ⟨p, vs, h1, h2, e _ _ h3, h4.later (.same e)⟩
  | od xs => obtain ⟨p, vs, h1, h2, h3, h4⟩ := r; exact ⟨p, vs, h1, h2, e _ _ h3, RpD.later0 (Later0.same e) h4⟩
  | tp t => obtain ⟨p, h1, q, h2, h3, h4, h5, h6⟩ := r; exact ⟨p, h1, q, h2, h3, h4, e _ _ h5, e _ _ h6⟩
  | dl ds => obtain ⟨p, od, kvs, h1, h2, h3, h4⟩ := r; exact ⟨p, od, kvs, h1, h2, e _ _ h3, RpT.later0 (Later0.same e) h4⟩
  | tb => exact RTb.moved (Later0.same e) (fun a o z q => ⟨e _ _ q, z⟩) r
theorem SR.same {K : PySem.W.Frag} {C : Cy} {ρ : Rho} {ow : Ow} {σ : St} {H H' : Hp} (S : SR K C ρ ow σ H) (e : Same H H') : SR K C ρ ow σ H' :=
  ⟨S.len, fun i => (S.slots i).same e, S.ent.trans (.same e), S.out, fun a h => (S.trk a h).stay fun o q => e a o q, fun a h z => (by
    cases q : H a with
    | none => exact S.dom a h q
    | some o => rw [e a o q] at z; cases z), S.par⟩
theorem same_upd {H : Hp} {p : Addr} {o : HO} (h : H p = none) : Same H (upd H p o) := fun b x e => by
  rw [upd_ne (ne_of_none e h)]
  exact e

/-! ### what is to follow -/
/-- an outcome with a value (α, borne by β) and the slots: what is wanted of it -/
def Post {α β : Type} (K : PySem.W.Frag) (C : Cy) (Rel : Ow → Hp → β → α → Prop) (r : R (α × Rho)) (σ : St) (ow : Ow) (H : Hp) (Q : β → Hp → Prop) : Prop :=
  match r with
  | .ok (a, ρ') => ∀ b H' ow', Later ow H ow' H' → SR K C ρ' ow' σ H' → Rel ow' H' b a → Q b H'
  | .exc _ _ => False
  | .stk => False
theorem Post.later {α β : Type} {K : PySem.W.Frag} {C : Cy} {Rel : Ow → Hp → β → α → Prop} {r : R (α × Rho)} {σ : St} {ow ow1 : Ow} {H H1 : Hp} {Q : β → Hp → Prop} (l : Later ow H ow1 H1) (h : Post K C Rel r σ ow H Q) : Post K C Rel r σ ow1 H1 Q := by
  cases r with
  | ok a => exact fun b H' ow' l' S q => h b H' ow' (l.trans l') S q
  | exc c x => exact h
  | stk => exact h
theorem Post.bind {α β γ δ : Type} {K : PySem.W.Frag} {C : Cy} {Rel : Ow → Hp → β → α → Prop} {Rel2 : Ow → Hp → δ → γ → Prop} {r : R (α × Rho)} {k : α × Rho → R (γ × Rho)} {σ : St} {ow : Ow} {H : Hp} {Q : δ → Hp → Prop}
    (h : Post K C Rel2 (r.bind k) σ ow H Q) {Q' : β → Hp → Prop}
    (hq : ∀ a ρ1 b H1 ow1, Later ow H ow1 H1 → SR K C ρ1 ow1 σ H1 → Rel ow1 H1 b a → Post K C Rel2 (k (a, ρ1)) σ ow1 H1 Q → Q' b H1) : Post K C Rel r σ ow H Q' := by
  cases r with
  | ok a =>
    obtain ⟨a, ρ1⟩ := a
    exact fun b H' ow' l S q => hq a ρ1 b H' ow' l S q (Post.later l h)
  | exc c x => exact h
  | stk => exact h

abbrev RelB : Ow → Hp → Bool → Bool → Prop := fun _ _ b a => b = a

abbrev Den := Rho → R (PyData × Rho)
abbrev DenA := Rho → R (List PyData × Rho)
abbrev DenB := Rho → R (Bool × Rho)
/-- the reading of a denotation -/
def rdE (K : PySem.W.Frag) (C : Cy) (den : Den) : TE := fun σ H Q => ∃ ρ ow, SR K C ρ ow σ H ∧ Post K C (Rp K) (den ρ) σ ow H Q
def rdA (K : PySem.W.Frag) (C : Cy) (den : DenA) : TA := fun σ H Q => ∃ ρ ow, SR K C ρ ow σ H ∧ Post K C (RpA K) (den ρ) σ ow H Q
def rdB (K : PySem.W.Frag) (C : Cy) (den : DenB) : TT := fun σ H Q => ∃ ρ ow, SR K C ρ ow σ H ∧ Post K C RelB (den ρ) σ ow H Q
/-- the context of a rule: a def's body or a block in it -/
structure Ct (X : Cx) : Prop where
  calm : X.calm = true
  nd : X.N.Nodup
  un : X.A.units + 65 < cLine
  hd : X.A.handled = none
abbrev SE (X : Cx) (C : Cy) (e : Expr) (den : Den) : Prop := Ct X → PE X e (rdE X.K C den)
abbrev SA (X : Cx) (C : Cy) (es : List Expr) (den : DenA) : Prop := Ct X → PA X es (rdA X.K C den)
abbrev ST (X : Cx) (C : Cy) (e : Expr) (den : DenB) : Prop := Ct X → PT X e (rdB X.K C den)

/-- a weaker reading -/
theorem PE.imp {X : Cx} {e : Expr} {t t' : TE} (h : PE X e t) (i : ∀ σ H Q, t' σ H Q → t σ H Q) : PE X e t' := ⟨fun pins s σ H Q I hq => h.run pins s σ H Q I (i σ H Q hq)⟩
theorem PA.imp {X : Cx} {e : List Expr} {t t' : TA} (h : PA X e t) (i : ∀ σ H Q, t' σ H Q → t σ H Q) : PA X e t' := ⟨fun pos pins s σ H Q I hq => h.run pos pins s σ H Q I (i σ H Q hq)⟩
theorem PT.imp {X : Cx} {e : Expr} {t t' : TT} (h : PT X e t) (i : ∀ σ H Q, t' σ H Q → t σ H Q) : PT X e t' := ⟨fun pins s σ H Q I hq => h.run pins s σ H Q I (i σ H Q hq)⟩
theorem PS.imp {X : Cx} {e : Stmt} {t t' : TS} (h : PS X e t) (i : ∀ D σ H, t' D σ H → t D σ H) : PS X e t' := ⟨fun pins s σ H D I hq => h.run pins s σ H D I (i D σ H hq)⟩
theorem PSs.imp {X : Cx} {e : List Stmt} {t t' : TS} (h : PSs X e t) (i : ∀ D σ H, t' D σ H → t D σ H) : PSs X e t' := ⟨fun pins s σ H D I hq => h.run pins s σ H D I (i D σ H hq)⟩
end L2.DY

end
section
/-! DyExpr: names, constants, displays, operators. -/
namespace L2.DY
open PySem PySem.Spec PyProof.Rows

/-- the owner of p is k from here on -/
def own (ow : Ow) (p : Addr) (k : Nat) : Ow := fun a => if a = p then k else ow a
theorem own_same {ow : Ow} {p : Addr} {k : Nat} : own ow p k p = k := if_pos rfl
theorem own_ne {ow : Ow} {p a : Addr} {k : Nat} (h : a ≠ p) : own ow p k a = ow a := if_neg h

section
variable {X : Cx} {C : Cy} {K : PySem.W.Frag} {σ : St} {H : Hp} {ow : Ow} {ρ : Rho}
theorem getD_some {i : Nat} {v : V} (h : σ.getD i none = some v) : σ[i]? = some (some v) := by
  rw [List.getD_eq_getElem?_getD] at h
  cases q : σ[i]? with
  | none => rw [q] at h; cases h
  | some o => rw [q] at h; exact congrArg some h
theorem getD_set_same {l : List Sl} {i : Nat} {s : Sl} (h : l.getD i .u ≠ .u) : (l.set i s).getD i .u = s := by
  rw [List.getD_eq_getElem?_getD] at h ⊢
  by_cases hi : i < l.length
  · rw [List.getElem?_set_self hi]; rfl
  · rw [List.getElem?_eq_none (by omega)] at h; exact absurd rfl h
theorem getD_set_ne {α : Type} {l : List α} {i j : Nat} {s d : α} (h : i ≠ j) : (l.set i s).getD j d = l.getD j d := by
  rw [List.getD_eq_getElem?_getD, List.getD_eq_getElem?_getD, List.getElem?_set_ne h]
theorem RSl.other0 {j : Nat} {ow' : Ow} {H' : Hp} {o : Option V} {s : Sl} (l : Later0 ow H ow' H') (h : ∀ a o, ow a = j + 2 → H a = some o → H' a = some o ∧ ow' a = j + 2) (r : RSl K ow H j o s) : RSl K ow' H' j o s := by
  cases s with
  | u => trivial
  | d x => obtain ⟨v, h1, h2⟩ := r; exact ⟨v, h1, Rp.later0 l h2⟩
  | ol xs => obtain ⟨p, vs, h1, h2, h3, h4⟩ := r; exact ⟨p, vs, h1, (h _ _ h2 h3).2, (h _ _ h2 h3).1, RpA.later0 l h4⟩
  | od xs => obtain ⟨p, vs, h1, h2, h3, h4⟩ := r; exact ⟨p, vs, h1, (h _ _ h2 h3).2, (h _ _ h2 h3).1, RpD.later0 l h4⟩
  | tp t => obtain ⟨p, h1, q, h2, h3, h4, h5, h6⟩ := r; exact ⟨p, h1, q, (h _ _ h2 h5).2, (h _ _ h3 h6).2, h4, (h _ _ h2 h5).1, (h _ _ h3 h6).1⟩
  | dl ds => obtain ⟨p, od, kvs, h1, h2, h3, h4⟩ := r; exact ⟨p, od, kvs, h1, (l.ap _ _ h2 h3).2, (l.ap _ _ h2 h3).1, RpT.later0 l h4⟩
  | tb => exact RTb.moved l h r
theorem RSl.other {j : Nat} {ow' : Ow} {o : Option V} {s : Sl} (l : Later0 ow H ow' H) (h : ∀ a, ow a = j + 2 → ow' a = j + 2) (r : RSl K ow H j o s) : RSl K ow' H j o s := r.other0 l fun a _ e q => ⟨q, h a e⟩
/-- what a slot owns is given up: it is frozen -/
theorem SR.disown (S : SR K C ρ ow σ H) {i : Nat} {p : Addr} {x : PyData} (h1 : σ.getD i none = some (.ref p)) (h2 : ow p = i + 2) (hs : ρ.getD i .u ≠ .u) (hr : ∀ l : Later ow H (own ow p 0) H, Rp K (own ow p 0) H (.ref p) x) :
    Later ow H (own ow p 0) H ∧ SR K C (ρ.set i (.d x)) (own ow p 0) σ H ∧ Rp K (own ow p 0) H (.ref p) x := by
  have l : Later ow H (own ow p 0) H := .mk fun a o h0 ho n => ⟨ho, by
    by_cases q : a = p
    · subst q; omega
    · rw [own_ne q]⟩
  have rp := hr l
  refine ⟨l, ⟨by rw [List.length_set]; exact S.len, fun j => ?_, S.ent.trans l, fun a h => ?_, fun a h => ?_, S.dom, S.par⟩, rp⟩
  · by_cases q : i = j
    · subst q
      rw [getD_set_same hs]
      exact ⟨_, h1, rp⟩
    · rw [getD_set_ne q]
      refine (S.slots j).other l.z fun a ha => ?_
      rw [own_ne]
      · exact ha
      · intro z; subst z; omega
  · have := S.out a h
    rw [own_ne]
    · exact this
    · intro z; subst z; omega
  · by_cases q : a = p
    · subst q; exact absurd own_same h
    · rw [own_ne q] at h; exact S.trk a h
/-- an owned list is frozen -/
theorem SR.freeze (S : SR K C ρ ow σ H) {i : Nat} {xs : List PyData} (e : ρ.getD i .u = .ol xs) :
    ∃ p, σ.getD i none = some (.ref p) ∧ Later ow H (own ow p 0) H ∧ SR K C (ρ.set i (.d (.list xs))) (own ow p 0) σ H ∧ Rp K (own ow p 0) H (.ref p) (.list xs) := by
  have r := S.slots i
  rw [e] at r
  obtain ⟨p, vs, h1, h2, h3, h4⟩ := r
  obtain ⟨l, S', rp⟩ := S.disown (x := .list xs) h1 h2 (by rw [e]; exact fun z => nomatch z) fun l => .lst own_same h3 (h4.later l)
  exact ⟨p, h1, l, S', rp⟩
theorem SR.freezeD (S : SR K C ρ ow σ H) {i : Nat} {xs : List (PyData × PyData)} (e : ρ.getD i .u = .od xs) :
    ∃ p, σ.getD i none = some (.ref p) ∧ Later ow H (own ow p 0) H ∧ SR K C (ρ.set i (.d (.dict xs))) (own ow p 0) σ H ∧ Rp K (own ow p 0) H (.ref p) (.dict xs) := by
  have r := S.slots i
  rw [e] at r
  obtain ⟨p, vs, h1, h2, h3, h4⟩ := r
  obtain ⟨l, S', rp⟩ := S.disown (x := .dict xs) h1 h2 (by rw [e]; exact fun z => nomatch z) fun l => .dct own_same h3 (RpD.later0 l.z h4)
  exact ⟨p, h1, l, S', rp⟩

/-! ### names, constants -/
def dVar (i : Nat) : Den := fun ρ => match ρ.getD i .u with
  | .d x => .ok (x, ρ)
  | .ol xs => .ok (.list xs, ρ.set i (.d (.list xs)))
  | .od xs => .ok (.dict xs, ρ.set i (.d (.dict xs)))
  | _ => .stk
theorem se_var (i : Nat) {x : Str} {pos : Pos} (hN : X.N[i]? = some x := by rfl) (hv : Vis X.env.scope x := by first | exact Or.inl rfl | exact Or.inr (Or.inl rfl) | exact Or.inr (Or.inr rfl))
    (hd : (x == ("__debug__" : Str)) = false := by decide) (hcd : (x == ("__classdict__" : Str)) = false := by decide) : SE X C (.Name x pos) (dVar i) := fun ct =>
  PE.imp (pe_var hN hv hd hcd) fun σ H Q ⟨ρ, ow, S, h⟩ => by
    unfold dVar at h
    cases e : ρ.getD i .u with
    | u => rw [e] at h; exact h.elim
    | tp t => rw [e] at h; exact h.elim
    | dl t => rw [e] at h; exact h.elim
    | tb => rw [e] at h; exact h.elim
    | d x =>
      rw [e] at h
      have r := S.slots i
      rw [e] at r
      obtain ⟨v, h1, h2⟩ := r
      exact ⟨v, getD_some h1, h v H ow (.refl _ _) S h2⟩
    | ol xs =>
      rw [e] at h
      obtain ⟨p, h1, l, S', rp⟩ := S.freeze e
      exact ⟨.ref p, getD_some h1, h _ H _ l S' rp⟩
    | od xs =>
      rw [e] at h
      obtain ⟨p, h1, l, S', rp⟩ := S.freezeD e
      exact ⟨.ref p, getD_some h1, h _ H _ l S' rp⟩
def dC (x : PyData) : Den := fun ρ => .ok (x, ρ)
theorem se_con {e : Expr} {v : V} {x : PyData} (h : PE X e (tC v)) (r : ∀ ow H, Rp X.K ow H v x) : SE X C e (dC x) := fun ct =>
  PE.imp h fun σ H Q ⟨ρ, ow, S, h⟩ => h v H ow (.refl _ _) S (r _ _)
theorem se_int {i j pos} : SE X C (.Constant (.int i) j pos) (dC (.int i)) := se_con pe_int fun _ _ => .int i
theorem se_bl {b j pos} : SE X C (.Constant (.bool b) j pos) (dC (.bool b)) := se_con pe_bl fun _ _ => .bl b
theorem se_non {j pos} : SE X C (.Constant .none j pos) (dC .none) := se_con pe_non fun _ _ => .non
theorem se_str {x : Str} {j pos} (h : PyData.strOk x = true ∧ x.length ≤ lineN := by decide +kernel) : SE X C (.Constant (.str x) j pos) (dC (.str x)) := se_con pe_str fun _ _ => .str x ⟨h.1, h.2⟩
/-- a global constant of the text -/
structure GC (K : PySem.W.Frag) (mg : Str → Option Value) (x : Str) (d : PyData) : Prop where
  ex : ∃ v u, mg x = some u ∧ RelV v u ∧ ∀ ow H, Rp K ow H v d
theorem se_glob {x : Str} {d : PyData} {pos : Pos} (g : GC X.K X.mg x d) (hg : Gl X x) (hd : (x == ("__debug__" : Str)) = false := by decide) : SE X C (.Name x pos) (dC d) := by
  obtain ⟨v, u, h1, h2, h3⟩ := g.ex
  exact se_con (pe_glob hg h1 h2 hd) h3

/-! ### argument lists, displays -/
def dNil : DenA := fun ρ => .ok ([], ρ)
def dCons (da : Den) (ds : DenA) : DenA := fun ρ => (da ρ).bind fun r => (ds r.2).bind fun q => .ok (r.1 :: q.1, q.2)
theorem sa_nil : SA X C [] dNil := fun ct => PA.imp pa_nil fun σ H Q ⟨ρ, ow, S, h⟩ => h [] H ow (.refl _ _) S .nil
theorem sa_cons {e : Expr} {es : List Expr} {da : Den} {ds : DenA} (ha : SE X C e da) (hr : SA X C es ds) (hs : starEach (e :: es) X.env = (false, eval e X.env) :: starEach es X.env := by rfl) : SA X C (e :: es) (dCons da ds) := fun ct =>
  PA.imp (pa_cons (ha ct) (hr ct) hs) fun σ H Q ⟨ρ, ow, S, h⟩ =>
    ⟨ρ, ow, S, Post.bind h fun a ρ1 b H1 ow1 l1 S1 r1 h1 => ⟨ρ1, ow1, S1, Post.bind h1 fun as ρ2 bs H2 ow2 l2 S2 r2 h2 => h2 _ H2 ow2 (.refl _ _) S2 (.cons (r1.later l2) r2)⟩⟩
def dTup (ds : DenA) : Den := fun ρ => (ds ρ).bind fun r => if r.1.length ≤ lineN then .ok (.tuple r.1, r.2) else .stk
def dLst (ds : DenA) : Den := fun ρ => (ds ρ).bind fun r => if r.1.length ≤ lineN then .ok (.list r.1, r.2) else .stk
theorem SR.nil (S : SR K C ρ ow σ H) : ∀ a, H a = none → ow a = 0 := fun _ h => S.fresh h
theorem rp_newTup {p : Addr} {vs : List V} {xs : List PyData} (hp : H p = none) (h0 : ow p = 0) (r : RpA K ow H vs xs) : Rp K ow (upd H p (.tup vs)) (.ref p) (.tuple xs) :=
  .tup ⟨h0, upd_same⟩ (r.later (.same (same_upd hp)))
theorem rp_newLst {p : Addr} {vs : List V} {xs : List PyData} (hp : H p = none) (h0 : ow p = 0) (r : RpA K ow H vs xs) : Rp K ow (upd H p (.lst vs)) (.ref p) (.list xs) :=
  .lst h0 upd_same (r.later (.same (same_upd hp)))
theorem se_tup {es : List Expr} {ds : DenA} {x1} {pos : Pos} (h : SA X C es ds) : SE X C (.Tuple es x1 pos) (dTup ds) := fun ct =>
  PE.imp (pe_tup (h ct)) fun σ H Q ⟨ρ, ow, S, h⟩ => ⟨ρ, ow, S, Post.bind h fun a ρ1 b H1 ow1 l1 S1 r1 h1 => by
    dsimp only at h1
    split at h1
    · rename_i hz
      refine ⟨by rw [r1.length, lineN_eq]; exact hz, fun p hp => ?_⟩
      exact h1 _ _ ow1 (.same (same_upd hp)) (S1.same (same_upd hp)) (rp_newTup hp (S1.fresh hp) r1)
    · exact h1.elim⟩
theorem se_lst {es : List Expr} {ds : DenA} {pos : Pos} (h : SA X C es ds) : SE X C (.List es pos) (dLst ds) := fun ct =>
  PE.imp (pe_lst (h ct)) fun σ H Q ⟨ρ, ow, S, h⟩ => ⟨ρ, ow, S, Post.bind h fun a ρ1 b H1 ow1 l1 S1 r1 h1 => by
    dsimp only at h1
    split at h1
    · rename_i hz
      refine ⟨by rw [r1.length, lineN_eq]; exact hz, fun p hp => ?_⟩
      exact h1 _ _ ow1 (.same (same_upd hp)) (S1.same (same_upd hp)) (rp_newLst hp (S1.fresh hp) r1)
    · exact h1.elim⟩

/-! ### operations by values -/
/-- an operand: frozen data, or a list that somebody owns, as it stands now -/
inductive RpP (K : PySem.W.Frag) (ow : Ow) (H : Hp) : V → PyData → Prop
  | of {v : V} {d : PyData} : Rp K ow H v d → RpP K ow H v d
  | own {a : Addr} {xs : List V} {ds : List PyData} : H a = some (.lst xs) → RpA K ow H xs ds → RpP K ow H (.ref a) (.list ds)
/-- .. told once more -/
inductive RpS (K : PySem.W.Frag) (ow : Ow) (H : Hp) : V → PyData → Prop
  | non : RpS K ow H .non .none
  | bl (b : Bool) : RpS K ow H (.bl b) (.bool b)
  | int (i : Int) : RpS K ow H (.int i) (.int i)
  | str (x : Str) (h : SOk x) : RpS K ow H (.str x) (.str x)
  | lst {a : Addr} {xs : List V} {ds : List PyData} : H a = some (.lst xs) → RpA K ow H xs ds → RpS K ow H (.ref a) (.list ds)
  | tup {a : Addr} {xs : List V} {ds : List PyData} : SqTo K ow H a xs → RpA K ow H xs ds → RpS K ow H (.ref a) (.tuple ds)
  | dct {a : Addr} {u : HO} {ds : List (PyData × PyData)} : H a = some u → RpD K ow H u ds → RpS K ow H (.ref a) (.dict ds)
theorem RpP.s {v : V} {d : PyData} (h : RpP K ow H v d) : RpS K ow H v d := by
  cases h with
  | of h =>
    cases h with
    | non => exact .non
    | bl b => exact .bl b
    | int i => exact .int i
    | str x h => exact .str x h
    | lst _ e r => exact .lst e r
    | tup e r => exact .tup e r
    | dct z e r => exact .dct e r
  | own e r => exact .lst e r
theorem RpS.dp {v : V} {d : PyData} (h : RpS K ow H v d) (n : noD d = true) : Dp K H v d := by
  cases h with
  | non => exact .non
  | bl b => exact .bl b
  | int i => exact .int i
  | str x h => exact .str x
  | lst e r => exact .lst (SqL.of e) (r.dp (by simpa [noD] using n))
  | tup e r => exact .tup e.sq (r.dp (by simpa [noD] using n))
  | dct e r => simp [noD] at n
theorem RpS.lay {v : V} {d : PyData} (h : RpS K ow H v d) (n : noD d = true) : d.canLay0 = true := by
  cases h with
  | non => simp [PyData.canLay0]
  | bl b => simp [PyData.canLay0]
  | int i => simp [PyData.canLay0]
  | str x h => simpa [PyData.canLay0] using h.cp
  | lst e r => simpa [PyData.canLay0] using r.lay (by simpa [noD] using n)
  | tup e r => simpa [PyData.canLay0] using r.lay (by simpa [noD] using n)
  | dct e r => simp [noD] at n
def PostV (K : PySem.W.Frag) (r : R PyData) (ow : Ow) (H : Hp) (Q : VK) : Prop :=
  match r with
  | .ok d => ∀ v H', Same H H' → Rp K ow H' v d → Q v H'
  | _ => False
def relR2 (K : PySem.W.Frag) (f : PyData → PyData → R PyData) : R2 := fun x y H Q => ∃ ow dx dy, (∀ a, H a = none → ow a = 0) ∧ RpS K ow H x dx ∧ RpS K ow H y dy ∧ PostV K (f dx dy) ow H Q
def relR1 (K : PySem.W.Frag) (f : PyData → R PyData) : V → Hp → VK → Prop := fun x H Q => ∃ ow dx, (∀ a, H a = none → ow a = 0) ∧ RpS K ow H x dx ∧ PostV K (f dx) ow H Q
inductive RpSA (K : PySem.W.Frag) (ow : Ow) (H : Hp) : List V → List PyData → Prop
  | nil : RpSA K ow H [] []
  | cons {v : V} {vs : List V} {d : PyData} {ds : List PyData} : RpS K ow H v d → RpSA K ow H vs ds → RpSA K ow H (v :: vs) (d :: ds)
theorem Rp.s {v : V} {d : PyData} (h : Rp K ow H v d) : RpS K ow H v d := (RpP.of h).s
theorem RpA.s : ∀ {vs : List V} {ds : List PyData}, RpA K ow H vs ds → RpSA K ow H vs ds
  | _, _, .nil => .nil
  | _, _, .cons a b => .cons a.s (RpA.s b)
def relRA (K : PySem.W.Frag) (f : List PyData → R PyData) : List V → Hp → VK → Prop := fun xs H Q => ∃ ow ds, (∀ a, H a = none → ow a = 0) ∧ RpSA K ow H xs ds ∧ PostV K (f ds) ow H Q
abbrev Op2 (X : Cx) (m : Value → Value → Sem Value) (f : PyData → PyData → R PyData) : Prop := Ct X → OpR X m (relR2 X.K f)
abbrev Op1 (X : Cx) (m : Value → Sem Value) (f : PyData → R PyData) : Prop := Ct X → UnR X m (relR1 X.K f)
abbrev OpA (X : Cx) (m : Value) (f : List PyData → R PyData) : Prop := Ct X → CallR X m (relRA X.K f)
theorem PostV.of {f : R PyData} {ρ' : Rho} {Q : VK} (S : SR K C ρ' ow σ H) (h : Post K C (Rp K) (f.bind fun d => .ok (d, ρ')) σ ow H Q) : PostV K f ow H Q := by
  cases f with
  | ok d => exact fun v H' s r => h v H' ow (.same s) (S.same s) r
  | exc c x => exact h
  | stk => exact h
def dOp2 (f : PyData → PyData → R PyData) (da db : Den) : Den := fun ρ => (da ρ).bind fun r => (db r.2).bind fun q => (f r.1 q.1).bind fun d => .ok (d, q.2)
def dOp1 (f : PyData → R PyData) (da : Den) : Den := fun ρ => (da ρ).bind fun r => (f r.1).bind fun d => .ok (d, r.2)
def dOpA (f : List PyData → R PyData) (da : DenA) : Den := fun ρ => (da ρ).bind fun r => (f r.1).bind fun d => .ok (d, r.2)
theorem rd_op2 {ta tb : TE} {da db : Den} {f : PyData → PyData → R PyData} {H : Hp} {Q : VK} (h : rdE K C (dOp2 f da db) σ H Q) : tOp (relR2 K f) (rdE K C da) (rdE K C db) σ H Q := by
  obtain ⟨ρ, ow, S, h⟩ := h
  exact ⟨ρ, ow, S, Post.bind h fun a ρ1 b H1 ow1 l1 S1 r1 h1 => ⟨ρ1, ow1, S1, Post.bind h1 fun a2 ρ2 b2 H2 ow2 l2 S2 r2 h2 => ⟨ow2, a, a2, S2.nil, (r1.later l2).s, r2.s, .of S2 h2⟩⟩⟩
theorem rd_op1 {ta : TE} {da : Den} {f : PyData → R PyData} {H : Hp} {Q : VK} (h : rdE K C (dOp1 f da) σ H Q) : tUn (relR1 K f) (rdE K C da) σ H Q := by
  obtain ⟨ρ, ow, S, h⟩ := h
  exact ⟨ρ, ow, S, Post.bind h fun a ρ1 b H1 ow1 l1 S1 r1 h1 => ⟨ow1, a, S1.nil, r1.s, .of S1 h1⟩⟩
theorem se_bin {op : Operator} {f : PyData → PyData → R PyData} {a b : Expr} {da db : Den} {pos : Pos} (ho : Op2 X (binaryOp op) f) (ha : SE X C a da) (hb : SE X C b db) : SE X C (.BinOp a op b pos) (dOp2 f da db) := fun ct =>
  PE.imp (pe_op (ho ct) (ha ct) (hb ct)) fun _ _ _ h => rd_op2 (ta := fun _ _ _ => True) (tb := fun _ _ _ => True) h
theorem se_un {op : UnaryOp} {f : PyData → R PyData} {a : Expr} {da : Den} {pos : Pos} (ho : Op1 X (unaryOp op) f) (ha : SE X C a da) : SE X C (.UnaryOp op a pos) (dOp1 f da) := fun ct =>
  PE.imp (pe_un (ho ct) (ha ct)) fun _ _ _ h => rd_op1 (ta := fun _ _ _ => True) h
theorem se_cmp {op : CmpOp} {f : PyData → PyData → R PyData} {a b : Expr} {da db : Den} {pos : Pos} (ho : Op2 X (compareOp op) f) (ha : SE X C a da) (hb : SE X C b db) (hm : behindInMarks op b = false := by first | exact nomark _ | rfl) : SE X C (.Compare a [op] [b] pos) (dOp2 f da db) := fun ct =>
  PE.imp (pe_cmpR (ho ct) (ha ct) (hb ct) hm) fun _ _ _ h => rd_op2 (ta := fun _ _ _ => True) (tb := fun _ _ _ => True) h
/-- a built-in by its name -/
theorem se_callB {x : Str} {id : String} {f : List PyData → R PyData} {es : List Expr} {ds : DenA} {e : Expr} {p pos : Pos} (ho : OpA X (.builtin id) f) (hg : Gl X x) (hm : X.mg x = none) (hv : bootBuiltins x = some (.builtin id)) (ha : SA X C (e :: es) ds)
    (hn : x ≠ "__name__" := by decide) (hdb : (x == ("__debug__" : Str)) = false := by decide)
    (he : starEach (e :: es) X.env = (false, eval e X.env) :: starEach es X.env := by rfl) (hpl : (backTo pos (starEach es X.env)).any (·.1) = false := by rfl) : SE X C (.Call (.Name x p) (e :: es) [] pos) (dOpA f ds) := fun ct =>
  PE.imp (pe_callB (ho ct) hg hm hv (ha ct) hn hdb he hpl) fun _ _ _ ⟨ρ, ow, S, h⟩ => ⟨ρ, ow, S, Post.bind h fun a ρ1 b H1 ow1 l1 S1 r1 h1 => ⟨ow1, a, S1.nil, r1.s, .of S1 h1⟩⟩
theorem se_callT {x : Str} {T : String} {f : List PyData → R PyData} {es : List Expr} {ds : DenA} {e : Expr} {p pos : Pos} (ho : OpA X (.type T) f) (hg : Gl X x) (hm : X.mg x = none) (hv : bootBuiltins x = some (.type T)) (ha : SA X C (e :: es) ds)
    (hn : x ≠ "__name__" := by decide) (hdb : (x == ("__debug__" : Str)) = false := by decide)
    (he : starEach (e :: es) X.env = (false, eval e X.env) :: starEach es X.env := by rfl) (hpl : (backTo pos (starEach es X.env)).any (·.1) = false := by rfl) : SE X C (.Call (.Name x p) (e :: es) [] pos) (dOpA f ds) := fun ct =>
  PE.imp (pe_callTy (ho ct) hg hm hv (ha ct) hn hdb he hpl) fun _ _ _ ⟨ρ, ow, S, h⟩ => ⟨ρ, ow, S, Post.bind h fun a ρ1 b H1 ow1 l1 S1 r1 h1 => ⟨ow1, a, S1.nil, r1.s, .of S1 h1⟩⟩

/-! ### tests -/
/-- a value's truth -/
def tru : PyData → R Bool
  | .none => .ok false
  | .bool b => .ok b
  | .int i => .ok (i != 0)
  | .str x => .ok ((x.length : Int) != 0)
  | .list xs => .ok (!xs.isEmpty)
  | .tuple xs => .ok (!xs.isEmpty)
  | .dict xs => if tagB xs = true then .stk else .ok (!xs.isEmpty)
theorem isEmpty_rp {vs : List V} {xs : List PyData} (r : RpA K ow H vs xs) : (!xs.isEmpty) = !vs.isEmpty := by
  cases r <;> rfl
theorem tru_rp {v : V} {x : PyData} {b : Bool} (r : RpS K ow H v x) (h : tru x = .ok b) : TruV K v H b := by
  cases r with
  | non => cases h; rfl
  | bl c => cases h; rfl
  | int i => cases h; rfl
  | str z hz =>
    cases h; exact ⟨by rw [lineN_eq]; exact hz.len, rfl⟩
  | lst s r => cases h; exact .inl ⟨_, SqL.of s, isEmpty_rp r⟩
  | tup s r => cases h; exact .inr (.inl ⟨_, s.sq, isEmpty_rp r⟩)
  | dct s r =>
    cases r with
    | k r =>
      simp only [tru, r.tag, Bool.false_eq_true, if_false] at h
      cases h; exact .inr (.inr ⟨_, s, by cases r <;> rfl⟩)
    | t r => cases h
def dTest (da : Den) : DenB := fun ρ => (da ρ).bind fun r => (tru r.1).bind fun b => .ok (b, r.2)
theorem st_val {e : Expr} {da : Den} (ha : SE X C e da) (he : ∀ whole, isTrue e X.env whole = (do let v ← whole; standAt e.pos; holding [v] (truthy v)) := by intro _; rfl) : ST X C e (dTest da) := fun ct =>
  PT.imp (pt_truth (ha ct) he) fun σ H Q ⟨ρ, ow, S, h⟩ => ⟨ρ, ow, S, Post.bind h fun a ρ1 b H1 ow1 l1 S1 r1 h1 => by
    dsimp only at h1
    cases e : tru a with
    | ok c => rw [e] at h1; exact ⟨c, tru_rp r1.s e, h1 c H1 ow1 (.refl _ _) S1 rfl⟩
    | exc c x => rw [e] at h1; exact h1.elim
    | stk => rw [e] at h1; exact h1.elim⟩
/-- a comparison that gives a bool -/
def isBl : PyData → R Bool
  | .bool b => .ok b
  | _ => .stk
def dTestB (da : Den) : DenB := fun ρ => (da ρ).bind fun r => (isBl r.1).bind fun b => .ok (b, r.2)
theorem isBl_rp {v : V} {x : PyData} {b : Bool} (r : Rp K ow H v x) (h : isBl x = .ok b) : v = .bl b := by
  cases r <;> first | (cases h; rfl) | cases h
theorem bl_end {a : PyData} {ρ1 : Rho} {v : V} {Q : Bool → Hp → Prop} (S1 : SR K C ρ1 ow σ H) (r1 : Rp K ow H v a) (h1 : Post K C RelB ((isBl a).bind fun b => .ok (b, ρ1)) σ ow H Q) : ∃ k, v = .bl k ∧ Q k H := by
  cases e : isBl a with
  | ok c => rw [e] at h1; exact ⟨c, isBl_rp r1 e, h1 c H ow (.refl _ _) S1 rfl⟩
  | exc c x => rw [e] at h1; exact h1.elim
  | stk => rw [e] at h1; exact h1.elim
theorem st_cmp {op : CmpOp} {f : PyData → PyData → R PyData} {a b : Expr} {da db : Den} {pos : Pos} (ho : Op2 X (compareOp op) f) (ha : SE X C a da) (hb : SE X C b db) (hm : behindInMarks op b = false := by first | exact nomark _ | rfl) : ST X C (.Compare a [op] [b] pos) (dTestB (dOp2 f da db)) := fun ct =>
  PT.imp (pt_cmpR (ho ct) (ha ct) (hb ct) hm) fun σ H Q ⟨ρ, ow, S, h⟩ => rd_op2 (ta := fun _ _ _ => True) (tb := fun _ _ _ => True) ⟨ρ, ow, S, Post.bind h fun a ρ1 b H1 ow1 l1 S1 r1 h1 => bl_end S1 r1 h1⟩
def dAndB (t u : DenB) : DenB := fun ρ => (t ρ).bind fun r => if r.1 then u r.2 else .ok (false, r.2)
def dOrB (t u : DenB) : DenB := fun ρ => (t ρ).bind fun r => if r.1 then .ok (true, r.2) else u r.2
def dNotB (t : DenB) : DenB := fun ρ => (t ρ).bind fun r => .ok (!r.1, r.2)
abbrev SW (X : Cx) (C : Cy) (e : Expr) (den : DenB) : Prop := Ct X → PW X e (rdB X.K C den)
theorem PW.imp {X : Cx} {e : Expr} {t t' : TT} (h : PW X e t) (i : ∀ σ H Q, t' σ H Q → t σ H Q) : PW X e t' := ⟨fun wh pins s σ H Q I hq => h.run wh pins s σ H Q I (i σ H Q hq)⟩
theorem st_w {e : Expr} {t : DenB} (h : SW X C e t) : ST X C e t := fun ct => (h ct).pt
theorem sw_and1 {a : Expr} {t : DenB} {pos : Pos} (ha : ST X C a t) : SW X C (.BoolOp .And [a] pos) t := fun ct => pw_and1 (ha ct)
theorem sw_or1 {a : Expr} {t : DenB} {pos : Pos} (ha : ST X C a t) : SW X C (.BoolOp .Or [a] pos) t := fun ct => pw_or1 (ha ct)
theorem sw_and {a b : Expr} {es : List Expr} {t u : DenB} {pos : Pos} (ha : ST X C a t) (hb : SW X C (.BoolOp .And (b :: es) pos) u) : SW X C (.BoolOp .And (a :: b :: es) pos) (dAndB t u) := fun ct =>
  PW.imp (pw_and (ha ct) (hb ct)) fun σ H Q ⟨ρ, ow, S, h⟩ => ⟨ρ, ow, S, Post.bind h fun a ρ1 b H1 ow1 l1 S1 r1 h1 => by
    subst r1
    cases b with
    | true => rw [if_pos rfl]; exact ⟨ρ1, ow1, S1, h1⟩
    | false => rw [if_neg Bool.false_ne_true]; exact h1 false H1 ow1 (.refl _ _) S1 rfl⟩
theorem sw_or {a b : Expr} {es : List Expr} {t u : DenB} {pos : Pos} (ha : ST X C a t) (hb : SW X C (.BoolOp .Or (b :: es) pos) u) : SW X C (.BoolOp .Or (a :: b :: es) pos) (dOrB t u) := fun ct =>
  PW.imp (pw_or (ha ct) (hb ct)) fun σ H Q ⟨ρ, ow, S, h⟩ => ⟨ρ, ow, S, Post.bind h fun a ρ1 b H1 ow1 l1 S1 r1 h1 => by
    subst r1
    cases b with
    | true => rw [if_pos rfl]; exact h1 true H1 ow1 (.refl _ _) S1 rfl
    | false => rw [if_neg Bool.false_ne_true]; exact ⟨ρ1, ow1, S1, h1⟩⟩
theorem st_not {a : Expr} {t : DenB} {pos : Pos} (ha : ST X C a t) : ST X C (.UnaryOp .Not a pos) (dNotB t) := fun ct =>
  PT.imp (pt_not (ha ct)) fun σ H Q ⟨ρ, ow, S, h⟩ => ⟨ρ, ow, S, Post.bind h fun a ρ1 b H1 ow1 l1 S1 r1 h1 => by
    subst r1
    exact h1 _ H1 ow1 (.refl _ _) S1 rfl⟩

/-! ### and, or, not as values (bools but the last) -/
def dAnd (t u : Den) : Den := fun ρ => (t ρ).bind fun r => (isBl r.1).bind fun b => if b then u r.2 else .ok (.bool false, r.2)
def dOr (t u : Den) : Den := fun ρ => (t ρ).bind fun r => (isBl r.1).bind fun b => if b then .ok (.bool true, r.2) else u r.2
def dNot (t : Den) : Den := fun ρ => (t ρ).bind fun r => (isBl r.1).bind fun b => .ok (.bool (!b), r.2)
theorem se_one {op} {a : Expr} {t : Den} {pos : Pos} (h : SE X C a t) : SE X C (.BoolOp op [a] pos) t := fun ct => pe_one (h ct)
theorem se_and {a b : Expr} {es : List Expr} {t u : Den} {pos : Pos} (ha : SE X C a t) (hb : SE X C (.BoolOp .And (b :: es) pos) u) : SE X C (.BoolOp .And (a :: b :: es) pos) (dAnd t u) := fun ct =>
  PE.imp (pe_and (ha ct) (hb ct)) fun σ H Q ⟨ρ, ow, S, h⟩ => ⟨ρ, ow, S, Post.bind h fun a ρ1 v H1 ow1 l1 S1 r1 h1 => by
    dsimp only at h1
    cases e : isBl a with
    | ok c =>
      rw [e] at h1
      refine ⟨c, isBl_rp r1 e, ?_⟩
      cases c with
      | true => rw [if_pos rfl]; exact ⟨ρ1, ow1, S1, h1⟩
      | false => rw [if_neg Bool.false_ne_true]; exact h1 _ H1 ow1 (.refl _ _) S1 (.bl false)
    | exc c x => rw [e] at h1; exact h1.elim
    | stk => rw [e] at h1; exact h1.elim⟩
theorem se_or {a b : Expr} {es : List Expr} {t u : Den} {pos : Pos} (ha : SE X C a t) (hb : SE X C (.BoolOp .Or (b :: es) pos) u) : SE X C (.BoolOp .Or (a :: b :: es) pos) (dOr t u) := fun ct =>
  PE.imp (pe_or (ha ct) (hb ct)) fun σ H Q ⟨ρ, ow, S, h⟩ => ⟨ρ, ow, S, Post.bind h fun a ρ1 v H1 ow1 l1 S1 r1 h1 => by
    dsimp only at h1
    cases e : isBl a with
    | ok c =>
      rw [e] at h1
      refine ⟨c, isBl_rp r1 e, ?_⟩
      cases c with
      | true => rw [if_pos rfl]; exact h1 _ H1 ow1 (.refl _ _) S1 (.bl true)
      | false => rw [if_neg Bool.false_ne_true]; exact ⟨ρ1, ow1, S1, h1⟩
    | exc c x => rw [e] at h1; exact h1.elim
    | stk => rw [e] at h1; exact h1.elim⟩
theorem se_not {a : Expr} {t : Den} {pos : Pos} (ha : SE X C a t) : SE X C (.UnaryOp .Not a pos) (dNot t) := fun ct =>
  PE.imp (pe_not (ha ct)) fun σ H Q ⟨ρ, ow, S, h⟩ => ⟨ρ, ow, S, Post.bind h fun a ρ1 v H1 ow1 l1 S1 r1 h1 => by
    dsimp only at h1
    cases e : isBl a with
    | ok c => rw [e] at h1; exact ⟨c, isBl_rp r1 e, h1 _ H1 ow1 (.refl _ _) S1 (.bl _)⟩
    | exc c x => rw [e] at h1; exact h1.elim
    | stk => rw [e] at h1; exact h1.elim⟩
def dIf (t : DenB) (da db : Den) : Den := fun ρ => (t ρ).bind fun r => if r.1 then da r.2 else db r.2
theorem se_if {c a b : Expr} {t : DenB} {da db : Den} {pos : Pos} (hc : ST X C c t) (ha : SE X C a da) (hb : SE X C b db) : SE X C (.IfExp c a b pos) (dIf t da db) := fun ct =>
  PE.imp (pe_ifExp (hc ct) (ha ct) (hb ct)) fun σ H Q ⟨ρ, ow, S, h⟩ => ⟨ρ, ow, S, Post.bind h fun a ρ1 b H1 ow1 l1 S1 r1 h1 => by
    subst r1
    cases b with
    | true => rw [if_pos rfl]; exact ⟨ρ1, ow1, S1, h1⟩
    | false => rw [if_neg Bool.false_ne_true]; exact ⟨ρ1, ow1, S1, h1⟩⟩
/-- a op b op' c -/
def dChain (f g : PyData → PyData → R PyData) (da db dc : Den) : Den := fun ρ => (da ρ).bind fun r => (db r.2).bind fun q => (f r.1 q.1).bind fun z => (isBl z).bind fun b =>
  if b then (dc q.2).bind fun w => (g q.1 w.1).bind fun d => .ok (d, w.2) else .ok (.bool false, q.2)
theorem rd_chain {f g : PyData → PyData → R PyData} {da db dc : Den} {H : Hp} {Q : VK} (h : rdE K C (dChain f g da db dc) σ H Q) : tChain (relR2 K f) (relR2 K g) (rdE K C da) (rdE K C db) (rdE K C dc) σ H Q := by
  obtain ⟨ρ, ow, S, h⟩ := h
  refine ⟨ρ, ow, S, Post.bind h fun a ρ1 b H1 ow1 l1 S1 r1 h1 => ⟨ρ1, ow1, S1, Post.bind h1 fun a2 ρ2 b2 H2 ow2 l2 S2 r2 h2 => ⟨ow2, a, a2, S2.nil, (r1.later l2).s, r2.s, ?_⟩⟩⟩
  dsimp only at h2
  cases e : f a a2 with
  | exc c x => rw [e] at h2; exact h2.elim
  | stk => rw [e] at h2; exact h2.elim
  | ok z =>
    rw [e] at h2
    intro v H3 s rz
    cases e2 : isBl z with
    | exc c x => simp only [R.bind, e2] at h2; exact h2.elim
    | stk => simp only [R.bind, e2] at h2; exact h2.elim
    | ok k =>
      simp only [R.bind, e2] at h2
      refine ⟨k, isBl_rp rz e2, ?_⟩
      cases k with
      | false => rw [if_neg Bool.false_ne_true]; exact h2 _ H3 ow2 (.same s) (S2.same s) (.bl false)
      | true =>
        rw [if_pos rfl]
        exact ⟨ρ2, ow2, S2.same s, Post.bind (Post.later (.same s) h2) fun a3 ρ3 b3 H4 ow4 l4 S4 r4 h4 => ⟨ow4, a2, a3, S4.nil, ((r2.later (.same s)).later l4).s, r4.s, .of S4 h4⟩⟩
theorem se_chain {op op' : CmpOp} {f g : PyData → PyData → R PyData} {a b c : Expr} {da db dc : Den} {pos : Pos} (ho : Op2 X (compareOp op) f) (ho' : Op2 X (compareOp op') g) (ha : SE X C a da) (hb : SE X C b db) (hc : SE X C c dc)
    (hm : lastMarks [op, op'] [b, c] = false := by with_unfolding_all rfl) : SE X C (.Compare a [op, op'] [b, c] pos) (dChain f g da db dc) := fun ct =>
  PE.imp (pe_chain (ho ct) (ho' ct) (ha ct) (hb ct) (hc ct) hm) fun _ _ _ h => rd_chain h
theorem st_chain {op op' : CmpOp} {f g : PyData → PyData → R PyData} {a b c : Expr} {da db dc : Den} {pos : Pos} (ho : Op2 X (compareOp op) f) (ho' : Op2 X (compareOp op') g) (ha : SE X C a da) (hb : SE X C b db) (hc : SE X C c dc)
    (hm : lastMarks [op, op'] [b, c] = false := by with_unfolding_all rfl) : ST X C (.Compare a [op, op'] [b, c] pos) (dTestB (dChain f g da db dc)) := fun ct =>
  PT.imp (pt_chain (ho ct) (ho' ct) (ha ct) (hb ct) (hc ct) hm) fun σ H Q ⟨ρ, ow, S, h⟩ => rd_chain ⟨ρ, ow, S, Post.bind h fun a ρ1 b H1 ow1 l1 S1 r1 h1 => bl_end S1 r1 h1⟩
end
end L2.DY

end
section
/-! DyOps: operators and built-ins by values. -/
namespace L2.DY
open PySem PySem.Spec PyProof.Rows

theorem strOk_append {a b : Str} (ha : PyData.strOk a = true) (hb : PyData.strOk b = true) : PyData.strOk (a ++ b) = true := by
  unfold PyData.strOk at *
  show (a.cps ++ b.cps).all _ = true
  rw [Array.all_append, ha, hb]; rfl
theorem len_append (a b : Str) : (a ++ b).length = a.length + b.length := by
  show (a.cps ++ b.cps).size = _
  rw [Array.size_append]; rfl
theorem SOk.append {a b : Str} (ha : SOk a) (hb : SOk b) (h : a.length + b.length ≤ lineN) : SOk (a ++ b) := ⟨strOk_append ha.cp hb.cp, by rw [len_append]; exact h⟩
theorem strOk_of {a : Str} (h : ∀ c ∈ a.cps.toList, c < 0x110000) : PyData.strOk a = true := by
  unfold PyData.strOk
  rw [← Array.all_toList, List.all_eq_true]
  exact fun c hc => decide_eq_true (h c hc)
theorem of_strOk {a : Str} (h : PyData.strOk a = true) : ∀ c ∈ a.cps.toList, c < 0x110000 := by
  unfold PyData.strOk at h
  rw [← Array.all_toList, List.all_eq_true] at h
  exact fun c hc => of_decide_eq_true (h c hc)

def fAdd : PyData → PyData → R PyData
  | .int i, .int j => .ok (.int (i + j))
  | .str a, .str b => if a.length + b.length ≤ lineN then .ok (.str (a ++ b)) else .stk
  | .list a, .list b => if a.length + b.length ≤ lineN then .ok (.list (a ++ b)) else .stk
  | .tuple a, .tuple b => if a.length + b.length ≤ lineN then .ok (.tuple (a ++ b)) else .stk
  | _, _ => .stk
def fSub : PyData → PyData → R PyData
  | .int i, .int j => .ok (.int (i - j))
  | _, _ => .stk
def small64 (i : Int) : Bool := decide (-(2 ^ 64) < i) && decide (i < 2 ^ 64)
def fMul : PyData → PyData → R PyData
  | .int i, .int j => if small64 i || small64 j then .ok (.int (i * j)) else .stk
  | .str a, .int j => if (a.length : Int) * j ≤ 16777216 && decide (j ≤ 16777216) && decide (-16777216 ≤ j) then .ok (.str ⟨(List.replicate j.toNat a.cps.toList).flatten.toArray⟩) else .stk
  | .tuple xs, .int j => if !xs.isEmpty && decide (xs.length ≤ 1000) && decide (2 ≤ j) && decide (j ≤ 1000) then .ok (.tuple (List.replicate j.toNat xs).flatten) else .stk
  | _, _ => .stk
def fMod : PyData → PyData → R PyData
  | .int i, .int j => if 0 < j then .ok (.int (i % j)) else .stk
  | _, _ => .stk
def fDiv : PyData → PyData → R PyData
  | .int i, .int j => if 0 < j && (decide (j < 1073741824) || decide (j < 18446744073709551616)) then .ok (.int (i / j)) else .stk
  | _, _ => .stk
def fPow : PyData → PyData → R PyData
  | .int i, .int j => if small64 i && (decide (0 ≤ j) && decide (j ≤ 64)) then .ok (.int (i ^ j.toNat)) else .stk
  | _, _ => .stk
def fNeg : PyData → R PyData
  | .int i => .ok (.int (-i))
  | _ => .stk
def fLt : PyData → PyData → R PyData
  | .int i, .int j => .ok (.bool (decide (i < j)))
  | .str a, .str b => .ok (.bool (decide (a.cps.toList < b.cps.toList)))
  | _, _ => .stk
def fLe : PyData → PyData → R PyData
  | .int i, .int j => .ok (.bool (decide (i ≤ j)))
  | _, _ => .stk
def fGt : PyData → PyData → R PyData
  | .int i, .int j => .ok (.bool (decide (j < i)))
  | _, _ => .stk
def fGe : PyData → PyData → R PyData
  | .int i, .int j => .ok (.bool (decide (j ≤ i)))
  | _, _ => .stk
def fEq (x y : PyData) : R PyData := if min x.depth y.depth ≤ 64 && noD x && noD y then .ok (.bool (x.eqv y)) else .stk
def fNe (x y : PyData) : R PyData := if min x.depth y.depth ≤ 64 && noD x && noD y then .ok (.bool (!x.eqv y)) else .stk
def isNone : PyData → Bool
  | .none => true
  | _ => false
def fIs : PyData → PyData → R PyData
  | x, .none => .ok (.bool (isNone x))
  | .bool a, .bool b => .ok (.bool (decide (a = b)))
  | _, _ => .stk
def fIsN : PyData → PyData → R PyData
  | x, .none => .ok (.bool (!isNone x))
  | .bool a, .bool b => .ok (.bool (!decide (a = b)))
  | _, _ => .stk
/-- b stands in a -/
def inStr (a b : Str) : Bool := !(Builtin.Str.occurrences b a 0 b.length 1).isEmpty
def keyOf : PyData → Option Key
  | .int i => some (.inl i)
  | .str x => some (.inr x)
  | _ => none
/-- the value at a key -/
def lookD : List (PyData × PyData) → Key → Option PyData
  | [], _ => none
  | (a, d) :: r, k => if keyOf a = some k then some d else lookD r k
/-- a key put -/
def putD (ds : List (PyData × PyData)) (k : Key) (d : PyData) : List (PyData × PyData) :=
  if ds.any (fun p => decide (keyOf p.1 = some k)) then ds.map (fun p => if keyOf p.1 = some k then (p.1, d) else p) else ds ++ [(keyD k, d)]
/-- a tuple as a key -/
def keysOf : List PyData → Option (List Key)
  | [] => some []
  | x :: r => match keyOf x, keysOf r with
    | some k, some ks => some (k :: ks)
    | _, _ => none
def keyT : PyData → Option (List Key)
  | .tuple xs => keysOf xs
  | _ => none
def lookT : List (PyData × PyData) → List Key → Option PyData
  | [], _ => none
  | (a, d) :: r, k => if keyT a = some k then some d else lookT r k
def tupK (ks : List Key) : PyData := .tuple (ks.map keyD)
def putT (ds : List (PyData × PyData)) (k : List Key) (d : PyData) : List (PyData × PyData) :=
  if ds.any (fun p => decide (keyT p.1 = some k)) then ds.map (fun p => if keyT p.1 = some k then (p.1, d) else p) else ds ++ [(tupK k, d)]
/-- what stands at a key, of either kind -/
def atD (ds : List (PyData × PyData)) (x : PyData) : R (Option PyData) :=
  if tagB ds = true then (R.ofO (keyT x)).bind fun k => .ok (lookT ds.tail k) else (R.ofO (keyOf x)).bind fun k => .ok (lookD ds k)
def inB : PyData → PyData → R Bool
  | .str a, .str b => .ok (inStr a b)
  | x, .list ys => if min (PyData.depthAll ys) x.depth ≤ 63 && noD x && noDs ys then .ok (ys.any fun y => y.eqv x) else .stk
  | x, .tuple ys => if min (PyData.depthAll ys) x.depth ≤ 63 && noD x && noDs ys then .ok (ys.any fun y => y.eqv x) else .stk
  | x, .dict ds => (atD ds x).bind fun o => .ok o.isSome
  | _, _ => .stk
def fIn (x y : PyData) : R PyData := (inB x y).bind fun b => .ok (.bool b)
def fNotIn (x y : PyData) : R PyData := (inB x y).bind fun b => .ok (.bool (!b))

section
variable {X : Cx} {C : Cy} {K : PySem.W.Frag} {σ : St} {H : Hp} {ow : Ow} {ρ : Rho}
theorem o_add : Op2 X (binaryOp .Add) fAdd := by
  intro ct pins s σ H x y v u Q I rx ry h
  obtain ⟨ow, dx, dy, nl, hx, hy, h⟩ := h
  cases hx with
  | int i =>
    cases hy with
    | int j => exact op_add pins s σ H _ _ v u Q I rx ry ⟨i, j, rfl, rfl, h _ H (.refl H) (.int _)⟩
    | _ => exact h.elim
  | str a ha =>
    cases hy with
    | str b hb =>
      simp only [fAdd] at h
      split at h
      · rename_i hz
        exact op_add_str pins s σ H _ _ v u Q I rx ry ⟨a, b, rfl, rfl, by rw [lineN_eq]; exact hz, h _ H (.refl H) (.str _ (SOk.append ha hb hz))⟩
      · exact h.elim
    | _ => exact h.elim
  | lst e r =>
    cases hy with
    | lst e2 r2 =>
      simp only [fAdd] at h
      split at h
      · rename_i hz
        exact op_cat pins s σ H _ _ v u Q I rx ry ⟨_, _, _, _, rfl, rfl, e, e2, by rw [r.length, r2.length, lineN_eq]; exact hz, fun p hp => h _ _ (same_upd hp) (rp_newLst hp (nl p hp) (r.append r2))⟩
      · exact h.elim
    | _ => exact h.elim
  | tup e r =>
    cases hy with
    | tup e2 r2 =>
      simp only [fAdd] at h
      split at h
      · rename_i hz
        refine op_catA pins s σ H _ _ v u Q I rx ry ⟨_, _, _, _, rfl, rfl, e.sq, e2.sq, by rw [r.length, r2.length, lineN_eq]; exact hz, fun h0 => ?_, fun h0 h1 => ?_, fun _ _ p hp => h _ _ (same_upd hp) (rp_newTup hp (nl p hp) (r.append r2))⟩
        · subst h0
          cases r
          exact h _ H (.refl H) (.tup e2 r2)
        · subst h1
          cases r2
          rw [List.append_nil] at h
          exact h _ H (.refl H) (.tup e r)
      · exact h.elim
    | _ => exact h.elim
  | _ => exact h.elim
theorem o_sub : Op2 X (binaryOp .Sub) fSub := by
  intro ct pins s σ H x y v u Q I rx ry h
  obtain ⟨ow, dx, dy, nl, hx, hy, h⟩ := h
  cases hx with
  | int i =>
    cases hy with
    | int j => exact op_sub pins s σ H _ _ v u Q I rx ry ⟨i, j, rfl, rfl, h _ H (.refl H) (.int _)⟩
    | _ => exact h.elim
  | _ => exact h.elim
theorem small64_ok {i : Int} (h : small64 i = true) : -(2 ^ 64) < i ∧ i < 2 ^ 64 := by
  unfold small64 at h
  simpa using h
theorem o_mulI : Op2 X (binaryOp .Mult) (fun x y => match x, y with | .int i, .int j => fMul (.int i) (.int j) | _, _ => .stk) := by
  intro ct pins s σ H x y v u Q I rx ry h
  obtain ⟨ow, dx, dy, nl, hx, hy, h⟩ := h
  cases hx with
  | int i =>
    cases hy with
    | int j =>
      simp only [fMul] at h
      split at h
      · rename_i hz
        refine op_mul pins s σ H _ _ v u Q I rx ry ⟨i, j, rfl, rfl, ?_, h _ H (.refl H) (.int _)⟩
        rcases Bool.or_eq_true _ _ |>.mp hz with q | q
        · exact .inl (small64_ok q)
        · exact .inr (small64_ok q)
      · exact h.elim
    | _ => exact h.elim
  | _ => exact h.elim
theorem o_mod : Op2 X (binaryOp .Mod) fMod := by
  intro ct pins s σ H x y v u Q I rx ry h
  obtain ⟨ow, dx, dy, nl, hx, hy, h⟩ := h
  cases hx with
  | int i =>
    cases hy with
    | int j =>
      simp only [fMod] at h
      split at h
      · rename_i hz
        exact op_mod pins s σ H _ _ v u Q I rx ry ⟨i, j, rfl, rfl, hz, h _ H (.refl H) (.int _)⟩
      · exact h.elim
    | _ => exact h.elim
  | _ => exact h.elim
theorem o_div : Op2 X (binaryOp .FloorDiv) fDiv := by
  intro ct pins s σ H x y v u Q I rx ry h
  obtain ⟨ow, dx, dy, nl, hx, hy, h⟩ := h
  cases hx with
  | int i =>
    cases hy with
    | int j =>
      simp only [fDiv] at h
      split at h
      · rename_i hz
        simp only [Bool.and_eq_true, Bool.or_eq_true, decide_eq_true_eq] at hz
        have hj : j.natAbs < 2 ^ 64 := by
          have := hz.1
          rcases hz.2 with z | z <;> omega
        exact op_fdivW pins s σ H _ _ v u Q I rx ry ⟨i, j, rfl, rfl, wide_div hz.1 hj (by decide) (by decide), h _ H (.refl H) (.int _)⟩
      · exact h.elim
    | _ => exact h.elim
  | _ => exact h.elim
theorem o_pow : Op2 X (binaryOp .Pow) fPow := by
  intro ct pins s σ H x y v u Q I rx ry h
  obtain ⟨ow, dx, dy, nl, hx, hy, h⟩ := h
  cases hx with
  | int i =>
    cases hy with
    | int j =>
      simp only [fPow] at h
      split at h
      · rename_i hz
        simp only [Bool.and_eq_true, decide_eq_true_eq] at hz
        have hi := small64_ok hz.1
        exact op_pow pins s σ H _ _ v u Q I rx ry ⟨i, j, rfl, rfl, ⟨hz.2.1, by have := hz.2.2; omega, by omega⟩, h _ H (.refl H) (.int _)⟩
      · exact h.elim
    | _ => exact h.elim
  | _ => exact h.elim
theorem o_neg : Op1 X (unaryOp .USub) fNeg := by
  intro ct pins s σ H x v Q I rx h
  obtain ⟨ow, dx, nl, hx, h⟩ := h
  cases hx with
  | int i => exact un_neg pins s σ H _ v Q I rx ⟨i, rfl, h _ H (.refl H) (.int _)⟩
  | _ => exact h.elim
theorem o_cmpI {op : CmpOp} {g : Int → Int → Bool} {f : PyData → PyData → R PyData} (ho : OpR X (compareOp op) (rI0 fun i j => .bl (g i j))) (h1 : ∀ i j, f (.int i) (.int j) = .ok (.bool (g i j)))
    (h2 : ∀ x y, (∃ i j, x = .int i ∧ y = .int j) ∨ f x y = .stk) : Op2 X (compareOp op) f := by
  intro ct pins s σ H x y v u Q I rx ry h
  obtain ⟨ow, dx, dy, nl, hx, hy, h⟩ := h
  rcases h2 dx dy with ⟨i, j, rfl, rfl⟩ | e
  · cases hx; cases hy
    rw [h1] at h
    exact ho pins s σ H _ _ v u Q I rx ry ⟨i, j, rfl, rfl, h _ H (.refl H) (.bl _)⟩
  · rw [e] at h; exact h.elim
theorem cases_int (f : PyData → PyData → R PyData) (h : ∀ x y, (∀ i j, ¬ (x = .int i ∧ y = .int j)) → f x y = .stk) (x y : PyData) : (∃ i j, x = .int i ∧ y = .int j) ∨ f x y = .stk := by
  by_cases e : ∃ i j, x = .int i ∧ y = .int j
  · exact .inl e
  · exact .inr (h x y fun i j z => e ⟨i, j, z⟩)
theorem o_lt : Op2 X (compareOp .Lt) fLt := by
  intro ct pins s σ H x y v u Q I rx ry h
  obtain ⟨ow, dx, dy, nl, hx, hy, h⟩ := h
  cases hx with
  | int i =>
    cases hy with
    | int j => exact op_lt pins s σ H _ _ v u Q I rx ry ⟨i, j, rfl, rfl, h _ H (.refl H) (.bl _)⟩
    | _ => exact h.elim
  | str a ha =>
    cases hy with
    | str b hb => exact op_lt_str pins s σ H _ _ v u Q I rx ry ⟨a, b, rfl, rfl, h _ H (.refl H) (.bl _)⟩
    | _ => exact h.elim
  | _ => exact h.elim
theorem o_le : Op2 X (compareOp .LtE) fLe := o_cmpI op_le (fun _ _ => rfl) (cases_int _ fun x y n => by cases x <;> first | rfl | (cases y <;> first | rfl | exact absurd ⟨rfl, rfl⟩ (n _ _)))
theorem o_gt : Op2 X (compareOp .Gt) fGt := o_cmpI op_gt (fun _ _ => rfl) (cases_int _ fun x y n => by cases x <;> first | rfl | (cases y <;> first | rfl | exact absurd ⟨rfl, rfl⟩ (n _ _)))
theorem o_ge : Op2 X (compareOp .GtE) fGe := o_cmpI op_ge (fun _ _ => rfl) (cases_int _ fun x y n => by cases x <;> first | rfl | (cases y <;> first | rfl | exact absurd ⟨rfl, rfl⟩ (n _ _)))
theorem o_eq : Op2 X (compareOp .Eq) fEq := by
  intro ct pins s σ H x y v u Q I rx ry h
  obtain ⟨ow, dx, dy, nl, hx, hy, h⟩ := h
  unfold fEq at h
  split at h
  · rename_i hz
    simp only [Bool.and_eq_true, decide_eq_true_eq] at hz
    obtain ⟨⟨hz, n1⟩, n2⟩ := hz
    obtain ⟨as, r1⟩ := Dp.reads I dx x v (hx.dp n1) rx
    obtain ⟨bs, r2⟩ := Dp.reads I dy y u (hy.dp n2) ry
    have hu := ct.un
    exact SeqAt.compareEq_reads r1 r2 (hx.lay n1) (hy.lay n2) (by omega) ⟨.bl _, H, I, rfl, h _ H (.refl H) (.bl _)⟩
  · exact h.elim
theorem o_ne : Op2 X (compareOp .NotEq) fNe := by
  intro ct pins s σ H x y v u Q I rx ry h
  obtain ⟨ow, dx, dy, nl, hx, hy, h⟩ := h
  unfold fNe at h
  split at h
  · rename_i hz
    simp only [Bool.and_eq_true, decide_eq_true_eq] at hz
    obtain ⟨⟨hz, n1⟩, n2⟩ := hz
    obtain ⟨as, r1⟩ := Dp.reads I dx x v (hx.dp n1) rx
    obtain ⟨bs, r2⟩ := Dp.reads I dy y u (hy.dp n2) ry
    have hu := ct.un
    exact SeqAt.compareNe_reads r1 r2 (hx.lay n1) (hy.lay n2) (by omega) ⟨.bl _, H, I, rfl, h _ H (.refl H) (.bl _)⟩
  · exact h.elim
theorem isNone_rp {x : V} {d : PyData} (r : RpS K ow H x d) : decide (x = .non) = isNone d := by
  cases r <;> simp [isNone]
theorem o_is : Op2 X (compareOp .Is) fIs := by
  intro ct pins s σ H x y v u Q I rx ry h
  obtain ⟨ow, dx, dy, nl, hx, hy, h⟩ := h
  cases hy with
  | non =>
    refine op_isN pins s σ H _ _ v u Q I rx ry ⟨rfl, ?_⟩
    rw [isNone_rp hx]
    have h' : PostV X.K (.ok (.bool (isNone dx))) ow H Q := by cases dx <;> exact h
    exact h' _ H (.refl H) (.bl _)
  | bl b =>
    cases hx with
    | bl a => exact op_isBl pins s σ H _ _ v u Q I rx ry ⟨a, b, rfl, rfl, h _ H (.refl H) (.bl _)⟩
    | _ => exact h.elim
  | _ => cases hx <;> exact h.elim
theorem o_isN : Op2 X (compareOp .IsNot) fIsN := by
  intro ct pins s σ H x y v u Q I rx ry h
  obtain ⟨ow, dx, dy, nl, hx, hy, h⟩ := h
  cases hy with
  | non =>
    refine op_notN pins s σ H _ _ v u Q I rx ry ⟨rfl, ?_⟩
    rw [isNone_rp hx]
    have h' : PostV X.K (.ok (.bool (!isNone dx))) ow H Q := by cases dx <;> exact h
    exact h' _ H (.refl H) (.bl _)
  | bl b =>
    cases hx with
    | bl a => exact op_notBl pins s σ H _ _ v u Q I rx ry ⟨a, b, rfl, rfl, h _ H (.refl H) (.bl _)⟩
    | _ => exact h.elim
  | _ => cases hx <;> exact h.elim
theorem keyOf_keyD (k : Key) : keyOf (keyD k) = some k := by cases k <;> rfl
theorem keyD_of {x : PyData} {k : Key} (h : keyOf x = some k) : x = keyD k := by
  cases x <;> first | (cases h; rfl) | cases h
theorem key_rp {v : V} {x : PyData} {k : Key} (r : RpS K ow H v x) (h : keyOf x = some k) : v = kV k ∧ KOk k := by
  cases r with
  | int i => cases h; exact ⟨rfl, True.intro⟩
  | str z hz => cases h; exact ⟨rfl, hz⟩
  | _ => cases h
theorem RpK.look : ∀ {kvs : List (Key × V)} {ds : List (PyData × PyData)} (k : Key), RpK K ow H kvs ds → match lookD ds k with
    | some d => ∃ v, valV kvs k = some v ∧ Rp K ow H v d
    | none => valV kvs k = none
  | _, _, k, .nil => rfl
  | _, _, k, .cons (k := k') (v := v) (d := d) (ks := ks) (ds := ds) z a b => by
    simp only [lookD, keyOf_keyD, Option.some.injEq]
    by_cases e : k' = k
    · rw [if_pos e]
      exact ⟨v, valV_pos (p := (k', v)) e, a⟩
    · rw [if_neg e]
      have ih := RpK.look k b
      rw [valV_neg (p := (k', v)) e]
      exact ih
theorem keysOf_map : ∀ ks : List Key, keysOf (ks.map keyD) = some ks
  | [] => rfl
  | k :: ks => by rw [List.map_cons, keysOf, keyOf_keyD, keysOf_map ks]
theorem keyT_tupK (ks : List Key) : keyT (tupK ks) = some ks := keysOf_map ks
theorem keys_rp : ∀ {vs : List V} {ds : List PyData} {ks : List Key}, RpA K ow H vs ds → keysOf ds = some ks → vs = ks.map kV ∧ (∀ z ∈ ks, KOk z) ∧ ds = ks.map keyD
  | _, _, _, .nil, h => by cases h; exact ⟨rfl, nofun, rfl⟩
  | _, _, ks, .cons (d := d) (ds := ds) a b, h => by
    unfold keysOf at h
    cases e1 : keyOf d with
    | none => rw [e1] at h; cases h
    | some k =>
      cases e2 : keysOf ds with
      | none => rw [e1, e2] at h; cases h
      | some k2 =>
        rw [e1, e2] at h
        cases h
        obtain ⟨h1, h2⟩ := key_rp (Rp.s a) e1
        obtain ⟨h3, h4, h5⟩ := keys_rp b e2
        refine ⟨by rw [h1, h3]; rfl, fun z hz => ?_, ?_⟩
        · rcases List.mem_cons.mp hz with rfl | hz
          · exact h2
          · exact h4 z hz
        · rw [List.map_cons, ← h5]
          congr 1
          cases d <;> cases e1 <;> rfl
theorem RpT.look : ∀ {kvs : List (List Key × V)} {ds : List (PyData × PyData)} (k : List Key), RpT K ow H kvs ds → match lookT ds k with
    | some d => ∃ v, valV kvs k = some v ∧ Rp K ow H v d
    | none => valV kvs k = none
  | _, _, k, .nil => rfl
  | _, _, k, .cons (k := k') (v := v) (d := d) (ks := ks) (ds := ds) z a b => by
    have e0 : keyT (PyData.tuple (k'.map keyD)) = some k' := keysOf_map k'
    simp only [lookT, e0, Option.some.injEq]
    by_cases e : k' = k
    · rw [if_pos e]
      exact ⟨v, valV_pos (p := (k', v)) e, a⟩
    · rw [if_neg e]
      have ih := RpT.look k b
      rw [valV_neg (p := (k', v)) e]
      exact ih
def GotV (K : PySem.W.Frag) (ow : Ow) (H : Hp) : Option PyData → Option V → Prop
  | some d, ov => ∃ w, ov = some w ∧ Rp K ow H w d
  | none, ov => ov = none
/-- the value at a key, in the machine -/
theorem get_rp {a : Addr} {u : HO} {ds : List (PyData × PyData)} {v : V} {x : PyData} {o : Option PyData} (e : H a = some u) (r : RpD K ow H u ds) (rx : RpS K ow H v x) (h : atD ds x = .ok o) :
    ∃ ov, DGet H a v ov ∧ GotV K ow H o ov := by
  unfold atD at h
  cases r with
  | k r =>
    rw [r.tag, if_neg Bool.false_ne_true] at h
    cases ek : keyOf x with
    | none => rw [ek] at h; cases h
    | some k =>
      rw [ek] at h
      obtain ⟨rfl, _⟩ := key_rp rx ek
      have q := r.look k
      have h : R.ok (lookD _ k) = R.ok o := h
      cases h
      refine ⟨_, DGet.k e, ?_⟩
      cases e2 : lookD ds k with
      | none => rw [e2] at q; exact q
      | some d => rw [e2] at q; exact q
  | t r =>
    have h : (R.ofO (keyT x)).bind (fun k => .ok (lookT _ k)) = R.ok o := h
    cases rx with
    | @tup b vs xs eb rr =>
      cases ek : keysOf xs with
      | none => rw [show keyT (.tuple xs) = keysOf xs from rfl, ek] at h; cases h
      | some k =>
        rw [show keyT (.tuple xs) = keysOf xs from rfl, ek] at h
        obtain ⟨rfl, _, _⟩ := keys_rp rr ek
        have q := r.look k
        have h : R.ok (lookT _ k) = R.ok o := h
        cases h
        refine ⟨_, DGet.t e eb.2, ?_⟩
        rw [List.tail_cons]
        cases e2 : lookT _ k with
        | none => rw [e2] at q; exact q
        | some d => rw [e2] at q; exact q
    | _ => cases h
theorem RpK.length : ∀ {kvs : List (Key × V)} {ds : List (PyData × PyData)}, RpK K ow H kvs ds → kvs.length = ds.length
  | _, _, .nil => rfl
  | _, _, .cons _ _ b => by rw [List.length_cons, List.length_cons, RpK.length b]
theorem RpK.any : ∀ {kvs : List (Key × V)} {ds : List (PyData × PyData)} {k : Key}, RpK K ow H kvs ds → (kvs.any fun kv => decide (kv.1 = k)) = ds.any fun p => decide (keyOf p.1 = some k)
  | _, _, k, .nil => rfl
  | _, _, k, .cons _ _ b => by simp only [List.any_cons, keyOf_keyD, Option.some.injEq, RpK.any (k := k) b]
theorem RpK.append : ∀ {kvs ks : List (Key × V)} {ds es : List (PyData × PyData)}, RpK K ow H kvs ds → RpK K ow H ks es → RpK K ow H (kvs ++ ks) (ds ++ es)
  | _, _, _, _, .nil, s => s
  | _, _, _, _, .cons z a b, s => .cons z a (RpK.append b s)
theorem RpK.repl : ∀ {kvs : List (Key × V)} {ds : List (PyData × PyData)} {k : Key} {v : V} {d : PyData}, RpK K ow H kvs ds → Rp K ow H v d →
    RpK K ow H (kvs.map fun kv => if kv.1 = k then (kv.1, v) else kv) (ds.map fun p => if keyOf p.1 = some k then (p.1, d) else p)
  | _, _, k, v, d, .nil, _ => .nil
  | _, _, k, v, d, .cons (k := k') z a b, r => by
    rw [List.map_cons, List.map_cons]
    simp only [keyOf_keyD, Option.some.injEq]
    by_cases e : k' = k
    · rw [if_pos e, if_pos e]; exact .cons z r (RpK.repl b r)
    · rw [if_neg e, if_neg e]; exact .cons z a (RpK.repl b r)
theorem RpK.put {kvs : List (Key × V)} {ds : List (PyData × PyData)} {k : Key} {v : V} {d : PyData} (r : RpK K ow H kvs ds) (z : KOk k) (a : Rp K ow H v d) : RpK K ow H (putK kvs k v) (putD ds k d) := by
  unfold putK putD
  rw [r.any]
  split
  · exact r.repl a
  · exact r.append (.cons z a .nil)
theorem RpT.any : ∀ {kvs : List (List Key × V)} {ds : List (PyData × PyData)} {k : List Key}, RpT K ow H kvs ds → (kvs.any fun kv => decide (kv.1 = k)) = ds.any fun p => decide (keyT p.1 = some k)
  | _, _, k, .nil => rfl
  | _, _, k, .cons (k := k') _ _ b => by
    have e0 : keyT (PyData.tuple (k'.map keyD)) = some k' := keysOf_map k'
    simp only [List.any_cons, e0, Option.some.injEq, RpT.any (k := k) b]
theorem RpT.append : ∀ {kvs ks : List (List Key × V)} {ds es : List (PyData × PyData)}, RpT K ow H kvs ds → RpT K ow H ks es → RpT K ow H (kvs ++ ks) (ds ++ es)
  | _, _, _, _, .nil, s => s
  | _, _, _, _, .cons z a b, s => .cons z a (RpT.append b s)
theorem RpT.repl : ∀ {kvs : List (List Key × V)} {ds : List (PyData × PyData)} {k : List Key} {v : V} {d : PyData}, RpT K ow H kvs ds → Rp K ow H v d →
    RpT K ow H (kvs.map fun kv => if kv.1 = k then (kv.1, v) else kv) (ds.map fun p => if keyT p.1 = some k then (p.1, d) else p)
  | _, _, k, v, d, .nil, _ => .nil
  | _, _, k, v, d, .cons (k := k') z a b, r => by
    have e0 : keyT (PyData.tuple (k'.map keyD)) = some k' := keysOf_map k'
    rw [List.map_cons, List.map_cons]
    simp only [e0, Option.some.injEq]
    by_cases e : k' = k
    · rw [if_pos e, if_pos e]; exact .cons z r (RpT.repl b r)
    · rw [if_neg e, if_neg e]; exact .cons z a (RpT.repl b r)
theorem RpT.put {kvs : List (List Key × V)} {ds : List (PyData × PyData)} {k : List Key} {v : V} {d : PyData} (r : RpT K ow H kvs ds) (z : ∀ y ∈ k, KOk y) (a : Rp K ow H v d) : RpT K ow H (putK kvs k v) (putT ds k d) := by
  unfold putK putT
  rw [r.any]
  split
  · exact r.repl a
  · exact r.append (.cons z a .nil)
theorem RpT.length : ∀ {kvs : List (List Key × V)} {ds : List (PyData × PyData)}, RpT K ow H kvs ds → kvs.length = ds.length
  | _, _, .nil => rfl
  | _, _, .cons _ _ b => by rw [List.length_cons, List.length_cons, RpT.length b]
def putAt (ds : List (PyData × PyData)) (x d : PyData) : R (List (PyData × PyData)) :=
  if ds.length < lineN then (if tagB ds = true then (R.ofO (keyT x)).bind fun k => .ok ((.none, .none) :: putT ds.tail k d) else (R.ofO (keyOf x)).bind fun k => .ok (putD ds k d)) else .stk
/-- a key put, in the machine -/
theorem put_rp {a : Addr} {u : HO} {ds es : List (PyData × PyData)} {v w : V} {x d : PyData} (e : H a = some u) (r : RpD K ow H u ds) (rx : RpS K ow H v x) (rw_ : Rp K ow H w d) (h : putAt ds x d = .ok es) :
    ∃ u', DPut H a v w (upd H a u') ∧ RpD K ow H u' es := by
  unfold putAt at h
  split at h
  · rename_i hl
    cases r with
    | k r =>
      rw [r.tag, if_neg Bool.false_ne_true] at h
      cases ek : keyOf x with
      | none => rw [ek] at h; cases h
      | some k =>
        rw [ek] at h
        obtain ⟨rfl, z⟩ := key_rp rx ek
        have h : R.ok (putD _ k d) = R.ok es := h
        cases h
        exact ⟨_, DPut.k e (by rw [r.length, lineN_eq]; exact hl), .k (r.put z rw_)⟩
    | t r =>
      have h : (R.ofO (keyT x)).bind (fun k => .ok ((.none, .none) :: putT _ k d)) = R.ok es := h
      cases rx with
      | @tup b vs xs eb rr =>
        cases ek : keysOf xs with
        | none => rw [show keyT (.tuple xs) = keysOf xs from rfl, ek] at h; cases h
        | some k =>
          rw [show keyT (.tuple xs) = keysOf xs from rfl, ek] at h
          obtain ⟨rfl, z, _⟩ := keys_rp rr ek
          have h : R.ok ((.none, .none) :: putT _ k d) = R.ok es := h
          cases h
          refine ⟨_, DPut.t e eb.2 ?_, .t (r.put z rw_)⟩
          rw [r.length, lineN_eq]
          rw [List.length_cons] at hl
          rw [List.tail_cons] at *
          omega
      | _ => cases h
  · cases h
end
end L2.DY

end
section
/-! DySeq: in, subscripts, slices, len, tuple, list, sum, all, any, isinstance. -/
namespace L2.DY
open PySem PySem.Spec PyProof.Rows
section
variable {X : Cx} {C : Cy} {K : PySem.W.Frag} {σ : St} {H : Hp} {ow : Ow} {ρ : Rho}
theorem o_inB {op : CmpOp} {g : Bool → Bool} {f : PyData → PyData → R PyData} (hf : ∀ x y, f x y = (inB x y).bind fun b => .ok (.bool (g b)))
    (hs : OpR X (compareOp op) (fun x y H Q => ∃ i j, x = .str i ∧ y = .str j ∧ Q (.bl (g (inStr i j))) H))
    (hl : ∀ {s : Shared} {c x : Value} {xs : List PyData} {d : PyData} {as bs : List Addr} {Q : Value → Shared → Prop} (rc : Reads s.heap c (.list xs) as) (rx : Reads s.heap x d bs) (hxs : PyData.canLayAll0 xs = true) (hd : d.canLay0 = true)
      (hu : X.A.units + 1 + min (PyData.depthAll xs) d.depth < cLine) (h : Q (.bool (g (xs.any fun y => PyData.eqv y d))) s), wpAny (model X.prog X.w) X.A (compareOp op x c) Q X.xe s)
    (ht : ∀ {s : Shared} {c x : Value} {xs : List PyData} {d : PyData} {as bs : List Addr} {Q : Value → Shared → Prop} (rc : Reads s.heap c (.tuple xs) as) (rx : Reads s.heap x d bs) (hxs : PyData.canLayAll0 xs = true) (hd : d.canLay0 = true)
      (hu : X.A.units + 1 + min (PyData.depthAll xs) d.depth < cLine) (h : Q (.bool (g (xs.any fun y => PyData.eqv y d))) s), wpAny (model X.prog X.w) X.A (compareOp op x c) Q X.xe s)
    (hk : ∀ {pins : List (Addr × Obj)} {σ : St} {H : Hp} {s : Shared} {a : Addr} {y : V} {u : Value} {o : Option V} {Q : Value → Shared → Prop} (hu : X.A.units + 1 < cLine) (I : Inv X pins σ H s) (g' : DGet H a y o) (ry : RelV y u) (h : ∀ s', Inv X pins σ H s' → Q (.bool (g o.isSome)) s'), wpAny (model X.prog X.w) X.A (compareOp op u (.ref a)) Q X.xe s) : Op2 X (compareOp op) f := by
  intro ct pins s σ H x y v u Q I rx ry h
  obtain ⟨ow, dx, dy, nl, hx, hy, h⟩ := h
  rw [hf] at h
  have hu := ct.un
  cases dy with
  | list ys =>
    have h' : PostV X.K (if min (PyData.depthAll ys) dx.depth ≤ 63 && noD dx && noDs ys then .ok (.bool (g (ys.any fun y => y.eqv dx))) else .stk) ow H Q := by
      cases dx <;> (simp only [inB] at h; split at h <;> rename_i hz <;> first | (rw [if_pos hz]; exact h) | exact h.elim)
    split at h'
    · rename_i hz
      simp only [Bool.and_eq_true, decide_eq_true_eq] at hz
      obtain ⟨⟨hz, n1⟩, n2⟩ := hz
      have n3 : noD (.list ys) = true := by simpa [noD] using n2
      obtain ⟨as, r1⟩ := Dp.reads I dx x v (hx.dp n1) rx
      obtain ⟨bs, r2⟩ := Dp.reads I (.list ys) y u (hy.dp n3) ry
      have l2 : PyData.canLayAll0 ys = true := by have := hy.lay n3; simpa [PyData.canLay0] using this
      exact hl r2 r1 l2 (hx.lay n1) (by omega) ⟨.bl _, H, I, rfl, h' _ H (.refl H) (.bl _)⟩
    · exact h'.elim
  | tuple ys =>
    have h' : PostV X.K (if min (PyData.depthAll ys) dx.depth ≤ 63 && noD dx && noDs ys then .ok (.bool (g (ys.any fun y => y.eqv dx))) else .stk) ow H Q := by
      cases dx <;> (simp only [inB] at h; split at h <;> rename_i hz <;> first | (rw [if_pos hz]; exact h) | exact h.elim)
    split at h'
    · rename_i hz
      simp only [Bool.and_eq_true, decide_eq_true_eq] at hz
      obtain ⟨⟨hz, n1⟩, n2⟩ := hz
      have n3 : noD (.tuple ys) = true := by simpa [noD] using n2
      obtain ⟨as, r1⟩ := Dp.reads I dx x v (hx.dp n1) rx
      obtain ⟨bs, r2⟩ := Dp.reads I (.tuple ys) y u (hy.dp n3) ry
      have l2 : PyData.canLayAll0 ys = true := by have := hy.lay n3; simpa [PyData.canLay0] using this
      exact ht r2 r1 l2 (hx.lay n1) (by omega) ⟨.bl _, H, I, rfl, h' _ H (.refl H) (.bl _)⟩
    · exact h'.elim
  | dict ds =>
    have h' : PostV X.K ((atD ds dx).bind fun o => .ok (.bool (g o.isSome))) ow H Q := by
      cases dx <;> (simp only [inB] at h; rw [R.bind_assoc] at h; exact h)
    cases e : atD ds dx with
    | exc c x => rw [e] at h'; exact h'.elim
    | stk => rw [e] at h'; exact h'.elim
    | ok o =>
      rw [e] at h'
      cases hy with
      | @dct a u ds hd r =>
        cases ry
        obtain ⟨ov, gv, q⟩ := get_rp hd r hx e
        refine hk (o := ov) (by omega) I gv rx fun s' I' => ⟨.bl _, H, I', rfl, ?_⟩
        have e3 : ov.isSome = o.isSome := by
          cases o with
          | none => rw [show ov = none from q]; rfl
          | some d => obtain ⟨w, q1, _⟩ := q; rw [q1]; rfl
        rw [e3]
        exact h' _ H (.refl H) (.bl _)
  | str b =>
    cases hx with
    | str a ha =>
      cases hy
      exact hs pins s σ H _ _ v u Q I rx ry ⟨a, b, rfl, rfl, h _ H (.refl H) (.bl _)⟩
    | _ => exact h.elim
  | _ => cases dx <;> exact h.elim
/-- .. where the second one is a tuple of the text's own top -/
def relG (K : PySem.W.Frag) (f : PyData → R PyData) (d : PyData) : R2 := fun x y H Q => ∃ ow dx, (∀ a, H a = none → ow a = 0) ∧ RpS K ow H x dx ∧ Dp K H y d ∧ PostV K (f dx) ow H Q
theorem o_inG {op : CmpOp} {g : Bool → Bool} {f : PyData → R PyData} {ys : List PyData} (hf : ∀ x, f x = (inB x (.tuple ys)).bind fun b => .ok (.bool (g b))) (l2 : PyData.canLayAll0 ys = true) (ct : Ct X)
    (ht : ∀ {s : Shared} {c x : Value} {xs : List PyData} {d : PyData} {as bs : List Addr} {Q : Value → Shared → Prop} (rc : Reads s.heap c (.tuple xs) as) (rx : Reads s.heap x d bs) (hxs : PyData.canLayAll0 xs = true) (hd : d.canLay0 = true)
      (hu : X.A.units + 1 + min (PyData.depthAll xs) d.depth < cLine) (h : Q (.bool (g (xs.any fun y => PyData.eqv y d))) s), wpAny (model X.prog X.w) X.A (compareOp op x c) Q X.xe s) : OpR X (compareOp op) (relG X.K f (.tuple ys)) := by
  intro pins s σ H x y v u Q I rx ry h
  obtain ⟨ow, dx, nl, hx, hy, h⟩ := h
  rw [hf] at h
  have hu := ct.un
  have h' : PostV X.K (if min (PyData.depthAll ys) dx.depth ≤ 63 && noD dx && noDs ys then .ok (.bool (g (ys.any fun y => y.eqv dx))) else .stk) ow H Q := by
    cases dx <;> (simp only [inB] at h; split at h <;> rename_i hz <;> first | (rw [if_pos hz]; exact h) | exact h.elim)
  split at h'
  · rename_i hz
    simp only [Bool.and_eq_true, decide_eq_true_eq] at hz
    obtain ⟨⟨hz, n1⟩, n2⟩ := hz
    obtain ⟨as, r1⟩ := Dp.reads I dx x v (hx.dp n1) rx
    obtain ⟨bs, r2⟩ := Dp.reads I (.tuple ys) y u hy ry
    exact ht r2 r1 l2 (hx.lay n1) (by omega) ⟨.bl _, H, I, rfl, h' _ H (.refl H) (.bl _)⟩
  · exact h'.elim
/-- a tuple of the text's own top -/
structure GT (K : PySem.W.Frag) (mg : Str → Option Value) (x : Str) (d : PyData) : Prop where
  ex : ∃ (v : V) (u : Value) (ys : List PyData), d = .tuple ys ∧ PyData.canLayAll0 ys = true ∧ mg x = some u ∧ RelV v u ∧ ∀ H, Dp K H v d
theorem rd_inG {v : V} {d : PyData} {da : Den} {f : PyData → R PyData} {Q : VK} (hv : ∀ H, Dp K H v d) (h : rdE K C (dOp1 f da) σ H Q) : tOp (relG K f d) (rdE K C da) (tC v) σ H Q := by
  obtain ⟨ρ, ow, S, h⟩ := h
  exact ⟨ρ, ow, S, Post.bind h fun a ρ1 b H1 ow1 l1 S1 r1 h1 => ⟨ow1, a, S1.nil, r1.s, hv H1, .of S1 h1⟩⟩
theorem se_inG {x : Str} {d : PyData} {a : Expr} {da : Den} {xp pos : Pos} (ha : SE X C a da) (gt : GT X.K X.mg x d) (hg : Gl X x) (hd : (x == ("__debug__" : Str)) = false := by decide) (hm : behindInMarks .In (.Name x xp) = false := by first | exact nomark _ | rfl) :
    SE X C (.Compare a [.In] [.Name x xp] pos) (dOp1 (fun z => fIn z d) da) := fun ct => by
  obtain ⟨v, u, ys, rfl, l, h1, h2, h3⟩ := gt.ex
  exact PE.imp (pe_cmpR (o_inG (g := id) (fun _ => rfl) l ct SeqAt.in_tuple_reads) (ha ct) (pe_glob hg h1 h2 hd) hm) fun σ H Q h => rd_inG h3 h
theorem se_notInG {x : Str} {d : PyData} {a : Expr} {da : Den} {xp pos : Pos} (ha : SE X C a da) (gt : GT X.K X.mg x d) (hg : Gl X x) (hd : (x == ("__debug__" : Str)) = false := by decide) (hm : behindInMarks .NotIn (.Name x xp) = false := by first | exact nomark _ | rfl) :
    SE X C (.Compare a [.NotIn] [.Name x xp] pos) (dOp1 (fun z => fNotIn z d) da) := fun ct => by
  obtain ⟨v, u, ys, rfl, l, h1, h2, h3⟩ := gt.ex
  exact PE.imp (pe_cmpR (o_inG (g := not) (fun _ => rfl) l ct SeqAt.notIn_tuple_reads) (ha ct) (pe_glob hg h1 h2 hd) hm) fun σ H Q h => rd_inG h3 h
theorem st_inG {x : Str} {d : PyData} {a : Expr} {da : Den} {xp pos : Pos} (ha : SE X C a da) (gt : GT X.K X.mg x d) (hg : Gl X x) (hd : (x == ("__debug__" : Str)) = false := by decide) (hm : behindInMarks .In (.Name x xp) = false := by first | exact nomark _ | rfl) :
    ST X C (.Compare a [.In] [.Name x xp] pos) (dTestB (dOp1 (fun z => fIn z d) da)) := fun ct => by
  obtain ⟨v, u, ys, rfl, l, h1, h2, h3⟩ := gt.ex
  exact PT.imp (pt_cmpR (o_inG (g := id) (fun _ => rfl) l ct SeqAt.in_tuple_reads) (ha ct) (pe_glob hg h1 h2 hd) hm) fun σ H Q ⟨ρ, ow, S, h⟩ => rd_inG h3 ⟨ρ, ow, S, Post.bind h fun a ρ1 b H1 ow1 l1 S1 r1 h1 => bl_end S1 r1 h1⟩
theorem st_notInG {x : Str} {d : PyData} {a : Expr} {da : Den} {xp pos : Pos} (ha : SE X C a da) (gt : GT X.K X.mg x d) (hg : Gl X x) (hd : (x == ("__debug__" : Str)) = false := by decide) (hm : behindInMarks .NotIn (.Name x xp) = false := by first | exact nomark _ | rfl) :
    ST X C (.Compare a [.NotIn] [.Name x xp] pos) (dTestB (dOp1 (fun z => fNotIn z d) da)) := fun ct => by
  obtain ⟨v, u, ys, rfl, l, h1, h2, h3⟩ := gt.ex
  exact PT.imp (pt_cmpR (o_inG (g := not) (fun _ => rfl) l ct SeqAt.notIn_tuple_reads) (ha ct) (pe_glob hg h1 h2 hd) hm) fun σ H Q ⟨ρ, ow, S, h⟩ => rd_inG h3 ⟨ρ, ow, S, Post.bind h fun a ρ1 b H1 ow1 l1 S1 r1 h1 => bl_end S1 r1 h1⟩
theorem o_in : Op2 X (compareOp .In) fIn := o_inB (g := id) (fun _ _ => rfl) op_in_str SeqAt.in_list_reads SeqAt.in_tuple_reads d_in
theorem o_notIn : Op2 X (compareOp .NotIn) fNotIn := o_inB (g := not) (fun _ _ => rfl) op_notin_str SeqAt.notIn_list_reads SeqAt.notIn_tuple_reads d_notIn

/-! ### subscripts -/
theorem RpA.atI {vs : List V} {ds : List PyData} {i : Int} {d : PyData} (r : RpA K ow H vs ds) (h : L2.atI ds i = some d) : ∃ v, L2.atI vs i = some v ∧ Rp K ow H v d := by
  unfold L2.atI at *
  rw [r.length]
  cases e : ixN ds.length i with
  | none => rw [e] at h; cases h
  | some j =>
    rw [e] at h
    exact r.get h
def fIx : PyData → PyData → R PyData
  | .list xs, .int i => R.ofO (L2.atI xs i)
  | .tuple xs, .int i => R.ofO (L2.atI xs i)
  | .str x, .int i => (R.ofO (L2.atI x.cps.toList i)).bind fun c => .ok (.str ⟨#[c]⟩)
  | .dict ds, x => (atD ds x).bind fun o => R.ofO o
  | _, _ => .stk
theorem atI_mem {α : Type} {xs : List α} {i : Int} {c : α} (h : L2.atI xs i = some c) : c ∈ xs := by
  unfold L2.atI at h
  cases e : ixN xs.length i with
  | none => rw [e] at h; cases h
  | some j => rw [e] at h; exact List.mem_of_getElem? h
theorem SOk.sign {x : Str} (h : SOk x) {c : Nat} (hc : c ∈ x.cps.toList) : SOk ⟨#[c]⟩ := ⟨strOk_of fun d hd => by
  have : d = c := by simpa using hd
  subst this
  exact of_strOk h.cp _ hc, by show 1 ≤ lineN; decide⟩
theorem o_ix : Ct X → IxR X (relR2 X.K fIx) := by
  intro ct
  intro ve se pins s σ H x y v u Q I rx ry h hsub
  obtain ⟨ow, dx, dy, nl, hx, hy, h⟩ := h
  have hD : (∀ ds, dx ≠ .dict ds) → rIx X.K x y H Q := fun nd => by
    cases hx with
    | dct e r => exact absurd rfl (nd _)
    | lst e r =>
      cases hy with
      | int i =>
        simp only [fIx] at h
        cases q : L2.atI _ i with
        | none => rw [q] at h; exact h.elim
        | some d =>
          rw [q] at h
          obtain ⟨w, h1, h2⟩ := r.atI q
          exact .inl ⟨_, _, i, w, rfl, rfl, SqL.of e, h1, h _ H (.refl H) h2⟩
      | _ => exact h.elim
    | tup e r =>
      cases hy with
      | int i =>
        simp only [fIx] at h
        cases q : L2.atI _ i with
        | none => rw [q] at h; exact h.elim
        | some d =>
          rw [q] at h
          obtain ⟨w, h1, h2⟩ := r.atI q
          exact .inr (.inl ⟨_, _, i, w, rfl, rfl, e.sq, h1, h _ H (.refl H) h2⟩)
      | _ => exact h.elim
    | str z hz =>
      cases hy with
      | int i =>
        simp only [fIx] at h
        cases q : L2.atI z.cps.toList i with
        | none => rw [q] at h; exact h.elim
        | some c =>
          rw [q] at h
          exact .inr (.inr ⟨z, i, c, rfl, rfl, by rw [lineN_eq]; exact hz.len, q, h _ H (.refl H) (.str _ (hz.sign (atI_mem q)))⟩)
      | _ => exact h.elim
    | _ => exact h.elim
  by_cases hd : ∃ ds, dx = .dict ds
  · obtain ⟨ds, rfl⟩ := hd
    simp only [fIx] at h
    cases e : atD ds dy with
    | exc c x => rw [e] at h; exact h.elim
    | stk => rw [e] at h; exact h.elim
    | ok o =>
      rw [e] at h
      cases hx with
      | @dct a kvs ds hd r =>
        cases rx
        obtain ⟨ov, gv, q⟩ := get_rp hd r hy e
        simp only [R.bind_ok] at h
        cases o with
        | none => exact h.elim
        | some d =>
          obtain ⟨v, q1, q2⟩ := q
          have g : DGet H a y (some v) := by rw [← q1]; exact gv
          have hT := dict_typeIs I g
          have hu := ct.un
          unfold subscriptTail
          refine wpAny_bind ?_
          rw [getitemInPython_of_ne hT.not_modules]
          refine wpAny_bind (wpAny_specialOf hT PySem.F.slot_dict_getitem.lookup ?_)
          have fin : wpAny (model X.prog X.w) X.A (subscripted se false (.ref a) u) (fun r s₃ => wpAny (model X.prog X.w) X.A (letTemporaryGo ve (.ref a) r >>= fun _ => pure r) (EP X pins σ Q) X.xe s₃) X.xe s := by
            rw [hsub]
            exact wpAny_operating (d_getItem (by omega) I g ry fun w' s' I' rw' => wpAny_bind (wpAny_letTemporaryGo (wpAny_pure ⟨v, H, I', rw', h v H (.refl H) q2⟩)))
          first
            | exact wpAny_pure (wpAny_bind fin)
            | exact wpAny_bind (wpAny_pure (wpAny_bind fin))
            | exact wpAny_bind fin
  · exact ix_seq ve se pins s σ H x y v u Q I rx ry (hD fun ds z => hd ⟨_, z⟩) hsub
theorem se_ix {a b : Expr} {da db : Den} {pos : Pos} (ha : SE X C a da) (hb : SE X C b db) (hs : PlainIx b := by exact fun _ _ => rfl) : SE X C (.Subscript a b pos) (dOp2 fIx da db) := fun ct =>
  PE.imp (pe_ix (o_ix ct) (ha ct) (hb ct) hs) fun _ _ _ h => rd_op2 (ta := fun _ _ _ => True) (tb := fun _ _ _ => True) h

/-! ### slices -/
def cutG {α : Type} (xs : List α) (lo hi : Option Int) : List α := (xs.drop (HT.sIx xs.length 0 lo)).take (HT.sIx xs.length xs.length hi - HT.sIx xs.length 0 lo)
def fSl : PyData → Option Int → Option Int → R PyData
  | .list xs, lo, hi => .ok (.list (cutG xs lo hi))
  | .tuple xs, lo, hi => .ok (.tuple (cutG xs lo hi))
  | .str x, lo, hi => .ok (.str ⟨(cutG x.cps.toList lo hi).toArray⟩)
  | _, _, _ => .stk
theorem RpA.cut {vs : List V} {ds : List PyData} (r : RpA K ow H vs ds) (lo hi : Option Int) : RpA K ow H (cutV vs lo hi) (cutG ds lo hi) := by
  unfold cutV cutG
  rw [r.length]
  exact (r.drop _).take _
theorem cutG_whole {α : Type} {xs : List α} {lo hi : Option Int} (h : HT.sIx xs.length 0 lo = 0 ∧ HT.sIx xs.length xs.length hi = xs.length) : cutG xs lo hi = xs := by
  unfold cutG
  rw [h.1, h.2]
  simp
theorem mem_cut {α : Type} {xs : List α} {lo hi : Option Int} {c : α} (h : c ∈ cutG xs lo hi) : c ∈ xs := List.mem_of_mem_drop (List.mem_of_mem_take h)
theorem cutG_length {α : Type} (xs : List α) (lo hi : Option Int) : (cutG xs lo hi).length ≤ xs.length := by
  unfold cutG
  rw [List.length_take, List.length_drop]
  omega
def relSl (K : PySem.W.Frag) : V → Option Int → Option Int → Hp → VK → Prop := fun x lo hi H Q => ∃ ow dx, (∀ a, H a = none → ow a = 0) ∧ RpS K ow H x dx ∧ PostV K (fSl dx lo hi) ow H Q
theorem o_sl : SlR X (relSl X.K) := by
  intro pins s σ H x v vl vu lo hi sl Q I rx hs pl pu h
  obtain ⟨ow, dx, nl, hx, h⟩ := h
  cases hx with
  | lst e r => exact sl_list pins s σ H _ v vl vu lo hi sl Q I rx hs pl pu ⟨_, _, rfl, SqL.of e, fun p hp => h _ _ (same_upd hp) (rp_newLst hp (nl p hp) (r.cut lo hi))⟩
  | tup e r =>
    refine sl_tupA pins s σ H _ v vl vu lo hi sl Q I rx hs pl pu ⟨_, _, rfl, e.sq, fun hw => ?_, fun _ p hp => h _ _ (same_upd hp) (rp_newTup hp (nl p hp) (r.cut lo hi))⟩
    rw [r.length] at hw
    refine h _ H (.refl H) ?_
    rw [cutG_whole hw]
    exact .tup e r
  | str z hz =>
    refine sl_str pins s σ H _ v vl vu lo hi sl Q I rx hs pl pu ⟨z, rfl, by rw [lineN_eq]; exact hz.len, h _ H (.refl H) (.str _ ⟨strOk_of fun c hc => of_strOk hz.cp c (mem_cut (lo := lo) (hi := hi) (show c ∈ cutG z.cps.toList lo hi from hc)), ?_⟩)⟩
    show (cutG z.cps.toList lo hi).toArray.size ≤ lineN
    rw [List.size_toArray]
    exact Nat.le_trans (cutG_length _ _ _) (by rw [Array.length_toList]; exact hz.len)
  | _ => exact h.elim
abbrev DenO := Rho → R (Option Int × Rho)
def rdO (K : PySem.W.Frag) (C : Cy) (den : DenO) : TO := fun σ H Q => ∃ ρ ow, SR K C ρ ow σ H ∧ Post K C (fun _ _ (b a : Option Int) => b = a) (den ρ) σ ow H Q
abbrev SO (X : Cx) (C : Cy) (e : Option Expr) (den : DenO) : Prop := Ct X → PO X e (rdO X.K C den)
theorem PO.imp {e : Option Expr} {t t' : TO} (h : PO X e t) (i : ∀ σ H Q, t' σ H Q → t σ H Q) : PO X e t' := ⟨fun pins s σ H Q I hq => h.run pins s σ H Q I (i σ H Q hq)⟩
def isI : PyData → R Int
  | .int i => .ok i
  | _ => .stk
theorem isI_rp {v : V} {x : PyData} {i : Int} (r : Rp K ow H v x) (h : isI x = .ok i) : v = .int i := by
  cases r <;> first | (cases h; rfl) | cases h
def dNo : DenO := fun ρ => .ok (none, ρ)
def dSome (da : Den) : DenO := fun ρ => (da ρ).bind fun r => (isI r.1).bind fun i => .ok (some i, r.2)
theorem so_none : SO X C none dNo := fun ct => PO.imp po_none fun σ H Q ⟨ρ, ow, S, h⟩ => h none H ow (.refl _ _) S rfl
theorem so_some {e : Expr} {da : Den} (ha : SE X C e da) : SO X C (some e) (dSome da) := fun ct =>
  PO.imp (po_some (ha ct)) fun σ H Q ⟨ρ, ow, S, h⟩ => ⟨ρ, ow, S, Post.bind h fun a ρ1 v H1 ow1 l1 S1 r1 h1 => by
    dsimp only at h1
    cases e : isI a with
    | ok c => rw [e] at h1; exact ⟨c, isI_rp r1 e, h1 _ H1 ow1 (.refl _ _) S1 rfl⟩
    | exc c x => rw [e] at h1; exact h1.elim
    | stk => rw [e] at h1; exact h1.elim⟩
def dSl (da : Den) (dl dh : DenO) : Den := fun ρ => (da ρ).bind fun r => (dl r.2).bind fun l => (dh l.2).bind fun h => (fSl r.1 l.1 h.1).bind fun d => .ok (d, h.2)
theorem se_sl {e : Expr} {lo hi : Option Expr} {da : Den} {dl dh : DenO} {p2 pos : Pos} (ha : SE X C e da) (hl : SO X C lo dl) (hh : SO X C hi dh) : SE X C (.Subscript e (.Slice lo hi none p2) pos) (dSl da dl dh) := fun ct =>
  PE.imp (pe_slice o_sl (ha ct) (hl ct) (hh ct)) fun σ H Q ⟨ρ, ow, S, h⟩ => ⟨ρ, ow, S, Post.bind h fun a ρ1 b H1 ow1 l1 S1 r1 h1 => ⟨ρ1, ow1, S1, Post.bind h1 fun a2 ρ2 b2 H2 ow2 l2 S2 r2 h2 =>
    ⟨ρ2, ow2, S2, Post.bind h2 fun a3 ρ3 b3 H3 ow3 l3 S3 r3 h3 => by
      subst r2; subst r3
      exact ⟨ow3, a, S3.nil, ((r1.later l2).later l3).s, .of S3 h3⟩⟩⟩⟩

/-! ### built-ins -/
def fLen : List PyData → R PyData
  | [.str x] => .ok (.int x.length)
  | [.list xs] => .ok (.int xs.length)
  | [.tuple xs] => .ok (.int xs.length)
  | _ => .stk
theorem o_len : OpA X (.builtin "len") fLen := by
  intro ct pins s σ H xs us Q I rv h
  obtain ⟨ow, ds, nl, hx, h⟩ := h
  cases hx with
  | nil => exact h.elim
  | cons r rr =>
    cases rr with
    | cons _ _ => cases r <;> exact h.elim
    | nil =>
      cases r with
      | str x hx => exact call_len pins s σ H _ us Q I rv ⟨_, _, rfl, ⟨by rw [lineN_eq]; exact hx.len, rfl⟩, h _ H (.refl H) (.int _)⟩
      | lst e r => exact call_len pins s σ H _ us Q I rv ⟨_, _, rfl, .inl ⟨_, SqL.of e, rfl⟩, by rw [r.length]; exact h _ H (.refl H) (.int _)⟩
      | tup e r => exact call_len pins s σ H _ us Q I rv ⟨_, _, rfl, .inr ⟨_, e.sq, rfl⟩, by rw [r.length]; exact h _ H (.refl H) (.int _)⟩
      | _ => exact h.elim
def fTuple : List PyData → R PyData
  | [.list xs] => .ok (.tuple xs)
  | [.tuple xs] => .ok (.tuple xs)
  | _ => .stk
theorem o_tuple : OpA X (.type "tuple") fTuple := by
  intro ct pins s σ H xs us Q I rv h
  obtain ⟨ow, ds, nl, hx, h⟩ := h
  cases hx with
  | nil => exact h.elim
  | cons r rr =>
    cases rr with
    | cons _ _ => cases r <;> exact h.elim
    | nil =>
      cases r with
      | lst e r => exact call_tuple_of pins s σ H _ us Q I rv ⟨_, _, rfl, .inl ⟨SqL.of e, fun p hp => h _ _ (same_upd hp) (rp_newTup hp (nl p hp) r)⟩⟩
      | tup e r => exact call_tuple_of pins s σ H _ us Q I rv ⟨_, _, rfl, .inr ⟨e.sq, h _ H (.refl H) (.tup e r)⟩⟩
      | _ => exact h.elim
def fList : List PyData → R PyData
  | [.list xs] => .ok (.list xs)
  | [.tuple xs] => .ok (.list xs)
  | _ => .stk
theorem o_list : OpA X (.type "list") fList := by
  intro ct pins s σ H xs us Q I rv h
  obtain ⟨ow, ds, nl, hx, h⟩ := h
  cases hx with
  | nil => exact h.elim
  | cons r rr =>
    cases rr with
    | cons _ _ => cases r <;> exact h.elim
    | nil =>
      cases r with
      | lst e r => exact call_list_of pins s σ H _ us Q I rv ⟨_, _, rfl, .inl (SqL.of e), fun p hp => h _ _ (same_upd hp) (rp_newLst hp (nl p hp) r)⟩
      | tup e r => exact call_list_of pins s σ H _ us Q I rv ⟨_, _, rfl, .inr e.sq, fun p hp => h _ _ (same_upd hp) (rp_newLst hp (nl p hp) r)⟩
      | _ => exact h.elim
/-- the ints of a list of ints -/
def intsOf : List PyData → Option (List Int)
  | [] => some []
  | .int i :: r => (intsOf r).map (i :: ·)
  | _ => none
theorem intsOf_rp : ∀ {vs : List V} {ds : List PyData} {ns : List Int}, RpA K ow H vs ds → intsOf ds = some ns → vs = ns.map V.int
  | _, _, _, .nil, h => by cases h; rfl
  | _, _, _, .cons a b, h => by
    cases a with
    | int i =>
      simp only [intsOf, Option.map_eq_some_iff] at h
      obtain ⟨r, h1, h2⟩ := h
      subst h2
      rw [intsOf_rp b h1]; rfl
    | _ => cases h
def boolsOf : List PyData → Option (List Bool)
  | [] => some []
  | .bool i :: r => (boolsOf r).map (i :: ·)
  | _ => none
theorem boolsOf_rp : ∀ {vs : List V} {ds : List PyData} {ns : List Bool}, RpA K ow H vs ds → boolsOf ds = some ns → vs = ns.map V.bl
  | _, _, _, .nil, h => by cases h; rfl
  | _, _, _, .cons a b, h => by
    cases a with
    | bl i =>
      simp only [boolsOf, Option.map_eq_some_iff] at h
      obtain ⟨r, h1, h2⟩ := h
      subst h2
      rw [boolsOf_rp b h1]; rfl
    | _ => cases h
def fSum : List PyData → R PyData
  | [.list xs] => (R.ofO (intsOf xs)).bind fun ns => .ok (.int ns.sum)
  | _ => .stk
def fAll : List PyData → R PyData
  | [.list xs] => (R.ofO (boolsOf xs)).bind fun ns => .ok (.bool (ns.all id))
  | _ => .stk
def fAny : List PyData → R PyData
  | [.list xs] => (R.ofO (boolsOf xs)).bind fun ns => .ok (.bool (ns.any id))
  | _ => .stk
theorem one_list {f : List PyData → R PyData} (hf : ∀ ds, (∃ xs, ds = [.list xs]) ∨ f ds = .stk) {m : Value}
    (h : ∀ {H : Hp} {ow : Ow} {a : Addr} {vs : List V} {xs : List PyData} {Q : VK}, H a = some (.lst vs) → RpA X.K ow H vs xs → (∀ a, H a = none → ow a = 0) → PostV X.K (f [.list xs]) ow H Q → ∃ r, CallR X m r ∧ r [.ref a] H Q) : OpA X m f := by
  intro ct pins s σ H xs us Q I rv hq
  obtain ⟨ow, ds, nl, hx, hq⟩ := hq
  rcases hf ds with ⟨ys, rfl⟩ | e
  · cases hx with
    | cons r rr =>
      cases rr
      cases r with
      | lst e r =>
        obtain ⟨R, h1, h2⟩ := h e r nl hq
        exact h1 pins s σ H _ us Q I rv h2
  · rw [e] at hq; exact hq.elim
theorem list_or (f : List PyData → R PyData) (h : ∀ ds, (∀ xs, ds ≠ [.list xs]) → f ds = .stk) (ds : List PyData) : (∃ xs, ds = [.list xs]) ∨ f ds = .stk := by
  by_cases e : ∃ xs, ds = [.list xs]
  · exact .inl e
  · exact .inr (h ds fun xs z => e ⟨xs, z⟩)
theorem o_sum : Ct X → OpA X (.builtin "sum") fSum := fun ct => one_list (list_or _ fun ds h => by
    cases ds with
    | nil => rfl
    | cons a r => cases r <;> cases a <;> first | rfl | exact absurd rfl (h _)) fun {H ow a vs xs Q} e r nl hq => by
  simp only [fSum] at hq
  cases q : intsOf xs with
  | none => rw [q] at hq; exact hq.elim
  | some ns =>
    rw [q] at hq
    exact ⟨_, cr_sum ct.calm, a, ns, rfl, SqL.of (by rw [e, intsOf_rp r q]), hq _ H (.refl H) (.int _)⟩
theorem o_all : Ct X → OpA X (.builtin "all") fAll := fun ct => one_list (list_or _ fun ds h => by
    cases ds with
    | nil => rfl
    | cons a r => cases r <;> cases a <;> first | rfl | exact absurd rfl (h _)) fun {H ow a vs xs Q} e r nl hq => by
  simp only [fAll] at hq
  cases q : boolsOf xs with
  | none => rw [q] at hq; exact hq.elim
  | some ns =>
    rw [q] at hq
    exact ⟨_, cr_all ct.calm, a, ns, rfl, SqL.of (by rw [e, boolsOf_rp r q]), hq _ H (.refl H) (.bl _)⟩
theorem o_any : Ct X → OpA X (.builtin "any") fAny := fun ct => one_list (list_or _ fun ds h => by
    cases ds with
    | nil => rfl
    | cons a r => cases r <;> cases a <;> first | rfl | exact absurd rfl (h _)) fun {H ow a vs xs Q} e r nl hq => by
  simp only [fAny] at hq
  cases q : boolsOf xs with
  | none => rw [q] at hq; exact hq.elim
  | some ns =>
    rw [q] at hq
    exact ⟨_, cr_any ct.calm, a, ns, rfl, SqL.of (by rw [e, boolsOf_rp r q]), hq _ H (.refl H) (.bl _)⟩

/-! ### isinstance -/
def tyOf : PyData → String
  | .none => "NoneType"
  | .bool _ => "bool"
  | .int _ => "int"
  | .str _ => "str"
  | .list _ => "list"
  | .tuple _ => "tuple"
  | .dict _ => "dict"
theorem tyX_rp {v : V} {d : PyData} (r : Rp K ow H v d) : TyX K H v (.type (tyOf d)) := by
  cases r with
  | non => exact .base .non
  | bl b => exact .base (.bl b)
  | int i => exact .base (.int i)
  | str x _ => exact .base (.str x)
  | lst z e r => exact .base (.lst e)
  | tup e r =>
    exact .base (.tup e.2)
  | dct z e r =>
    cases r with
    | k _ => exact .base (.dK e)
    | t _ => exact .base (.dT e)
/-- isinstance(x, T), T one of the written types -/
def isT (T : String) : PyData → Bool
  | .bool _ => T == "bool" || T == "int"
  | d => T == tyOf d
def okT (T : String) : Bool := ["str", "int", "bool", "tuple", "list", "dict"].contains T
theorem kit_isT {T : String} (h : okT T = true) (d : PyData) : PySem.W.kitOne K (.type (tyOf d)) (.type T) = some (isT T d) := by
  have hm : T ∈ ["str", "int", "bool", "tuple", "list", "dict"] := by simpa [okT] using h
  rcases List.mem_cons.mp hm with rfl | hm
  · cases d <;> (refine kit_ty ?_; simp only [tyOf, isT]; decide +kernel)
  rcases List.mem_cons.mp hm with rfl | hm
  · cases d <;> (refine kit_ty ?_; simp only [tyOf, isT]; decide +kernel)
  rcases List.mem_cons.mp hm with rfl | hm
  · cases d <;> (refine kit_ty ?_; simp only [tyOf, isT]; decide +kernel)
  rcases List.mem_cons.mp hm with rfl | hm
  · cases d <;> (refine kit_ty ?_; simp only [tyOf, isT]; decide +kernel)
  rcases List.mem_cons.mp hm with rfl | hm
  · cases d <;> (refine kit_ty ?_; simp only [tyOf, isT]; decide +kernel)
  rcases List.mem_cons.mp hm with rfl | hm
  · cases d <;> (refine kit_ty ?_; simp only [tyOf, isT]; decide +kernel)
  · cases hm
def dIsi (T : String) (da : Den) : Den := fun ρ => (da ρ).bind fun r => .ok (.bool (isT T r.1), r.2)
theorem se_isi {T : String} {x xT : Str} {e : Expr} {da : Den} {p pT pos : Pos} (ha : SE X C e da) (hx : x = ("isinstance" : Str)) (hg : Gl X x) (hm : X.mg x = none) (hT : okT T = true) (hgT : Gl X xT) (hmT : X.mg xT = none) (hvT : bootBuiltins xT = some (.type T))
    (hnT : xT ≠ "__name__" := by decide) (hdT : (xT == ("__debug__" : Str)) = false := by decide)
    (he : starEach [e, .Name xT pT] X.env = (false, eval e X.env) :: starEach [.Name xT pT] X.env := by rfl) (he2 : starEach [.Name xT pT] X.env = (false, eval (.Name xT pT) X.env) :: starEach [] X.env := by rfl) (hpl : (backTo pos (starEach [.Name xT pT] X.env)).any (·.1) = false := by rfl) :
    SE X C (.Call (.Name x p) [e, .Name xT pT] [] pos) (dIsi T da) := fun ct => by
  subst hx
  refine PE.imp (pe_callB call_isi hg hm (by decide +kernel) (pa_cons (ha ct) (pa_cons (pe_bltn (v := .ty T) hgT hmT hvT rfl hnT hdT) pa_nil he2) he) (by decide) (by decide) he hpl) fun σ H Q ⟨ρ, ow, S, h⟩ => ⟨ρ, ow, S, Post.bind h fun a ρ1 v H1 ow1 l1 S1 r1 h1 => ?_⟩
  exact ⟨v, .ty T, .type (tyOf a), .type T, isT T a, rfl, .ty T, tyX_rp r1, kit_isT hT a, h1 _ H1 ow1 (.refl _ _) S1 (.bl _)⟩
end
end L2.DY

end
section
/-! DyStmt: statements, targets, loops, comprehensions. -/
namespace L2.DY
open PySem PySem.Spec PyProof.Rows

inductive RS where
  | nx (ρ : Rho)
  | rt (d : PyData) (ρ : Rho)
  | bk (ρ : Rho)
  | ct (ρ : Rho)
  | stk
  deriving Inhabited
abbrev SDen := Rho → RS
/-- an expression's outcome, then a statement's -/
def R.then {α : Type} : R α → (α → RS) → RS
  | .ok a, k => k a
  | _, _ => .stk
def PostS (K : PySem.W.Frag) (C : Cy) (r : RS) (ow : Ow) (H : Hp) (D : Ends) : Prop :=
  match r with
  | .nx ρ' => ∀ σ' H' ow', Later ow H ow' H' → SR K C ρ' ow' σ' H' → D.nx σ' H'
  | .rt d ρ' => ∀ v σ' H' ow', Later ow H ow' H' → SR K C ρ' ow' σ' H' → Rp K ow' H' v d → D.rt v H'
  | .bk ρ' => ∀ σ' H' ow', Later ow H ow' H' → SR K C ρ' ow' σ' H' → D.bk σ' H'
  | .ct ρ' => ∀ σ' H' ow', Later ow H ow' H' → SR K C ρ' ow' σ' H' → D.ct σ' H'
  | .stk => False
theorem PostS.later {K : PySem.W.Frag} {C : Cy} {r : RS} {ow ow1 : Ow} {H H1 : Hp} {D : Ends} (l : Later ow H ow1 H1) (h : PostS K C r ow H D) : PostS K C r ow1 H1 D := by
  cases r with
  | nx ρ => exact fun σ' H' ow' l' S => h σ' H' ow' (l.trans l') S
  | rt d ρ => exact fun v σ' H' ow' l' S q => h v σ' H' ow' (l.trans l') S q
  | bk ρ => exact fun σ' H' ow' l' S => h σ' H' ow' (l.trans l') S
  | ct ρ => exact fun σ' H' ow' l' S => h σ' H' ow' (l.trans l') S
  | stk => exact h
theorem PostS.bind {α β : Type} {K : PySem.W.Frag} {C : Cy} {Rel : Ow → Hp → β → α → Prop} {r : R (α × Rho)} {k : α × Rho → RS} {σ : St} {ow : Ow} {H : Hp} {D : Ends}
    (h : PostS K C (r.then k) ow H D) {Q' : β → Hp → Prop}
    (hq : ∀ a ρ1 b H1 ow1, Later ow H ow1 H1 → SR K C ρ1 ow1 σ H1 → Rel ow1 H1 b a → PostS K C (k (a, ρ1)) ow1 H1 D → Q' b H1) : Post K C Rel r σ ow H Q' := by
  cases r with
  | ok a =>
    obtain ⟨a, ρ1⟩ := a
    exact fun b H' ow' l S q => hq a ρ1 b H' ow' l S q (PostS.later l h)
  | exc c x => exact h
  | stk => exact h
def rdS (K : PySem.W.Frag) (C : Cy) (den : SDen) : TS := fun D σ H => ∃ ρ ow, SR K C ρ ow σ H ∧ PostS K C (den ρ) ow H D
abbrev SS (X : Cx) (C : Cy) (st : Stmt) (den : SDen) : Prop := Ct X → PS X st (rdS X.K C den)
abbrev SSs (X : Cx) (C : Cy) (st : List Stmt) (den : SDen) : Prop := Ct X → PSs X st (rdS X.K C den)

section
variable {X : Cx} {C : Cy} {K : PySem.W.Frag} {σ : St} {H : Hp} {ow : Ow} {ρ : Rho}
def dNext : SDen := fun ρ => .nx ρ
def dSeq (t u : SDen) : SDen := fun ρ => match t ρ with
  | .nx ρ' => u ρ'
  | r => r
theorem ss_nil : SSs X C [] dNext := fun ct => PSs.imp pss_nil fun D σ H ⟨ρ, ow, S, h⟩ => h σ H ow (.refl _ _) S
theorem ss_one {s : Stmt} {t : SDen} (h : SS X C s t) : SSs X C [s] t := fun ct => pss_one (h ct)
theorem ss_cons {s : Stmt} {r : List Stmt} {t u : SDen} (h1 : SS X C s t) (h2 : SSs X C r u) : SSs X C (s :: r) (dSeq t u) := fun ct =>
  PSs.imp (pss_cons (h1 ct) (h2 ct)) fun D σ H ⟨ρ, ow, S, h⟩ => ⟨ρ, ow, S, by
    unfold dSeq at h
    cases e : t ρ with
    | nx ρ' => rw [e] at h; exact fun σ' H' ow' l S' => ⟨ρ', ow', S', PostS.later l h⟩
    | rt d ρ' => rw [e] at h; exact h
    | bk ρ' => rw [e] at h; exact h
    | ct ρ' => rw [e] at h; exact h
    | stk => rw [e] at h; exact h⟩
theorem ss_pass {pos : Pos} : SS X C (.Pass pos) dNext := fun ct => PS.imp ps_pass fun D σ H ⟨ρ, ow, S, h⟩ => h σ H ow (.refl _ _) S
theorem ss_break {pos : Pos} : SS X C (.Break pos) (fun ρ => .bk ρ) := fun ct => PS.imp ps_break fun D σ H ⟨ρ, ow, S, h⟩ => h σ H ow (.refl _ _) S
theorem ss_continue {pos : Pos} : SS X C (.Continue pos) (fun ρ => .ct ρ) := fun ct => PS.imp ps_continue fun D σ H ⟨ρ, ow, S, h⟩ => h σ H ow (.refl _ _) S
def dDrop (da : Den) : SDen := fun ρ => (da ρ).then fun r => .nx r.2
theorem ss_expr {e : Expr} {da : Den} {pos : Pos} (ha : SE X C e da) (hs : swapsWith e none pos.line X.env = pure false := by rfl) : SS X C (.Expr e pos) (dDrop da) := fun ct =>
  PS.imp (ps_expr (ha ct) hs) fun D σ H ⟨ρ, ow, S, h⟩ => ⟨ρ, ow, S, PostS.bind h fun a ρ1 b H1 ow1 l1 S1 r1 h1 => h1 σ H1 ow1 (.refl _ _) S1⟩
def dRet (da : Den) : SDen := fun ρ => (da ρ).then fun r => .rt r.1 r.2
theorem ss_ret {e : Expr} {da : Den} {pos : Pos} (ha : SE X C e da) : SS X C (.Return (some e) pos) (dRet da) := fun ct =>
  PS.imp (ps_ret (ha ct)) fun D σ H ⟨ρ, ow, S, h⟩ => ⟨ρ, ow, S, PostS.bind h fun a ρ1 b H1 ow1 l1 S1 r1 h1 => h1 b σ H1 ow1 (.refl _ _) S1 r1⟩
theorem ss_retN {pos : Pos} : SS X C (.Return none pos) (fun ρ => .rt .none ρ) := fun ct => PS.imp ps_retN fun D σ H ⟨ρ, ow, S, h⟩ => h .non σ H ow (.refl _ _) S .non
def dIfS (c : DenB) (t u : SDen) : SDen := fun ρ => (c ρ).then fun r => if r.1 then t r.2 else u r.2
theorem ss_if {c : Expr} {a b : List Stmt} {tc : DenB} {t u : SDen} {pos : Pos} (hc : ST X C c tc) (ha : SSs X C a t) (hb : SSs X C b u) : SS X C (.If c a b pos) (dIfS tc t u) := fun ct =>
  PS.imp (ps_if (hc ct) (ha ct) (hb ct)) fun D σ H ⟨ρ, ow, S, h⟩ => ⟨ρ, ow, S, PostS.bind h fun a ρ1 b H1 ow1 l1 S1 r1 h1 => by
    subst r1
    cases b with
    | true => rw [if_pos rfl]; exact ⟨ρ1, ow1, S1, h1⟩
    | false => rw [if_neg Bool.false_ne_true]; exact ⟨ρ1, ow1, S1, h1⟩⟩

/-! ### stores -/
theorem getD_set (l : List Sl) (i j : Nat) (s : Sl) : (l.set i s).getD j .u = if i = j ∧ i < l.length then s else l.getD j .u := by
  rw [List.getD_eq_getElem?_getD, List.getD_eq_getElem?_getD, List.getElem?_set]
  by_cases e : i = j
  · subst e
    by_cases hl : i < l.length
    · simp [hl]
    · simp [hl]
  · simp [e]
theorem getD_setV (l : St) (i j : Nat) (s : Option V) : (l.set i s).getD j none = if i = j ∧ i < l.length then s else l.getD j none := by
  rw [List.getD_eq_getElem?_getD, List.getD_eq_getElem?_getD, List.getElem?_set]
  by_cases e : i = j
  · subst e
    by_cases hl : i < l.length
    · simp [hl]
    · simp [hl]
  · simp [e]
theorem SR.store (S : SR K C ρ ow σ H) {i : Nat} {v : V} {x : PyData} (r : Rp K ow H v x) (hb : C.br i = false) : SR K C (ρ.set i (.d x)) ow (σ.set i (some v)) H := by
  refine ⟨by rw [List.length_set, List.length_set]; exact S.len, fun j => ?_, S.ent, S.out, S.trk, S.dom, fun j hj => ?_⟩
  · rw [getD_set, getD_setV, S.len]
    by_cases e : i = j ∧ i < σ.length
    · rw [if_pos e, if_pos e]; exact ⟨v, rfl, r⟩
    · rw [if_neg e, if_neg e]; exact S.slots j
  · rw [getD_setV]
    have : ¬ (i = j ∧ i < σ.length) := fun z => by rw [z.1, hj] at hb; cases hb
    rw [if_neg this]
    exact S.par j hj
def dSet (i : Nat) (da : Den) : SDen := fun ρ => (da ρ).then fun r => .nx (r.2.set i (.d r.1))
theorem ss_set (i : Nat) {x : Str} {e : Expr} {da : Den} {pos pos' : Pos} (ha : SE X C e da) (hi : X.N[i]? = some x := by rfl) (hx : Loc X.env.scope x := by first | exact Or.inl rfl | exact Or.inr rfl) (hb : C.br i = false := by rfl)
    (hs : swapsWith e (some (.Name x pos')) pos.line X.env = pure false := by rfl) (hf : X.fn x = true ∨ X.env.scope.names.lookup x = some .local := by first | exact .inl rfl | exact .inr rfl) : SS X C (.Assign [.Name x pos'] e pos) (dSet i da) := fun ct =>
  PS.imp (ps_set ct.nd hi hx (ha ct) hs hf) fun D σ H ⟨ρ, ow, S, h⟩ => ⟨ρ, ow, S, PostS.bind h fun a ρ1 b H1 ow1 l1 S1 r1 h1 => h1 _ H1 ow1 (.refl _ _) (S1.store r1 hb)⟩

/-! ### targets -/
abbrev GDen := PyData → Rho → R Rho
def rdG (K : PySem.W.Frag) (C : Cy) (ts : List Nat) (gd : GDen) : TG := fun v σ H Q => ∃ ρ ow d, SR K C ρ ow σ H ∧ Rp K ow H v d ∧
  match gd d ρ with
  | .ok ρ' => ∀ σ' H' ow', Later ow H ow' H' → SR K C ρ' ow' σ' H' → wipe σ' ts = wipe σ ts → Q σ' H'
  | _ => False
abbrev GsDen := List PyData → Rho → R Rho
def rdGs (K : PySem.W.Frag) (C : Cy) (ts : List Nat) (gd : GsDen) : TGs := fun vs σ H Q => ∃ ρ ow ds, SR K C ρ ow σ H ∧ RpA K ow H vs ds ∧
  match gd ds ρ with
  | .ok ρ' => ∀ σ' H' ow', Later ow H ow' H' → SR K C ρ' ow' σ' H' → wipe σ' ts = wipe σ ts → Q σ' H'
  | _ => False
abbrev SG (X : Cx) (C : Cy) (tg : Expr) (ts : List Nat) (gd : GDen) : Prop := Ct X → PG X tg (rdG X.K C ts gd)
abbrev SGs (X : Cx) (C : Cy) (tg : List Expr) (ts : List Nat) (gd : GsDen) : Prop := Ct X → PGs X tg (rdGs X.K C ts gd)
theorem PG.imp {tg : Expr} {t t' : TG} (h : PG X tg t) (i : ∀ v σ H Q, t' v σ H Q → t v σ H Q) : PG X tg t' := ⟨fun pins s σ H v u Q I r hq => h.run pins s σ H v u Q I r (i v σ H Q hq)⟩
theorem PGs.imp {tg : List Expr} {t t' : TGs} (h : PGs X tg t) (i : ∀ v σ H Q, t' v σ H Q → t v σ H Q) : PGs X tg t' := ⟨fun pins s σ H v u Q I r hq => h.run pins s σ H v u Q I r (i v σ H Q hq)⟩
theorem wipe_get (σ : St) : ∀ (ts : List Nat) (j : Nat), (wipe σ ts)[j]? = if j ∈ ts ∧ j < σ.length then some none else σ[j]?
  | [], j => by simp [wipe]
  | t :: ts, j => by
    unfold wipe
    rw [List.getElem?_set, wipe_get σ ts j, wipe_length]
    by_cases e : t = j
    · subst e
      by_cases hl : t < σ.length
      · simp [hl]
      · simp [hl]
    · have : ¬ j = t := fun z => e z.symm
      simp [e, this]
theorem wipe_set (σ : St) (ts : List Nat) (i : Nat) (s : Option V) (h : i ∈ ts) : wipe (σ.set i s) ts = wipe σ ts := by
  refine List.ext_getElem? fun j => ?_
  rw [wipe_get, wipe_get, List.length_set, List.getElem?_set]
  by_cases e : j ∈ ts ∧ j < σ.length
  · rw [if_pos e, if_pos e]
  · rw [if_neg e, if_neg e]
    by_cases q : i = j
    · subst q
      have : ¬ i < σ.length := fun z => e ⟨h, z⟩
      rw [if_pos rfl, if_neg this, List.getElem?_eq_none (by omega)]
    · rw [if_neg q]
theorem wipe_sub {σ σ' : St} {ts us : List Nat} (h : wipe σ' ts = wipe σ ts) (hs : ∀ i ∈ ts, i ∈ us) : wipe σ' us = wipe σ us := by
  have hl : σ'.length = σ.length := by have := congrArg List.length h; rwa [wipe_length, wipe_length] at this
  refine List.ext_getElem? fun j => ?_
  rw [wipe_get, wipe_get, hl]
  by_cases e : j ∈ us ∧ j < σ.length
  · rw [if_pos e, if_pos e]
  · rw [if_neg e, if_neg e]
    have q : (wipe σ' ts)[j]? = (wipe σ ts)[j]? := by rw [h]
    rw [wipe_get, wipe_get, hl] at q
    have e' : ¬ (j ∈ ts ∧ j < σ.length) := fun z => e ⟨hs j z.1, z.2⟩
    rwa [if_neg e', if_neg e'] at q
def gdName (i : Nat) : GDen := fun d ρ => .ok (ρ.set i (.d d))
theorem sg_name (i : Nat) {ts : List Nat} {x : Str} {pos : Pos} (ht : i ∈ ts := by decide) (hi : X.N[i]? = some x := by rfl) (hx : Loc X.env.scope x := by first | exact Or.inl rfl | exact Or.inr rfl) (hb : C.br i = false := by rfl)
    (hf : X.fn x = true ∨ X.env.scope.names.lookup x = some .local := by first | exact .inl rfl | exact .inr rfl) : SG X C (.Name x pos) ts (gdName i) := fun ct =>
  PG.imp (pg_name ct.nd hi hx hf) fun v σ H Q ⟨ρ, ow, d, S, r, h⟩ => h _ H ow (.refl _ _) (S.store r hb) (wipe_set _ _ _ _ ht)
def gdNil : GsDen := fun ds ρ => match ds with
  | [] => .ok ρ
  | _ => .stk
def gdCons (g : GDen) (gs : GsDen) : GsDen := fun ds ρ => match ds with
  | d :: ds => (g d ρ).bind fun ρ1 => gs ds ρ1
  | _ => .stk
theorem sgs_nil {ts : List Nat} : SGs X C [] ts gdNil := fun ct => PGs.imp pgs_nil fun vs σ H Q ⟨ρ, ow, ds, S, r, h⟩ => by
  cases r with
  | nil => exact ⟨rfl, h σ H ow (.refl _ _) S rfl⟩
  | cons _ _ => exact h.elim
theorem sgs_cons {ts : List Nat} {e : Expr} {es : List Expr} {g : GDen} {gs : GsDen} (h1 : SG X C e ts g) (h2 : SGs X C es ts gs) (hs : (assignEach (e :: es) X.env).map (·.2) = assign e X.env :: (assignEach es X.env).map (·.2) := by rfl) : SGs X C (e :: es) ts (gdCons g gs) := fun ct =>
  PGs.imp (pgs_cons (h1 ct) (h2 ct) hs) fun vs σ H Q ⟨ρ, ow, ds, S, r, h⟩ => by
    cases r with
    | nil => exact h.elim
    | @cons v vs d ds r1 rr =>
      refine ⟨v, vs, rfl, ρ, ow, d, S, r1, ?_⟩
      simp only [gdCons] at h
      cases e : g d ρ with
      | exc c x => rw [e] at h; exact h.elim
      | stk => rw [e] at h; exact h.elim
      | ok ρ1 =>
        rw [e] at h
        intro σ1 H1 ow1 l1 S1 w1
        refine ⟨ρ1, ow1, ds, S1, rr.later l1, ?_⟩
        simp only [R.bind] at h
        cases e2 : gs ds ρ1 with
        | exc c x => rw [e2] at h; exact h.elim
        | stk => rw [e2] at h; exact h.elim
        | ok ρ2 => rw [e2] at h; exact fun σ2 H2 ow2 l2 S2 w2 => h σ2 H2 ow2 (l1.trans l2) S2 (w2.trans w1)
def gdTup (n : Nat) (gs : GsDen) : GDen := fun d ρ => match d with
  | .tuple ds => if ds.length = n then gs ds ρ else .stk
  | _ => .stk
theorem sg_tup {ts : List Nat} {es : List Expr} {k : Nat} {gs : GsDen} {n : Nat} {pos : Pos} (h : SGs X C es ts gs) (hn : (assignEach es X.env).length = n := by rfl) (hst : (assignEach es X.env).findIdx? (·.1) = none := by rfl) : SG X C (.Tuple es k pos) ts (gdTup n gs) := fun ct =>
  PG.imp (pg_tup ct.calm (h ct) hn hst) fun v σ H Q ⟨ρ, ow, d, S, r, h⟩ => by
    cases r with
    | @tup a xs ds e rr =>
      simp only [gdTup] at h
      split at h
      · rename_i ρ' q
        split at q
        · rename_i hl
          exact ⟨a, xs, rfl, e.sq, by rw [rr.length]; exact hl, ρ, ow, ds, S, rr, by rw [q]; exact h⟩
        · cases q
      · exact h.elim
    | _ => exact h.elim
def dAsg (da : Den) (g : GDen) : SDen := fun ρ => (da ρ).then fun r => (g r.1 r.2).then fun ρ' => .nx ρ'
theorem ss_asg {ts : List Nat} {tg e : Expr} {da : Den} {g : GDen} {pos : Pos} (ha : SE X C e da) (hg : SG X C tg ts g) (hs : swapsWithSole [tg] e pos.line X.env = pure false := by rfl) (hw : swappedStores [tg] e X.env = pure none := by rfl)
    (h1 : (assignEach [tg] X.env).map (·.2) = [assign tg X.env] := by rfl) : SS X C (.Assign [tg] e pos) (dAsg da g) := fun ct =>
  PS.imp (ps_asg (ha ct) (hg ct) hs hw h1) fun D σ H ⟨ρ, ow, S, h⟩ => ⟨ρ, ow, S, PostS.bind h fun a ρ1 b H1 ow1 l1 S1 r1 h1 => ⟨ρ1, ow1, a, S1, r1, by
    dsimp only at h1
    cases e : g a ρ1 with
    | exc c x => rw [e] at h1; exact h1.elim
    | stk => rw [e] at h1; exact h1.elim
    | ok ρ2 => rw [e] at h1; exact fun σ2 H2 ow2 l2 S2 _ => h1 σ2 H2 ow2 l2 S2⟩⟩
/-- a, b = x, y, both local -/
def dPar (i j : Nat) (ds : DenA) : SDen := fun ρ => (ds ρ).then fun r => match r.1 with
  | [x, y] => .nx ((r.2.set i (.d x)).set j (.d y))
  | _ => .stk
theorem ss_par (i j : Nat) {x y : Str} {a b : Expr} {ds : DenA} {px py pt pos : Pos} {kt k2 pt2} (ha : SA X C [a, b] ds) (hij : i ≠ j := by decide) (hi : X.N[i]? = some x := by rfl) (hj : X.N[j]? = some y := by rfl)
    (hx : X.env.scope.names.lookup x = some .local := by rfl) (hy : X.env.scope.names.lookup y = some .local := by rfl) (hbi : C.br i = false := by rfl) (hbj : C.br j = false := by rfl)
    (hw : swappedStores [.Tuple [.Name x px, .Name y py] kt pt] (.Tuple [a, b] k2 pt2) X.env = pure (some [x, y]) := by rfl)
    (hs : swapsWithSole [.Tuple [.Name x px, .Name y py] kt pt] (.Tuple [a, b] k2 pt2) pos.line X.env = pure false := by rfl) : SS X C (.Assign [.Tuple [.Name x px, .Name y py] kt pt] (.Tuple [a, b] k2 pt2) pos) (dPar i j ds) := fun ct =>
  PS.imp (ps_par ct.calm ct.nd hi hj hij hx hy (ha ct) hw hs) fun D σ H ⟨ρ, ow, S, h⟩ => ⟨ρ, ow, S, PostS.bind h fun as ρ1 bs H1 ow1 l1 S1 r1 h1 => by
    dsimp only at h1
    cases r1 with
    | nil => exact h1.elim
    | cons q1 r1 =>
      cases r1 with
      | nil => exact h1.elim
      | cons q2 r1 =>
        cases r1 with
        | nil => exact ⟨_, _, rfl, h1 _ H1 ow1 (.refl _ _) ((S1.store q1 hbi).store q2 hbj)⟩
        | cons _ _ => exact h1.elim⟩
/-- name op= e -/
abbrev Ip2 (X : Cx) (op : Operator) (f : PyData → PyData → R PyData) : Prop := Ct X → PIp X op (relR2 X.K f)
def slD : Sl → R PyData
  | .d x => .ok x
  | _ => .stk
def dAug (i : Nat) (f : PyData → PyData → R PyData) (da : Den) : SDen := fun ρ => (slD (ρ.getD i .u)).then fun x => (da ρ).then fun r => (f x r.1).then fun d => .nx (r.2.set i (.d d))
theorem ss_aug (i : Nat) {x : Str} {e : Expr} {op : Operator} {f : PyData → PyData → R PyData} {da : Den} {pos pos' : Pos} (ho : Ip2 X op f) (ha : SE X C e da) (hi : X.N[i]? = some x := by rfl) (hx : Loc X.env.scope x := by first | exact Or.inl rfl | exact Or.inr rfl) (hb : C.br i = false := by rfl)
    (hf : X.fn x = true ∨ X.env.scope.names.lookup x = some .local := by first | exact .inl rfl | exact .inr rfl) : SS X C (.AugAssign (.Name x pos') op e pos) (dAug i f da) := fun ct =>
  PS.imp (ps_aug ct.nd hi hx (ha ct) (ho ct) hf) fun D σ H ⟨ρ, ow, S, h⟩ => by
    unfold dAug at h
    cases e : ρ.getD i .u with
    | d x =>
      rw [e] at h
      have r := S.slots i
      rw [e] at r
      obtain ⟨v, h1, h2⟩ := r
      refine ⟨v, getD_some h1, ρ, ow, S, PostS.bind h fun a ρ1 b H1 ow1 l1 S1 r1 h1 => ⟨ow1, x, a, S1.nil, (h2.later l1).s, r1.s, ?_⟩⟩
      dsimp only at h1
      cases q : f x a with
      | exc c x => rw [q] at h1; exact h1.elim
      | stk => rw [q] at h1; exact h1.elim
      | ok d => rw [q] at h1; exact fun v' H' s rd => h1 _ H' ow1 (.same s) ((S1.same s).store rd hb)
    | u => rw [e] at h; exact h.elim
    | ol xs => rw [e] at h; exact h.elim
    | od xs => rw [e] at h; exact h.elim
    | tp t => rw [e] at h; exact h.elim
    | dl t => rw [e] at h; exact h.elim
    | tb => rw [e] at h; exact h.elim
end
end L2.DY

end
section
/-! DyLoop: what is walked, for, while, list comprehensions. -/
namespace L2.DY
open PySem PySem.Spec PyProof.Rows

def ItOk (K : PySem.W.Frag) (J : It) (ow : Ow) (H : Hp) (xs : List PyData) : Prop := ∀ i ow' H', Later0 ow H ow' H' → (∀ a, ow' a ≠ 0 → OwO K a (H' a)) →
  (∀ d, xs[i]? = some d → J.go i H' ∧ ∀ x H'', J.yld i H' x H'' → Same H' H'' ∧ Rp K ow' H'' x d) ∧ (xs.length ≤ i → J.stop i H')
abbrev DenI := Rho → R (List PyData × Rho)
def rdI (K : PySem.W.Frag) (C : Cy) (di : DenI) : TI := fun σ H Q => ∃ ρ ow, SR K C ρ ow σ H ∧ Post K C (fun ow H J xs => ItOk K J ow H xs) (di ρ) σ ow H Q
abbrev SI (X : Cx) (C : Cy) (tg iter : Expr) (di : DenI) : Prop := Ct X → PI X tg iter (rdI X.K C di)
theorem PI.imp {X : Cx} {tg e : Expr} {t t' : TI} (h : PI X tg e t) (i : ∀ σ H Q, t' σ H Q → t σ H Q) : PI X tg e t' := ⟨fun pins s σ H Q I hq => h.run pins s σ H Q I (i σ H Q hq)⟩

section
variable {X : Cx} {C : Cy} {K : PySem.W.Frag} {σ : St} {H : Hp} {ow : Ow} {ρ : Rho}
theorem itOk_list {a : Addr} {vs : List V} {xs : List PyData} (z : ow a = 0) (e : H a = some (.lst vs)) (r : RpA K ow H vs xs) : ItOk K (Itl K a) ow H xs := fun i ow' H' l _ => by
  have e' := (l.ap a _ z e).1
  have r' := RpA.later0 l r
  refine ⟨fun d hd => ?_, fun hl => ⟨vs, SqL.of e', by rw [r.length]; exact hl⟩⟩
  obtain ⟨v, h1, h2⟩ := r'.get hd
  refine ⟨⟨vs, v, SqL.of e', h1⟩, fun x H'' y => ?_⟩
  obtain ⟨rfl, y⟩ := y
  have := y vs (SqL.of e')
  rw [h1] at this; cases this
  exact ⟨.refl _, h2⟩
theorem itOk_tup {a : Addr} {vs : List V} {xs : List PyData} (e : SqTo K ow H a vs) (r : RpA K ow H vs xs) : ItOk K (Itt K a) ow H xs := fun i ow' H' l _ => by
  have e' := (e.later0 l).sq
  have r' := RpA.later0 l r
  refine ⟨fun d hd => ?_, fun hl => ⟨vs, e', by rw [r.length]; exact hl⟩⟩
  obtain ⟨v, h1, h2⟩ := r'.get hd
  refine ⟨⟨vs, v, e', h1⟩, fun x H'' y => ?_⟩
  obtain ⟨rfl, y⟩ := y
  have := y vs e'
  rw [h1] at this; cases this
  exact ⟨.refl _, h2⟩
def rngD (lo : Int) (n : Nat) : List PyData := (List.range n).map fun (i : Nat) => .int (lo + (i : Int))
theorem itOk_rng (lo : Int) (n : Nat) : ItOk K (Itr lo n) ow H (rngD lo n) := fun i ow' H' l _ => by
  have hl : (rngD lo n).length = n := by simp [rngD]
  refine ⟨fun d hd => ?_, fun h => by rw [hl] at h; exact h⟩
  have hi : i < n := by
    have := (List.getElem?_eq_some_iff.mp hd).1
    rwa [hl] at this
  have hd' : d = .int (lo + i) := by
    simp [rngD, hi] at hd
    exact hd.symm
  subst hd'
  refine ⟨hi, fun x H'' y => ?_⟩
  obtain ⟨rfl, rfl⟩ := y
  exact ⟨.refl _, .int _⟩
/-- the items of what is walked -/
def itemsOf : PyData → R (List PyData)
  | .list xs => .ok xs
  | .tuple xs => .ok xs
  | .str x => .ok (x.cps.toList.map fun c => .str ⟨#[c]⟩)
  | _ => .stk
theorem itOk_str {x : Str} (hx : SOk x) : ItOk K (Its x) ow H (x.cps.toList.map fun c => .str ⟨#[c]⟩) := fun i ow' H' l _ => by
  have hl : (x.cps.toList.map fun c => PyData.str ⟨#[c]⟩).length = x.length := by rw [List.length_map, Array.length_toList]; rfl
  refine ⟨fun d hd => ?_, fun h => by rw [hl] at h; exact h⟩
  rw [List.getElem?_map] at hd
  obtain ⟨c, hc, rfl⟩ := Option.map_eq_some_iff.mp hd
  have hm : c ∈ x.cps.toList := List.mem_of_getElem? hc
  have hi : i < x.length := by
    have := (List.getElem?_eq_some_iff.mp hc).1
    rwa [Array.length_toList] at this
  refine ⟨hi, fun y H'' q => ?_⟩
  obtain ⟨rfl, c', h1, rfl⟩ := q
  have h1' : x.cps.toList[i]? = some c' := by simpa using h1
  rw [hc] at h1'
  cases h1'
  exact ⟨.refl _, .str _ (hx.sign hm)⟩
/-- a list, a tuple, a text is walked -/
def dSeqI (da : Den) : DenI := fun ρ => (da ρ).bind fun r => (itemsOf r.1).bind fun xs => .ok (xs, r.2)
theorem si_seq {tg e : Expr} {da : Den} (ha : SE X C e da) : SI X C tg e (dSeqI da) := fun ct => by
  refine ⟨fun pins s σ H Rr I h => ?_⟩
  obtain ⟨ρ, ow, S, h⟩ := h
  refine thn ((ha ct).run pins s σ H (fun v H1 => ∃ ow1 d ρ1, Rp X.K ow1 H1 v d ∧ SR X.K C ρ1 ow1 σ H1 ∧ Post X.K C (fun ow H J xs => ItOk X.K J ow H xs) ((itemsOf d).bind fun xs => .ok (xs, ρ1)) σ ow1 H1 Rr) I ⟨ρ, ow, S, Post.bind h fun a ρ1 b H1 ow1 l1 S1 r1 h1 => ⟨ow1, a, ρ1, r1, S1, h1⟩⟩) fun v s1 ⟨x, H1, I1, rv, ow1, d, ρ1, r1, S1, h1⟩ => ?_
  cases r1 with
  | @lst a xs ds z e r =>
    cases rv
    have q : Rr (Itl X.K a) H1 := h1 _ H1 ow1 (.refl _ _) S1 (itOk_list z e r)
    obtain ⟨its, rv, p, hz⟩ := I1.list (SqL.of e)
    refine wpAny_pyIter_list p.isList ?_
    refine ⟨s1.heap.objs.size, [s1.heap.objs.size], _, _, H1, rfl, I1.kept (t' := s1.toks) fun b o e => Heap.get?_push_of_some _ e, turn_list a _, ⟨_, Heap.get?_push_size _ rfl, rfl, rfl⟩, fun b hb => ?_, q⟩
    have e : b = s1.heap.objs.size := by simpa using hb
    subst e
    exact I1.fpOk (Nat.le_refl _) (I1.hok.fresh (Nat.le_refl _))
  | @tup a xs ds e r =>
    cases rv
    have q : Rr (Itt X.K a) H1 := h1 _ H1 ow1 (.refl _ _) S1 (itOk_tup e r)
    obtain ⟨its, rv, p, hz⟩ := I1.tuple e.sq
    refine wpAny_pyIter_tuple (show s1.heap.IsTuple a its.toArray from p) ?_
    refine ⟨s1.heap.objs.size, [s1.heap.objs.size], _, _, H1, rfl, I1.kept (t' := s1.toks) fun b o e => Heap.get?_push_of_some _ e, turn_tuple a _, ⟨_, Heap.get?_push_size _ rfl, rfl, rfl⟩, fun b hb => ?_, q⟩
    have e : b = s1.heap.objs.size := by simpa using hb
    subst e
    exact I1.fpOk (Nat.le_refl _) (I1.hok.fresh (Nat.le_refl _))
  | str z hz =>
    obtain ⟨t, rfl⟩ := rv
    have q : Rr (Its z) H1 := h1 _ H1 ow1 (.refl _ _) S1 (itOk_str hz)
    cases ha : z.cps.all (· < 128)
    · exact wpAny_pyIter_wide ha (pi_one (tk := s1.toks) I1 _ (turn_str _ z t "str_iterator" (.inr rfl)) ⟨_, Heap.get?_push_size _ rfl, rfl, rfl⟩ q)
    · exact wpAny_pyIter_ascii ha (pi_one (tk := s1.toks) I1 _ (turn_str _ z t "str_ascii_iterator" (.inl rfl)) ⟨_, Heap.get?_push_size _ rfl, rfl, rfl⟩ q)
  | _ => exact h1.elim
def inR (i : Int) : Bool := decide (-(2 ^ 62) ≤ i) && decide (i < 2 ^ 62)
theorem inR_ok {i : Int} (h : inR i = true) : -(2 ^ 62) ≤ i ∧ i < 2 ^ 62 := by unfold inR at h; simpa using h
def dRng1 (ds : DenA) : DenI := fun ρ => (ds ρ).bind fun r => match r.1 with
  | [.int j] => if inR j then .ok (rngD 0 j.toNat, r.2) else .stk
  | _ => .stk
def dRng2 (ds : DenA) : DenI := fun ρ => (ds ρ).bind fun r => match r.1 with
  | [.int i, .int j] => if inR i && inR j then .ok (rngD i (j - i).toNat, r.2) else .stk
  | _ => .stk
theorem si_rng1 {tg a : Expr} {ds : DenA} {x : Str} {p pos : Pos} (ha : SA X C [a] ds) (hx : x = ("range" : Str)) (hg : Gl X x) (hm : X.mg x = none) (hs : starEach [a] X.env = [(false, eval a X.env)] := by rfl) : SI X C tg (.Call (.Name x p) [a] [] pos) (dRng1 ds) := fun ct => by
  subst hx
  refine PI.imp (pi_range1 hg hm (ha ct) hs) fun σ H Q ⟨ρ, ow, S, h⟩ => ⟨ρ, ow, S, Post.bind h fun as ρ1 vs H1 ow1 l1 S1 r1 h1 => ?_⟩
  dsimp only at h1
  cases r1 with
  | nil => exact h1.elim
  | cons q rr =>
    cases rr with
    | cons _ _ => cases q <;> exact h1.elim
    | nil =>
      cases q with
      | int j =>
        dsimp only at h1
        split at h1
        · rename_i hj
          exact ⟨j, rfl, (inR_ok hj).1, (inR_ok hj).2, h1 _ H1 ow1 (.refl _ _) S1 (itOk_rng 0 _)⟩
        · exact h1.elim
      | _ => exact h1.elim
theorem si_rng2 {tg a b : Expr} {ds : DenA} {x : Str} {p pos : Pos} (ha : SA X C [a, b] ds) (hx : x = ("range" : Str)) (hg : Gl X x) (hm : X.mg x = none) (hs : starEach [a, b] X.env = [(false, eval a X.env), (false, eval b X.env)] := by rfl) (hs2 : starEach [b] X.env = [(false, eval b X.env)] := by rfl) : SI X C tg (.Call (.Name x p) [a, b] [] pos) (dRng2 ds) := fun ct => by
  subst hx
  refine PI.imp (pi_range2 hg hm (ha ct) hs hs2) fun σ H Q ⟨ρ, ow, S, h⟩ => ⟨ρ, ow, S, Post.bind h fun as ρ1 vs H1 ow1 l1 S1 r1 h1 => ?_⟩
  dsimp only at h1
  cases r1 with
  | nil => exact h1.elim
  | cons q rr =>
    cases rr with
    | nil => cases q <;> exact h1.elim
    | cons q2 rr =>
      cases rr with
      | cons _ _ => cases q <;> first | exact h1.elim | (cases q2 <;> exact h1.elim)
      | nil =>
        cases q with
        | int i =>
          cases q2 with
          | int j =>
            dsimp only at h1
            split at h1
            · rename_i hj
              simp only [Bool.and_eq_true] at hj
              exact ⟨i, j, rfl, ⟨(inR_ok hj.1).1, (inR_ok hj.1).2, (inR_ok hj.2).1, (inR_ok hj.2).2⟩, h1 _ H1 ow1 (.refl _ _) S1 (itOk_rng i _)⟩
            · exact h1.elim
          | _ => exact h1.elim
        | _ => exact h1.elim

/-! ### for -/
def forLoop (g : GDen) (b : SDen) : List PyData → SDen
  | [], ρ => .nx ρ
  | x :: xs, ρ => (g x ρ).then fun ρ1 => match b ρ1 with
    | .nx ρ2 => forLoop g b xs ρ2
    | .ct ρ2 => forLoop g b xs ρ2
    | .bk ρ2 => .nx ρ2
    | .rt d ρ2 => .rt d ρ2
    | .stk => .stk
def dFor (di : DenI) (g : GDen) (b : SDen) : SDen := fun ρ => (di ρ).then fun r => forLoop g b r.1 r.2
theorem ss_for {ts : List Nat} {tg iter : Expr} {body : List Stmt} {di : DenI} {g : GDen} {b : SDen} {pos : Pos} (hi : SI X C tg iter di) (hg : SG X C tg ts g) (hb : SSs X C body b) (hp : PassesOwn (model X.prog X.w) X.A X.env X.xe := by exact PassesOwn.never)
    (hs : ∀ x, foldedSetIterable iter X.env x = pure x := by intro _; rfl) : SS X C (.For tg iter body [] pos) (dFor di g b) := fun ct =>
  PS.imp (ps_for hp ct.calm (hi ct) (hg ct) (hb ct) hs) fun D σ H ⟨ρ, ow, S, h⟩ => ⟨ρ, ow, S, PostS.bind h fun xs ρ1 J H1 ow1 l1 S1 r1 h1 => by
    dsimp only at h1
    refine ⟨fun i m σ H => m = xs.length - i ∧ i ≤ xs.length ∧ ∃ ρ ow, SR X.K C ρ ow σ H ∧ Later ow1 H1 ow H ∧ PostS X.K C (forLoop g b (xs.drop i) ρ) ow H D, ⟨xs.length, by simp, Nat.zero_le _, ρ1, ow1, S1, .refl _ _, h1⟩, ?_⟩
    rintro i m σ2 H2 ⟨rfl, hi, ρ2, ow2, S2, l2, h2⟩
    obtain ⟨q1, q2⟩ := r1 i ow2 H2 l2.z S2.trk
    by_cases hlt : i < xs.length
    · rw [List.drop_eq_getElem_cons hlt] at h2
      obtain ⟨go, yld⟩ := q1 xs[i] (List.getElem?_eq_getElem hlt)
      refine .inr ⟨go, fun σ' H' => i + 1 ≤ xs.length ∧ ∃ ρ ow, SR X.K C ρ ow σ' H' ∧ Later ow1 H1 ow H' ∧ PostS X.K C (forLoop g b (xs.drop (i + 1)) ρ) ow H' D, fun σ' H' hN => ⟨xs.length - (i + 1), by omega, rfl, hN.1, hN.2⟩, fun x H' y => ?_⟩
      obtain ⟨sm, rx⟩ := yld x H' y
      refine ⟨ρ2, ow2, xs[i], S2.same sm, rx, ?_⟩
      simp only [forLoop] at h2
      cases e : g xs[i] ρ2 with
      | exc c x => rw [e] at h2; exact h2.elim
      | stk => rw [e] at h2; exact h2.elim
      | ok ρ3 =>
        rw [e] at h2
        intro σ3 H3 ow3 l3 S3 _
        have l23 : Later ow2 H2 ow3 H3 := (Later.same sm).trans l3
        refine ⟨ρ3, ow3, S3, ?_⟩
        have h3 := PostS.later l23 h2
        simp only [R.then] at h3
        cases e2 : b ρ3 with
        | nx ρ4 => rw [e2] at h3; exact fun σ4 H4 ow4 l4 S4 => ⟨hlt, ρ4, ow4, S4, (l2.trans l23).trans l4, PostS.later l4 h3⟩
        | ct ρ4 => rw [e2] at h3; exact fun σ4 H4 ow4 l4 S4 => ⟨hlt, ρ4, ow4, S4, (l2.trans l23).trans l4, PostS.later l4 h3⟩
        | bk ρ4 => rw [e2] at h3; exact h3
        | rt d ρ4 => rw [e2] at h3; exact h3
        | stk => rw [e2] at h3; exact h3
    · have e : i = xs.length := by omega
      subst e
      rw [List.drop_length] at h2
      exact .inl ⟨q2 (Nat.le_refl _), h2 σ2 H2 ow2 (.refl _ _) S2⟩⟩

/-! ### while -/
def whLoop (c : DenB) (b : SDen) : Nat → SDen
  | 0, _ => .stk
  | n + 1, ρ => (c ρ).then fun r => if r.1 then (match b r.2 with
    | .nx ρ2 => whLoop c b n ρ2
    | .ct ρ2 => whLoop c b n ρ2
    | .bk ρ2 => .nx ρ2
    | .rt d ρ2 => .rt d ρ2
    | .stk => .stk) else .nx r.2
def dWhile (fuel : Rho → Nat) (c : DenB) (b : SDen) : SDen := fun ρ => whLoop c b (fuel ρ) ρ
theorem ss_while (fuel : Rho → Nat) {c : Expr} {body : List Stmt} {tc : DenB} {b : SDen} {pos : Pos} (hc : ST X C c tc) (hb : SSs X C body b) (hp : PassesOwn (model X.prog X.w) X.A X.env X.xe := by exact PassesOwn.never) : SS X C (.While c body [] pos) (dWhile fuel tc b) := fun ct =>
  PS.imp (ps_while hp (hc ct) (hb ct)) fun D σ H ⟨ρ, ow, S, h⟩ => by
    refine ⟨fun m σ H => ∃ ρ ow, SR X.K C ρ ow σ H ∧ PostS X.K C (whLoop tc b m ρ) ow H D, ⟨fuel ρ, ρ, ow, S, h⟩, ?_⟩
    rintro m σ2 H2 ⟨ρ2, ow2, S2, h2⟩
    cases m with
    | zero => exact h2.elim
    | succ n =>
      simp only [whLoop] at h2
      refine ⟨ρ2, ow2, S2, PostS.bind h2 fun a ρ1 k H1 ow1 l1 S1 r1 h1 => ?_⟩
      subst r1
      dsimp only at h1
      cases k with
      | false =>
        rw [if_neg Bool.false_ne_true] at h1 ⊢
        exact h1 σ2 H1 ow1 (.refl _ _) S1
      | true =>
        rw [if_pos rfl] at h1 ⊢
        refine ⟨fun σ' H' => ∃ ρ ow, SR X.K C ρ ow σ' H' ∧ PostS X.K C (whLoop tc b n ρ) ow H' D, fun σ' H' hN => ⟨n, Nat.lt_succ_self _, hN⟩, ρ1, ow1, S1, ?_⟩
        cases e2 : b ρ1 with
        | nx ρ4 => rw [e2] at h1; exact fun σ4 H4 ow4 l4 S4 => ⟨ρ4, ow4, S4, PostS.later l4 h1⟩
        | ct ρ4 => rw [e2] at h1; exact fun σ4 H4 ow4 l4 S4 => ⟨ρ4, ow4, S4, PostS.later l4 h1⟩
        | bk ρ4 => rw [e2] at h1; exact h1
        | rt d ρ4 => rw [e2] at h1; exact h1
        | stk => rw [e2] at h1; exact h1
end
end L2.DY

end
section
/-! DyComp: list comprehensions. -/
namespace L2.DY
open PySem PySem.Spec PyProof.Rows

/-- the slots of a comprehension's own names forgotten -/
def wipeR (ρ : Rho) : List Nat → Rho
  | [] => ρ
  | v :: vs => (wipeR ρ vs).set v .u
/-- .. and put back -/
def restR (ρ1 : Rho) (ρ : Rho) : List Nat → Rho
  | [] => ρ
  | v :: vs => (restR ρ1 ρ vs).set v (ρ1.getD v .u)
theorem wipeR_length (ρ : Rho) : ∀ vs : List Nat, (wipeR ρ vs).length = ρ.length
  | [] => rfl
  | v :: vs => by unfold wipeR; rw [List.length_set, wipeR_length ρ vs]
theorem restR_length (ρ1 ρ : Rho) : ∀ vs : List Nat, (restR ρ1 ρ vs).length = ρ.length
  | [] => rfl
  | v :: vs => by unfold restR; rw [List.length_set, restR_length ρ1 ρ vs]
theorem wipeR_getD (ρ : Rho) : ∀ (vs : List Nat) (j : Nat), (wipeR ρ vs).getD j .u = if j ∈ vs then .u else ρ.getD j .u
  | [], j => by simp [wipeR]
  | v :: vs, j => by
    unfold wipeR
    rw [getD_set, wipeR_getD ρ vs j, wipeR_length]
    by_cases e : v = j
    · subst e
      by_cases hl : v < ρ.length
      · simp [hl]
      · simp [hl]
    · have : ¬ j = v := fun z => e z.symm
      simp [e, this]
theorem restR_getD (ρ1 ρ : Rho) (hl : ρ1.length = ρ.length) : ∀ (vs : List Nat) (j : Nat), (restR ρ1 ρ vs).getD j .u = if j ∈ vs then ρ1.getD j .u else ρ.getD j .u
  | [], j => by simp [restR]
  | v :: vs, j => by
    unfold restR
    rw [getD_set, restR_getD ρ1 ρ hl vs j, restR_length]
    by_cases e : v = j
    · subst e
      by_cases h : v < ρ.length
      · simp [h]
      · have h1 : ¬ v < ρ1.length := by omega
        simp [h, h1]
    · have : ¬ j = v := fun z => e z.symm
      simp [e, this]
theorem wipe_getD (σ : St) (vs : List Nat) (j : Nat) : (wipe σ vs).getD j none = if j ∈ vs then none else σ.getD j none := by
  rw [List.getD_eq_getElem?_getD, List.getD_eq_getElem?_getD, wipe_get]
  by_cases h : j < σ.length
  · by_cases hm : j ∈ vs <;> simp [h, hm]
  · rw [List.getElem?_eq_none (by omega)]
    by_cases hm : j ∈ vs <;> simp [h, hm]
/-- plain slots: nothing, or frozen data -/
def plainSl : Sl → Bool
  | .u => true
  | .d _ => true
  | _ => false

section
variable {X : Cx} {C : Cy} {K : PySem.W.Frag} {σ : St} {H : Hp} {ow : Ow} {ρ : Rho}
theorem SR.wiped (S : SR K C ρ ow σ H) (vs : List Nat) (hb : ∀ i ∈ vs, C.br i = false) : SR K C (wipeR ρ vs) ow (wipe σ vs) H := by
  refine ⟨by rw [wipeR_length, wipe_length]; exact S.len, fun j => ?_, S.ent, S.out, S.trk, S.dom, fun j hj => ?_⟩
  · rw [wipeR_getD, wipe_getD]
    by_cases h : j ∈ vs
    · rw [if_pos h, if_pos h]; exact True.intro
    · rw [if_neg h, if_neg h]; exact S.slots j
  · rw [wipe_getD]
    have : ¬ j ∈ vs := fun z => by rw [hb j z] at hj; cases hj
    rw [if_neg this]
    exact S.par j hj
theorem SR.rested {ρ1 ρ2 : Rho} {ow1 ow2 : Ow} {H1 H2 : Hp} {vs : List Nat} (S1 : SR K C ρ1 ow1 σ H1) (l : Later ow1 H1 ow2 H2) (S2 : SR K C (wipeR ρ2 vs) ow2 (wipe σ vs) H2) (hp : ∀ i ∈ vs, plainSl (ρ1.getD i .u) = true) : SR K C (restR ρ1 ρ2 vs) ow2 σ H2 := by
  have hl : ρ2.length = σ.length := by have := S2.len; rwa [wipeR_length, wipe_length] at this
  refine ⟨by rw [restR_length]; exact hl, fun j => ?_, S2.ent, S2.out, S2.trk, S2.dom, S1.par⟩
  rw [restR_getD _ _ (by rw [S1.len, hl])]
  by_cases h : j ∈ vs
  · rw [if_pos h]
    have q := S1.slots j
    have p := hp j h
    cases e : ρ1.getD j .u with
    | u => exact True.intro
    | d x => rw [e] at q; obtain ⟨v, h1, h2⟩ := q; exact ⟨v, h1, h2.later l⟩
    | ol xs => rw [e] at p; cases p
    | od xs => rw [e] at p; cases p
    | tp t => rw [e] at p; cases p
    | dl t => rw [e] at p; cases p
    | tb => rw [e] at p; cases p
  · rw [if_neg h]
    have q := S2.slots j
    rw [wipeR_getD, wipe_getD, if_neg h, if_neg h] at q
    exact q
/-- the list that is being made: ours alone -/
theorem SR.alloc (S : SR K C ρ ow σ H) {D : Addr} {o : HO} (h : H D = none) (nt : ∀ a, ¬ BadO K a o := by exact nofun) : SR K C ρ (own ow D 1) σ (upd H D o) := by
  have h0 := S.fresh h
  have l : Later0 ow H (own ow D 1) (upd H D o) := .mk fun a ob z e n => by
    have ne : a ≠ D := ne_of_none e h
    exact ⟨by rw [upd_ne ne]; exact e, by rw [own_ne ne]; exact z⟩
  refine ⟨S.len, fun j => (S.slots j).other0 l fun a ob z e => ?_, .mk fun a ob z e n => ?_, fun a z => ?_, fun a z => ?_, fun a z => ?_, S.par⟩
  · have ne : a ≠ D := ne_of_none e h
    exact ⟨by rw [upd_ne ne]; exact e, by rw [own_ne ne]; exact z⟩
  · obtain ⟨q1, q2⟩ := S.ent.ap a ob z e
    have ne : a ≠ D := ne_of_none q1 h
    exact ⟨by rw [upd_ne ne]; exact q1, by rw [own_ne ne]; exact q2⟩
  · have q := S.out a z
    rw [own_ne]
    · exact q
    · intro e; subst e; omega
  · by_cases e : a = D
    · subst e; rw [upd_same]; exact .of rfl nt
    · rw [upd_ne e]; rw [own_ne e] at z; exact S.trk a z
  · by_cases e : a = D
    · subst e; rw [upd_same]; exact fun z => nomatch z
    · rw [upd_ne e]; exact S.dom a z
/-- .. and written -/
theorem SR.put (S : SR K C ρ ow σ H) {D : Addr} {o : HO} (h : ow D = 1) (h0 : C.H0 D = none) (nt : ∀ a, ¬ BadO K a o := by exact nofun) : SR K C ρ ow σ (upd H D o) := by
  have l : Later0 ow H ow (upd H D o) := .mk fun a ob z e n => by
    have ne : a ≠ D := fun q => by subst q; omega
    exact ⟨by rw [upd_ne ne]; exact e, z⟩
  refine ⟨S.len, fun j => (S.slots j).other0 l fun a ob z e => ?_, .mk fun a ob z e n => ?_, S.out, fun a z => ?_, fun a z => ?_, S.par⟩
  · have ne : a ≠ D := fun q => by subst q; omega
    exact ⟨by rw [upd_ne ne]; exact e, z⟩
  · rw [upd_ne (ne_of_none e h0)]; exact S.ent.ap a ob z e
  · by_cases e : a = D
    · subst e; rw [upd_same]; exact .of rfl nt
    · rw [upd_ne e]; exact S.trk a z
  · by_cases e : a = D
    · subst e; rw [upd_same]; exact fun z => nomatch z
    · rw [upd_ne e]; exact S.dom a z
/-- .. and done -/
theorem SR.freed (S : SR K C ρ ow σ H) {D : Addr} (h : ow D = 1) (h0 : C.ow0 D ≠ 1) (h1 : C.H0 D = none) : SR K C ρ (own ow D 0) σ H := by
  have l : Later0 ow H (own ow D 0) H := .mk fun a ob z e n => by
    have ne : a ≠ D := fun q => by subst q; omega
    exact ⟨e, by rw [own_ne ne]; exact z⟩
  refine ⟨S.len, fun j => (S.slots j).other0 l fun a ob z e => ?_, .mk fun a ob z e n => ⟨(S.ent.ap a ob z e).1, by rw [own_ne (ne_of_none e h1)]; exact (S.ent.ap a ob z e).2⟩, fun a z => ?_, fun a z => ?_, S.dom, S.par⟩
  · have ne : a ≠ D := fun q => by subst q; omega
    exact ⟨e, by rw [own_ne ne]; exact z⟩
  · have ne : a ≠ D := fun q => by subst q; exact h0 z
    rw [own_ne ne]; exact S.out a z
  · have ne : a ≠ D := fun q => by subst q; exact z own_same
    rw [own_ne ne] at z; exact S.trk a z

/-- a comprehension's turns -/
def lcLoop (vs : List Nat) (g : GDen) (t : DenB) (e : Den) : List PyData → Rho → R (List PyData × Rho)
  | [], ρ => .ok ([], ρ)
  | x :: xs, ρ => (g x (wipeR ρ vs)).bind fun ρ1 => (t ρ1).bind fun r => if r.1 then (e r.2).bind fun q => (lcLoop vs g t e xs q.2).bind fun z => .ok (q.1 :: z.1, z.2) else lcLoop vs g t e xs r.2
def dLc (vs : List Nat) (di : DenI) (g : GDen) (t : DenB) (e : Den) : Den := fun ρ => (di ρ).bind fun r =>
  if r.1.length ≤ lineN && vs.all (fun i => plainSl (r.2.getD i .u)) then (lcLoop vs g t e r.1 r.2).bind fun q => .ok (.list q.1, restR r.2 q.2 vs) else .stk
theorem rd_lc {vs : List Nat} {di : DenI} {g : GDen} {t : DenB} {e : Den} {Q : VK} (hb : ∀ i ∈ vs, C.br i = false) (h : rdE K C (dLc vs di g t e) σ H Q) : tLc (rdI K C di) (rdG K C vs g) (rdB K C t) (rdE K C e) vs σ H Q := by
  obtain ⟨ρ, ow, S, h⟩ := h
  refine ⟨ρ, ow, S, Post.bind h fun xs ρ1 J H1 ow1 l1 S1 r1 h1 D hD => ?_⟩
  dsimp only at h1
  split at h1
  · rename_i hc
    simp only [Bool.and_eq_true, decide_eq_true_eq, List.all_eq_true] at hc
    obtain ⟨hz, hp⟩ := hc
    have d0 : C.H0 D = none := by
      cases q : C.H0 D with
      | none => rfl
      | some o => exact absurd hD (S1.dom D (by rw [q]; exact fun z => nomatch z))
    have w0 : C.ow0 D ≠ 1 := fun z => by
      have := S1.out D z
      have := S1.fresh hD
      omega
    -- what holds between two turns
    refine ⟨fun i m H => m = xs.length - i ∧ i ≤ xs.length ∧ ∃ ρ2 ow2 us acc, SR K C (wipeR ρ2 vs) ow2 (wipe σ vs) H ∧ ow2 D = 1 ∧ H D = some (.lst us) ∧ RpA K ow2 H us acc ∧ us.length ≤ i ∧
      Later ow1 H1 ow2 H ∧ Post K C (Rp K) ((lcLoop vs g t e (xs.drop i) ρ2).bind fun q => .ok (.list (acc ++ q.1), restR ρ1 q.2 vs)) σ ow1 H1 Q,
      ⟨xs.length, by simp, Nat.zero_le _, ρ1, own ow1 D 1, [], [], (S1.wiped vs hb).alloc hD, own_same, upd_same, .nil, Nat.le_refl _, .mk fun a o z q n => ?_, ?_⟩, ?_⟩
    · have ne : a ≠ D := ne_of_none q hD
      exact ⟨by rw [upd_ne ne]; exact q, by rw [own_ne ne]⟩
    · exact h1
    · rintro i m H2 ⟨rfl, hi, ρ2, ow2, us, acc, S2, o2, hD2, ra, hu, l2, h2⟩
      have lJ : Later ow1 H1 ow2 H2 := l2
      obtain ⟨q1, q2⟩ := r1 i ow2 H2 lJ.z S2.trk
      by_cases hlt : i < xs.length
      · rw [List.drop_eq_getElem_cons hlt] at h2
        obtain ⟨go, yld⟩ := q1 xs[i] (List.getElem?_eq_getElem hlt)
        refine .inr ⟨go, fun H' => i + 1 ≤ xs.length ∧ ∃ ρ2 ow2 us acc, SR K C (wipeR ρ2 vs) ow2 (wipe σ vs) H' ∧ ow2 D = 1 ∧ H' D = some (.lst us) ∧ RpA K ow2 H' us acc ∧ us.length ≤ i + 1 ∧
          Later ow1 H1 ow2 H' ∧ Post K C (Rp K) ((lcLoop vs g t e (xs.drop (i + 1)) ρ2).bind fun q => .ok (.list (acc ++ q.1), restR ρ1 q.2 vs)) σ ow1 H1 Q,
          fun H' hN => ⟨xs.length - (i + 1), by omega, rfl, hN.1, hN.2⟩, fun x H' y => ?_⟩
        obtain ⟨sm, rx⟩ := yld x H' y
        refine ⟨wipeR ρ2 vs, ow2, xs[i], S2.same sm, rx, ?_⟩
        simp only [lcLoop] at h2
        cases e1 : g xs[i] (wipeR ρ2 vs) with
        | exc c x => rw [e1] at h2; exact h2.elim
        | stk => rw [e1] at h2; exact h2.elim
        | ok ρ3 =>
          rw [e1] at h2
          intro σ3 H3 ow3 l3 S3 w3
          have l23 : Later ow2 H2 ow3 H3 := (Later.same sm).trans l3
          simp only [R.bind_ok] at h2
          refine ⟨w3.trans (by
            refine List.ext_getElem? fun j => ?_
            rw [wipe_get, wipe_length]
            by_cases q : j ∈ vs ∧ j < σ.length
            · rw [if_pos q, wipe_get, if_pos q]
            · rw [if_neg q]), ρ3, ow3, S3, ?_⟩
          cases e2 : t ρ3 with
          | exc c x => rw [e2] at h2; exact h2.elim
          | stk => rw [e2] at h2; exact h2.elim
          | ok r =>
            obtain ⟨k, ρ4⟩ := r
            rw [e2] at h2
            simp only [R.bind_ok] at h2
            intro b H4 ow4 l4 S4 rb
            subst rb
            -- what was wanted, later: the list at D is still ours
            have wb : ∀ {ρ' : Rho} {σ' : St} {ow' : Ow} {H' : Hp}, wipe σ' vs = wipe σ vs → SR K C ρ' ow' σ' H' → SR K C (wipeR ρ' vs) ow' (wipe σ vs) H' := fun {ρ' σ' ow' H'} e S' => by
              have := S'.wiped vs hb
              rwa [e] at this
            have w3' : wipe σ3 vs = wipe σ vs := w3.trans (by
              refine List.ext_getElem? fun j => ?_
              rw [wipe_get, wipe_length]
              by_cases q : j ∈ vs ∧ j < σ.length
              · rw [if_pos q, wipe_get, if_pos q]
              · rw [if_neg q])
            have l24 : Later ow2 H2 ow4 H4 := l23.trans l4
            cases b with
            | false =>
              rw [if_neg Bool.false_ne_true] at h2 ⊢
              exact ⟨hlt, ρ4, ow4, us, acc, wb w3' S4, by rw [(l24.ap D _ (by omega) hD2).2]; exact o2, (l24.ap D _ (by omega) hD2).1, ra.later l24, by omega, .mk fun a o z q n => by
                obtain ⟨p1, p2⟩ := l2.ap a o z q
                obtain ⟨p3, p4⟩ := l24.ap a o (by omega) p1 (fun z => n (by omega))
                exact ⟨p3, p4.trans p2⟩, h2⟩
            | true =>
              rw [if_pos rfl] at h2 ⊢
              refine ⟨ρ4, ow4, S4, ?_⟩
              cases e5 : e ρ4 with
              | exc c x => rw [e5] at h2; exact h2.elim
              | stk => rw [e5] at h2; exact h2.elim
              | ok r =>
                obtain ⟨y, ρ5⟩ := r
                rw [e5] at h2
                simp only [R.bind_ok] at h2
                intro yv H5 ow5 l5 S5 ry
                have l25 : Later ow2 H2 ow5 H5 := l24.trans l5
                obtain ⟨d5, o5⟩ := l25.ap D _ (by omega) hD2
                rw [o2] at o5
                have lput : Later0 ow5 H5 ow5 (upd H5 D (.lst (us ++ [yv]))) := .mk fun a o z q n => by
                  have ne : a ≠ D := fun q => by subst q; omega
                  exact ⟨by rw [upd_ne ne]; exact q, z⟩
                refine ⟨us, d5, by rw [lineN_eq]; omega, hlt, ρ5, ow5, us ++ [yv], acc ++ [y], (wb w3' S5).put o5 d0, o5, upd_same, RpA.later0 lput ((ra.later l25).append (.cons ry .nil)), by rw [List.length_append]; simp; omega, .mk fun a o z q n => ?_, ?_⟩
                · obtain ⟨p1, p2⟩ := l2.ap a o z q
                  obtain ⟨p3, p4⟩ := l25.ap a o (by omega) p1 (fun z => n (by omega))
                  have ne : a ≠ D := ne_of_none q hD
                  exact ⟨by rw [upd_ne ne]; exact p3, p4.trans p2⟩
                · have : ∀ (r : R (List PyData × Rho)), ((r.bind fun z => R.ok (y :: z.1, z.2)).bind fun q => R.ok (PyData.list (acc ++ q.1), restR ρ1 q.2 vs)) = r.bind fun q => .ok (.list ((acc ++ [y]) ++ q.1), restR ρ1 q.2 vs) := fun r => by
                    cases r with
                    | ok r => simp [R.bind]
                    | exc c x => rfl
                    | stk => rfl
                  rw [← this]; exact h2
      · have ei : i = xs.length := by omega
        subst ei
        rw [List.drop_length] at h2
        refine .inl ⟨q2 (Nat.le_refl _), ?_⟩
        simp only [lcLoop, R.bind_ok, List.append_nil] at h2
        have S3 : SR K C (restR ρ1 ρ2 vs) ow2 σ H2 := S1.rested lJ S2 hp
        have l3 : Later0 ow2 H2 (own ow2 D 0) H2 := .mk fun a o z q n => by
          have ne : a ≠ D := fun q => by subst q; omega
          exact ⟨q, by rw [own_ne ne]; exact z⟩
        have lf : Later ow1 H1 (own ow2 D 0) H2 := .mk fun a o z q n => by
          have ne : a ≠ D := ne_of_none q hD
          exact ⟨(l2.ap a o z q).1, by rw [own_ne ne]; exact (l2.ap a o z q).2⟩
        exact h2 _ H2 (own ow2 D 0) lf (S3.freed o2 w0 d0) (.lst own_same hD2 (RpA.later0 l3 ra))
  · exact h1.elim
end
end L2.DY

namespace L2.DY
open PySem PySem.Spec PyProof.Rows
section
variable {X : Cx} {C : Cy}
theorem Ct.blk (ct : Ct X) {s : Shared} {H : Hp} {scope : Scope} {env : Env} {fp : List Addr} : Ct (X.blk s H scope env fp) := ⟨ct.calm, ct.nd, ct.un, ct.hd⟩
abbrev SF (X : Cx) (C : Cy) (ifs : List Expr) (t : DenB) : Prop := Ct X → PTs X ifs (rdB X.K C t)
theorem PTs.imp {X : Cx} {e : List Expr} {t t' : TT} (h : PTs X e t) (i : ∀ σ H Q, t' σ H Q → t σ H Q) : PTs X e t' := ⟨fun pins s σ H Q I hq => h.run pins s σ H Q I (i σ H Q hq)⟩
def dYes : DenB := fun ρ => .ok (true, ρ)
theorem sf_nil : SF X C [] dYes := fun ct => PTs.imp pts_nil fun σ H Q ⟨ρ, ow, S, h⟩ => h true H ow (.refl _ _) S rfl
theorem sf_one {c : Expr} {t : DenB} (h : ST X C c t) : SF X C [c] t := fun ct => pts_one (h ct)
theorem se_lc (vs : List Nat) {own : List (Str × Nat)} {elt tg iter : Expr} {ifs : List Expr} {scope : Scope} {pos : Pos} {di : DenI} {g : GDen} {t : DenB} {e : Den} (ok : BlkOk X.N X.env.scope scope own) (hv : own.map (·.2) = vs) (hb : ∀ i ∈ vs, C.br i = false)
    (hi : SI X C tg iter di) (hg : ∀ (s : Shared) (H : Hp) (c : Addr) (cl : List (Str × Addr)) (fp : List Addr), SG (X.blk s H scope (compEnvC scope cl c X.env) fp) C tg vs g)
    (ht : ∀ (s : Shared) (H : Hp) (c : Addr) (cl : List (Str × Addr)) (fp : List Addr), SF (X.blk s H scope (compEnvC scope cl c X.env) fp) C ifs t)
    (he : ∀ (s : Shared) (H : Hp) (c : Addr) (cl : List (Str × Addr)) (fp : List Addr), SE (X.blk s H scope (compEnvC scope cl c X.env) fp) C elt e)
    (hs : ∀ x, foldedSetIterable iter X.env x = pure x := by intro _; rfl) : SE X C (.ListComp elt [⟨tg, iter, ifs, 0⟩] scope pos) (dLc vs di g t e) := fun ct => by
  subst hv
  exact PE.imp (pe_lc (g := rdG X.K C _ g) (tt := rdB X.K C t) (te := rdE X.K C e) ct.calm ct.nd (hi ct) ok (fun s H c cl fp => hg s H c cl fp ct.blk) (fun s H c cl fp => ht s H c cl fp ct.blk) (fun s H c cl fp => he s H c cl fp ct.blk) hs) fun σ H Q h => rd_lc hb h
theorem ss_setLc (i : Nat) (vs : List Nat) {y : Str} {py : Pos} {own : List (Str × Nat)} {elt tg iter : Expr} {ifs : List Expr} {scope : Scope} {pos spos : Pos} {di : DenI} {g : GDen} {t : DenB} {e : Den} (hy : X.N[i]? = some y) (hyl : X.env.scope.names.lookup y = some .local) (hbi : C.br i = false)
    (hsw : swapsWith (.ListComp elt [⟨tg, iter, ifs, 0⟩] scope pos) (some (.Name y py)) spos.line X.env = pure true)
    (ok : BlkOk X.N X.env.scope scope own) (hv : own.map (·.2) = vs) (hb : ∀ i ∈ vs, C.br i = false)
    (hi : SI X C tg iter di) (hg : ∀ (s : Shared) (H : Hp) (c : Addr) (cl : List (Str × Addr)) (fp : List Addr), SG (X.blk s H scope (compEnvC scope cl c X.env) fp) C tg vs g)
    (ht : ∀ (s : Shared) (H : Hp) (c : Addr) (cl : List (Str × Addr)) (fp : List Addr), SF (X.blk s H scope (compEnvC scope cl c X.env) fp) C ifs t)
    (he : ∀ (s : Shared) (H : Hp) (c : Addr) (cl : List (Str × Addr)) (fp : List Addr), SE (X.blk s H scope (compEnvC scope cl c X.env) fp) C elt e)
    (hs : ∀ x, foldedSetIterable iter X.env x = pure x := by intro _; rfl) : SS X C (.Assign [.Name y py] (.ListComp elt [⟨tg, iter, ifs, 0⟩] scope pos) spos) (dSet i (dLc vs di g t e)) := fun ct => by
  subst hv
  refine PS.imp (ps_setLc (g := rdG X.K C _ g) (tt := rdB X.K C t) (te := rdE X.K C e) ct.calm ct.nd hy hyl hsw (hi ct) ok (fun s H c cl fp => hg s H c cl fp ct.blk) (fun s H c cl fp => ht s H c cl fp ct.blk) (fun s H c cl fp => he s H c cl fp ct.blk) hs) fun D σ H ⟨ρ, ow, S, h⟩ => ?_
  refine rd_lc (Q := fun x H1 => D.nx (σ.set i (some x)) H1) hb ⟨ρ, ow, S, PostS.bind h fun a ρ1 b H1 ow1 l1 S1 r1 h1 => h1 _ H1 ow1 (.refl _ _) (S1.store r1 hbi)⟩
end
end L2.DY

end
section
/-! DyCall: a def's promise by its denotation, and its calls. -/
namespace L2.DY
open PySem PySem.Spec PyProof.Rows

abbrev Sem1 := List Sl → R (PyData × List Sl)
/-- the promise of a def: its parameters' slots, what its denotation gives -/
def spOf (K : PySem.W.Frag) (n : Nat) (br : Nat → Bool) (sem : Sem1) : Sp := fun vs H Q _ => ∃ ow sls d sls', vs.length = n ∧ sls.length = n ∧ (∀ a, ow a ≠ 0 → OwO K a (H a)) ∧ (∀ i, RSl K ow H i (vs[i]?) (sls.getD i .u)) ∧ sem sls = .ok (d, sls') ∧
  ∀ v H' ow', Later ow H ow' H' → (∀ a, ow' a ≠ 0 → OwO K a (H' a)) → (∀ a, H a ≠ none → H' a ≠ none) → (∀ i, br i = true → RSl K ow' H' i (vs[i]?) (sls'.getD i .u)) → Rp K ow' H' v d → Q v H'
/-- a body run from its parameters (n of m slots) -/
def runDef (m n : Nat) (body : SDen) : Sem1 := fun sls => match body (sls ++ List.replicate (m - n) .u) with
  | .rt d ρ => .ok (d, ρ.take n)
  | .nx ρ => .ok (.none, ρ.take n)
  | _ => .stk
theorem spOf.stk {K : PySem.W.Frag} {n : Nat} {br : Nat → Bool} {vs : List V} {H : Hp} {Q : VK} {E : XK} : ¬ spOf K n br (fun _ => .stk) vs H Q E := fun ⟨_, _, _, _, _, _, _, _, h, _⟩ => nomatch h

section
variable {P : Program} {w : World} {K : PySem.W.Frag} {mg : Str → Option Value} {base : Heap}
theorem getD_app {sls : List Sl} {k i : Nat} : (sls ++ List.replicate k Sl.u).getD i .u = sls.getD i .u := by
  rw [List.getD_eq_getElem?_getD, List.getD_eq_getElem?_getD, List.getElem?_append]
  by_cases h : i < sls.length
  · rw [if_pos h]
  · rw [if_neg h, List.getElem?_eq_none (by omega : sls.length ≤ i), List.getElem?_replicate]
    split <;> rfl
theorem getD_start {N : List Str} {vs : List V} {i : Nat} : (start N vs).getD i none = vs[i]? := by
  unfold start
  rw [List.getD_eq_getElem?_getD, List.getElem?_append, List.length_map, List.getElem?_map]
  by_cases h : i < vs.length
  · rw [if_pos h, List.getElem?_eq_getElem h]; rfl
  · rw [if_neg h, List.getElem?_eq_none (by omega : vs.length ≤ i), List.getElem?_replicate]
    split <;> rfl
theorem getD_take {l : List Sl} {n i : Nat} (h : i < n) : (l.take n).getD i .u = l.getD i .u := by
  rw [List.getD_eq_getElem?_getD, List.getD_eq_getElem?_getD, List.getElem?_take, if_pos h]
/-- a def keeps the promise of its denotation -/
theorem fn_den {x qual : Str} {st : Stmt} {f : Addr} {fd : FuncData} {N ps : List Str} {k : Nat} {br : Nat → Bool} {body : SDen} (F : Fun K x qual st f fd) (S : FnScope N ps (defScope st)) (hps : ps.length ≤ N.length) (hbr : ∀ i, br i = true → i < ps.length)
    (hb : ∀ (cdv : Value) (A : Around) (outer : List Env) (s : Shared) (H : Hp) (E : XK) (ow : Ow) (σ0 : St), Room k (A.deeper (envOfC qual (defScope st) s.heap.objs.size f cdv)) →
      SSs (cxOf CX0 P w K mg base N qual (defScope st) f cdv A outer s H E).nox ⟨H, ow, σ0, br⟩ (defBody st) body) :
    FnOk P w K mg base CX0 (k + 1) f fd ps (spOf K ps.length br (runDef N.length ps.length body)) := by
  refine F.ok S (fun vs H Q E h => ?_) (fun cdv A outer s H vs Q E hr h => ?_)
  · obtain ⟨_, _, _, _, h, _⟩ := h; exact h
  · obtain ⟨ow, sls, d, sls', hv, hl, trk, hs, hrun, hq⟩ := h
    have ct : Ct (cxOf CX0 P w K mg base N qual (defScope st) f cdv A outer s H E).nox := ⟨rfl, S.nd, by have := hr.un; show (A.deeper _).units + 65 < cLine; omega, hr.hd⟩
    refine ⟨_, hb cdv A outer s H E ow (start N vs) hr ct, sls ++ List.replicate (N.length - ps.length) .u, ow, ?_, ?_⟩
    · refine ⟨?_, fun i => ?_, .refl _ _, fun a h => h, trk, fun a h => h, fun i h => rfl⟩
      · unfold start
        simp only [List.length_append, List.length_replicate, List.length_map, hl, hv]
      · rw [getD_app, getD_start]; exact hs i
    · unfold runDef at hrun
      cases e : body (sls ++ List.replicate (N.length - ps.length) .u) with
      | rt d' ρ =>
        rw [e] at hrun
        injection hrun with hrun
        injection hrun with h1 h2
        subst h1
        intro v σ' H' ow' l S' r
        refine hq v H' ow' l S'.trk S'.dom (fun i hi => ?_) r
        have q := S'.slots i
        rw [S'.par i hi, getD_start] at q
        rw [← h2, getD_take (hbr i hi)]
        exact q
      | nx ρ =>
        rw [e] at hrun
        injection hrun with hrun
        injection hrun with h1 h2
        subst h1
        intro σ' H' ow' l S'
        refine hq .non H' ow' l S'.trk S'.dom (fun i hi => ?_) .non
        have q := S'.slots i
        rw [S'.par i hi, getD_start] at q
        rw [← h2, getD_take (hbr i hi)]
        exact q
      | bk ρ => rw [e] at hrun; cases hrun
      | ct ρ => rw [e] at hrun; cases hrun
      | stk => rw [e] at hrun; cases hrun
/-- a def of the text, ready to be called -/
structure FD (P : Program) (w : World) (K : PySem.W.Frag) (mg : Str → Option Value) (base : Heap) (k : Nat) (x : Str) (ps : List Str) (br : Nat → Bool) (sem : Sem1) : Prop where
  ex : ∃ f fd, FnOk P w K mg base CX0 k f fd ps (spOf K ps.length br sem) ∧ mg x = some (.ref f) ∧ PySem.W.keepIn K (.ref f) = true ∧ Binds K fd ps []
theorem FD.mono {k j : Nat} {x : Str} {ps : List Str} {br : Nat → Bool} {sem : Sem1} (F : FD P w K mg base k x ps br sem) (h : k ≤ j) : FD P w K mg base j x ps br sem := by
  obtain ⟨f, fd, h1, h2⟩ := F.ex
  exact ⟨f, fd, h1.mono h, h2⟩
/-- what is the same meaning -/
theorem FD.congr {k : Nat} {x : Str} {ps : List Str} {br : Nat → Bool} {sem sem' : Sem1} (F : FD P w K mg base k x ps br sem) (h : ∀ sls d sls', sls.length = ps.length → sem' sls = .ok (d, sls') → sem sls = .ok (d, sls')) : FD P w K mg base k x ps br sem' := by
  obtain ⟨f, fd, h1, h2⟩ := F.ex
  exact ⟨f, fd, h1.imp fun vs H Q E ⟨ow, sls, d, sls', a, b, c, e, g, q⟩ => ⟨ow, sls, d, sls', a, b, c, e, h _ _ _ b g, q⟩, h2⟩
end

section
variable {X : Cx} {C : Cy} {K : PySem.W.Frag} {σ : St} {H : Hp} {ow : Ow} {ρ : Rho}
/-- a callee's view of who owns what: all of ours is another's -/
def owOut (ow : Ow) : Ow := fun a => if ow a = 0 then 0 else 1
/-- and back: what the callee left frozen is frozen -/
def owBack (ow ow' : Ow) : Ow := fun a => if ow a ≠ 0 then ow a else if ow' a = 0 then 0 else 1
theorem SR.called (S : SR K C ρ ow σ H) {ow' : Ow} {H' : Hp} (l : Later (owOut ow) H ow' H') (trk : ∀ a, ow' a ≠ 0 → OwO K a (H' a)) (dom : ∀ a, H a ≠ none → H' a ≠ none) : SR K C ρ (owBack ow ow') σ H' ∧ Later ow H (owBack ow ow') H' ∧ Later0 ow' H' (owBack ow ow') H' := by
  have k0 : ∀ a o, ow a = 0 → H a = some o → NTb o → H' a = some o ∧ ow' a = 0 := fun a o z e n => by
    have := l.ap a o (by unfold owOut; split <;> omega) e (fun _ => n)
    refine ⟨this.1, ?_⟩
    rw [this.2]; unfold owOut; rw [if_pos z]
  have no0 : ∀ {a : Addr} {p : Prop}, ow a ≠ 0 → owOut ow a = 0 → p := fun z z' => by
    unfold owOut at z'; rw [if_neg z] at z'; cases z'
  have k1 : ∀ a o, ow a ≠ 0 → H a = some o → H' a = some o := fun a o z e => (l.ap a o (by unfold owOut; split <;> omega) e (no0 z)).1
  have l0 : Later ow H (owBack ow ow') H' := .mk fun a o z e n => by
    by_cases q : ow a = 0
    · obtain ⟨h1, h2⟩ := k0 a o q e (n q)
      exact ⟨h1, by unfold owBack; rw [if_neg (by omega), if_pos h2]; exact q.symm⟩
    · exact ⟨k1 a o q e, by unfold owBack; rw [if_pos q]⟩
  refine ⟨⟨S.len, fun j => (S.slots j).other0 l0.z fun a o z e => ?_, S.ent.trans l0, fun a h => ?_, fun a h => ?_, fun a h => dom a (S.dom a h), S.par⟩, l0, .mk fun a o z e n => ⟨e, ?_⟩⟩
  · exact ⟨k1 a o (by omega) e, by unfold owBack; rw [if_pos (by omega)]; exact z⟩
  · have q := S.out a h
    unfold owBack; rw [if_pos (by omega)]; exact q
  · unfold owBack at h
    by_cases z : ow a = 0
    · rw [if_neg (by omega)] at h
      refine trk a fun q => ?_
      rw [if_pos q] at h; exact h rfl
    · exact (S.trk a z).stay fun o q => k1 a o z q
  · unfold owBack
    by_cases q : ow a = 0
    · rw [if_neg (by omega), if_pos z]
    · cases e' : H a with
      | none => exact absurd e' (S.trk a q).1
      | some u =>
        have := (l.ap a u (by unfold owOut; split <;> omega) e' (no0 q)).2
        rw [z] at this; unfold owOut at this; rw [if_neg q] at this; cases this
theorem RpA.slots {ow : Ow} {H : Hp} {vs : List V} {ds : List PyData} (r : RpA K ow H vs ds) (i : Nat) : RSl K ow H i (vs[i]?) ((ds.map Sl.d).getD i .u) := by
  rw [List.getD_eq_getElem?_getD, List.getElem?_map]
  cases e : ds[i]? with
  | none => exact True.intro
  | some d =>
    obtain ⟨v, h1, h2⟩ := r.get e
    exact ⟨v, h1, h2⟩
def noBr : Nat → Bool := fun _ => false
def dCall (sem : Sem1) (ds : DenA) : Den := fun ρ => (ds ρ).bind fun r => (sem (r.1.map .d)).bind fun q => .ok (q.1, r.2)
/-- what a pure call asks -/
theorem call_rd {n : Nat} {sem : Sem1} {as : List PyData} {vs : List V} {Q : VK} {E : XK} (S : SR K C ρ ow σ H) (r : RpA K ow H vs as) (hn : as.length = n) (h : Post K C (Rp K) ((sem (as.map .d)).bind fun q => .ok (q.1, ρ)) σ ow H Q) : spOf K n noBr sem vs H Q E := by
  cases e : sem (as.map .d) with
  | exc c x => rw [e] at h; exact h.elim
  | stk => rw [e] at h; exact h.elim
  | ok q =>
    obtain ⟨d, sls'⟩ := q
    rw [e] at h
    have l0 : Later0 ow H (owOut ow) H := .mk fun a o z e n => ⟨e, by unfold owOut; rw [if_pos z]⟩
    refine ⟨owOut ow, as.map .d, d, sls', by rw [r.length, hn], by rw [List.length_map, hn], fun a z => S.trk a fun q => z (by unfold owOut; rw [if_pos q]), fun i => (RpA.later0 l0 r).slots i, e, fun v H' ow' l trk dom _ rv => ?_⟩
    obtain ⟨S', l1, l2⟩ := S.called l trk dom
    exact h v H' _ l1 S' (Rp.later0 l2 rv)
theorem se_call {k : Nat} {x : Str} {ps : List Str} {sem : Sem1} {e : Expr} {es : List Expr} {ds : DenA} {p pos : Pos} (F : FD X.prog X.w X.K X.mg X.base k x ps noBr sem) (hr : Room k X.A) (hg : Gl X x) (ha : SA X C (e :: es) ds) (hn : (e :: es).length = ps.length := by rfl)
    (hds : ∀ ρ as ρ', ds ρ = .ok (as, ρ') → as.length = (e :: es).length) (hdb : (x == ("__debug__" : Str)) = false := by decide) (he : starEach (e :: es) X.env = (false, eval e X.env) :: starEach es X.env := by rfl) (hpl : (backTo pos (starEach es X.env)).any (·.1) = false := by rfl) :
    SE X C (.Call (.Name x p) (e :: es) [] pos) (dCall sem ds) := fun ct => by
  obtain ⟨f, fd, h1, h2, h3, h4⟩ := F.ex
  refine PE.imp (pe_call h1 hr hg h2 h3 h4 .nil pass0 (ha ct) hdb he hpl) fun σ H Q ⟨ρ, ow, S, h⟩ => ⟨ρ, ow, S, ?_⟩
  cases e1 : ds ρ with
  | exc c x => unfold dCall at h; rw [e1] at h; exact h.elim
  | stk => unfold dCall at h; rw [e1] at h; exact h.elim
  | ok r =>
    obtain ⟨as, ρ1⟩ := r
    unfold dCall at h
    rw [e1] at h
    intro vs H1 ow1 l1 S1 r1
    rw [List.append_nil]
    exact call_rd S1 r1 ((hds _ _ _ e1).trans hn) (Post.later l1 h)
/-! ### a call that hands on the slot j by reference (its first argument) -/
def br0 : Nat → Bool := fun i => i == 0
def owOutR (ow : Ow) (j : Nat) : Ow := fun a => if ow a = 0 then 0 else if ow a = j + 2 then 2 else 1
def owBackR (ow ow' : Ow) (j : Nat) : Ow := fun a => if ow a ≠ 0 ∧ ow a ≠ j + 2 then ow a else if ow' a = 0 then 0 else if ow' a = 2 then j + 2 else 1
theorem owOutR_0 {j : Nat} {a : Addr} (h : ow a = 0) : owOutR ow j a = 0 := by unfold owOutR; rw [if_pos h]
theorem owOutR_j {j : Nat} {a : Addr} (h : ow a = j + 2) : owOutR ow j a = 2 := by unfold owOutR; rw [if_neg (by omega), if_pos h]
theorem owOutR_1 {j : Nat} {a : Addr} (h : ow a ≠ 0) (h2 : ow a ≠ j + 2) : owOutR ow j a = 1 := by unfold owOutR; rw [if_neg h, if_neg h2]
theorem owBackR_k {ow' : Ow} {j : Nat} {a : Addr} (h : ow a ≠ 0) (h2 : ow a ≠ j + 2) : owBackR ow ow' j a = ow a := by unfold owBackR; rw [if_pos ⟨h, h2⟩]
theorem owBackR_o {ow' : Ow} {j : Nat} {a : Addr} (h : ow a = 0 ∨ ow a = j + 2) : owBackR ow ow' j a = if ow' a = 0 then 0 else if ow' a = 2 then j + 2 else 1 := by
  unfold owBackR; rw [if_neg (by omega)]
theorem RSl.moved {ow ow' : Ow} {H H' : Hp} {i j : Nat} {o : Option V} {s : Sl} (l : Later0 ow H ow' H') (h : ∀ a b, ow a = i + 2 → H a = some b → H' a = some b ∧ ow' a = j + 2) (r : RSl K ow H i o s) : RSl K ow' H' j o s := by
  cases s with
  | u => trivial
  | d x => obtain ⟨v, h1, h2⟩ := r; exact ⟨v, h1, Rp.later0 l h2⟩
  | ol xs => obtain ⟨p, vs, h1, h2, h3, h4⟩ := r; exact ⟨p, vs, h1, (h _ _ h2 h3).2, (h _ _ h2 h3).1, RpA.later0 l h4⟩
  | od xs => obtain ⟨p, vs, h1, h2, h3, h4⟩ := r; exact ⟨p, vs, h1, (h _ _ h2 h3).2, (h _ _ h2 h3).1, RpD.later0 l h4⟩
  | tp t => obtain ⟨p, h1, q, h2, h3, h4, h5, h6⟩ := r; exact ⟨p, h1, q, (h _ _ h2 h5).2, (h _ _ h3 h6).2, h4, (h _ _ h2 h5).1, (h _ _ h3 h6).1⟩
  | dl ds => obtain ⟨p, od, kvs, h1, h2, h3, h4⟩ := r; exact ⟨p, od, kvs, h1, (l.ap _ _ h2 h3).2, (l.ap _ _ h2 h3).1, RpT.later0 l h4⟩
  | tb => exact RTb.moved l h r
theorem SR.calledR (S : SR K C ρ ow σ H) {ow' : Ow} {H' : Hp} {j : Nat} {s' : Sl} (l : Later (owOutR ow j) H ow' H') (trk : ∀ a, ow' a ≠ 0 → OwO K a (H' a)) (dom : ∀ a, H a ≠ none → H' a ≠ none) (hs : RSl K ow' H' 0 (σ.getD j none) s') :
    SR K C (ρ.set j s') (owBackR ow ow' j) σ H' ∧ Later ow H (owBackR ow ow' j) H' ∧ Later0 ow' H' (owBackR ow ow' j) H' := by
  have k0 : ∀ a o, ow a = 0 → H a = some o → NTb o → H' a = some o ∧ ow' a = 0 := fun a o z e n => by
    have := l.ap a o (by rw [owOutR_0 z]; omega) e (fun _ => n)
    exact ⟨this.1, by rw [this.2, owOutR_0 z]⟩
  have k1 : ∀ a o, ow a ≠ 0 → ow a ≠ j + 2 → H a = some o → H' a = some o ∧ ow' a = 1 := fun a o z z2 e => by
    have := l.ap a o (by rw [owOutR_1 z z2]; omega) e (fun z' => by rw [owOutR_1 z z2] at z'; cases z')
    exact ⟨this.1, by rw [this.2, owOutR_1 z z2]⟩
  have l0 : Later ow H (owBackR ow ow' j) H' := .mk fun a o z e n => by
    by_cases q : ow a = 0
    · obtain ⟨h1, h2⟩ := k0 a o q e (n q)
      exact ⟨h1, by rw [owBackR_o (.inl q), if_pos h2]; exact q.symm⟩
    · obtain ⟨h1, h2⟩ := k1 a o q (by omega) e
      exact ⟨h1, by rw [owBackR_k q (by omega)]⟩
  have z0 : ∀ a, ow' a = 0 → owBackR ow ow' j a = 0 := fun a z => by
    by_cases q : ow a = 0 ∨ ow a = j + 2
    · rw [owBackR_o q, if_pos z]
    · cases e' : H a with
      | none => exact absurd e' (S.trk a (by omega)).1
      | some u => have := (k1 a u (by omega) (by omega) e').2; omega
  have z2 : ∀ a, ow' a = 2 → owBackR ow ow' j a = j + 2 := fun a z => by
    by_cases q : ow a = 0 ∨ ow a = j + 2
    · rw [owBackR_o q, if_neg (by omega), if_pos z]
    · cases e' : H a with
      | none => exact absurd e' (S.trk a (by omega)).1
      | some u => have := (k1 a u (by omega) (by omega) e').2; omega
  have lb : Later0 ow' H' (owBackR ow ow' j) H' := .mk fun a o z e n => ⟨e, z0 a z⟩
  refine ⟨⟨by rw [List.length_set]; exact S.len, fun k => ?_, S.ent.trans l0, fun a h => ?_, fun a h => ?_, fun a h => dom a (S.dom a h), S.par⟩, l0, lb⟩
  · rw [getD_set]
    by_cases e : j = k ∧ j < ρ.length
    · rw [if_pos e, ← e.1]
      exact hs.moved lb fun a b z q => ⟨q, z2 a z⟩
    · rw [if_neg e]
      by_cases q : j = k
      · subst q
        have : ¬ j < ρ.length := fun z => e ⟨rfl, z⟩
        rw [List.getD_eq_getElem?_getD (l := ρ), List.getElem?_eq_none (l := ρ) (by omega)]
        exact True.intro
      · exact (S.slots k).other0 l0.z fun a o z e => ⟨(k1 a o (by omega) (by omega) e).1, by rw [owBackR_k (by omega) (by omega)]; exact z⟩
  · have q := S.out a h
    rw [owBackR_k (by omega) (by omega)]; exact q
  · by_cases z : ow a = 0 ∨ ow a = j + 2
    · exact trk a fun q => h (z0 a q)
    · exact (S.trk a (by omega)).stay fun o q => (k1 a o (by omega) (by omega) q).1
def isU : Sl → Bool
  | .u => true
  | .tb => true
  | _ => false
def dCallR (sem : Sem1) (j : Nat) (ds : DenA) : Den := fun ρ => if isU (ρ.getD j .u) then .stk else (ds ρ).bind fun r => (sem (r.2.getD j .u :: r.1.map .d)).bind fun q => .ok (q.1, r.2.set j (q.2.getD 0 .u))
theorem callR_rd {n j : Nat} {sem : Sem1} {as : List PyData} {v0 : V} {vs : List V} {Q : VK} {E : XK} (S : SR K C ρ ow σ H) (hv : σ.getD j none = some v0) (r : RpA K ow H vs as) (hn : as.length + 1 = n)
    (h : Post K C (Rp K) ((sem (ρ.getD j .u :: as.map .d)).bind fun q => .ok (q.1, ρ.set j (q.2.getD 0 .u))) σ ow H Q) : spOf K n br0 sem (v0 :: vs) H Q E := by
  cases e : sem (ρ.getD j .u :: as.map .d) with
  | exc c x => rw [e] at h; exact h.elim
  | stk => rw [e] at h; exact h.elim
  | ok q =>
    obtain ⟨d, sls'⟩ := q
    rw [e] at h
    have l0 : Later0 ow H (owOutR ow j) H := .mk fun a o z e n => ⟨e, owOutR_0 z⟩
    refine ⟨owOutR ow j, ρ.getD j .u :: as.map .d, d, sls', by rw [List.length_cons, r.length, hn], by rw [List.length_cons, List.length_map, hn], fun a z => S.trk a fun q => z (owOutR_0 q), fun i => ?_, e, fun v H' ow' l trk dom hb rv => ?_⟩
    · cases i with
      | zero =>
        have q := S.slots j
        rw [hv] at q
        exact q.moved l0 fun a b z q => ⟨q, owOutR_j z⟩
      | succ i =>
        have q := (RpA.later0 l0 r).slots i
        have t := q.moved (j := i + 1) (.mk fun a o z e n => ⟨e, z⟩ : Later0 (owOutR ow j) H (owOutR ow j) H)
        cases s : (as.map Sl.d).getD i .u with
        | u => show RSl K _ H (i + 1) (vs[i]?) ((as.map Sl.d).getD i .u); rw [s]; exact True.intro
        | d x => show RSl K _ H (i + 1) (vs[i]?) ((as.map Sl.d).getD i .u); rw [s] at q ⊢; exact q
        | ol xs =>
          rw [List.getD_eq_getElem?_getD, List.getElem?_map] at s
          cases z : as[i]? with
          | none => rw [z] at s; cases s
          | some y => rw [z] at s; cases s
        | od xs =>
          rw [List.getD_eq_getElem?_getD, List.getElem?_map] at s
          cases z : as[i]? with
          | none => rw [z] at s; cases s
          | some y => rw [z] at s; cases s
        | tp xs =>
          rw [List.getD_eq_getElem?_getD, List.getElem?_map] at s
          cases z : as[i]? with
          | none => rw [z] at s; cases s
          | some y => rw [z] at s; cases s
        | dl xs =>
          rw [List.getD_eq_getElem?_getD, List.getElem?_map] at s
          cases z : as[i]? with
          | none => rw [z] at s; cases s
          | some y => rw [z] at s; cases s
        | tb =>
          rw [List.getD_eq_getElem?_getD, List.getElem?_map] at s
          cases z : as[i]? with
          | none => rw [z] at s; cases s
          | some y => rw [z] at s; cases s
    · have h0 : RSl K ow' H' 0 (σ.getD j none) (sls'.getD 0 .u) := by rw [hv]; exact hb 0 rfl
      obtain ⟨S', l1, l2⟩ := S.calledR l trk dom h0
      exact h v H' _ l1 S' (Rp.later0 l2 rv)
theorem se_callR (j : Nat) {k : Nat} {x y : Str} {ps : List Str} {sem : Sem1} {es : List Expr} {ds : DenA} {p py pos : Pos} (F : FD X.prog X.w X.K X.mg X.base k x ps br0 sem) (hr : Room k X.A) (hg : Gl X x) (ha : SA X C es ds) (hn : es.length + 1 = ps.length := by rfl)
    (hds : ∀ ρ as ρ', ds ρ = .ok (as, ρ') → as.length = es.length) (hj : X.N[j]? = some y := by rfl) (hv : Vis X.env.scope y := by first | exact Or.inl rfl | exact Or.inr (Or.inl rfl) | exact Or.inr (Or.inr rfl))
    (hdb : (x == ("__debug__" : Str)) = false := by decide) (hdb2 : (y == ("__debug__" : Str)) = false := by decide) (hcd : (y == ("__classdict__" : Str)) = false := by decide)
    (he : starEach (.Name y py :: es) X.env = (false, eval (.Name y py) X.env) :: starEach es X.env := by rfl) (hpl : (backTo pos (starEach es X.env)).any (·.1) = false := by rfl) :
    SE X C (.Call (.Name x p) (.Name y py :: es) [] pos) (dCallR sem j ds) := fun ct => by
  obtain ⟨f, fd, h1, h2, h3, h4⟩ := F.ex
  refine PE.imp (pe_call h1 hr hg h2 h3 h4 .nil pass0 (pa_cons (pe_var hj hv hdb2 hcd) (ha ct) he) hdb he hpl) fun σ H Q ⟨ρ, ow, S, h⟩ => ?_
  unfold dCallR at h
  have hs : ∃ v0, σ.getD j none = some v0 ∧ isU (ρ.getD j .u) = false := by
    have q := S.slots j
    cases e : ρ.getD j .u with
    | u => rw [e] at h; exact h.elim
    | d x => rw [e] at q; obtain ⟨v, h1, _⟩ := q; exact ⟨v, h1, rfl⟩
    | ol x => rw [e] at q; obtain ⟨p, _, h1, _⟩ := q; exact ⟨_, h1, rfl⟩
    | od x => rw [e] at q; obtain ⟨p, _, h1, _⟩ := q; exact ⟨_, h1, rfl⟩
    | tp x => rw [e] at q; obtain ⟨p, h1, _⟩ := q; exact ⟨_, h1, rfl⟩
    | dl x => rw [e] at q; obtain ⟨p, _, _, h1, _⟩ := q; exact ⟨_, h1, rfl⟩
    | tb => rw [e] at h; exact h.elim
  obtain ⟨v0, hv0, hu⟩ := hs
  rw [hu, if_neg Bool.false_ne_true] at h
  cases e1 : ds ρ with
  | exc c x => rw [e1] at h; exact h.elim
  | stk => rw [e1] at h; exact h.elim
  | ok r =>
    obtain ⟨as, ρ1⟩ := r
    rw [e1] at h
    refine ⟨v0, getD_some hv0, ρ, ow, S, ?_⟩
    rw [e1]
    intro vs H1 ow1 l1 S1 r1
    show spOf X.K ps.length br0 sem ((v0 :: vs) ++ []) H1 Q E0
    rw [List.append_nil]
    exact callR_rd S1 hv0 r1 (by rw [hds _ _ _ e1]; exact hn) (Post.later l1 h)
end
end L2.DY

end
section
/-! DyTape: the law's tape (a list of cells, what is left, the seed), and the law itself. -/
namespace L2.DY
open PySem PySem.Spec PyProof.Rows

/-! ### what the tape gives -/
def sizeF (cell : Int) : Int := if 0 ≤ cell then 2 * cell else -2 * cell - 1
def mixF (seed : Int) : Int × Int :=
  let first := (seed * 48271 + 17) % 2147483629
  let second := (first * 69621 + 5) % 2147483587
  let seed := (second * 40692 + 3) % 2147483563
  (first * 4611686014132420609 + second * 2147483647 + seed, seed)
def loadF (t : Tp) : Int × Tp :=
  match t.cells with
  | [] => ((mixF t.seed).1, { t with seed := (mixF t.seed).2 })
  | c :: r =>
    if 1000000000000000000 ≤ sizeF c then (sizeF c, { t with cells := r })
    else
      let s := (t.seed * 69621 + sizeF c * 48271 + 11) % 2147483647
      ((mixF s).1, { t with cells := r, seed := (mixF s).2 })
def drawF (t : Tp) (many : Int) : Int × Tp :=
  let t1 := if t.cur < many then (let l := loadF t; { l.2 with cur := l.1 }) else t
  (t1.cur % many, { t1 with cur := t1.cur / many })
theorem draw_range (t : Tp) {many : Int} (h : 0 < many) : 0 ≤ (drawF t many).1 ∧ (drawF t many).1 < many := ⟨Int.emod_nonneg _ (by omega), Int.emod_lt_of_pos _ h⟩
/-- the seed is small: no product is too great -/
def Tp.Ok (t : Tp) : Prop := (0 ≤ t.seed ∧ t.seed < 4294967296) ∧ t.ix = none
theorem mix_ok (s : Int) : 0 ≤ (mixF s).2 ∧ (mixF s).2 < 4294967296 := by
  have h := Int.emod_nonneg (((s * 48271 + 17) % 2147483629 * 69621 + 5) % 2147483587 * 40692 + 3) (show (2147483563 : Int) ≠ 0 by decide)
  have h2 := Int.emod_lt_of_pos (((s * 48271 + 17) % 2147483629 * 69621 + 5) % 2147483587 * 40692 + 3) (show (0 : Int) < 2147483563 by decide)
  exact ⟨h, Int.lt_trans h2 (by decide)⟩
theorem load_ok {t : Tp} (h : t.Ok) : (loadF t).2.Ok := by
  unfold loadF
  split
  · exact ⟨mix_ok _, h.2⟩
  · split
    · exact h
    · exact ⟨mix_ok _, h.2⟩
theorem draw_ok {t : Tp} (h : t.Ok) (many : Int) : (drawF t many).2.Ok := by
  unfold drawF
  dsimp only
  split
  · exact load_ok h
  · exact h
def fLoad : Sem1 := fun sls => match sls with
  | [.tp t] => if 0 ≤ t.seed && decide (t.seed < 4294967296) && decide (t.ix = none) then .ok (.int (loadF t).1, [.tp (loadF t).2]) else .stk
  | _ => .stk
def fDraw : Sem1 := fun sls => match sls with
  | [.tp t, .d (.int many)] => if 0 ≤ t.seed && decide (t.seed < 4294967296) && decide (t.ix = none) && decide (0 < many) && decide (many < 1073741824) then .ok (.int (drawF t many).1, [.tp (drawF t many).2, .d (.int many)]) else .stk
  | _ => .stk
def newTp (ns : List Int) : Tp := { cells := ns, cur := 0, seed := 4711 + ns.length }

section
variable {X : Cx} {C : Cy} {K : PySem.W.Frag} {σ : St} {H : Hp} {ow : Ow} {ρ : Rho}
/-! ### box[1], box[2] -/
def tpAt (t : Tp) (i : Int) : R PyData := match t.ix with
  | none => if i = 1 then .ok (.int t.cur) else if i = 2 then .ok (.int t.seed) else .stk
  | some k => if i = 1 then .ok (.int k) else if i = 2 then .ok (.int t.cur) else if i = 3 then .ok (.int t.seed) else .stk
def dTpGet (j : Nat) (i : Int) : Den := fun ρ => match ρ.getD j .u with
  | .tp t => (tpAt t i).bind fun d => .ok (d, ρ)
  | _ => .stk
theorem se_tpget (j : Nat) {i : Int} {x : Str} {k p pos pi : _} (hj : X.N[j]? = some x := by rfl) (hv : Vis X.env.scope x := by first | exact Or.inl rfl | exact Or.inr (Or.inl rfl) | exact Or.inr (Or.inr rfl)) (hd : (x == ("__debug__" : Str)) = false := by decide) (hcd : (x == ("__classdict__" : Str)) = false := by decide)
    (hs : PlainIx (.Constant (.int i) k pi) := by exact fun _ _ => rfl) : SE X C (.Subscript (.Name x p) (.Constant (.int i) k pi) pos) (dTpGet j i) := fun ct =>
  PE.imp (pe_ix ix_list (pe_var hj hv hd hcd) pe_int hs) fun σ H Q ⟨ρ, ow, S, h⟩ => by
    unfold dTpGet at h
    cases e : ρ.getD j .u with
    | tp t =>
      rw [e] at h
      have r := S.slots j
      rw [e] at r
      obtain ⟨p, h1, q, o1, o2, ne, hp, hq⟩ := r
      refine ⟨.ref p, getD_some h1, p, .ref q :: t.regs, i, ?_⟩
      dsimp only at h
      unfold tpAt at h
      unfold Tp.regs at hp ⊢
      cases ex : t.ix with
      | none =>
        rw [ex] at h hp
        dsimp only at h hp ⊢
        by_cases i1 : i = 1
        · subst i1
          exact ⟨.int t.cur, rfl, rfl, SqL.of hp, rfl, h _ H ow (.refl _ _) S (.int _)⟩
        · by_cases i2 : i = 2
          · subst i2
            exact ⟨.int t.seed, rfl, rfl, SqL.of hp, rfl, h _ H ow (.refl _ _) S (.int _)⟩
          · rw [if_neg i1, if_neg i2] at h; exact h.elim
      | some k =>
        rw [ex] at h hp
        dsimp only at h hp ⊢
        by_cases i1 : i = 1
        · subst i1
          exact ⟨.int k, rfl, rfl, SqL.of hp, rfl, h _ H ow (.refl _ _) S (.int _)⟩
        · by_cases i2 : i = 2
          · subst i2
            exact ⟨.int t.cur, rfl, rfl, SqL.of hp, rfl, h _ H ow (.refl _ _) S (.int _)⟩
          · by_cases i3 : i = 3
            · subst i3
              exact ⟨.int t.seed, rfl, rfl, SqL.of hp, rfl, h _ H ow (.refl _ _) S (.int _)⟩
            · rw [if_neg i1, if_neg i2, if_neg i3] at h; exact h.elim
    | u => rw [e] at h; exact h.elim
    | d x => rw [e] at h; exact h.elim
    | ol xs => rw [e] at h; exact h.elim
    | od xs => rw [e] at h; exact h.elim
    | dl xs => rw [e] at h; exact h.elim
    | tb => rw [e] at h; exact h.elim
/-- the tape's own list written -/
theorem SR.tpPut (S : SR K C ρ ow σ H) {j : Nat} {t t' : Tp} (e : ρ.getD j .u = .tp t) {p q : Addr} (h1 : σ.getD j none = some (.ref p)) (o1 : ow p = j + 2) (o2 : ow q = j + 2) (ne : p ≠ q) {H' : Hp} (hp : H' p = some (.lst (.ref q :: t'.regs))) (hq : H' q = some (.lst (t'.cells.map V.int)))
    (ho : ∀ a, a ≠ p → a ≠ q → H' a = H a) : SR K C (ρ.set j (.tp t')) ow σ H' := by
  have l : Later ow H ow H' := .mk fun a o z w n => ⟨by rw [ho a (fun y => by subst y; omega) (fun y => by subst y; omega)]; exact w, rfl⟩
  refine ⟨by rw [List.length_set]; exact S.len, fun k => ?_, S.ent.trans l, S.out, fun a z => ?_, fun a z => ?_, S.par⟩
  · rw [getD_set]
    by_cases c : j = k ∧ j < ρ.length
    · rw [if_pos c, ← c.1]
      exact ⟨p, h1, q, o1, o2, ne, hp, hq⟩
    · rw [if_neg c]
      by_cases c2 : j = k
      · subst c2
        have hl : ¬ j < ρ.length := fun z => c ⟨rfl, z⟩
        rw [List.getD_eq_getElem?_getD, List.getElem?_eq_none (by omega)] at e
        cases e
      · exact (S.slots k).other0 l.z fun a o z w => ⟨by rw [ho a (fun y => by subst y; omega) (fun y => by subst y; omega)]; exact w, z⟩
  · by_cases c1 : a = p
    · subst c1; rw [hp]; exact .of rfl nofun
    · by_cases c2 : a = q
      · subst c2; rw [hq]; exact .of rfl nofun
      · rw [ho a c1 c2]; exact S.trk a z
  · by_cases c1 : a = p
    · subst c1; rw [hp]; exact fun z => nomatch z
    · by_cases c2 : a = q
      · subst c2; rw [hq]; exact fun z => nomatch z
      · rw [ho a c1 c2]; exact S.dom a z
def tpSet (t : Tp) (i : Int) (d : PyData) : R Tp := match d with
  | .int n => match t.ix with
    | none => if i = 1 then .ok { t with cur := n } else if i = 2 then .ok { t with seed := n } else .stk
    | some _ => if i = 1 then .ok { t with ix := some n } else if i = 2 then .ok { t with cur := n } else if i = 3 then .ok { t with seed := n } else .stk
  | _ => .stk
def dTpSet (j : Nat) (i : Int) (da : Den) : SDen := fun ρ => (da ρ).then fun r => match r.2.getD j .u with
  | .tp t => (tpSet t i r.1).then fun t' => .nx (r.2.set j (.tp t'))
  | _ => .stk
theorem ss_tpset (j : Nat) {i : Int} {x : Str} {e : Expr} {da : Den} {k p pt pos pi : _} (ha : SE X C e da) (hj : X.N[j]? = some x := by rfl) (hv : Vis X.env.scope x := by first | exact Or.inl rfl | exact Or.inr (Or.inl rfl) | exact Or.inr (Or.inr rfl)) (hd : (x == ("__debug__" : Str)) = false := by decide) (hcd : (x == ("__classdict__" : Str)) = false := by decide)
    (hs : swapsWithSole [.Subscript (.Name x p) (.Constant (.int i) k pi) pt] e pos.line X.env = pure false := by rfl) (hw : swappedStores [.Subscript (.Name x p) (.Constant (.int i) k pi) pt] e X.env = pure none := by rfl)
    (h1 : (assignEach [.Subscript (.Name x p) (.Constant (.int i) k pi) pt] X.env).map (·.2) = [assign (.Subscript (.Name x p) (.Constant (.int i) k pi) pt) X.env] := by rfl)
    (hg : ∀ v, assign (.Subscript (.Name x p) (.Constant (.int i) k pi) pt) X.env v = (do
      let ov ← holding [v] (eval (.Name x p) X.env)
      let iv ← holding [v, ov] (eval (.Constant (.int i) k pi) X.env)
      standAt pt
      holding [v, ov, iv] (setItem ov iv v)
      release [v, ov, iv] []) := by intro _; rfl) : SS X C (.Assign [.Subscript (.Name x p) (.Constant (.int i) k pi) pt] e pos) (dTpSet j i da) := fun ct =>
  PS.imp (ps_asg (ha ct) (pg_sub (pe_var hj hv hd hcd) pe_int set_list hg) hs hw h1) fun D σ H ⟨ρ, ow, S, h⟩ => ⟨ρ, ow, S, PostS.bind h fun a ρ1 v H1 ow1 l1 S1 r1 h1 => by
    dsimp only at h1
    cases e : ρ1.getD j .u with
    | tp t =>
      rw [e] at h1
      have r := S1.slots j
      rw [e] at r
      obtain ⟨p, g1, q, o1, o2, ne, hp, hq⟩ := r
      cases r1 with
      | int n =>
        dsimp only [tpSet] at h1
        unfold Tp.regs at hp
        cases ex : t.ix with
        | none =>
          rw [ex] at h1 hp
          dsimp only at h1 hp
          by_cases i1 : i = 1
          · subst i1
            refine ⟨.ref p, getD_some g1, p, _, 1, 1, rfl, rfl, hp, rfl, ?_⟩
            exact h1 σ _ ow1 (.mk fun a o z w n => ⟨by rw [upd_ne (fun y => by subst y; omega)]; exact w, rfl⟩) (S1.tpPut (t' := ⟨t.cells, n, t.seed, none⟩) e g1 o1 o2 ne upd_same (by rw [upd_ne ne.symm]; exact hq) fun a c1 c2 => upd_ne c1)
          · by_cases i2 : i = 2
            · subst i2
              refine ⟨.ref p, getD_some g1, p, _, 2, 2, rfl, rfl, hp, rfl, ?_⟩
              exact h1 σ _ ow1 (.mk fun a o z w n => ⟨by rw [upd_ne (fun y => by subst y; omega)]; exact w, rfl⟩) (S1.tpPut (t' := ⟨t.cells, t.cur, n, none⟩) e g1 o1 o2 ne upd_same (by rw [upd_ne ne.symm]; exact hq) fun a c1 c2 => upd_ne c1)
            · rw [if_neg i1, if_neg i2] at h1; exact h1.elim
        | some k =>
          rw [ex] at h1 hp
          dsimp only at h1 hp
          by_cases i1 : i = 1
          · subst i1
            refine ⟨.ref p, getD_some g1, p, _, 1, 1, rfl, rfl, hp, rfl, ?_⟩
            exact h1 σ _ ow1 (.mk fun a o z w n => ⟨by rw [upd_ne (fun y => by subst y; omega)]; exact w, rfl⟩) (S1.tpPut (t' := ⟨t.cells, t.cur, t.seed, some n⟩) e g1 o1 o2 ne upd_same (by rw [upd_ne ne.symm]; exact hq) fun a c1 c2 => upd_ne c1)
          · by_cases i2 : i = 2
            · subst i2
              refine ⟨.ref p, getD_some g1, p, _, 2, 2, rfl, rfl, hp, rfl, ?_⟩
              exact h1 σ _ ow1 (.mk fun a o z w n => ⟨by rw [upd_ne (fun y => by subst y; omega)]; exact w, rfl⟩) (S1.tpPut (t' := ⟨t.cells, n, t.seed, some k⟩) e g1 o1 o2 ne upd_same (by rw [upd_ne ne.symm]; exact hq) fun a c1 c2 => upd_ne c1)
            · by_cases i3 : i = 3
              · subst i3
                refine ⟨.ref p, getD_some g1, p, _, 3, 3, rfl, rfl, hp, rfl, ?_⟩
                exact h1 σ _ ow1 (.mk fun a o z w n => ⟨by rw [upd_ne (fun y => by subst y; omega)]; exact w, rfl⟩) (S1.tpPut (t' := ⟨t.cells, t.cur, n, some k⟩) e g1 o1 o2 ne upd_same (by rw [upd_ne ne.symm]; exact hq) fun a c1 c2 => upd_ne c1)
              · rw [if_neg i1, if_neg i2, if_neg i3] at h1; exact h1.elim
      | _ => exact h1.elim
    | u => rw [e] at h1; exact h1.elim
    | d x => rw [e] at h1; exact h1.elim
    | ol xs => rw [e] at h1; exact h1.elim
    | od xs => rw [e] at h1; exact h1.elim
    | dl xs => rw [e] at h1; exact h1.elim
    | tb => rw [e] at h1; exact h1.elim⟩
def fInt : List PyData → R PyData
  | [.int i] => .ok (.int i)
  | [.bool b] => .ok (.int (if b then 1 else 0))
  | _ => .stk
theorem o_int : OpA X (.type "int") fInt := by
  intro ct pins s σ H xs us Q I rv h
  obtain ⟨ow, ds, nl, hx, h⟩ := h
  cases hx with
  | nil => exact h.elim
  | cons r rr =>
    cases rr with
    | cons _ _ => cases r <;> exact h.elim
    | nil =>
      cases r with
      | int i => exact call_int1 pins s σ H _ us Q I rv (.inl ⟨i, rfl, h _ H (.refl H) (.int _)⟩)
      | bl b => exact call_int1 pins s σ H _ us Q I rv (.inr ⟨b, rfl, h _ H (.refl H) (.int _)⟩)
      | _ => exact h.elim
end

/-! ### the law -/
/-- the promise of the tape's making -/
def spBoxG (mk : List Int → Tp) (K : PySem.W.Frag) : Sp := fun vs H Q _ => ∃ (a : Addr) (ns : List Int), vs = [.ref a] ∧ SqL K H a (ns.map V.int) ∧ ns.length ≤ 63 ∧ ∀ (p q : Addr) (H' : Hp), Same H H' → H p = none → H q = none → p ≠ q →
  H' p = some (.lst (.ref q :: (mk ns).regs)) → H' q = some (.lst ((mk ns).cells.map V.int)) → Q (.ref p) H'
abbrev spBox (K : PySem.W.Frag) : Sp := spBoxG newTp K
/-- the other tape -/
def newTp2 (ns : List Int) : Tp := { cells := ns, cur := 0, seed := 1 + ns.length, ix := some 0 }
abbrev spTape (K : PySem.W.Frag) : Sp := spBoxG newTp2 K
def spLaw (K : PySem.W.Frag) : Sp := fun vs H Q _ => ∃ (a : Addr) (ns : List Int), vs = [.ref a] ∧ SqL K H a (ns.map V.int) ∧ ns.length ≤ 63 ∧ ∀ H', Q (.bl true) H'
/-- the law's own view of its entry: the script stands at a -/
structure ScriptAt (K : PySem.W.Frag) (C : Cy) (ns : List Int) : Prop where
  ex : ∃ a, C.σ0.getD 0 none = some (.ref a) ∧ SqL K C.H0 a (ns.map V.int) ∧ C.ow0 a = 0
  out : ∀ a, C.ow0 a ≠ 1
  len : ns.length ≤ 63
section
variable {X : Cx} {C : Cy} {K : PySem.W.Frag} {σ : St} {H : Hp} {ow : Ow} {ρ : Rho}
theorem SR.script (S : SR K C ρ ow σ H) {ns : List Int} (A : ScriptAt K C ns) (hb : C.br 0 = true) : ∃ a, σ.getD 0 none = some (.ref a) ∧ SqL K H a (ns.map V.int) := by
  obtain ⟨a, h1, h2, h3⟩ := A.ex
  refine ⟨a, by rw [S.par 0 hb]; exact h1, ?_⟩
  rcases h2 with (h2 | ⟨o, h2⟩) | h2
  · exact .inl (.inl (S.ent.ap a _ (by omega) h2).1)
  · exact .inl (.inr ⟨o, (S.ent.ap a _ (by omega) h2).1⟩)
  · exact .inr h2
def dBoxG (mk : List Int → Tp) (j : Nat) (ns : List Int) : SDen := fun ρ => if j < ρ.length then .nx (ρ.set j (.tp (mk ns))) else .stk
abbrev dBox (j : Nat) (ns : List Int) : SDen := dBoxG newTp j ns
abbrev dTape (j : Nat) (ns : List Int) : SDen := dBoxG newTp2 j ns
theorem ss_box {mk : List Int → Tp} (j : Nat) {ns : List Int} {k : Nat} {f : Addr} {fd : FuncData} {ps : List Str} {x y z : Str} {p pz py pos posc : Pos} (A : ScriptAt X.K C ns) (hb : C.br 0 = true) (hbj : C.br j = false)
    (F : FnOk X.prog X.w X.K X.mg X.base CX0 k f fd ps (spBoxG mk X.K)) (hr : Room k X.A) (hg : Gl X x) (hm : X.mg x = some (.ref f)) (hk : PySem.W.keepIn X.K (.ref f) = true) (hbi : Binds X.K fd ps [])
    (hz : X.N[0]? = some z := by rfl) (hvz : Vis X.env.scope z := by first | exact Or.inl rfl | exact Or.inr (Or.inl rfl) | exact Or.inr (Or.inr rfl)) (hj : X.N[j]? = some y := by rfl) (hy : Loc X.env.scope y := by first | exact Or.inl rfl | exact Or.inr rfl)
    (hdz : (z == ("__debug__" : Str)) = false := by decide) (hcz : (z == ("__classdict__" : Str)) = false := by decide) (hdb : (x == ("__debug__" : Str)) = false := by decide)
    (hf : X.fn y = true ∨ X.env.scope.names.lookup y = some .local := by first | exact .inl rfl | exact .inr rfl)
    (he : starEach [.Name z pz] X.env = (false, eval (.Name z pz) X.env) :: starEach [] X.env := by rfl) (hpl : (backTo posc (starEach [] X.env)).any (·.1) = false := by rfl)
    (hs : swapsWith (.Call (.Name x p) [.Name z pz] [] posc) (some (.Name y py)) pos.line X.env = pure false := by rfl) :
    SS X C (.Assign [.Name y py] (.Call (.Name x p) [.Name z pz] [] posc) pos) (dBoxG mk j ns) := fun ct =>
  PS.imp (ps_set ct.nd hj hy (pe_call F hr hg hm hk hbi .nil pass0 (pa_cons (pe_var hz hvz hdz hcz) pa_nil he) hdb he hpl) hs hf) fun D σ H ⟨ρ, ow, S, h⟩ => by
    obtain ⟨a, h1, h2⟩ := S.script A hb
    refine ⟨.ref a, getD_some h1, a, ns, rfl, h2, A.len, fun p q H' sm np nq ne hp hq => ?_⟩
    unfold dBoxG at h
    split at h
    · rename_i hjl
      -- the tape is ours from here on
      have op := S.fresh np
      have oq := S.fresh nq
      have S1 := S.same sm
      have l : Later ow H (own (own ow p (j + 2)) q (j + 2)) H' := .mk fun a o z w n => by
        have n1 : a ≠ p := ne_of_none w np
        have n2 : a ≠ q := ne_of_none w nq
        exact ⟨sm a o w, by rw [own_ne n2, own_ne n1]⟩
      have n0 : ∀ a, H a ≠ none → a ≠ p ∧ a ≠ q := fun a z => ⟨fun y => z (by rw [y]; exact np), fun y => z (by rw [y]; exact nq)⟩
      refine h _ H' (own (own ow p (j + 2)) q (j + 2)) l ⟨by rw [List.length_set, List.length_set]; exact S.len, fun k => ?_, S.ent.trans l, fun a w => ?_, fun a w => ?_, S1.dom, fun k w => ?_⟩
      · rw [getD_set, getD_setV, ← S.len]
        by_cases c : j = k ∧ j < ρ.length
        · rw [if_pos c, if_pos c, ← c.1]
          exact ⟨p, rfl, q, by rw [own_ne ne, own_same], own_same, ne, hp, hq⟩
        · rw [if_neg c, if_neg c]
          exact (S.slots k).other0 l.z fun a o w e => by
            obtain ⟨n1, n2⟩ := n0 a (by rw [e]; exact fun z => nomatch z)
            exact ⟨sm a o e, by rw [own_ne n2, own_ne n1]; exact w⟩
      · exact absurd w (A.out a)
      · by_cases c1 : a = p
        · subst c1; rw [hp]; exact .of rfl nofun
        · by_cases c2 : a = q
          · subst c2; rw [hq]; exact .of rfl nofun
          · rw [own_ne c2, own_ne c1] at w; exact S1.trk a w
      · rw [getD_setV]
        have : ¬ (j = k ∧ j < σ.length) := fun z => by rw [← z.1, hbj] at w; cases w
        rw [if_neg this]
        exact S.par k w
    · exact h.elim
end
section
variable {P : Program} {w : World} {K : PySem.W.Frag} {mg : Str → Option Value} {base : Heap}
/-- the law keeps its promise if its denotation gives True -/
theorem law_den {x qual : Str} {st : Stmt} {f : Addr} {fd : FuncData} {N : List Str} {p : Str} {k : Nat} {body : List Int → SDen} (F : Fun K x qual st f fd) (S : FnScope N [p] (defScope st)) (hN : 1 ≤ N.length)
    (hb : ∀ (ns : List Int) (cdv : Value) (A : Around) (outer : List Env) (s : Shared) (H : Hp) (E : XK) (ow : Ow) (σ0 : St), Room k (A.deeper (envOfC qual (defScope st) s.heap.objs.size f cdv)) → ScriptAt K ⟨H, ow, σ0, br0⟩ ns →
      SSs (cxOf CX0 P w K mg base N qual (defScope st) f cdv A outer s H E).nox ⟨H, ow, σ0, br0⟩ (defBody st) (body ns))
    (ht : ∀ ns : List Int, ns.length ≤ 63 → ∃ ρ, body ns (List.replicate N.length .u) = .rt (.bool true) ρ) :
    FnOk P w K mg base CX0 (k + 1) f fd [p] (spLaw K) := by
  refine F.ok S (fun vs H Q E h => ?_) (fun cdv A outer s H vs Q E hr h => ?_)
  · obtain ⟨_, _, rfl, _⟩ := h; rfl
  · obtain ⟨a, ns, rfl, hS, hl, q⟩ := h
    have ct : Ct (cxOf CX0 P w K mg base N qual (defScope st) f cdv A outer s H E).nox := ⟨rfl, S.nd, by have := hr.un; show (A.deeper _).units + 65 < cLine; omega, hr.hd⟩
    have A0 : ScriptAt K ⟨H, fun _ => 0, start N [.ref a], br0⟩ ns := ⟨⟨a, by rw [getD_start]; rfl, hS, rfl⟩, fun _ => nofun, hl⟩
    refine ⟨_, hb ns cdv A outer s H E (fun _ => 0) (start N [.ref a]) hr A0 ct, List.replicate N.length .u, fun _ => 0, ?_, ?_⟩
    · refine ⟨?_, fun i => ?_, .refl _ _, fun a h => h, fun a h => absurd rfl h, fun a h => h, fun i h => rfl⟩
      · unfold start
        simp only [List.length_append, List.length_replicate, List.length_map, List.length_cons, List.length_nil]
        omega
      · have : (List.replicate N.length Sl.u).getD i .u = .u := by
          rw [List.getD_eq_getElem?_getD, List.getElem?_replicate]
          split <;> rfl
        rw [this]; exact True.intro
    · obtain ⟨ρ, e⟩ := ht ns hl
      rw [e]
      intro v σ' H' ow' l S' r
      cases r
      exact q H'
end
end L2.DY

end
section
/-! DyTac: arguments have the length that is written; texts times a number; more operators. -/
namespace L2.DY
open PySem PySem.Spec PyProof.Rows
theorem dNil_len {ρ : Rho} {as : List PyData} {ρ' : Rho} (h : dNil ρ = .ok (as, ρ')) : as.length = 0 := by
  unfold dNil at h
  injection h with h; injection h with h1 _; subst h1; rfl
theorem dCons_len {da : Den} {ds : DenA} {n : Nat} (h : ∀ ρ as ρ', ds ρ = .ok (as, ρ') → as.length = n) : ∀ ρ as ρ', dCons da ds ρ = .ok (as, ρ') → as.length = n + 1 := fun ρ as ρ' e => by
  unfold dCons at e
  cases e1 : da ρ with
  | exc c x => rw [e1] at e; cases e
  | stk => rw [e1] at e; cases e
  | ok r =>
    rw [e1] at e
    cases e2 : ds r.2 with
    | exc c x => simp only [R.bind_ok, e2] at e; cases e
    | stk => simp only [R.bind_ok, e2] at e; cases e
    | ok q =>
      simp only [R.bind_ok, e2] at e
      injection e with e; injection e with e3 _
      subst e3
      rw [List.length_cons, h _ _ _ e2]
theorem dNil_len' : ∀ ρ as ρ', dNil ρ = .ok (as, ρ') → as.length = 0 := fun _ _ _ h => dNil_len h
theorem noBr_lt {n : Nat} : ∀ i, noBr i = true → i < n := fun _ h => absurd h Bool.false_ne_true
theorem br0_lt {n : Nat} (h : 0 < n) : ∀ i, br0 i = true → i < n := fun i e => by
  have : i = 0 := by simpa [br0] using e
  omega
theorem br0_out {vs : List Nat} (h : (vs.all fun i => i != 0) = true) : ∀ i ∈ vs, br0 i = false := fun i hi => by
  have := List.all_eq_true.mp h i hi
  simpa [br0] using this

section
variable {X : Cx} {C : Cy} {K : PySem.W.Frag} {σ : St} {H : Hp} {ow : Ow} {ρ : Rho}
/-! ### a text times a number -/
theorem rep_arr (c : Array Nat) : ∀ n : Nat, ((List.replicate n c).foldl (· ++ ·) #[]).toList = (List.replicate n c.toList).flatten := fun n => by
  have key : ∀ (n : Nat) (a : Array Nat), ((List.replicate n c).foldl (· ++ ·) a).toList = a.toList ++ (List.replicate n c.toList).flatten := by
    intro n
    induction n with
    | zero => intro a; simp
    | succ n ih => intro a; rw [List.replicate_succ, List.foldl_cons, ih, List.replicate_succ, List.flatten_cons]; simp
  have := key n #[]
  simpa using this
theorem mul_txt (x : Str) (j : Int) : Txt.mul x j = ⟨(List.replicate j.toNat x.cps.toList).flatten.toArray⟩ := by
  unfold Txt.mul
  by_cases h : j < 1
  · rw [if_pos h]
    have : j.toNat = 0 := by omega
    rw [this]; rfl
  · rw [if_neg h]
    split
    · rename_i hc
      rcases Bool.or_eq_true _ _ |>.mp hc with q | q
      · have : j = 1 := by simpa using q
        subst this
        show x = ⟨(List.replicate 1 x.cps.toList).flatten.toArray⟩
        simp
      · have h0 : x.cps = #[] := Array.eq_empty_of_size_eq_zero (by simpa [Str.length] using q)
        obtain ⟨c⟩ := x
        simp only at h0
        subst h0
        simp
    · have := rep_arr x.cps j.toNat
      rw [← this]
theorem RpA.rep {K : PySem.W.Frag} {ow : Ow} {H : Hp} {vs : List V} {ds : List PyData} (r : RpA K ow H vs ds) : ∀ n : Nat, RpA K ow H (List.replicate n vs).flatten (List.replicate n ds).flatten
  | 0 => .nil
  | n + 1 => by
    rw [List.replicate_succ, List.replicate_succ, List.flatten_cons, List.flatten_cons]
    exact r.append (r.rep n)
theorem o_mul : Op2 X (binaryOp .Mult) fMul := by
  intro ct pins s σ H x y v u Q I rx ry h
  obtain ⟨ow, dx, dy, nl, hx, hy, h⟩ := h
  cases hx with
  | int i =>
    cases hy with
    | int j => exact o_mulI ct pins s σ H _ _ v u Q I rx ry ⟨ow, .int i, .int j, nl, .int i, .int j, h⟩
    | _ => exact h.elim
  | str a ha =>
    cases hy with
    | int j =>
      simp only [fMul] at h
      split at h
      · rename_i hz
        simp only [Bool.and_eq_true, decide_eq_true_eq] at hz
        obtain ⟨⟨h1, h2⟩, h3⟩ := hz
        obtain ⟨t, rfl⟩ := rx
        obtain ⟨t', rfl⟩ := ry
        have ln : (lineN : Nat) = 16777216 := rfl
        have hlen : ((List.replicate j.toNat a.cps.toList).flatten).length ≤ 16777216 := by
          rw [List.length_flatten, List.map_replicate, List.sum_replicate_nat, Array.length_toList]
          by_cases hj : 0 ≤ j
          · have e : ((j.toNat * a.cps.size : Nat) : Int) = j * (a.length : Int) := by
              rw [Int.natCast_mul, Int.toNat_of_nonneg hj]; rfl
            have : ((j.toNat * a.cps.size : Nat) : Int) ≤ 16777216 := by rw [e, Int.mul_comm]; exact h1
            omega
          · have : j.toNat = 0 := by omega
            rw [this]; omega
        have sok : SOk ⟨(List.replicate j.toNat a.cps.toList).flatten.toArray⟩ := ⟨strOk_of fun c hc => by
          have hc' : c ∈ (List.replicate j.toNat a.cps.toList).flatten := hc
          obtain ⟨l, hl, hcl⟩ := List.mem_flatten.mp hc'
          rw [(List.mem_replicate.mp hl).2] at hcl
          exact of_strOk ha.cp c hcl, by show (List.replicate j.toNat a.cps.toList).flatten.toArray.size ≤ lineN; rw [List.size_toArray, ln]; exact hlen⟩
        have ok : MulOk a j := by
          refine ⟨?_, fun hn hc => ?_, fun hn hc => ?_⟩
          · have e1 : decide (j < -(2 ^ 63 : Int)) = false := decide_eq_false (by omega)
            have e2 : decide (j ≥ 2 ^ 63) = false := decide_eq_false (by omega)
            rw [e1, e2]; rfl
          · intro hgt
            have hp : 0 < j := by omega
            have h4 : (2 ^ 63 - 1 : Int) / j < (a.length : Int) := hgt
            have h5 : (2 ^ 63 - 1 : Int) < (a.length : Int) * j := (Int.ediv_lt_iff_lt_mul hp).mp h4
            omega
          · have hj : 0 ≤ j := by omega
            have e : ((a.length * j.toNat : Nat) : Int) = (a.length : Int) * j := by rw [Int.natCast_mul, Int.toNat_of_nonneg hj]
            have : a.length * j.toNat ≤ 16777216 := by have : ((a.length * j.toNat : Nat) : Int) ≤ 16777216 := by rw [e]; exact h1
                                                       omega
            show Builtin.Str.tooLong _ = false
            unfold Builtin.Str.tooLong
            have := lineN_eq
            exact decide_eq_false (by omega)
        refine SB.mul ok fun t' k => ?_
        rw [mul_txt]
        exact ⟨.str _, H, I.tok _, ⟨_, rfl⟩, h _ H (.refl H) (.str _ sok)⟩
      · exact h.elim
    | _ => exact h.elim
  | tup e r =>
    cases hy with
    | int j =>
      simp only [fMul] at h
      split at h
      · rename_i hz
        simp only [Bool.and_eq_true, decide_eq_true_eq, Bool.not_eq_true'] at hz
        obtain ⟨⟨⟨h1, h2⟩, h3⟩, h4⟩ := hz
        exact op_repT pins s σ H _ _ v u Q I rx ry ⟨_, _, _, rfl, rfl, e.sq, (fun q => by subst q; cases r; cases h1), h3, h4, by rw [r.length]; exact h2, fun p hp => h _ _ (same_upd hp) (rp_newTup hp (nl p hp) (r.rep _))⟩
      · exact h.elim
    | _ => exact h.elim
  | _ => exact h.elim

/-! ### a, b, c = x, y, z -/
def dPar3 (i j l : Nat) (ds : DenA) : SDen := fun ρ => (ds ρ).then fun r => match r.1 with
  | [x, y, z] => .nx (((r.2.set i (.d x)).set j (.d y)).set l (.d z))
  | _ => .stk
theorem ss_par3 (i j l : Nat) {x y z : Str} {a b c : Expr} {ds : DenA} {px py pz pt pos : Pos} {kt k2 pt2} (ha : SA X C [a, b, c] ds) (hij : i ≠ j := by decide) (hil : i ≠ l := by decide) (hjl : j ≠ l := by decide) (hi : X.N[i]? = some x := by rfl) (hj : X.N[j]? = some y := by rfl) (hl : X.N[l]? = some z := by rfl)
    (hx : X.env.scope.names.lookup x = some .local := by rfl) (hy : X.env.scope.names.lookup y = some .local := by rfl) (hz : X.env.scope.names.lookup z = some .local := by rfl) (hbi : C.br i = false := by rfl) (hbj : C.br j = false := by rfl) (hbl : C.br l = false := by rfl)
    (hw : swappedStores [.Tuple [.Name x px, .Name y py, .Name z pz] kt pt] (.Tuple [a, b, c] k2 pt2) X.env = pure (some [x, y, z]) := by rfl)
    (hs : swapsWithSole [.Tuple [.Name x px, .Name y py, .Name z pz] kt pt] (.Tuple [a, b, c] k2 pt2) pos.line X.env = pure false := by rfl) : SS X C (.Assign [.Tuple [.Name x px, .Name y py, .Name z pz] kt pt] (.Tuple [a, b, c] k2 pt2) pos) (dPar3 i j l ds) := fun ct =>
  PS.imp (ps_par3 ct.calm ct.nd hi hj hl hij hil hjl hx hy hz (ha ct) hw hs) fun D σ H ⟨ρ, ow, S, h⟩ => ⟨ρ, ow, S, PostS.bind h fun as ρ1 bs H1 ow1 l1 S1 r1 h1 => by
    dsimp only at h1
    cases r1 with
    | nil => exact h1.elim
    | cons q1 r1 =>
      cases r1 with
      | nil => exact h1.elim
      | cons q2 r1 =>
        cases r1 with
        | nil => exact h1.elim
        | cons q3 r1 =>
          cases r1 with
          | nil => exact ⟨_, _, _, rfl, h1 _ H1 ow1 (.refl _ _) (((S1.store q1 hbi).store q2 hbj).store q3 hbl)⟩
          | cons _ _ => exact h1.elim⟩
/-! ### x += e -/
theorem ip_addD : Ip2 X .Add (fun x y => match x, y with | .int i, .int j => fAdd (.int i) (.int j) | .str a, .str b => fAdd (.str a) (.str b) | _, _ => .stk) := by
  intro ct pins s σ H x y v u Q I rx ry h
  obtain ⟨ow, dx, dy, nl, hx, hy, h⟩ := h
  cases hx with
  | int i =>
    cases hy with
    | int j => exact iop_add pins s σ H _ _ v u Q I rx ry ⟨i, j, rfl, rfl, h _ H (.refl H) (.int _)⟩
    | _ => exact h.elim
  | str a ha =>
    cases hy with
    | str b hb =>
      simp only [fAdd] at h
      split at h
      · rename_i hz
        exact iop_add_str pins s σ H _ _ v u Q I rx ry ⟨a, b, rfl, rfl, by rw [lineN_eq]; exact hz, h _ H (.refl H) (.str _ (SOk.append ha hb hz))⟩
      · exact h.elim
    | _ => exact h.elim
  | _ => exact h.elim

/-! ### xs[::-1] of a tuple -/
theorem rev_adjust (n : Nat) : Builtin.Slice.sliceAdjust none none (-1) (n : Int) = ((n : Int) - 1, -1) := by
  unfold Builtin.Slice.sliceAdjust
  simp
theorem rev_places (n : Nat) : Builtin.Slice.slicePlaces ((n : Int) - 1) (-1) (-1) = n := by
  unfold Builtin.Slice.slicePlaces
  have h1 : ¬ ((-1 : Int) > 0) := by omega
  simp only [h1, if_false]
  by_cases h : n = 0
  · subst h; simp
  · simp only [Int.neg_neg, Int.ediv_one]
    split <;> omega
theorem fm_congr {α β : Type} {f g : α → Option β} : ∀ {l : List α}, (∀ a ∈ l, f a = g a) → l.filterMap f = l.filterMap g
  | [], _ => rfl
  | a :: l, h => by
    rw [List.filterMap_cons, List.filterMap_cons, h a List.mem_cons_self, fm_congr fun b hb => h b (List.mem_cons_of_mem _ hb)]
theorem rev_pick (xs : Array Value) : ((List.range xs.size).filterMap fun (m : Nat) => xs[(((xs.size : Int) - 1) + (m : Int) * (-1)).toNat]?).toArray = xs.toList.reverse.toArray := by
  have e : ∀ m ∈ List.range xs.size, xs[(((xs.size : Int) - 1) + (m : Int) * (-1)).toNat]? = xs.toList.reverse[m]? := fun m hm => by
    have hm : m < xs.size := List.mem_range.mp hm
    have : (((xs.size : Int) - 1) + (m : Int) * (-1)).toNat = xs.size - 1 - m := by omega
    rw [this, List.getElem?_reverse (by rw [Array.length_toList]; exact hm), Array.length_toList]
    simp
  have e2 : (List.range xs.size).filterMap (fun (m : Nat) => xs[(((xs.size : Int) - 1) + (m : Int) * (-1)).toNat]?) = (List.range xs.size).filterMap (fun m => xs.toList.reverse[m]?) := fm_congr fun m hm => e m hm
  rw [e2]
  have e3 : ∀ (l : List Value), (List.range l.length).filterMap (fun m => l[m]?) = l := fun l => by
    refine List.ext_getElem? fun i => ?_
    have : ∀ (k : Nat) (l : List Value), k ≤ l.length → (List.range k).filterMap (fun m => l[m]?) = l.take k := by
      intro k
      induction k with
      | zero => intro l _; simp
      | succ k ih =>
        intro l hk
        rw [List.range_succ, List.filterMap_append, ih l (by omega)]
        have : l[k]? = some l[k] := List.getElem?_eq_getElem (by omega)
        rw [List.take_add_one, this, List.filterMap_cons, this]; rfl
    rw [this _ l (Nat.le_refl _), List.take_length]
  have e4 := e3 xs.toList.reverse
  rw [List.length_reverse, Array.length_toList] at e4
  rw [e4]
theorem sliceApplied_rev {prog : Program} {w : World} {A : Around} {E : Value → Shared → Prop} {s : Shared} {sl : Addr} {vs : Value} {n : Nat} {Q : Int × Int × Nat → Shared → Prop} (hs : s.heap.IsSliceOf sl .none .none vs) (ps : IsPart vs (some (-1)))
    (h : Q ((n : Int) - 1, -1, n) s) : wpAny (model prog w) A (Builtin.Slice.sliceApplied (.ref sl) (pure (n : Int))) Q E s := by
  obtain ⟨os, hos, hcs, hds⟩ := id hs
  unfold Builtin.Slice.sliceApplied Builtin.Slice.sliceFields
  refine wpAny_bind (wpAny_bind (wpAny_field hos hds (x := .none) rfl (wpAny_bind (wpAny_field hos hds (x := .none) rfl (wpAny_bind (wpAny_field hos hds (x := vs) rfl (wpAny_pure ?_)))))))
  refine wpAny_bind (HT.slicePart_ ps ?_)
  show wpAny _ _ (if ((-1 : Int) == 0) = true then _ else _) _ _ s
  rw [if_neg (by decide)]
  refine wpAny_bind (HT.slicePart_ .none (wpAny_bind (HT.slicePart_ .none (wpAny_bind (wpAny_pure ?_)))))
  show wpAny _ _ (match Builtin.Slice.sliceAdjust none none (-1) (n : Int) with | (lo, hi) => pure (lo, (-1 : Int), Builtin.Slice.slicePlaces lo hi (-1))) _ _ s
  rw [rev_adjust n]
  show wpAny _ _ (pure ((n : Int) - 1, (-1 : Int), Builtin.Slice.slicePlaces ((n : Int) - 1) (-1) (-1))) _ _ s
  rw [rev_places]
  exact wpAny_pure h
theorem getItem_tuple_rev {prog : Program} {w : World} {A : Around} {E : Value → Shared → Prop} {s : Shared} {t sl : Addr} {items : Array Value} {vs : Value} {Q : Value → Shared → Prop} (ht : IsTup s.heap t items) (hs : s.heap.IsSliceOf sl .none .none vs) (ps : IsPart vs (some (-1)))
    (h : Q (.ref s.heap.objs.size) { s with heap := s.heap.push { cls := .type "tuple", data := .seq items.toList.reverse.toArray } })
    (hsz : items.size ≤ sizeLine) : wpAny (model prog w) A (getItem (.ref t) (.ref sl)) Q E s := by
  have htake : sizeOk (.seq items.toList.reverse.toArray) := by
    show items.toList.reverse.toArray.size ≤ sizeLine
    rw [List.size_toArray, List.length_reverse, Array.length_toList]
    exact hsz
  obtain ⟨os, hos, hcs, hds⟩ := id hs
  have hTs : s.TypeIs (.ref sl) "slice" := ⟨os, hos, hcs⟩
  unfold getItem
  try with_reducible refine wpAny_holding ?_
  first | refine wpAny_bind (wpAny_pure ?_) | skip
  refine wpAny_bind (wpAny_sequenceKey ht.typeIs (by decide) ?_)
  refine wpAny_bind (wpAny_callSpecial?_slot (name := Str.ofString "__getitem__") ht.typeIs PyProof.Rows.slot_tuple_getitem
    (wpAny_call_entry PyProof.Rows.slot_tuple_getitem ht.typeIs entry_tuple_getitem ?_ (args_tuple_getitem _ _)))
  show wpAny _ _ (Builtin.Tuple.tupleItemsOf (.ref t) >>= _) _ _ s
  refine wpAny_bind (tupleItemsOf_ ht ?_)
  refine wpAny_bind (wpAny_typeOf hTs ?_)
  rw [if_pos (by decide)]
  refine wpAny_bind (sliceApplied_rev hs ps ?_)
  have hno : ¬ ((((items.size : Nat) : Int) - 1 == 0 && (-1 : Int) == 1 && items.size == items.size) = true) := by
    intro q
    rw [Bool.and_eq_true, Bool.and_eq_true] at q
    exact absurd q.1.2 (by decide)
  show wpAny _ _ (if (((items.size : Nat) : Int) - 1 == 0 && (-1 : Int) == 1 && items.size == items.size) = true then _ else _) _ _ s
  rw [if_neg hno, rev_pick]
  first
    | exact wpAny_bind (m := Builtin.Tuple.tupleExact _) (wpAny_newObj_type (wpAny_pure ⟨_, rfl, wpAny_pure h⟩) htake)
    | exact wpAny_bind (m := Builtin.Tuple.tupleExact _) (wpAny_newObj_type (wpAny_bind (wpAny_pure (wpAny_pure ⟨_, rfl, wpAny_pure h⟩))) htake)
    | exact wpAny_bind (wpAny_bind (m := Builtin.Tuple.tupleExact _) (wpAny_newObj_type (wpAny_pure (wpAny_pure ⟨_, rfl, wpAny_pure h⟩)) htake))
    | exact wpAny_bind (wpAny_bind (m := Builtin.Tuple.tupleExact _) (wpAny_newObj_type (wpAny_pure ⟨_, rfl, wpAny_pure h⟩) htake))
def fRev : PyData → R PyData
  | .list xs => .ok (.list xs.reverse)
  | .tuple xs => .ok (.tuple xs.reverse)
  | _ => .stk
theorem se_rev {e : Expr} {da : Den} {k : Nat} {p1 p2 p3 pos : Pos} (he : SE X C e da) : SE X C (.Subscript e (.Slice none none (some (.UnaryOp .USub (.Constant (.int 1) k p1) p2)) p3) pos) (dOp1 fRev da) := fun ct => by
  refine ⟨fun pins s σ H Q I hq => ?_⟩
  obtain ⟨ρ, ow, S, hq⟩ := hq
  refine Subscript_ (thn ((he ct).run pins s σ H (fun v H1 => ∃ ow1 d, (∀ a, H1 a = none → ow1 a = 0) ∧ Rp X.K ow1 H1 v d ∧ PostV X.K (fRev d) ow1 H1 Q) I ⟨ρ, ow, S, Post.bind hq fun a ρ1 b H1 ow1 l1 S1 r1 h1 => ⟨ow1, a, S1.nil, r1, .of S1 h1⟩⟩) fun v s1 ⟨x, H1, I1, r1, ow1, d, nl, rd, q⟩ => ?_)
  have hst : PO X (some (.UnaryOp .USub (.Constant (.int 1) k p1) p2)) (tPart (tUn (rU fun i => .int (-i)) (tC (.int 1)))) := po_some (pe_un un_neg pe_int)
  refine wpAny_Slice (thn (po_none.run pins s1 σ H1 (fun o H2 => o = none ∧ H2 = H1) I1 ⟨rfl, rfl⟩) fun vl s2 ⟨l, H2, I2, pl, el, e2⟩ => ?_)
  subst el e2
  refine thn (po_none.run pins s2 σ H2 (fun o H3 => o = none ∧ H3 = H2) I2 ⟨rfl, rfl⟩) fun vu s3 ⟨u, H3, I3, pu, eu, e3⟩ => ?_
  subst eu e3
  refine thn (hst.run pins s3 σ H3 (fun o H4 => o = some (-1) ∧ H4 = H3) I3 ⟨1, rfl, -1, rfl, rfl, rfl⟩) fun vs s4 ⟨o, H4, I4, ps, eo, e4⟩ => ?_
  subst eo e4
  have I5 : Inv X pins σ H4 { s4 with heap := s4.heap.push { cls := .type "slice", data := .fields #[vl, vu, vs] } } := I4.kept (t' := s4.toks) fun b ob q => Heap.get?_push_of_some _ q
  show wpAny (model X.prog X.w) X.A (subscriptTail e (.Slice none none (some (.UnaryOp .USub (.Constant (.int 1) k p1) p2)) p3) v (.ref s4.heap.objs.size)) (EP X pins σ Q) X.xe { s4 with heap := s4.heap.push { cls := .type "slice", data := .fields #[vl, vu, vs] } }
  cases rd with
  | @lst a xs ds z hx r =>
    cases r1
    obtain ⟨its, ri, ht, hz⟩ := I5.list (SqL.of hx)
    have hlen := ri.length
    refine tail_any (ops := [.ref a, .ref s4.heap.objs.size]) ht.isList.typeIs (PySem.slot_list_getitem.lookup) ?_ (by with_unfolding_all rfl)
    refine wpAny_getItem_list_slice ht.isList (Heap.IsSliceOf.new _ vl vu vs) pl pu ps (by decide) ?_ (by rw [List.size_toArray]; omega)
    rw [PySem.W.krv_pick]
    have hn : H4 s4.heap.objs.size.succ = none := I4.hok.fresh (Nat.le_succ _)
    have hn2 : H4 (s4.heap.push { cls := .type "slice", data := .fields #[vl, vu, vs] }).objs.size = none := I5.hok.fresh (Nat.le_refl _)
    refine ⟨.ref _, _, I5.laid (t' := s4.toks) (o := .lst xs.reverse) (fun b ob q => Heap.get?_push_of_some _ q) (Nat.le_refl _) ?_, rfl, q _ _ (same_upd hn2) (rp_newLst hn2 (nl _ hn2) r.reverse)⟩
    exact ⟨by rw [List.length_reverse]; exact hz, _, 0, ri.reverse, Heap.get?_push_size _ rfl⟩
  | @tup a xs ds hx r =>
    cases r1
    obtain ⟨its, ri, ht, hz⟩ := I5.tuple hx.sq
    have hlen := ri.length
    cases pl
    cases pu
    refine tail_any (ops := [.ref a, .ref s4.heap.objs.size]) ht.typeIs PyProof.Rows.slot_tuple_getitem.lookup ?_ (by with_unfolding_all rfl)
    have hn2 : H4 (s4.heap.push { cls := .type "slice", data := .fields #[.none, .none, vs] }).objs.size = none := I5.hok.fresh (Nat.le_refl _)
    refine getItem_tuple_rev ht (Heap.IsSliceOf.new _ .none .none vs) ps ?_ (by rw [List.size_toArray]; omega)
    refine ⟨.ref _, _, I5.laid (t' := s4.toks) (o := .tup xs.reverse) (fun b ob q => Heap.get?_push_of_some _ q) (Nat.le_refl _) ?_, rfl, q _ _ (same_upd hn2) (rp_newTup hn2 (nl _ hn2) r.reverse)⟩
    exact ⟨by rw [List.length_reverse]; exact hz, _, ri.reverse, IsTup.new _ _⟩
  | _ => exact q.elim
end
end L2.DY

end
section
/-! DyLoad: the first two statements of the tape's reader (cells = box[0]; the next cell taken). -/
namespace L2.DY
open PySem PySem.Spec PyProof.Rows
section
variable {X : Cx} {C : Cy} {K : PySem.W.Frag} {σ : St} {H : Hp} {ow : Ow} {ρ : Rho}
theorem SR.scratch (S : SR K C ρ ow σ H) {i : Nat} (v : V) (hb : C.br i = false) : SR K C (ρ.set i .u) ow (σ.set i (some v)) H := by
  refine ⟨by rw [List.length_set, List.length_set]; exact S.len, fun j => ?_, S.ent, S.out, S.trk, S.dom, fun j hj => ?_⟩
  · rw [getD_set, getD_setV, S.len]
    by_cases e : i = j ∧ i < σ.length
    · rw [if_pos e, if_pos e]; exact True.intro
    · rw [if_neg e, if_neg e]; exact S.slots j
  · rw [getD_setV]
    have : ¬ (i = j ∧ i < σ.length) := fun z => by rw [z.1, hj] at hb; cases hb
    rw [if_neg this]
    exact S.par j hj
/-- the tape's cells written -/
theorem SR.tpCells (S : SR K C ρ ow σ H) {j : Nat} {t : Tp} (e : ρ.getD j .u = .tp t) {p q : Addr} (h1 : σ.getD j none = some (.ref p)) (o1 : ow p = j + 2) (o2 : ow q = j + 2) (ne : p ≠ q) (hp : H p = some (.lst (.ref q :: t.regs))) {r : List Int} :
    SR K C (ρ.set j (.tp { t with cells := r })) ow σ (upd H q (.lst (r.map V.int))) ∧ Later ow H ow (upd H q (.lst (r.map V.int))) := by
  refine ⟨S.tpPut (t' := { t with cells := r }) e h1 o1 o2 ne (by rw [upd_ne ne]; exact hp) upd_same fun a c1 c2 => upd_ne c2, .mk fun a o z w n => ⟨?_, rfl⟩⟩
  rw [upd_ne (fun y => by subst y; omega)]; exact w
def dLoad (db dr : SDen) : SDen := fun ρ => if ρ.length ≤ 2 then .stk else match ρ.getD 0 .u with
  | .tp t => match t.cells with
    | [] => dr (ρ.set 1 .u)
    | c :: r => dSeq db dr (((ρ.set 1 .u).set 0 (.tp { t with cells := r })).set 2 (.d (.int c)))
  | _ => .stk
/-- cells = box[0]; if len(cells) > 0: cell = int(cells.pop(0)); .. -/
theorem ss_load {s1 s2 : Stmt} {test : Expr} {br rest : List Stmt} {db dr : SDen} {pos : Pos} (b1 : C.br 1 = false) (b2 : C.br 2 = false)
    (hA : Ct X → PS X s1 (tAsg (tOp (rIxL X.K) (tVar 0) (tC (.int 0))) (gName 1)))
    (hT : Ct X → PT X test (tTest (tOp (rI0 fun i j => .bl (decide (j < i))) (tCB (fun xs H Q => ∃ x n, xs = [x] ∧ LenV X.K x H n ∧ Q (.int n) H) (tCons (tVar 1) tNil)) (tC (.int 0)))))
    (hC : Ct X → PS X s2 (tAsg (tCB (fun xs H Q => (∃ i, xs = [.int i] ∧ Q (.int i) H) ∨ ∃ k, xs = [.bl k] ∧ Q (.int (if k then 1 else 0)) H) (tCons (tBM X.K "list" rPopAt (tVar 1) (tCons (tC (.int 0)) tNil)) tNil)) (gName 2)))
    (hbr : SSs X C br db) (hr : SSs X C rest dr) : SSs X C (s1 :: .If test (s2 :: br) [] pos :: rest) (dLoad db dr) := fun ct =>
  PSs.imp (pss_cons (hA ct) (pss_cons (ps_if (hT ct) (pss_cons (hC ct) (hbr ct)) pss_nil) (hr ct))) fun D σ H ⟨ρ, ow, S, h⟩ => by
    unfold dLoad at h
    split at h
    · exact h.elim
    rename_i hlen
    have hlen' : 2 < σ.length := by rw [← S.len]; omega
    cases e : ρ.getD 0 .u with
    | u => rw [e] at h; exact h.elim
    | d x => rw [e] at h; exact h.elim
    | ol xs => rw [e] at h; exact h.elim
    | od xs => rw [e] at h; exact h.elim
    | dl xs => rw [e] at h; exact h.elim
    | tb => rw [e] at h; exact h.elim
    | tp t =>
      rw [e] at h
      have r := S.slots 0
      rw [e] at r
      obtain ⟨p, g0, q, o1, o2, ne, hp, hq⟩ := r
      have S1 : SR X.K C (ρ.set 1 .u) ow (σ.set 1 (some (.ref q))) H := S.scratch _ b1
      have g0' : (σ.set 1 (some (V.ref q))).getD 0 none = some (.ref p) := by rw [getD_setV, if_neg (by omega)]; exact g0
      have g1 : (σ.set 1 (some (V.ref q)))[1]? = some (some (.ref q)) := List.getElem?_set_self (by omega)
      have e' : (ρ.set 1 .u).getD 0 .u = .tp t := by rw [getD_set, if_neg (by omega)]; exact e
      refine ⟨.ref p, getD_some g0, p, _, 0, .ref q, rfl, rfl, SqL.of hp, (by unfold Tp.regs; cases t.ix <;> rfl), ?_⟩
      refine ⟨.ref q, g1, .ref q, _, rfl, .inl ⟨_, SqL.of hq, rfl⟩, _, _, rfl, rfl, _, rfl, ?_⟩
      dsimp only at h
      cases ec : t.cells with
      | nil =>
        rw [ec] at h
        exact ⟨_, _, S1, h⟩
      | cons c r =>
        rw [ec] at h hq
        have hpos : decide ((0 : Int) < (((c :: r).map V.int).length : Nat)) = true := decide_eq_true (by rw [List.length_map, List.length_cons]; omega)
        rw [hpos, if_pos rfl]
        obtain ⟨S2, l2⟩ := S1.tpCells e' g0' o1 o2 ne hp (r := r)
        refine ⟨.ref q, g1, .inl ⟨rfl, _, SqL.of hq⟩, q, _, 0, 0, .int c, rfl, rfl, hq, by omega, by omega, ?_, rfl, .inl ⟨c, rfl, ?_⟩⟩
        · exact seqIndex_of (by omega) (by rw [List.length_map, List.length_cons]; omega)
        · have S3 := S2.store (i := 2) (.int c) b2
          refine ⟨_, _, S3, ?_⟩
          have h' := PostS.later l2 h
          unfold dSeq at h'; dsimp only at h'
          cases eb : db (((ρ.set 1 Sl.u).set 0 (.tp { t with cells := r })).set 2 (.d (.int c))) with
          | nx ρ4 => rw [eb] at h'; exact fun σ4 H4 ow4 l4 S4 => ⟨ρ4, ow4, S4, PostS.later l4 h'⟩
          | rt d ρ4 => rw [eb] at h'; exact h'
          | bk ρ4 => rw [eb] at h'; exact h'
          | ct ρ4 => rw [eb] at h'; exact h'
          | stk => rw [eb] at h'; exact h'
end
/-! ### the tape's reader and the draw, by what they give -/
def denLoad : SDen :=
  dLoad
    (dSeq (dSet 3 (dIf (dTestB (dOp2 fGe (dVar 2) (dC (.int 0)))) (dOp2 fMul (dC (.int 2)) (dVar 2)) (dOp2 fSub (dOp2 fMul (dOp1 fNeg (dC (.int 2))) (dVar 2)) (dC (.int 1)))))
    (dSeq (dIfS (dTestB (dOp2 fGe (dVar 3) (dC (.int 1000000000000000000)))) (dRet (dVar 3)) (dNext))
    (dTpSet 0 2 (dOp2 fMod (dOpA fInt (dCons (dOp2 fAdd (dOp2 fAdd (dOp2 fMul (dTpGet 0 2) (dC (.int 69621))) (dOp2 fMul (dVar 3) (dC (.int 48271)))) (dC (.int 11))) (dNil))) (dC (.int 2147483647))))))
    (dSeq (dSet 4 (dOp2 fMod (dOpA fInt (dCons (dOp2 fAdd (dOp2 fMul (dTpGet 0 2) (dC (.int 48271))) (dC (.int 17))) (dNil))) (dC (.int 2147483629))))
    (dSeq (dSet 5 (dOp2 fMod (dOpA fInt (dCons (dOp2 fAdd (dOp2 fMul (dVar 4) (dC (.int 69621))) (dC (.int 5))) (dNil))) (dC (.int 2147483587))))
    (dSeq (dTpSet 0 2 (dOp2 fMod (dOpA fInt (dCons (dOp2 fAdd (dOp2 fMul (dVar 5) (dC (.int 40692))) (dC (.int 3))) (dNil))) (dC (.int 2147483563))))
    (dRet (dOp2 fAdd (dOp2 fAdd (dOp2 fMul (dVar 4) (dC (.int 4611686014132420609))) (dOp2 fMul (dVar 5) (dC (.int 2147483647)))) (dTpGet 0 2))))))
def denDraw (c__law_load : Sem1) : SDen :=
  dSeq (dIfS (dTestB (dOp2 fLt (dTpGet 0 1) (dVar 1))) (dTpSet 0 1 (dCallR c__law_load 0 (dNil))) (dNext))
    (dSeq (dSet 2 (dOp2 fMod (dOpA fInt (dCons (dTpGet 0 1) (dNil))) (dVar 1)))
    (dSeq (dTpSet 0 1 (dOp2 fDiv (dTpGet 0 1) (dVar 1)))
    (dRet (dVar 2))))

theorem getD_c0 {a : Sl} {l : List Sl} : (a :: l).getD 0 .u = a := rfl
theorem getD_cs {a : Sl} {l : List Sl} {n : Nat} : (a :: l).getD (n + 1) .u = l.getD n .u := rfl
theorem mulS {i j : Int} (h : small64 j = true) : fMul (.int i) (.int j) = .ok (.int (i * j)) := by
  show (if small64 i || small64 j then _ else _) = _
  rw [h, Bool.or_true, if_pos rfl]
theorem mulS' {i j : Int} (h : small64 i = true) : fMul (.int i) (.int j) = .ok (.int (i * j)) := by
  show (if small64 i || small64 j then _ else _) = _
  rw [h, Bool.true_or, if_pos rfl]
theorem load_ix (t : Tp) : (loadF t).2.ix = t.ix := by
  unfold loadF
  split
  · rfl
  · split <;> rfl
theorem run_load (t : Tp) (hx : t.ix = none) : runDef 6 1 denLoad [.tp t] = .ok (.int (loadF t).1, [.tp (loadF t).2]) := by
  obtain ⟨cells, cur, seed, ix⟩ := t
  cases (show ix = none from hx)
  cases cells with
  | nil => simp [runDef, denLoad, dLoad, dSeq, dSet, dOp2, dTpGet, dTpSet, dC, dVar, dOpA, dCons, dNil, fInt, fMod, fAdd, mulS, mulS', tpAt, tpSet, R.then, R.bind, dRet, loadF, mixF, small64]
  | cons c r => 
    by_cases hc : 0 ≤ c
    · by_cases hz : 1000000000000000000 ≤ 2 * c
      · simp [runDef, denLoad, dLoad, dSeq, dSet, dIf, dIfS, dTestB, isBl, fGe, fSub, fNeg, dOp1, dNext, dOp2, dTpGet, dTpSet, dC, dVar, dOpA, dCons, dNil, fInt, fMod, fAdd, mulS, mulS', tpAt, tpSet, R.then, R.bind, dRet, loadF, mixF, small64, sizeF, hc, hz]
      · simp [runDef, denLoad, dLoad, dSeq, dSet, dIf, dIfS, dTestB, isBl, fGe, fSub, fNeg, dOp1, dNext, dOp2, dTpGet, dTpSet, dC, dVar, dOpA, dCons, dNil, fInt, fMod, fAdd, mulS, mulS', tpAt, tpSet, R.then, R.bind, dRet, loadF, mixF, small64, sizeF, hc, hz]
    · by_cases hz : 1000000000000000000 ≤ -2 * c - 1
      · simp [runDef, denLoad, dLoad, dSeq, dSet, dIf, dIfS, dTestB, isBl, fGe, fSub, fNeg, dOp1, dNext, dOp2, dTpGet, dTpSet, dC, dVar, dOpA, dCons, dNil, fInt, fMod, fAdd, mulS, mulS', tpAt, tpSet, R.then, R.bind, dRet, loadF, mixF, small64, sizeF, hc, hz]
      · simp [runDef, denLoad, dLoad, dSeq, dSet, dIf, dIfS, dTestB, isBl, fGe, fSub, fNeg, dOp1, dNext, dOp2, dTpGet, dTpSet, dC, dVar, dOpA, dCons, dNil, fInt, fMod, fAdd, mulS, mulS', tpAt, tpSet, R.then, R.bind, dRet, loadF, mixF, small64, sizeF, hc, hz]
theorem run_draw (t : Tp) {many : Int} (h0 : 0 < many) (h1 : many < 1073741824) (h2 : 0 ≤ t.seed) (h3 : t.seed < 4294967296) (hx : t.ix = none) : runDef 3 2 (denDraw fLoad) [.tp t, .d (.int many)] = .ok (.int (drawF t many).1, [.tp (drawF t many).2, .d (.int many)]) := by
  obtain ⟨cells, cur, seed, ix⟩ := t
  cases (show ix = none from hx)
  dsimp only at h2 h3
  by_cases hc : cur < many <;> simp [runDef, denDraw, dSeq, dSet, dIfS, dTestB, isBl, fLt, fDiv, dNext, dOp2, dTpGet, dTpSet, dC, dVar, dOpA, dCons, dNil, fInt, fMod, tpAt, tpSet, R.then, R.bind, dRet, dCallR, isU, fLoad, drawF, load_ix, hc, h0, h1, h2, h3]
end L2.DY

end
section
/-! DyBox: the tape's making. -/
namespace L2.DY
open PySem PySem.Spec PyProof.Rows
section
variable {P : Program} {w : World} {K : PySem.W.Frag} {mg : Str → Option Value} {base : Heap}
def rList (K : PySem.W.Frag) : List V → Hp → VK → Prop := fun xs H Q => ∃ p ys, xs = [.ref p] ∧ (SqL K H p ys ∨ SqT K H p ys) ∧ ∀ l, H l = none → Q (.ref l) (upd H l (.lst ys))
def rLenB (K : PySem.W.Frag) : List V → Hp → VK → Prop := fun xs H Q => ∃ x n, xs = [x] ∧ LenV K x H n ∧ Q (.int n) H
theorem SqL.same {H H' : Hp} {a : Addr} {xs : List V} (h : SqL K H a xs) (s : Same H H') : SqL K H' a xs := by
  rcases h with (h | ⟨o, h⟩) | h
  · exact .inl (.inl (s _ _ h))
  · exact .inl (.inr ⟨o, s _ _ h⟩)
  · exact .inr h
theorem fn_box {x qual : Str} {st : Stmt} {f : Addr} {fd : FuncData} {p : Str} {k : Nat} (F : Fun K x qual st f fd) (S : FnScope [p] [p] (defScope st))
    (hb : ∀ (cdv : Value) (A : Around) (outer : List Env) (s : Shared) (H : Hp) (E : XK), Ct (cxOf CX0 P w K mg base [p] qual (defScope st) f cdv A outer s H E).nox →
      PSs (cxOf CX0 P w K mg base [p] qual (defScope st) f cdv A outer s H E).nox (defBody st)
        (tRet (tLst (tCons (tCB (rList K) (tCons (tSl (rSlL K) (tVar 0) tNoPart (tPart (tC (.int 63)))) tNil)) (tCons (tC (.int 0)) (tCons (tOp (rI0 fun i j => .int (i + j)) (tC (.int 4711)) (tCB (rLenB K) (tCons (tVar 0) tNil))) tNil)))))) :
    FnOk P w K mg base CX0 (k + 1) f fd [p] (spBox K) := by
  refine F.ok S (fun vs H Q E h => ?_) (fun cdv A outer s H vs Q E hr h => ?_)
  · obtain ⟨_, _, rfl, _⟩ := h; rfl
  · obtain ⟨a, ns, rfl, hS, hl, q⟩ := h
    have ct : Ct (cxOf CX0 P w K mg base [p] qual (defScope st) f cdv A outer s H E).nox := ⟨rfl, S.nd, by have := hr.un; show (A.deeper _).units + 65 < cLine; omega, hr.hd⟩
    refine ⟨_, hb cdv A outer s H E ct, .ref a, rfl, 63, rfl, a, _, rfl, hS, fun r hr => ?_⟩
    have hc : cutV (ns.map V.int) none (some 63) = ns.map V.int := by
      have := cutG_whole (xs := ns.map V.int) (lo := none) (hi := some 63) ⟨by rfl, by
        show HT.sIx _ _ (some 63) = _
        unfold HT.sIx
        rw [List.length_map]
        simp
        omega⟩
      exact this
    rw [hc]
    have s1 : Same H (upd H r (.lst (ns.map V.int))) := same_upd hr
    refine ⟨r, _, rfl, .inl (SqL.of upd_same), fun l hl1 => ⟨.ref a, rfl, .ref a, ns.length, rfl, ?_, 4711, _, rfl, rfl, ?_, fun p hp => ?_⟩⟩
    · exact .inl ⟨_, SqL.same (SqL.same hS s1) (same_upd hl1), (List.length_map V.int).symm⟩
    · exact Nat.le_trans (by decide : 3 ≤ lineN) (Nat.le_of_eq lineN_eq.symm)
    · have nr : upd (upd H r (.lst (ns.map V.int))) l (.lst (ns.map V.int)) r = some (.lst (ns.map V.int)) := by
        rw [upd_ne (ne_of_none upd_same hl1)]; exact upd_same
      have e0 : H l = none := by
        rw [upd_ne] at hl1
        · exact hl1
        · intro z; rw [z, upd_same] at hl1; cases hl1
      have hpl : p ≠ l := fun z => by rw [z, upd_same] at hp; cases hp
      have ep : H p = none := by
        rw [upd_ne hpl] at hp
        rw [upd_ne] at hp
        · exact hp
        · intro z; rw [z, upd_same] at hp; cases hp
      refine q p l _ ((s1.trans (same_upd hl1)).trans (same_upd hp)) ep e0 hpl upd_same ?_
      rw [upd_ne hpl.symm]; exact upd_same
end
end L2.DY

end
section
/-! DyTake: the other tape (a list of cells, how many are read, what is left, the seed). -/
namespace L2.DY
open PySem PySem.Spec PyProof.Rows
section
variable {X : Cx} {C : Cy} {K : PySem.W.Frag} {σ : St} {H : Hp} {ow : Ow} {ρ : Rho}
theorem regs_some {t : Tp} {k : Int} (h : t.ix = some k) : t.regs = [.int k, .int t.cur, .int t.seed] := by unfold Tp.regs; rw [h]
theorem atI_zero {v : V} {vs : List V} : atI (v :: vs) 0 = some v := atI_nat (j := 0) rfl
/-- tape[0][tape[1]] -/
def dTpCell (j : Nat) : Den := fun ρ => match ρ.getD j .u with
  | .tp t => match t.ix with
    | some k => if 0 ≤ k then (match t.cells[k.toNat]? with | some c => .ok (.int c, ρ) | none => .stk) else .stk
    | none => .stk
  | _ => .stk
theorem se_tpcell (j : Nat) {x : Str} {k0 k1 p0 p1 pa pb pos0 pos1 pos : _} (hj : X.N[j]? = some x := by rfl) (hv : Vis X.env.scope x := by first | exact Or.inl rfl | exact Or.inr (Or.inl rfl) | exact Or.inr (Or.inr rfl)) (hd : (x == ("__debug__" : Str)) = false := by decide) (hcd : (x == ("__classdict__" : Str)) = false := by decide) :
    SE X C (.Subscript (.Subscript (.Name x p0) (.Constant (.int 0) k0 pa) pos0) (.Subscript (.Name x p1) (.Constant (.int 1) k1 pb) pos1) pos) (dTpCell j) := fun ct =>
  PE.imp (pe_ix ix_list (pe_ix ix_list (pe_var hj hv hd hcd) pe_int (fun _ _ => rfl)) (pe_ix ix_list (pe_var hj hv hd hcd) pe_int (fun _ _ => rfl)) (fun _ _ => rfl)) fun σ H Q ⟨ρ, ow, S, h⟩ => by
    unfold dTpCell at h
    cases e : ρ.getD j .u with
    | tp t =>
      rw [e] at h
      have r := S.slots j
      rw [e] at r
      obtain ⟨p, h1, q, o1, o2, ne, hp, hq⟩ := r
      dsimp only at h
      cases ex : t.ix with
      | none => rw [ex] at h; exact h.elim
      | some k =>
        rw [ex] at h
        dsimp only at h
        split at h
        · rename_i hk
          cases ec : t.cells[k.toNat]? with
          | none => rw [ec] at h; exact h.elim
          | some c =>
            rw [ec] at h
            have hp' := hp
            rw [regs_some ex] at hp'
            refine ⟨.ref p, getD_some h1, p, _, 0, .ref q, rfl, rfl, SqL.of hp, atI_zero, ?_⟩
            refine ⟨.ref p, getD_some h1, p, _, 1, .int k, rfl, rfl, SqL.of hp', rfl, ?_⟩
            refine ⟨q, _, k, .int c, rfl, rfl, SqL.of hq, ?_, h _ H ow (.refl _ _) S (.int _)⟩
            have z := atI_nat (xs := t.cells.map V.int) (j := k.toNat) (v := .int c) (by rw [List.getElem?_map, ec]; rfl)
            rw [Int.toNat_of_nonneg hk] at z
            exact z
        · exact h.elim
    | u => rw [e] at h; exact h.elim
    | d x => rw [e] at h; exact h.elim
    | ol xs => rw [e] at h; exact h.elim
    | od xs => rw [e] at h; exact h.elim
    | dl xs => rw [e] at h; exact h.elim
    | tb => rw [e] at h; exact h.elim
/-- len(tape[0]) -/
def dTpLen (j : Nat) : Den := fun ρ => match ρ.getD j .u with
  | .tp t => .ok (.int t.cells.length, ρ)
  | _ => .stk
theorem se_tplen (j : Nat) {x : Str} {k0 p0 pa pos0 pos p : _} (hg : Gl X "len") (hm : X.mg "len" = none) (hj : X.N[j]? = some x := by rfl) (hv : Vis X.env.scope x := by first | exact Or.inl rfl | exact Or.inr (Or.inl rfl) | exact Or.inr (Or.inr rfl)) (hd : (x == ("__debug__" : Str)) = false := by decide) (hcd : (x == ("__classdict__" : Str)) = false := by decide)
    (he : starEach [.Subscript (.Name x p0) (.Constant (.int 0) k0 pa) pos0] X.env = (false, eval (.Subscript (.Name x p0) (.Constant (.int 0) k0 pa) pos0) X.env) :: starEach [] X.env := by rfl) (hpl : (backTo pos (starEach [] X.env)).any (·.1) = false := by rfl) :
    SE X C (.Call (.Name "len" p) [.Subscript (.Name x p0) (.Constant (.int 0) k0 pa) pos0] [] pos) (dTpLen j) := fun ct =>
  PE.imp (pe_callB call_len hg hm (by decide +kernel) (pa_cons (pe_ix ix_list (pe_var hj hv hd hcd) pe_int (fun _ _ => rfl)) pa_nil he) (by decide) (by decide) he hpl) fun σ H Q ⟨ρ, ow, S, h⟩ => by
    unfold dTpLen at h
    cases e : ρ.getD j .u with
    | tp t =>
      rw [e] at h
      have r := S.slots j
      rw [e] at r
      obtain ⟨p, h1, q, o1, o2, ne, hp, hq⟩ := r
      refine ⟨.ref p, getD_some h1, p, _, 0, .ref q, rfl, rfl, SqL.of hp, atI_zero, ?_⟩
      exact ⟨.ref q, t.cells.length, rfl, .inl ⟨_, SqL.of hq, (List.length_map V.int).symm⟩, h _ H ow (.refl _ _) S (.int _)⟩
    | u => rw [e] at h; exact h.elim
    | d x => rw [e] at h; exact h.elim
    | ol xs => rw [e] at h; exact h.elim
    | od xs => rw [e] at h; exact h.elim
    | dl xs => rw [e] at h; exact h.elim
    | tb => rw [e] at h; exact h.elim
end
section
variable {P : Program} {w : World} {K : PySem.W.Frag} {mg : Str → Option Value} {base : Heap}
theorem fn_tape {x qual : Str} {st : Stmt} {f : Addr} {fd : FuncData} {p : Str} {k : Nat} (F : Fun K x qual st f fd) (S : FnScope [p] [p] (defScope st))
    (hb : ∀ (cdv : Value) (A : Around) (outer : List Env) (s : Shared) (H : Hp) (E : XK), Ct (cxOf CX0 P w K mg base [p] qual (defScope st) f cdv A outer s H E).nox →
      PSs (cxOf CX0 P w K mg base [p] qual (defScope st) f cdv A outer s H E).nox (defBody st)
        (tRet (tLst (tCons (tCB (rList K) (tCons (tSl (rSlL K) (tVar 0) tNoPart (tPart (tC (.int 80)))) tNil)) (tCons (tC (.int 0)) (tCons (tC (.int 0)) (tCons (tOp (rI0 fun i j => .int (i + j)) (tC (.int 1)) (tCB (rLenB K) (tCons (tVar 0) tNil))) tNil))))))) :
    FnOk P w K mg base CX0 (k + 1) f fd [p] (spTape K) := by
  refine F.ok S (fun vs H Q E h => ?_) (fun cdv A outer s H vs Q E hr h => ?_)
  · obtain ⟨_, _, rfl, _⟩ := h; rfl
  · obtain ⟨a, ns, rfl, hS, hl, q⟩ := h
    have ct : Ct (cxOf CX0 P w K mg base [p] qual (defScope st) f cdv A outer s H E).nox := ⟨rfl, S.nd, by have := hr.un; show (A.deeper _).units + 65 < cLine; omega, hr.hd⟩
    refine ⟨_, hb cdv A outer s H E ct, .ref a, rfl, 80, rfl, a, _, rfl, hS, fun r hr => ?_⟩
    have hc : cutV (ns.map V.int) none (some 80) = ns.map V.int := by
      have := cutG_whole (xs := ns.map V.int) (lo := none) (hi := some 80) ⟨by rfl, by
        show HT.sIx _ _ (some 80) = _
        unfold HT.sIx
        rw [List.length_map]
        simp
        omega⟩
      exact this
    rw [hc]
    have s1 : Same H (upd H r (.lst (ns.map V.int))) := same_upd hr
    refine ⟨r, _, rfl, .inl (SqL.of upd_same), fun l hl1 => ⟨.ref a, rfl, .ref a, ns.length, rfl, ?_, 1, _, rfl, rfl, ?_, fun p hp => ?_⟩⟩
    · exact .inl ⟨_, SqL.same (SqL.same hS s1) (same_upd hl1), (List.length_map V.int).symm⟩
    · exact Nat.le_trans (by decide : 4 ≤ lineN) (Nat.le_of_eq lineN_eq.symm)
    · have nr : upd (upd H r (.lst (ns.map V.int))) l (.lst (ns.map V.int)) r = some (.lst (ns.map V.int)) := by
        rw [upd_ne (ne_of_none upd_same hl1)]; exact upd_same
      have e0 : H l = none := by
        rw [upd_ne] at hl1
        · exact hl1
        · intro z; rw [z, upd_same] at hl1; cases hl1
      have hpl : p ≠ l := fun z => by rw [z, upd_same] at hp; cases hp
      have ep : H p = none := by
        rw [upd_ne hpl] at hp
        rw [upd_ne] at hp
        · exact hp
        · intro z; rw [z, upd_same] at hp; cases hp
      refine q p l _ ((s1.trans (same_upd hl1)).trans (same_upd hp)) ep e0 hpl upd_same ?_
      rw [upd_ne hpl.symm]; exact upd_same
end
/-! ### the tape's reader and the draw, by what they give -/
def mix1 (n : Int) : Int := (n * 6364136223846793005 + 1442695040888963407) % 18446744073709551616
def mix2 (n : Int) : Int := (mix1 n * mix1 n / 4294967296 + mix1 n * 69621) % 18446744073709551557
def fMix : Sem1 := fun sls => match sls with
  | [.d (.int n)] => .ok (.int (mix2 n), [.d (.int (mix1 n))])
  | _ => .stk
/-- the tape's next -/
def nextF (t : Tp) (k : Int) : Tp := match t.cells[k.toNat]? with
  | some c => { t with ix := some (k + 1), seed := mix2 (t.seed + sizeF c), cur := if 1000000000000000000 ≤ sizeF c then sizeF c else mix2 (mix2 (sizeF c) + (k + 1)) }
  | none => { t with seed := mix2 (t.seed + 1), cur := mix2 (t.seed + 1) }
def takeF (t : Tp) (k many : Int) : Int × Tp :=
  let t1 := if t.cur < many then nextF t k else t
  (t1.cur % many, { t1 with cur := t1.cur / many })
theorem take_range (t : Tp) (k : Int) {many : Int} (h : 0 < many) : 0 ≤ (takeF t k many).1 ∧ (takeF t k many).1 < many := ⟨Int.emod_nonneg _ (by omega), Int.emod_lt_of_pos _ h⟩
/-- such a tape -/
def Tp.Ok2 (t : Tp) : Prop := ∃ k : Int, t.ix = some k ∧ 0 ≤ k
theorem take_ok {t : Tp} {k : Int} (h : t.ix = some k) (h0 : 0 ≤ k) (many : Int) : (takeF t k many).2.Ok2 := by
  unfold takeF nextF
  dsimp only
  split
  · split
    · exact ⟨k + 1, rfl, by omega⟩
    · exact ⟨k, h, h0⟩
  · exact ⟨k, h, h0⟩
def fTake : Sem1 := fun sls => match sls with
  | [.tp t, .d (.int many)] => match t.ix with
    | some k => if 0 ≤ k && decide (0 < many) && decide (many < 1073741824) then .ok (.int (takeF t k many).1, [.tp (takeF t k many).2, .d (.int many)]) else .stk
    | none => .stk
  | _ => .stk
def denMix : SDen :=
  dSeq (dSet 0 (dOp2 fMod (dOpA fInt (dCons (dOp2 fAdd (dOp2 fMul (dVar 0) (dC (.int 6364136223846793005))) (dC (.int 1442695040888963407))) (dNil))) (dC (.int 18446744073709551616))))
    (dRet (dOp2 fMod (dOpA fInt (dCons (dOp2 fAdd (dOp2 fDiv (dOp2 fMul (dVar 0) (dVar 0)) (dC (.int 4294967296))) (dOp2 fMul (dVar 0) (dC (.int 69621)))) (dNil))) (dC (.int 18446744073709551557))))
def denTake (c__law_mix : Sem1) : SDen :=
  dSeq (dIfS (dTestB (dOp2 fLt (dTpGet 0 2) (dVar 1))) (dIfS (dTestB (dOp2 fLt (dTpGet 0 1) (dTpLen 0))) (dSeq (dSet 2 (dTpCell 0))
    (dSeq (dSet 2 (dIf (dTestB (dOp2 fGe (dVar 2) (dC (.int 0)))) (dOp2 fMul (dC (.int 2)) (dVar 2)) (dOp2 fSub (dOp2 fMul (dOp1 fNeg (dC (.int 2))) (dVar 2)) (dC (.int 1)))))
    (dSeq (dTpSet 0 1 (dOp2 fAdd (dTpGet 0 1) (dC (.int 1))))
    (dSeq (dTpSet 0 3 (dCall c__law_mix (dCons (dOp2 fAdd (dTpGet 0 3) (dVar 2)) (dNil))))
    (dTpSet 0 2 (dIf (dTestB (dOp2 fGe (dVar 2) (dOp2 fPow (dC (.int 10)) (dC (.int 18))))) (dVar 2) (dCall c__law_mix (dCons (dOp2 fAdd (dCall c__law_mix (dCons (dVar 2) (dNil))) (dTpGet 0 1)) (dNil))))))))) (dSeq (dTpSet 0 3 (dCall c__law_mix (dCons (dOp2 fAdd (dTpGet 0 3) (dC (.int 1))) (dNil))))
    (dTpSet 0 2 (dTpGet 0 3)))) (dNext))
    (dSeq (dSet 3 (dOp2 fMod (dOpA fInt (dCons (dTpGet 0 2) (dNil))) (dVar 1)))
    (dSeq (dTpSet 0 2 (dOp2 fDiv (dTpGet 0 2) (dVar 1)))
    (dRet (dVar 3))))
theorem mix1_small (n : Int) : small64 (mix1 n) = true := by
  have h1 := Int.emod_nonneg (n * 6364136223846793005 + 1442695040888963407) (show (18446744073709551616 : Int) ≠ 0 by decide)
  have h2 := Int.emod_lt_of_pos (n * 6364136223846793005 + 1442695040888963407) (show (0 : Int) < 18446744073709551616 by decide)
  unfold small64
  rw [Bool.and_eq_true, decide_eq_true_eq, decide_eq_true_eq]
  unfold mix1
  exact ⟨by omega, by omega⟩
theorem run_mix (n : Int) : runDef 1 1 denMix [.d (.int n)] = .ok (.int (mix2 n), [.d (.int (mix1 n))]) := by
  have e : (n * 6364136223846793005 + 1442695040888963407) % 18446744073709551616 = mix1 n := rfl
  have h := mix1_small n
  simp [runDef, denMix, dSeq, dSet, dOp2, dC, dVar, dOpA, dCons, dNil, fInt, fMod, fAdd, fDiv, mulS (show small64 6364136223846793005 = true by decide), mulS (show small64 69621 = true by decide), mulS h, e, R.then, R.bind, dRet, mix2]
theorem pow18 : fPow (.int 10) (.int 18) = .ok (.int 1000000000000000000) := by rfl
theorem run_take (t : Tp) {k many : Int} (hx : t.ix = some k) (hk : 0 ≤ k) (h0 : 0 < many) (h1 : many < 1073741824) : runDef 4 2 (denTake fMix) [.tp t, .d (.int many)] = .ok (.int (takeF t k many).1, [.tp (takeF t k many).2, .d (.int many)]) := by
  obtain ⟨cells, cur, seed, ix⟩ := t
  cases (show ix = some k from hx)
  by_cases hc : cur < many
  · by_cases hl : k < (cells.length : Int)
    · have hl' : k.toNat < cells.length := by omega
      have ec : cells[k.toNat]? = some cells[k.toNat] := List.getElem?_eq_getElem hl'
      obtain ⟨c, hcv⟩ : ∃ c, cells[k.toNat] = c := ⟨_, rfl⟩
      by_cases hp : 0 ≤ c
      · by_cases hz : 1000000000000000000 ≤ 2 * c <;> simp [runDef, denTake, dSeq, dSet, dIf, dIfS, dTestB, isBl, fLt, fGe, fSub, fNeg, dOp1, fDiv, dNext, dOp2, dTpGet, dTpSet, dTpCell, dTpLen, dC, dVar, dOpA, dCons, dNil, fInt, fMod, fAdd, mulS' (show small64 2 = true by decide), mulS' (show small64 (-2) = true by decide), tpAt, tpSet, R.then, R.bind, dRet, dCall, fMix, takeF, nextF, pow18, sizeF, hc, hl, hl', hk, hcv, hp, hz, h0, h1]
      · by_cases hz : 1000000000000000000 ≤ -2 * c - 1 <;> simp [runDef, denTake, dSeq, dSet, dIf, dIfS, dTestB, isBl, fLt, fGe, fSub, fNeg, dOp1, fDiv, dNext, dOp2, dTpGet, dTpSet, dTpCell, dTpLen, dC, dVar, dOpA, dCons, dNil, fInt, fMod, fAdd, mulS' (show small64 2 = true by decide), mulS' (show small64 (-2) = true by decide), tpAt, tpSet, R.then, R.bind, dRet, dCall, fMix, takeF, nextF, pow18, sizeF, hc, hl, hl', hk, hcv, hp, hz, h0, h1]
    · have ec : cells[k.toNat]? = none := List.getElem?_eq_none (by omega)
      simp [runDef, denTake, dSeq, dSet, dIf, dIfS, dTestB, isBl, fLt, fGe, fSub, fNeg, dOp1, fDiv, dNext, dOp2, dTpGet, dTpSet, dTpCell, dTpLen, dC, dVar, dOpA, dCons, dNil, fInt, fMod, fAdd, tpAt, tpSet, R.then, R.bind, dRet, dCall, fMix, takeF, nextF, hc, hl, hk, ec, h0, h1]
  · simp [runDef, denTake, dSeq, dSet, dIf, dIfS, dTestB, isBl, fLt, fDiv, dNext, dOp2, dTpGet, dTpSet, dC, dVar, dOpA, dCons, dNil, fInt, fMod, tpAt, tpSet, R.then, R.bind, dRet, takeF, hc, h0, h1]
theorem mix_congr : ∀ (sls : List Sl) (d : PyData) (sls' : List Sl), sls.length = ["number"].length → fMix sls = .ok (d, sls') → runDef 1 1 denMix sls = .ok (d, sls') := fun sls d sls' _ h => by
  unfold fMix at h
  split at h
  · rw [run_mix]; exact h
  · cases h
theorem take_congr : ∀ (sls : List Sl) (d : PyData) (sls' : List Sl), sls.length = ["tape", "many"].length → fTake sls = .ok (d, sls') → runDef 4 2 (denTake fMix) sls = .ok (d, sls') := fun sls d sls' _ h => by
  unfold fTake at h
  split at h
  · split at h
    · rename_i k hx
      split at h
      · rename_i hz
        simp only [Bool.and_eq_true, decide_eq_true_eq] at hz
        rw [run_take _ hx hz.1.1 hz.1.2 hz.2]; exact h
      · cases h
    · cases h
  · cases h
end L2.DY

end
section
/-! DyMut: lists that a slot owns: made, looked at, written. -/
namespace L2.DY
open PySem PySem.Spec PyProof.Rows

/-- a value: frozen data, or a new list or dict that nobody else holds -/
inductive Nv where
  | d (x : PyData)
  | nl (xs : List PyData)
  | nd (ds : List (PyData × PyData))
  deriving Inhabited
def Nv.sl : Nv → Sl
  | .d x => .d x
  | .nl xs => .ol xs
  | .nd ds => .od ds
def Nv.isD : Nv → Bool
  | .d _ => true
  | _ => false
/-- p is new since (ow0, H0) -/
def New (ow0 : Ow) (H0 : Hp) (p : Addr) : Prop := (ow0 p = 1 → H0 p = none) ∧ (ow0 p = 0 → ∀ o, NTb o → H0 p ≠ some o)
def RN (K : PySem.W.Frag) (ow0 : Ow) (H0 : Hp) (ow : Ow) (H : Hp) (v : V) : Nv → Prop
  | .d x => Rp K ow H v x
  | .nl xs => ∃ p vs, v = .ref p ∧ New ow0 H0 p ∧ ow p = 1 ∧ H p = some (.lst vs) ∧ RpA K ow H vs xs
  | .nd ds => ∃ p u, v = .ref p ∧ New ow0 H0 p ∧ ow p = 1 ∧ H p = some u ∧ RpD K ow H u ds
abbrev DenN := Rho → R (Nv × Rho)
def PostN (K : PySem.W.Frag) (C : Cy) (r : R (Nv × Rho)) (σ : St) (ow : Ow) (H : Hp) (Q : VK) : Prop :=
  match r with
  | .ok (n, ρ') => ∀ v H' ow', Later ow H ow' H' → SR K C ρ' ow' σ H' → RN K ow H ow' H' v n → Q v H'
  | _ => False
def rdN (K : PySem.W.Frag) (C : Cy) (den : DenN) : TE := fun σ H Q => ∃ ρ ow, SR K C ρ ow σ H ∧ PostN K C (den ρ) σ ow H Q
abbrev SN (X : Cx) (C : Cy) (e : Expr) (den : DenN) : Prop := Ct X → PE X e (rdN X.K C den)

section
variable {X : Cx} {C : Cy} {K : PySem.W.Frag} {σ : St} {H : Hp} {ow : Ow} {ρ : Rho}
theorem New.no {p : Addr} {o : HO} (h : New ow H p) (z : ow p ≤ 1) (e : H p = some o) (n : ow p = 0 → NTb o) : False := by
  by_cases q : ow p = 0
  · exact h.2 q o (n q) e
  · rw [h.1 (by omega)] at e; cases e
theorem New.later {ow1 : Ow} {H1 : Hp} {p : Addr} (h : New ow1 H1 p) (l : Later ow H ow1 H1) : New ow H p := by
  refine ⟨fun z => ?_, fun z o n e => ?_⟩
  · cases e : H p with
    | none => rfl
    | some o =>
      obtain ⟨q1, q2⟩ := l.ap p o (by omega) e (fun y => by omega)
      have := h.1 (by omega)
      rw [q1] at this; cases this
  · obtain ⟨q1, q2⟩ := l.ap p o (by omega) e (fun _ => n)
    exact h.2 (by omega) o n q1
theorem New.of {p : Addr} (h : H p = none) : New ow H p := ⟨fun _ => h, fun _ o _ e => by rw [h] at e; cases e⟩
theorem RN.later {ow0 ow1 ow2 : Ow} {H0 H1 H2 : Hp} {v : V} {n : Nv} (h : RN K ow0 H0 ow1 H1 v n) (l : Later ow1 H1 ow2 H2) : RN K ow0 H0 ow2 H2 v n := by
  cases n with
  | d x => exact Rp.later h l
  | nl xs =>
    obtain ⟨p, vs, h1, h2, h3, h4, h5⟩ := h
    obtain ⟨q1, q2⟩ := l.ap p _ (by omega) h4
    exact ⟨p, vs, h1, h2, by omega, q1, h5.later l⟩
  | nd xs =>
    obtain ⟨p, vs, h1, h2, h3, h4, h5⟩ := h
    obtain ⟨q1, q2⟩ := l.ap p _ (by omega) h4
    exact ⟨p, vs, h1, h2, by omega, q1, RpD.later0 l.z h5⟩
theorem RN.since {ow0 ow1 ow2 : Ow} {H0 H1 H2 : Hp} {v : V} {n : Nv} (h : RN K ow1 H1 ow2 H2 v n) (l : Later ow0 H0 ow1 H1) : RN K ow0 H0 ow2 H2 v n := by
  cases n with
  | d x => exact h
  | nl xs => obtain ⟨p, vs, h1, h2, h3⟩ := h; exact ⟨p, vs, h1, h2.later l, h3⟩
  | nd xs => obtain ⟨p, vs, h1, h2, h3⟩ := h; exact ⟨p, vs, h1, h2.later l, h3⟩
/-- something is made: nobody has it yet -/
theorem SR.make (S : SR K C ρ ow σ H) {ow0 : Ow} {H0 : Hp} (l : Later ow0 H0 ow H) {p : Addr} (hp : H p = none) (o : HO) (nt : ∀ a, ¬ BadO K a o := by exact nofun) : Later ow0 H0 (own ow p 1) (upd H p o) ∧ SR K C ρ (own ow p 1) σ (upd H p o) ∧ New ow0 H0 p ∧ Later0 ow H (own ow p 1) (upd H p o) := by
  refine ⟨.mk fun a ob z e n => ?_, S.alloc hp nt, New.later (New.of (ow := ow) hp) l, .mk fun a ob z e n => ?_⟩
  · obtain ⟨q1, q2⟩ := l.ap a ob z e
    have ne : a ≠ p := ne_of_none q1 hp
    exact ⟨by rw [upd_ne ne]; exact q1, by rw [own_ne ne]; exact q2⟩
  · have ne : a ≠ p := ne_of_none e hp
    exact ⟨by rw [upd_ne ne]; exact e, by rw [own_ne ne]; exact z⟩
theorem rn_list {ow0 : Ow} {H0 : Hp} (S : SR K C ρ ow σ H) (l : Later ow0 H0 ow H) {p : Addr} (hp : H p = none) {vs : List V} {xs : List PyData} (r : RpA K ow H vs xs) {Q : VK} (h : PostN K C (.ok (.nl xs, ρ)) σ ow0 H0 Q) : Q (.ref p) (upd H p (.lst vs)) := by
  obtain ⟨q1, q2, q3, q4⟩ := S.make l hp (.lst vs)
  exact h _ _ _ q1 q2 ⟨p, vs, rfl, q3, own_same, upd_same, RpA.later0 q4 r⟩
def dN (da : Den) : DenN := fun ρ => (da ρ).bind fun r => .ok (.d r.1, r.2)
theorem sn_of {e : Expr} {da : Den} (h : SE X C e da) : SN X C e (dN da) := fun ct => PE.imp (h ct) fun σ H Q ⟨ρ, ow, S, q⟩ => ⟨ρ, ow, S, by
  unfold dN at q
  cases e : da ρ with
  | ok r => rw [e] at q; exact fun v H' ow' l S' r => q v H' ow' l S' r
  | exc c x => rw [e] at q; exact q.elim
  | stk => rw [e] at q; exact q.elim⟩
def dNl (ds : DenA) : DenN := fun ρ => (ds ρ).bind fun r => if r.1.length ≤ lineN then .ok (.nl r.1, r.2) else .stk
theorem sn_lst {es : List Expr} {ds : DenA} {pos : Pos} (h : SA X C es ds) : SN X C (.List es pos) (dNl ds) := fun ct =>
  PE.imp (pe_lst (h ct)) fun σ H Q ⟨ρ, ow, S, q⟩ => ⟨ρ, ow, S, by
    unfold dNl at q
    cases e : ds ρ with
    | ok r =>
      rw [e] at q
      simp only [R.bind] at q
      split at q
      · rename_i hz
        exact fun vs H1 ow1 l1 S1 r1 => ⟨by rw [r1.length, lineN_eq]; exact hz, fun p hp => rn_list S1 l1 hp r1 q⟩
      · exact q.elim
    | exc c x => rw [e] at q; exact q.elim
    | stk => rw [e] at q; exact q.elim⟩

/-! ### looking at what a slot owns -/
def peek : Sl → R PyData
  | .d x => .ok x
  | .ol xs => .ok (.list xs)
  | .od ds => .ok (.dict ds)
  | _ => .stk
theorem SR.peek (S : SR K C ρ ow σ H) {i : Nat} {x : PyData} (h : peek (ρ.getD i .u) = .ok x) : ∃ v, σ.getD i none = some v ∧ RpS K ow H v x := by
  have r := S.slots i
  cases e : ρ.getD i .u with
  | u => rw [e] at h; cases h
  | tp t => rw [e] at h; cases h
  | dl t => rw [e] at h; cases h
  | tb => rw [e] at h; cases h
  | d y => rw [e] at h r; cases h; obtain ⟨v, h1, h2⟩ := r; exact ⟨v, h1, h2.s⟩
  | ol y => rw [e] at h r; cases h; obtain ⟨p, vs, h1, h2, h3, h4⟩ := r; exact ⟨_, h1, .lst h3 h4⟩
  | od y => rw [e] at h r; cases h; obtain ⟨p, vs, h1, h2, h3, h4⟩ := r; exact ⟨_, h1, .dct h3 h4⟩
/-- two operands -/
abbrev Den2 := Rho → R ((PyData × PyData) × Rho)
def rd2 (K : PySem.W.Frag) (C : Cy) (den : Den2) (σ : St) (H : Hp) (Q : V → V → Hp → Prop) : Prop := ∃ ρ ow, SR K C ρ ow σ H ∧ match den ρ with
  | .ok (xy, ρ') => ∀ v w H' ow', Later ow H ow' H' → SR K C ρ' ow' σ H' → RpS K ow' H' v xy.1 → RpS K ow' H' w xy.2 → Q v w H'
  | _ => False
def S2 (X : Cx) (C : Cy) (a b : Expr) (den : Den2) : Prop := Ct X → ∃ ta tb, PE X a ta ∧ PE X b tb ∧ ∀ σ H Q, rd2 X.K C den σ H Q → ta σ H fun x H1 => tb σ H1 fun y H2 => Q x y H2
def d2ee (da db : Den) : Den2 := fun ρ => (da ρ).bind fun r => (db r.2).bind fun q => .ok ((r.1, q.1), q.2)
def d2pe (i : Nat) (db : Den) : Den2 := fun ρ => if isU (ρ.getD i .u) then .stk else (db ρ).bind fun q => (peek (q.2.getD i .u)).bind fun x => .ok ((x, q.1), q.2)
def d2ep (da : Den) (i : Nat) : Den2 := fun ρ => (da ρ).bind fun q => (peek (q.2.getD i .u)).bind fun x => .ok ((q.1, x), q.2)
def d2pp (i j : Nat) : Den2 := fun ρ => (peek (ρ.getD i .u)).bind fun x => (peek (ρ.getD j .u)).bind fun y => .ok ((x, y), ρ)
theorem SR.there (S : SR K C ρ ow σ H) {i : Nat} (h : isU (ρ.getD i .u) = false) : ∃ v, σ.getD i none = some v := by
  have q := S.slots i
  cases e : ρ.getD i .u with
  | u => rw [e] at h; cases h
  | d x => rw [e] at q; obtain ⟨v, h1, _⟩ := q; exact ⟨v, h1⟩
  | ol x => rw [e] at q; obtain ⟨p, _, h1, _⟩ := q; exact ⟨_, h1⟩
  | od x => rw [e] at q; obtain ⟨p, _, h1, _⟩ := q; exact ⟨_, h1⟩
  | tp x => rw [e] at q; obtain ⟨p, h1, _⟩ := q; exact ⟨_, h1⟩
  | dl x => rw [e] at q; obtain ⟨p, _, _, h1, _⟩ := q; exact ⟨_, h1⟩
  | tb => rw [e] at h; cases h
theorem s2_ee {a b : Expr} {da db : Den} (ha : SE X C a da) (hb : SE X C b db) : S2 X C a b (d2ee da db) := fun ct => ⟨_, _, ha ct, hb ct, fun σ H Q ⟨ρ, ow, S, h⟩ => ⟨ρ, ow, S, by
  unfold d2ee at h
  cases e1 : da ρ with
  | exc c x => rw [e1] at h; exact h.elim
  | stk => rw [e1] at h; exact h.elim
  | ok r =>
    rw [e1] at h
    intro v H1 ow1 l1 S1 r1
    refine ⟨r.2, ow1, S1, ?_⟩
    simp only [R.bind] at h
    cases e2 : db r.2 with
    | exc c x => rw [e2] at h; exact h.elim
    | stk => rw [e2] at h; exact h.elim
    | ok q => rw [e2] at h; exact fun w H2 ow2 l2 S2 r2 => h v w H2 ow2 (l1.trans l2) S2 (r1.later l2).s r2.s⟩⟩
theorem s2_pe (i : Nat) {x : Str} {b : Expr} {db : Den} {pos : Pos} (hb : SE X C b db) (hN : X.N[i]? = some x := by rfl) (hv : Vis X.env.scope x := by first | exact Or.inl rfl | exact Or.inr (Or.inl rfl) | exact Or.inr (Or.inr rfl))
    (hd : (x == ("__debug__" : Str)) = false := by decide) (hcd : (x == ("__classdict__" : Str)) = false := by decide) : S2 X C (.Name x pos) b (d2pe i db) := fun ct => ⟨_, _, pe_var hN hv hd hcd, hb ct, fun σ H Q ⟨ρ, ow, S, h⟩ => by
  unfold d2pe at h
  cases hu : isU (ρ.getD i .u) with
  | true => rw [hu, if_pos rfl] at h; exact h.elim
  | false =>
  rw [hu, if_neg Bool.false_ne_true] at h
  obtain ⟨v, e4⟩ := S.there hu
  cases e2 : db ρ with
  | exc c x => rw [e2] at h; exact h.elim
  | stk => rw [e2] at h; exact h.elim
  | ok q =>
    rw [e2] at h
    simp only [R.bind] at h
    cases e3 : peek (q.2.getD i .u) with
    | exc c x => rw [e3] at h; exact h.elim
    | stk => rw [e3] at h; exact h.elim
    | ok x =>
      rw [e3] at h
      refine ⟨v, getD_some e4, ρ, ow, S, ?_⟩
      rw [e2]
      intro w H2 ow2 l2 S2 r2
      obtain ⟨v', h1, h2⟩ := S2.peek e3
      rw [e4] at h1
      cases h1
      exact h v w H2 ow2 l2 S2 h2 r2.s⟩
theorem s2_ep (i : Nat) {x : Str} {a : Expr} {da : Den} {pos : Pos} (ha : SE X C a da) (hN : X.N[i]? = some x := by rfl) (hv : Vis X.env.scope x := by first | exact Or.inl rfl | exact Or.inr (Or.inl rfl) | exact Or.inr (Or.inr rfl))
    (hd : (x == ("__debug__" : Str)) = false := by decide) (hcd : (x == ("__classdict__" : Str)) = false := by decide) : S2 X C a (.Name x pos) (d2ep da i) := fun ct => ⟨_, _, ha ct, pe_var hN hv hd hcd, fun σ H Q ⟨ρ, ow, S, h⟩ => by
  unfold d2ep at h
  cases e2 : da ρ with
  | exc c x => rw [e2] at h; exact h.elim
  | stk => rw [e2] at h; exact h.elim
  | ok q =>
    rw [e2] at h
    simp only [R.bind] at h
    cases e3 : peek (q.2.getD i .u) with
    | exc c x => rw [e3] at h; exact h.elim
    | stk => rw [e3] at h; exact h.elim
    | ok x =>
      rw [e3] at h
      refine ⟨ρ, ow, S, ?_⟩
      rw [e2]
      intro w H2 ow2 l2 S2 r2
      obtain ⟨v, h1, h2⟩ := S2.peek e3
      exact ⟨v, getD_some h1, h w v H2 ow2 l2 S2 r2.s h2⟩⟩
theorem s2_pp (i j : Nat) {x y : Str} {pos pos2 : Pos} (hN : X.N[i]? = some x := by rfl) (hv : Vis X.env.scope x := by first | exact Or.inl rfl | exact Or.inr (Or.inl rfl) | exact Or.inr (Or.inr rfl))
    (hN2 : X.N[j]? = some y := by rfl) (hv2 : Vis X.env.scope y := by first | exact Or.inl rfl | exact Or.inr (Or.inl rfl) | exact Or.inr (Or.inr rfl))
    (hd : (x == ("__debug__" : Str)) = false := by decide) (hcd : (x == ("__classdict__" : Str)) = false := by decide) (hd2 : (y == ("__debug__" : Str)) = false := by decide) (hcd2 : (y == ("__classdict__" : Str)) = false := by decide) : S2 X C (.Name x pos) (.Name y pos2) (d2pp i j) := fun ct => ⟨_, _, pe_var hN hv hd hcd, pe_var hN2 hv2 hd2 hcd2, fun σ H Q ⟨ρ, ow, S, h⟩ => by
  unfold d2pp at h
  cases e2 : peek (ρ.getD i .u) with
  | exc c x => rw [e2] at h; exact h.elim
  | stk => rw [e2] at h; exact h.elim
  | ok a =>
    rw [e2] at h
    simp only [R.bind] at h
    cases e3 : peek (ρ.getD j .u) with
    | exc c x => rw [e3] at h; exact h.elim
    | stk => rw [e3] at h; exact h.elim
    | ok b =>
      rw [e3] at h
      obtain ⟨v, h1, h2⟩ := S.peek e2
      obtain ⟨w, h3, h4⟩ := S.peek e3
      exact ⟨v, getD_some h1, w, getD_some h3, h v w H ow (.refl _ _) S h2 h4⟩⟩
/-- an operation on two operands -/
def dOpP (f : PyData → PyData → R PyData) (d : Den2) : Den := fun ρ => (d ρ).bind fun r => (f r.1.1 r.1.2).bind fun z => .ok (z, r.2)
theorem rd_opP {f : PyData → PyData → R PyData} {d : Den2} {Q : VK} (h : rdE K C (dOpP f d) σ H Q) : rd2 K C d σ H fun x y H2 => relR2 K f x y H2 Q := by
  obtain ⟨ρ, ow, S, h⟩ := h
  refine ⟨ρ, ow, S, ?_⟩
  unfold dOpP at h
  cases e1 : d ρ with
  | exc c x => rw [e1] at h; exact h.elim
  | stk => rw [e1] at h; exact h.elim
  | ok r =>
    rw [e1] at h
    exact fun v w H' ow' l S' rv rw' => ⟨ow', _, _, S'.nil, rv, rw', .of S' (Post.later l h)⟩
theorem se_binP {op : Operator} {f : PyData → PyData → R PyData} {a b : Expr} {d : Den2} {pos : Pos} (ho : Op2 X (binaryOp op) f) (h : S2 X C a b d) : SE X C (.BinOp a op b pos) (dOpP f d) := fun ct => by
  obtain ⟨ta, tb, ha, hb, q⟩ := h ct
  exact PE.imp (pe_op (ho ct) ha hb) fun σ H Q hq => q σ H _ (rd_opP hq)
theorem se_cmpP {op : CmpOp} {f : PyData → PyData → R PyData} {a b : Expr} {d : Den2} {pos : Pos} (ho : Op2 X (compareOp op) f) (h : S2 X C a b d) (hm : behindInMarks op b = false := by first | exact nomark _ | rfl) : SE X C (.Compare a [op] [b] pos) (dOpP f d) := fun ct => by
  obtain ⟨ta, tb, ha, hb, q⟩ := h ct
  exact PE.imp (pe_cmpR (ho ct) ha hb hm) fun σ H Q hq => q σ H _ (rd_opP hq)
theorem st_cmpP {op : CmpOp} {f : PyData → PyData → R PyData} {a b : Expr} {d : Den2} {pos : Pos} (ho : Op2 X (compareOp op) f) (h : S2 X C a b d) (hm : behindInMarks op b = false := by first | exact nomark _ | rfl) : ST X C (.Compare a [op] [b] pos) (dTestB (dOpP f d)) := fun ct => by
  obtain ⟨ta, tb, ha, hb, q⟩ := h ct
  exact PT.imp (pt_cmpR (ho ct) ha hb hm) fun σ H Q ⟨ρ, ow, S, hq⟩ => q σ H _ (rd_opP ⟨ρ, ow, S, Post.bind hq fun a ρ1 b H1 ow1 l1 S1 r1 h1 => bl_end S1 r1 h1⟩)
theorem se_ixP {a b : Expr} {d : Den2} {pos : Pos} (h : S2 X C a b d) (hs : PlainIx b := by exact fun _ _ => rfl) : SE X C (.Subscript a b pos) (dOpP fIx d) := fun ct => by
  obtain ⟨ta, tb, ha, hb, q⟩ := h ct
  exact PE.imp (pe_ix (o_ix ct) ha hb hs) fun σ H Q hq => q σ H _ (rd_opP hq)
/-- list + list, new -/
def dCatN (d : Den2) : DenN := fun ρ => (d ρ).bind fun r => match r.1 with
  | (.list a, .list b) => if a.length + b.length ≤ lineN then .ok (.nl (a ++ b), r.2) else .stk
  | _ => .stk
theorem sn_cat {a b : Expr} {d : Den2} {pos : Pos} (h : S2 X C a b d) : SN X C (.BinOp a .Add b pos) (dCatN d) := fun ct => by
  obtain ⟨ta, tb, ha, hb, q⟩ := h ct
  refine PE.imp (pe_op op_cat ha hb) fun σ H Q ⟨ρ, ow, S, hq⟩ => q σ H _ ⟨ρ, ow, S, ?_⟩
  unfold dCatN at hq
  cases e1 : d ρ with
  | exc c x => rw [e1] at hq; exact hq.elim
  | stk => rw [e1] at hq; exact hq.elim
  | ok r =>
    rw [e1] at hq
    obtain ⟨⟨x, y⟩, ρ1⟩ := r
    simp only [R.bind] at hq
    intro v w H' ow' l S' rv rw'
    cases rv with
    | lst e r =>
      cases rw' with
      | lst e2 r2 =>
        dsimp only at hq
        split at hq
        · rename_i hz
          exact ⟨_, _, _, _, rfl, rfl, e, e2, by rw [r.length, r2.length, lineN_eq]; exact hz, fun p hp => rn_list S' l hp (r.append r2) hq⟩
        · exact hq.elim
      | _ => exact hq.elim
    | _ => exact hq.elim

/-! ### storing what is new -/
/-- a new list or dict is a slot's own from here on -/
theorem SR.take {ρ0 : Rho} {ow0 : Ow} {H0 : Hp} {σ0 : St} (S0 : SR K C ρ0 ow0 σ0 H0) (l : Later ow0 H0 ow H) (S : SR K C ρ ow σ H) {i : Nat} {v : V} {n : Nv} (r : RN K ow0 H0 ow H v n) (hb : C.br i = false) :
    ∃ ow', Later ow0 H0 ow' H ∧ SR K C (ρ.set i n.sl) ow' (σ.set i (some v)) H ∧ (∀ w m, RN K ow0 H0 ow H w m → (∀ p, v = .ref p → w = .ref p → n.isD = false → m.isD = false → False) → RN K ow0 H0 ow' H w m) := by
  -- the two kinds of new things alike
  have main : ∀ p, n.isD = false → v = .ref p → New ow0 H0 p → ow p = 1 → (∀ {ow' : Ow}, Later0 ow H ow' H → ow' p = i + 2 → RSl K ow' H i (some v) n.sl) →
      ∃ ow', Later ow0 H0 ow' H ∧ SR K C (ρ.set i n.sl) ow' (σ.set i (some v)) H ∧ (∀ w m, RN K ow0 H0 ow H w m → (∀ p, v = .ref p → w = .ref p → n.isD = false → m.isD = false → False) → RN K ow0 H0 ow' H w m) := by
    intro p hnd ev hn o1 hs
    have l0 : Later0 ow H (own ow p (i + 2)) H := .mk fun a o z e n => by
      have ne : a ≠ p := fun q => by subst q; omega
      exact ⟨e, by rw [own_ne ne]; exact z⟩
    have ln : Later ow0 H0 (own ow p (i + 2)) H := .mk fun a o z e n => by
      obtain ⟨q1, q2⟩ := l.ap a o z e
      have ne : a ≠ p := fun q => by subst q; exact hn.no z e n
      exact ⟨q1, by rw [own_ne ne]; exact q2⟩
    refine ⟨own ow p (i + 2), ln, ⟨by rw [List.length_set, List.length_set]; exact S.len, fun j => ?_, S0.ent.trans ln, fun a h => ?_, fun a h => ?_, S.dom, fun j hj => ?_⟩, fun w m rw' hd => ?_⟩
    · rw [getD_set, getD_setV, S.len]
      by_cases e : i = j ∧ i < σ.length
      · rw [if_pos e, if_pos e, ← e.1]; exact hs l0 own_same
      · rw [if_neg e, if_neg e]
        exact (S.slots j).other0 l0 fun a o z q => by
          have ne : a ≠ p := fun q => by subst q; omega
          exact ⟨q, by rw [own_ne ne]; exact z⟩
    · have ne : a ≠ p := fun q => by
        subst q
        have z0 := S0.out a h
        have := hn.1 z0
        exact (S0.trk a (by omega)).1 this
      rw [own_ne ne]; exact S.out a h
    · by_cases q : a = p
      · subst q; exact S.trk a (by omega)
      · rw [own_ne q] at h; exact S.trk a h
    · rw [getD_setV]
      have : ¬ (i = j ∧ i < σ.length) := fun z => by rw [z.1, hj] at hb; cases hb
      rw [if_neg this]
      exact S.par j hj
    · cases m with
      | d x => exact Rp.later0 l0 rw'
      | nl xs =>
        obtain ⟨q, vs, h1, h2, h3, h4, h5⟩ := rw'
        have ne : q ≠ p := fun z => hd p ev (by rw [h1, z]) hnd rfl
        exact ⟨q, vs, h1, h2, by rw [own_ne ne]; exact h3, h4, RpA.later0 l0 h5⟩
      | nd xs =>
        obtain ⟨q, vs, h1, h2, h3, h4, h5⟩ := rw'
        have ne : q ≠ p := fun z => hd p ev (by rw [h1, z]) hnd rfl
        exact ⟨q, vs, h1, h2, by rw [own_ne ne]; exact h3, h4, RpD.later0 l0 h5⟩
  cases n with
  | d x => exact ⟨ow, l, S.store r hb, fun w m h _ => h⟩
  | nl xs =>
    obtain ⟨p, vs, h1, h2, h3, h4, h5⟩ := r
    exact main p rfl h1 h2 h3 fun l0 o => ⟨p, vs, by rw [h1], o, h4, RpA.later0 l0 h5⟩
  | nd xs =>
    obtain ⟨p, vs, h1, h2, h3, h4, h5⟩ := r
    exact main p rfl h1 h2 h3 fun l0 o => ⟨p, vs, by rw [h1], o, h4, RpD.later0 l0 h5⟩
def dNew (i : Nat) (dn : DenN) : SDen := fun ρ => (dn ρ).then fun r => .nx (r.2.set i r.1.sl)
theorem ss_new (i : Nat) {x : Str} {e : Expr} {dn : DenN} {pos pos' : Pos} (ha : SN X C e dn) (hi : X.N[i]? = some x := by rfl) (hx : Loc X.env.scope x := by first | exact Or.inl rfl | exact Or.inr rfl) (hb : C.br i = false := by rfl)
    (hs : swapsWith e (some (.Name x pos')) pos.line X.env = pure false := by rfl) (hf : X.fn x = true ∨ X.env.scope.names.lookup x = some .local := by first | exact .inl rfl | exact .inr rfl) : SS X C (.Assign [.Name x pos'] e pos) (dNew i dn) := fun ct =>
  PS.imp (ps_set ct.nd hi hx (ha ct) hs hf) fun D σ H ⟨ρ, ow, S, h⟩ => ⟨ρ, ow, S, by
    unfold dNew at h
    cases e : dn ρ with
    | ok r =>
      rw [e] at h
      obtain ⟨n, ρ1⟩ := r
      intro v H' ow' l S' rn
      obtain ⟨ow2, l2, S2, _⟩ := S.take l S' rn hb
      exact h _ H' ow2 l2 S2
    | exc c x => rw [e] at h; exact h.elim
    | stk => rw [e] at h; exact h.elim⟩
/-- a, b = x, y, both local, new or not -/
def dParN (i j : Nat) (da db : DenN) : SDen := fun ρ => (da ρ).then fun r => (db r.2).then fun q => .nx ((q.2.set i r.1.sl).set j q.1.sl)
theorem ss_parN (i j : Nat) {x y : Str} {a b : Expr} {da db : DenN} {px py pt pos : Pos} {kt k2 pt2} (ha : SN X C a da) (hb : SN X C b db) (hij : i ≠ j := by decide) (hi : X.N[i]? = some x := by rfl) (hj : X.N[j]? = some y := by rfl)
    (hx : X.env.scope.names.lookup x = some .local := by rfl) (hy : X.env.scope.names.lookup y = some .local := by rfl) (hbi : C.br i = false := by rfl) (hbj : C.br j = false := by rfl)
    (hw : swappedStores [.Tuple [.Name x px, .Name y py] kt pt] (.Tuple [a, b] k2 pt2) X.env = pure (some [x, y]) := by rfl)
    (hs : swapsWithSole [.Tuple [.Name x px, .Name y py] kt pt] (.Tuple [a, b] k2 pt2) pos.line X.env = pure false := by rfl)
    (hs1 : starEach [a, b] X.env = (false, eval a X.env) :: starEach [b] X.env := by rfl) (hs2 : starEach [b] X.env = (false, eval b X.env) :: starEach [] X.env := by rfl) : SS X C (.Assign [.Tuple [.Name x px, .Name y py] kt pt] (.Tuple [a, b] k2 pt2) pos) (dParN i j da db) := fun ct =>
  PS.imp (ps_par ct.calm ct.nd hi hj hij hx hy (pa_cons (ha ct) (pa_cons (hb ct) pa_nil hs2) hs1) hw hs) fun D σ H ⟨ρ, ow, S, h⟩ => ⟨ρ, ow, S, by
    unfold dParN at h
    cases e : da ρ with
    | exc c x => rw [e] at h; exact h.elim
    | stk => rw [e] at h; exact h.elim
    | ok r =>
      rw [e] at h
      obtain ⟨n, ρ1⟩ := r
      simp only [R.then] at h
      intro v H1 ow1 l1 S1 r1
      refine ⟨ρ1, ow1, S1, ?_⟩
      cases e2 : db ρ1 with
      | exc c x => rw [e2] at h; exact h.elim
      | stk => rw [e2] at h; exact h.elim
      | ok q =>
        rw [e2] at h
        obtain ⟨m, ρ2⟩ := q
        intro w H2 ow2 l2 S2 r2
        refine ⟨v, w, rfl, ?_⟩
        have l12 := l1.trans l2
        obtain ⟨ow3, l3, S3, k3⟩ := S.take l12 S2 (r1.later l2) hbi
        have r2' : RN X.K ow H ow3 H2 w m := k3 w m (r2.since l1) fun p ev ew hn hm => by
          -- v was there before w was made
          have t1 : ow1 p = 1 ∧ H1 p ≠ none := by
            cases n with
            | d z => cases hn
            | nl z => obtain ⟨p', _, h1, h2, h3, h4, _⟩ := r1; rw [ev] at h1; cases h1; exact ⟨h3, by rw [h4]; exact fun z => nomatch z⟩
            | nd z => obtain ⟨p', _, h1, h2, h3, h4, _⟩ := r1; rw [ev] at h1; cases h1; exact ⟨h3, by rw [h4]; exact fun z => nomatch z⟩
          have t2 : New ow1 H1 p := by
            cases m with
            | d z => cases hm
            | nl z => obtain ⟨p', _, h1, h2, _⟩ := r2; rw [ew] at h1; cases h1; exact h2
            | nd z => obtain ⟨p', _, h1, h2, _⟩ := r2; rw [ew] at h1; cases h1; exact h2
          exact t1.2 (t2.1 t1.1)
        obtain ⟨ow4, l4, S4, _⟩ := S.take l3 S3 r2' hbj
        exact h _ H2 ow4 l4 S4⟩
end
end L2.DY

end
section
/-! DyMeth: append, extend, pop, x[i] = e on what a slot owns; built-ins of what a slot owns. -/
namespace L2.DY
open PySem PySem.Spec PyProof.Rows
section
variable {X : Cx} {C : Cy} {K : PySem.W.Frag} {σ : St} {H : Hp} {ow : Ow} {ρ : Rho}
/-- what a slot owns is written -/
theorem SR.wr (S : SR K C ρ ow σ H) {i : Nat} {p : Addr} {o : HO} {s : Sl} (h1 : σ.getD i none = some (.ref p)) (h2 : ow p = i + 2) (hu : isU (ρ.getD i .u) = false) (hs : Later0 ow H ow (upd H p o) → RSl K ow (upd H p o) i (some (.ref p)) s) (hnt : ∀ t, ρ.getD i .u ≠ .tp t)  (nt : ∀ a, ¬ BadO K a o := by exact nofun) :
    Later ow H ow (upd H p o) ∧ SR K C (ρ.set i s) ow σ (upd H p o) := by
  have l : Later ow H ow (upd H p o) := .mk fun a ob z e n => ⟨by rw [upd_ne (fun q => by subst q; omega)]; exact e, rfl⟩
  refine ⟨l, ⟨by rw [List.length_set]; exact S.len, fun j => ?_, S.ent.trans l, S.out, fun a z => ?_, fun a z => ?_, S.par⟩⟩
  · rw [getD_set]
    by_cases e : i = j ∧ i < ρ.length
    · rw [if_pos e, ← e.1, h1]; exact hs l.z
    · rw [if_neg e]
      by_cases q : i = j
      · subst q
        have hl : ¬ i < ρ.length := fun z => e ⟨rfl, z⟩
        rw [List.getD_eq_getElem?_getD, List.getElem?_eq_none (by omega)] at hu
        cases hu
      · exact (S.slots j).other0 l.z fun a ob z e => ⟨by rw [upd_ne (fun q => by subst q; omega)]; exact e, z⟩
  · by_cases q : a = p
    · subst q; rw [upd_same]; exact .of rfl nt
    · rw [upd_ne q]; exact S.trk a z
  · by_cases q : a = p
    · subst q; rw [upd_same]; exact fun z => nomatch z
    · rw [upd_ne q]; exact S.dom a z
theorem SR.wrL (S : SR K C ρ ow σ H) {i : Nat} {xs ys : List PyData} (e : ρ.getD i .u = .ol xs) : ∃ p vs, σ.getD i none = some (.ref p) ∧ H p = some (.lst vs) ∧ RpA K ow H vs xs ∧ ∀ ws, RpA K ow H ws ys → Later ow H ow (upd H p (.lst ws)) ∧ SR K C (ρ.set i (.ol ys)) ow σ (upd H p (.lst ws)) := by
  have r := S.slots i
  rw [e] at r
  obtain ⟨p, vs, h1, h2, h3, h4⟩ := r
  exact ⟨p, vs, h1, h3, h4, fun ws hw => S.wr h1 h2 (by rw [e]; rfl) (fun l => ⟨p, ws, rfl, h2, upd_same, RpA.later0 l hw⟩) (fun t z => by rw [e] at z; cases z)⟩
def onOl (s : Sl) (k : List PyData → R (PyData × Rho)) : R (PyData × Rho) := match s with
  | .ol xs => k xs
  | _ => .stk
/-- x.append(e) -/
def dApp (i : Nat) (da : Den) : Den := fun ρ => onOl (ρ.getD i .u) fun _ => (da ρ).bind fun r => onOl (r.2.getD i .u) fun xs => if xs.length < lineN then .ok (.none, r.2.set i (.ol (xs ++ [r.1]))) else .stk
theorem se_app (i : Nat) {x : Str} {e : Expr} {da : Den} {p1 p2 pos : Pos} (ha : SE X C e da) (hN : X.N[i]? = some x := by rfl) (hv : Vis X.env.scope x := by first | exact Or.inl rfl | exact Or.inr (Or.inl rfl) | exact Or.inr (Or.inr rfl))
    (hd : (x == ("__debug__" : Str)) = false := by decide) (hcd : (x == ("__classdict__" : Str)) = false := by decide)
    (hbase : attributeBase (.Name x p1) "append" X.env (eval (.Name x p1) X.env) = eval (.Name x p1) X.env := by rfl)
    (hfew : ((backTo pos (starEach [e] X.env)).all (fun x => !x.1) && (backToKw pos (keywordEach [] X.env)).all (fun x => x.1.isSome) && decide ([e].length + ([] : List Keyword).length + (if ([] : List Keyword).isEmpty then 0 else 1) < 30)) = true := by rfl)
    (hline : (p2.endLine == pos.line) = true := by rfl) (hs : starEach [e] X.env = (false, eval e X.env) :: starEach [] X.env := by rfl) (hplain : (backTo pos (starEach [] X.env)).any (·.1) = false := by rfl) :
    SE X C (.Call (.Attribute (.Name x p1) "append" p2) [e] [] pos) (dApp i da) := fun ct =>
  PE.imp (pe_bm PySem.F.plainAttrs_list PySem.F.slot_list_append PySem.F.type_list_append mt_append (pe_var hN hv hd hcd) (pa_cons (ha ct) pa_nil hs) hbase hfew hline hs hplain) fun σ H Q ⟨ρ, ow, S, h⟩ => by
    unfold dApp at h
    cases e1 : ρ.getD i .u with
    | u => rw [e1] at h; exact h.elim
    | d x => rw [e1] at h; exact h.elim
    | od x => rw [e1] at h; exact h.elim
    | tp x => rw [e1] at h; exact h.elim
    | dl x => rw [e1] at h; exact h.elim
    | tb => rw [e1] at h; exact h.elim
    | ol ys =>
      rw [e1] at h
      obtain ⟨p, vs, g1, g2, g3, _⟩ := S.wrL (ys := []) e1
      refine ⟨.ref p, getD_some g1, .inl ⟨rfl, _, SqL.of g2⟩, ρ, ow, S, Post.bind h fun a ρ1 b H1 ow1 l1 S1 r1 h1 => ?_⟩
      dsimp only at h1
      cases e2 : ρ1.getD i .u with
      | u => rw [e2] at h1; exact h1.elim
      | d x => rw [e2] at h1; exact h1.elim
      | od x => rw [e2] at h1; exact h1.elim
      | tp x => rw [e2] at h1; exact h1.elim
      | dl x => rw [e2] at h1; exact h1.elim
      | tb => rw [e2] at h1; exact h1.elim
      | ol xs =>
        rw [e2] at h1
        simp only [onOl] at h1
        split at h1
        · rename_i hz
          obtain ⟨p', ws, k1, k2, k3, k4⟩ := S1.wrL (ys := xs ++ [a]) e2
          rw [g1] at k1; cases k1
          obtain ⟨l2, S2⟩ := k4 (ws ++ [b]) (k3.append (.cons r1 .nil))
          exact ⟨p, ws, b, rfl, rfl, k2, by rw [k3.length, lineN_eq]; exact hz, h1 _ _ _ l2 S2 .non⟩
        · exact h1.elim
/-- x.extend(e), e a list -/
def dExt (i : Nat) (da : Den) : Den := fun ρ => onOl (ρ.getD i .u) fun _ => (da ρ).bind fun r => onOl (r.2.getD i .u) fun xs => match r.1 with
  | .list zs => if xs.length + zs.length ≤ lineN then .ok (.none, r.2.set i (.ol (xs ++ zs))) else .stk
  | _ => .stk
theorem se_ext (i : Nat) {x : Str} {e : Expr} {da : Den} {p1 p2 pos : Pos} (ha : SE X C e da) (hN : X.N[i]? = some x := by rfl) (hv : Vis X.env.scope x := by first | exact Or.inl rfl | exact Or.inr (Or.inl rfl) | exact Or.inr (Or.inr rfl))
    (hd : (x == ("__debug__" : Str)) = false := by decide) (hcd : (x == ("__classdict__" : Str)) = false := by decide)
    (hbase : attributeBase (.Name x p1) "extend" X.env (eval (.Name x p1) X.env) = eval (.Name x p1) X.env := by rfl)
    (hfew : ((backTo pos (starEach [e] X.env)).all (fun x => !x.1) && (backToKw pos (keywordEach [] X.env)).all (fun x => x.1.isSome) && decide ([e].length + ([] : List Keyword).length + (if ([] : List Keyword).isEmpty then 0 else 1) < 30)) = true := by rfl)
    (hline : (p2.endLine == pos.line) = true := by rfl) (hs : starEach [e] X.env = (false, eval e X.env) :: starEach [] X.env := by rfl) (hplain : (backTo pos (starEach [] X.env)).any (·.1) = false := by rfl) :
    SE X C (.Call (.Attribute (.Name x p1) "extend" p2) [e] [] pos) (dExt i da) := fun ct =>
  PE.imp (pe_bm PySem.F.plainAttrs_list PySem.F.slot_list_extend PySem.F.type_list_extend mt_extend (pe_var hN hv hd hcd) (pa_cons (ha ct) pa_nil hs) hbase hfew hline hs hplain) fun σ H Q ⟨ρ, ow, S, h⟩ => by
    unfold dExt at h
    cases e1 : ρ.getD i .u with
    | u => rw [e1] at h; exact h.elim
    | d x => rw [e1] at h; exact h.elim
    | od x => rw [e1] at h; exact h.elim
    | tp x => rw [e1] at h; exact h.elim
    | dl x => rw [e1] at h; exact h.elim
    | tb => rw [e1] at h; exact h.elim
    | ol ys =>
      rw [e1] at h
      obtain ⟨p, vs, g1, g2, g3, _⟩ := S.wrL (ys := []) e1
      refine ⟨.ref p, getD_some g1, .inl ⟨rfl, _, SqL.of g2⟩, ρ, ow, S, Post.bind h fun a ρ1 b H1 ow1 l1 S1 r1 h1 => ?_⟩
      dsimp only at h1
      cases e2 : ρ1.getD i .u with
      | u => rw [e2] at h1; exact h1.elim
      | d x => rw [e2] at h1; exact h1.elim
      | od x => rw [e2] at h1; exact h1.elim
      | tp x => rw [e2] at h1; exact h1.elim
      | dl x => rw [e2] at h1; exact h1.elim
      | tb => rw [e2] at h1; exact h1.elim
      | ol xs =>
        rw [e2] at h1
        simp only [onOl] at h1
        cases r1 with
        | @lst b bs zs z0 eb rb =>
          dsimp only at h1
          split at h1
          · rename_i hz
            obtain ⟨p', ws, k1, k2, k3, k4⟩ := S1.wrL (ys := xs ++ zs) e2
            rw [g1] at k1; cases k1
            obtain ⟨l2, S2⟩ := k4 (ws ++ bs) (k3.append rb)
            exact ⟨p, b, ws, bs, rfl, rfl, k2, eb, by rw [k3.length, rb.length, lineN_eq]; exact hz, h1 _ _ _ l2 S2 .non⟩
          · exact h1.elim
        | _ => exact h1.elim
/-- x.pop(k) -/
def dPopI (i : Nat) (da : Den) : Den := fun ρ => onOl (ρ.getD i .u) fun _ => (da ρ).bind fun r => onOl (r.2.getD i .u) fun xs => match r.1 with
  | .int 0 => match xs with
    | x :: r' => .ok (x, r.2.set i (.ol r'))
    | [] => .stk
  | _ => .stk
theorem se_popI (i : Nat) {x : Str} {e : Expr} {da : Den} {p1 p2 pos : Pos} (ha : SE X C e da) (hN : X.N[i]? = some x := by rfl) (hv : Vis X.env.scope x := by first | exact Or.inl rfl | exact Or.inr (Or.inl rfl) | exact Or.inr (Or.inr rfl))
    (hd : (x == ("__debug__" : Str)) = false := by decide) (hcd : (x == ("__classdict__" : Str)) = false := by decide)
    (hbase : attributeBase (.Name x p1) "pop" X.env (eval (.Name x p1) X.env) = eval (.Name x p1) X.env := by rfl)
    (hfew : ((backTo pos (starEach [e] X.env)).all (fun x => !x.1) && (backToKw pos (keywordEach [] X.env)).all (fun x => x.1.isSome) && decide ([e].length + ([] : List Keyword).length + (if ([] : List Keyword).isEmpty then 0 else 1) < 30)) = true := by rfl)
    (hline : (p2.endLine == pos.line) = true := by rfl) (hs : starEach [e] X.env = (false, eval e X.env) :: starEach [] X.env := by rfl) (hplain : (backTo pos (starEach [] X.env)).any (·.1) = false := by rfl) :
    SE X C (.Call (.Attribute (.Name x p1) "pop" p2) [e] [] pos) (dPopI i da) := fun ct =>
  PE.imp (pe_bm PySem.F.plainAttrs_list PySem.F.slot_list_pop PySem.F.type_list_pop mt_popAt (pe_var hN hv hd hcd) (pa_cons (ha ct) pa_nil hs) hbase hfew hline hs hplain) fun σ H Q ⟨ρ, ow, S, h⟩ => by
    unfold dPopI at h
    cases e1 : ρ.getD i .u with
    | u => rw [e1] at h; exact h.elim
    | d x => rw [e1] at h; exact h.elim
    | od x => rw [e1] at h; exact h.elim
    | tp x => rw [e1] at h; exact h.elim
    | dl x => rw [e1] at h; exact h.elim
    | tb => rw [e1] at h; exact h.elim
    | ol ys =>
      rw [e1] at h
      obtain ⟨p, vs, g1, g2, g3, _⟩ := S.wrL (ys := []) e1
      refine ⟨.ref p, getD_some g1, .inl ⟨rfl, _, SqL.of g2⟩, ρ, ow, S, Post.bind h fun a ρ1 b H1 ow1 l1 S1 r1 h1 => ?_⟩
      dsimp only at h1
      cases e2 : ρ1.getD i .u with
      | u => rw [e2] at h1; exact h1.elim
      | d x => rw [e2] at h1; exact h1.elim
      | od x => rw [e2] at h1; exact h1.elim
      | tp x => rw [e2] at h1; exact h1.elim
      | dl x => rw [e2] at h1; exact h1.elim
      | tb => rw [e2] at h1; exact h1.elim
      | ol xs =>
        rw [e2] at h1
        simp only [onOl] at h1
        split at h1
        · cases r1
          split at h1
          · rename_i y ys
            obtain ⟨p', ws, k1, k2, k3, k4⟩ := S1.wrL (ys := ys) e2
            rw [g1] at k1; cases k1
            cases k3 with
            | @cons v vs _ _ r0 rr =>
              obtain ⟨l2, S2⟩ := k4 vs rr
              exact ⟨p, v :: vs, 0, 0, v, rfl, rfl, k2, by omega, by omega, seqIndex_of (by omega) (by rw [List.length_cons]; omega), rfl, h1 _ _ _ l2 S2 (r0.later l2)⟩
          · exact h1.elim
        · exact h1.elim
/-- x.pop() -/
def dPop (i : Nat) : Den := fun ρ => onOl (ρ.getD i .u) fun xs => match xs.getLast? with
  | some y => .ok (y, ρ.set i (.ol xs.dropLast))
  | none => .stk
theorem RpA.dropLast {vs : List V} {ds : List PyData} (r : RpA K ow H vs ds) : RpA K ow H vs.dropLast ds.dropLast := by
  rw [List.dropLast_eq_take, List.dropLast_eq_take, r.length]
  exact r.take _
theorem se_pop (i : Nat) {x : Str} {p1 p2 pos : Pos} (hN : X.N[i]? = some x := by rfl) (hv : Vis X.env.scope x := by first | exact Or.inl rfl | exact Or.inr (Or.inl rfl) | exact Or.inr (Or.inr rfl))
    (hd : (x == ("__debug__" : Str)) = false := by decide) (hcd : (x == ("__classdict__" : Str)) = false := by decide)
    (hbase : attributeBase (.Name x p1) "pop" X.env (eval (.Name x p1) X.env) = eval (.Name x p1) X.env := by rfl) (hline : (p2.endLine == pos.line) = true := by rfl) :
    SE X C (.Call (.Attribute (.Name x p1) "pop" p2) [] [] pos) (dPop i) := fun ct =>
  PE.imp (pe_bm0 PySem.F.plainAttrs_list PySem.F.slot_list_pop PySem.F.type_list_pop mt_pop (pe_var hN hv hd hcd) hbase hline) fun σ H Q ⟨ρ, ow, S, h⟩ => by
    unfold dPop at h
    cases e1 : ρ.getD i .u with
    | u => rw [e1] at h; exact h.elim
    | d x => rw [e1] at h; exact h.elim
    | od x => rw [e1] at h; exact h.elim
    | tp x => rw [e1] at h; exact h.elim
    | dl x => rw [e1] at h; exact h.elim
    | tb => rw [e1] at h; exact h.elim
    | ol ys =>
      rw [e1] at h
      obtain ⟨p, vs, g1, g2, g3, _⟩ := S.wrL (ys := []) e1
      simp only [onOl] at h
      cases q : ys.getLast? with
      | none => rw [q] at h; exact h.elim
      | some y =>
        rw [q] at h
        obtain ⟨p', ws, k1, k2, k3, k4⟩ := S.wrL (ys := ys.dropLast) e1
        rw [g1] at k1; cases k1
        obtain ⟨l2, S2⟩ := k4 ws.dropLast k3.dropLast
        have q' : ys[ys.length - 1]? = some y := by rw [← List.getLast?_eq_getElem?]; exact q
        obtain ⟨v, h1, h2⟩ := k3.get q'
        exact ⟨.ref p, getD_some g1, .inl ⟨rfl, _, SqL.of g2⟩, p, ws, v, rfl, rfl, k2, by rw [k3.length]; exact h1, h _ _ _ l2 S2 (h2.later l2)⟩

/-! ### built-ins and slices of what a slot owns -/
def dOpPk (f : List PyData → R PyData) (i : Nat) : Den := fun ρ => (peek (ρ.getD i .u)).bind fun x => (f [x]).bind fun d => .ok (d, ρ)
theorem rd_opPk {f : List PyData → R PyData} {i : Nat} {Q : VK} (h : rdE K C (dOpPk f i) σ H Q) : tCons (tVar i) tNil σ H fun xs H2 => relRA K f xs H2 Q := by
  obtain ⟨ρ, ow, S, h⟩ := h
  unfold dOpPk at h
  cases e : peek (ρ.getD i .u) with
  | exc c x => rw [e] at h; exact h.elim
  | stk => rw [e] at h; exact h.elim
  | ok x =>
    rw [e] at h
    obtain ⟨v, h1, h2⟩ := S.peek e
    exact ⟨v, getD_some h1, ow, [x], S.nil, .cons h2 .nil, .of S h⟩
theorem se_callBP (i : Nat) {x y : Str} {id : String} {f : List PyData → R PyData} {p py pos : Pos} (ho : OpA X (.builtin id) f) (hg : Gl X x) (hm : X.mg x = none) (hv : bootBuiltins x = some (.builtin id)) (hN : X.N[i]? = some y := by rfl) (hvy : Vis X.env.scope y := by first | exact Or.inl rfl | exact Or.inr (Or.inl rfl) | exact Or.inr (Or.inr rfl))
    (hd : (y == ("__debug__" : Str)) = false := by decide) (hcd : (y == ("__classdict__" : Str)) = false := by decide)
    (hn : x ≠ "__name__" := by decide) (hdb : (x == ("__debug__" : Str)) = false := by decide)
    (he : starEach [.Name y py] X.env = (false, eval (.Name y py) X.env) :: starEach [] X.env := by rfl) (hpl : (backTo pos (starEach [] X.env)).any (·.1) = false := by rfl) : SE X C (.Call (.Name x p) [.Name y py] [] pos) (dOpPk f i) := fun ct =>
  PE.imp (pe_callB (ho ct) hg hm hv (pa_cons (pe_var hN hvy hd hcd) pa_nil he) hn hdb he hpl) fun _ _ _ h => rd_opPk h
theorem se_callTP (i : Nat) {x y : Str} {T : String} {f : List PyData → R PyData} {p py pos : Pos} (ho : OpA X (.type T) f) (hg : Gl X x) (hm : X.mg x = none) (hv : bootBuiltins x = some (.type T)) (hN : X.N[i]? = some y := by rfl) (hvy : Vis X.env.scope y := by first | exact Or.inl rfl | exact Or.inr (Or.inl rfl) | exact Or.inr (Or.inr rfl))
    (hd : (y == ("__debug__" : Str)) = false := by decide) (hcd : (y == ("__classdict__" : Str)) = false := by decide)
    (hn : x ≠ "__name__" := by decide) (hdb : (x == ("__debug__" : Str)) = false := by decide)
    (he : starEach [.Name y py] X.env = (false, eval (.Name y py) X.env) :: starEach [] X.env := by rfl) (hpl : (backTo pos (starEach [] X.env)).any (·.1) = false := by rfl) : SE X C (.Call (.Name x p) [.Name y py] [] pos) (dOpPk f i) := fun ct =>
  PE.imp (pe_callTy (ho ct) hg hm hv (pa_cons (pe_var hN hvy hd hcd) pa_nil he) hn hdb he hpl) fun _ _ _ h => rd_opPk h
/-- x as a test -/
def dTestP (i : Nat) : DenB := fun ρ => (peek (ρ.getD i .u)).bind fun x => (tru x).bind fun b => .ok (b, ρ)
theorem st_valP (i : Nat) {x : Str} {pos : Pos} (hN : X.N[i]? = some x := by rfl) (hv : Vis X.env.scope x := by first | exact Or.inl rfl | exact Or.inr (Or.inl rfl) | exact Or.inr (Or.inr rfl))
    (hd : (x == ("__debug__" : Str)) = false := by decide) (hcd : (x == ("__classdict__" : Str)) = false := by decide)
    (he : ∀ whole, isTrue (.Name x pos) X.env whole = (do let v ← whole; standAt (Expr.Name x pos).pos; holding [v] (truthy v)) := by intro _; rfl) : ST X C (.Name x pos) (dTestP i) := fun ct =>
  PT.imp (pt_truth (pe_var hN hv hd hcd) he) fun σ H Q ⟨ρ, ow, S, h⟩ => by
    unfold dTestP at h
    cases e : peek (ρ.getD i .u) with
    | exc c x => rw [e] at h; exact h.elim
    | stk => rw [e] at h; exact h.elim
    | ok x =>
      rw [e] at h
      obtain ⟨v, h1, h2⟩ := S.peek e
      simp only [R.bind] at h
      cases e2 : tru x with
      | ok c => rw [e2] at h; exact ⟨v, getD_some h1, c, tru_rp h2 e2, h c H ow (.refl _ _) S rfl⟩
      | exc c x => rw [e2] at h; exact h.elim
      | stk => rw [e2] at h; exact h.elim
/-- list(e), new -/
def dListN (da : Den) : DenN := fun ρ => (da ρ).bind fun r => match r.1 with
  | .list xs => .ok (.nl xs, r.2)
  | .tuple xs => .ok (.nl xs, r.2)
  | _ => .stk
theorem sn_list {x : Str} {e : Expr} {da : Den} {p pos : Pos} (ha : SE X C e da) (hx : x = ("list" : Str)) (hg : Gl X x) (hm : X.mg x = none)
    (he : starEach [e] X.env = (false, eval e X.env) :: starEach [] X.env := by rfl) (hpl : (backTo pos (starEach [] X.env)).any (·.1) = false := by rfl) : SN X C (.Call (.Name x p) [e] [] pos) (dListN da) := fun ct => by
  subst hx
  refine PE.imp (pe_callTy call_list_of hg hm (by decide +kernel) (pa_cons (ha ct) pa_nil he) (by decide) (by decide) he hpl) fun σ H Q ⟨ρ, ow, S, h⟩ => ⟨ρ, ow, S, ?_⟩
  unfold dListN at h
  cases e1 : da ρ with
  | exc c x => rw [e1] at h; exact h.elim
  | stk => rw [e1] at h; exact h.elim
  | ok r =>
    rw [e1] at h
    obtain ⟨d, ρ1⟩ := r
    intro v H1 ow1 l1 S1 r1
    cases r1 with
    | lst z e r => exact ⟨_, _, rfl, .inl (SqL.of e), fun p hp => rn_list S1 l1 hp r h⟩
    | tup e r => exact ⟨_, _, rfl, .inr e.sq, fun p hp => rn_list S1 l1 hp r h⟩
    | _ => exact h.elim
/-- xs[lo:hi], new -/
def dSlN (da : Den) (dl dh : DenO) : DenN := fun ρ => (da ρ).bind fun r => (dl r.2).bind fun l => (dh l.2).bind fun h => match r.1 with
  | .list xs => .ok (.nl (cutG xs l.1 h.1), h.2)
  | _ => .stk
/-- xs[lo:hi] of what a slot owns -/
def dSlP (i : Nat) (dl dh : DenO) : Den := fun ρ => if isU (ρ.getD i .u) then .stk else (dl ρ).bind fun l => (dh l.2).bind fun h => (peek (h.2.getD i .u)).bind fun x => (fSl x l.1 h.1).bind fun d => .ok (d, h.2)
theorem se_slP (i : Nat) {x : Str} {lo hi : Option Expr} {dl dh : DenO} {p1 p2 pos : Pos} (hl : SO X C lo dl) (hh : SO X C hi dh) (hN : X.N[i]? = some x := by rfl) (hv : Vis X.env.scope x := by first | exact Or.inl rfl | exact Or.inr (Or.inl rfl) | exact Or.inr (Or.inr rfl))
    (hd : (x == ("__debug__" : Str)) = false := by decide) (hcd : (x == ("__classdict__" : Str)) = false := by decide) : SE X C (.Subscript (.Name x p1) (.Slice lo hi none p2) pos) (dSlP i dl dh) := fun ct =>
  PE.imp (pe_slice o_sl (pe_var hN hv hd hcd) (hl ct) (hh ct)) fun σ H Q ⟨ρ, ow, S, h⟩ => by
    unfold dSlP at h
    cases hu : isU (ρ.getD i .u) with
    | true => rw [hu, if_pos rfl] at h; exact h.elim
    | false =>
    rw [hu, if_neg Bool.false_ne_true] at h
    obtain ⟨v, e4⟩ := S.there hu
    exact ⟨v, getD_some e4, ρ, ow, S, Post.bind h fun a2 ρ2 b2 H2 ow2 l2 S2 r2 h2 => ⟨ρ2, ow2, S2, Post.bind h2 fun a3 ρ3 b3 H3 ow3 l3 S3 r3 h3 => by
      subst r2; subst r3
      dsimp only at h3
      cases e3 : peek (ρ3.getD i .u) with
      | exc c x => rw [e3] at h3; exact h3.elim
      | stk => rw [e3] at h3; exact h3.elim
      | ok y =>
        rw [e3] at h3
        obtain ⟨v', k1, k2⟩ := S3.peek e3
        rw [e4] at k1; cases k1
        exact ⟨ow3, y, S3.nil, k2, .of S3 h3⟩⟩⟩
/-- x[k] = e of an owned list -/
def dSetI (i : Nat) (da db : Den) : SDen := fun ρ => (da ρ).then fun r => match r.2.getD i .u with
  | .ol _ => (db r.2).then fun q => match q.2.getD i .u, q.1 with
    | .ol xs, .int k => match ixN xs.length k with
      | some j => .nx (q.2.set i (.ol (xs.set j r.1)))
      | none => .stk
    | _, _ => .stk
  | _ => .stk
end
end L2.DY

end
section
/-! DyMore: bool(..), enumerate(..) of lists and tuples. -/
namespace L2.DY
open PySem PySem.Spec PyProof.Rows
theorem meets_bool_tuple (l : Addr) (items : Array Value) (hfit : (items.size : Int) < 2 ^ 63) :
    Meets (Builtin.«bool.__new__» ⟨[.type "bool", .ref l], []⟩) (fun _ R s => IsTup s.heap l items ∧ R (.ok (.ret (.bool (!items.isEmpty)))) { s with toks := s.toks + 1 + 1 }) :=
  Meets.of_wp fun prog w A R s hs => by
    obtain ⟨hl, hs⟩ := hs
    obtain ⟨hp, g, d, tk, os⟩ := s
    have f1 := F.conv_sub_bool
    repeat (any_goals (first | assumption | (with_reducible refine truthy_tuple hl hfit ?_) | wp_step))
    all_goals first | exact ⟨_, rfl, hs⟩ | exact hs | skip
section
variable {X : Cx} {C : Cy} {K : PySem.W.Frag} {σ : St} {H : Hp} {ow : Ow} {ρ : Rho}
theorem call_boolT : CallR X (.type "bool") (fun xs H Q => ∃ (a : Addr) (zs : List V), xs = [.ref a] ∧ SqT X.K H a zs ∧ Q (.bl (!zs.isEmpty)) H) := by
  intro pins s σ H xs us Q I r h
  obtain ⟨a, zs, rfl, hq, q⟩ := h
  obtain rfl := Vals.ref1 r
  obtain ⟨its, rv, pl, hz⟩ := I.tuple hq
  have hl := line63
  have hlen := rv.length
  refine call_bool_1 (meets_bool_tuple a its.toArray (by simp only [List.size_toArray]; omega)) ⟨pl, rfl, ?_⟩
  exact ⟨.bl (!zs.isEmpty), H, I.tok _, by rw [isEmpty_of rv]; rfl, q⟩
def fBool : List PyData → R PyData
  | [.int i] => .ok (.bool (i != 0))
  | [.bool b] => .ok (.bool b)
  | [.list xs] => .ok (.bool (!xs.isEmpty))
  | [.tuple xs] => .ok (.bool (!xs.isEmpty))
  | _ => .stk
theorem o_bool : OpA X (.type "bool") fBool := by
  intro ct pins s σ H xs us Q I rv h
  obtain ⟨ow, ds, nl, hx, h⟩ := h
  cases hx with
  | nil => exact h.elim
  | cons r rr =>
    cases rr with
    | cons _ _ => cases r <;> exact h.elim
    | nil =>
      cases r with
      | int i => exact call_bool1 pins s σ H _ us Q I rv (.inl ⟨i, rfl, h _ H (.refl H) (.bl _)⟩)
      | bl b => exact call_bool1 pins s σ H _ us Q I rv (.inr ⟨b, rfl, h _ H (.refl H) (.bl _)⟩)
      | lst e r => exact call_boolL pins s σ H _ us Q I rv ⟨_, _, rfl, SqL.of e, by rw [← isEmpty_rp r]; exact h _ H (.refl H) (.bl _)⟩
      | tup e r => exact call_boolT pins s σ H _ us Q I rv ⟨_, _, rfl, e.sq, by rw [← isEmpty_rp r]; exact h _ H (.refl H) (.bl _)⟩
      | _ => exact h.elim

/-! ### enumerate(tuple) -/
theorem meets_enumerate_newT (l : Addr) (items : Array Value) :
    Meets (Builtin.«enumerate.__new__» ⟨[.type "enumerate", .ref l], []⟩) (fun _ R s => s.heap.IsTuple l items ∧
      R (.ok (.ret (.ref (s.heap.push { cls := .type "tuple_iterator", data := .fields #[.ref l, .int 0 0] }).objs.size)))
        { s with heap := (s.heap.push { cls := .type "tuple_iterator", data := .fields #[.ref l, .int 0 0] }).push { cls := .type "enumerate", data := .fields #[.none, .bool false, .ref s.heap.objs.size, rawInt 0, .none, .none] } }) :=
  .of_wp fun prog w A R s h => by
    obtain ⟨hp, g, d, tk, os⟩ := s; obtain ⟨hl, h⟩ := h
    have hsub := sub_enumerate
    have hL : Heap.IsTuple (Shared.heap ⟨hp, g, d, tk, os⟩) l items := hl
    obtain ⟨o, ho, hc, n, hd⟩ := id hl
    wp_walk
    refine wpAny_stack_any fun st => wpAny_pure ?_
    split
    · rename_i c _ _ _ _ _
      cases (c == Value.type "enumerate")
      · wp_walk using wpAny_pyIter_tuple hL
        exact ⟨_, rfl, h⟩
      · wp_walk using wpAny_pyIter_tuple hL
        exact ⟨_, rfl, h⟩
    · wp_walk using wpAny_pyIter_tuple hL
      exact ⟨_, rfl, h⟩
theorem call_enumerate_tuple {prog : Program} {w : World} {A : Around} {E : Value → Shared → Prop} {s : Shared} {l : Addr} {items : Array Value} {Q : Value → Shared → Prop} (hL : s.heap.IsTuple l items)
    (h : ∀ h', IsEnum h' (s.heap.objs.size + 1) s.heap.objs.size 0 .none → h'.IsTupleIter s.heap.objs.size l 0 → h'.objs.size = s.heap.objs.size + 2 →
      (∀ b o, s.heap.get? b = some o → h'.get? b = some o) → Q (.ref (s.heap.objs.size + 1)) { s with heap := h' }) :
    wpAny (model prog w) A (call (.type "enumerate") [.ref l]) Q E s := by
  refine callType_new F.called_enumerate (by decide) (F.typeCall_enumerate_1 _) (F.newCall_enumerate_1 _) (fun obj => F.args_object_init_2 obj _) F.entry_enumerate_new
    (meets_enumerate_newT l items) ⟨hL, ?_⟩
  have hz : (s.heap.push { cls := .type "tuple_iterator", data := .fields #[.ref l, .int 0 0] }).objs.size = s.heap.objs.size + 1 := Heap.size_push ..
  show _ ∧ _
  rw [hz]
  have he : IsEnum ((s.heap.push { cls := .type "tuple_iterator", data := .fields #[.ref l, .int 0 0] }).push
      { cls := .type "enumerate", data := .fields #[.none, .bool false, .ref s.heap.objs.size, rawInt 0, .none, .none] }) (s.heap.objs.size + 1) s.heap.objs.size 0 .none := by
    have := Heap.get?_push_size (s.heap.push { cls := .type "tuple_iterator", data := .fields #[.ref l, .int 0 0] })
      (o := { cls := .type "enumerate", data := .fields #[.none, .bool false, .ref s.heap.objs.size, rawInt 0, .none, .none] }) rfl
    rw [hz] at this; exact this
  refine ⟨⟨_, he, rfl⟩, h _ he ⟨_, Heap.get?_push_of_some _ (Heap.get?_push_size _ rfl), rfl, rfl⟩ (by rw [Heap.size_push, hz]) fun b o x => Heap.get?_push_of_some _ (Heap.get?_push_of_some _ x)⟩
/-- the tuple at a, each item in a new pair -/
def IteT (K : PySem.W.Frag) (a : Addr) (N : Nat) : It :=
  ⟨fun i H => ∃ (xs : List V) (x : V), SqT K H a xs ∧ xs.length = N ∧ xs[i]? = some x, fun i H v H' => ∃ T x, v = .ref T ∧ H T = none ∧ H' = upd H T (.tup [.int (i : Nat), x]) ∧ ∀ xs, SqT K H a xs → xs[i]? = some x, fun i H => ∃ xs : List V, SqT K H a xs ∧ xs.length = N ∧ N ≤ i⟩
theorem turn_enumT {P : Program} {w : World} {K : PySem.W.Frag} {elts : List Expr} {kk : Nat} {tpos : Pos} (a e it : Addr) (N : Nat) :
    Turn P w K (.Tuple elts kk tpos) (IteT K a N) [e, it] e (fun i h => (∃ old, IsEnum h e it ((i : Nat) : Int) old) ∧ h.IsTupleIter it a i ∧ e ≠ it ∧ e ≠ a ∧ a ≠ it ∧ i ≤ N) where
  mem := by simp
  obj := fun i h st b hb => by
    obtain ⟨⟨old, he⟩, ⟨o, ho, hc, hd⟩, _⟩ := st
    have e' : b = e ∨ b = it := by simpa using hb
    rcases e' with z | z
    · rw [z]; exact ⟨_, he, fun v q => nomatch q⟩
    · rw [z]; exact ⟨o, ho, fun v q => by rw [hd] at q; cases q⟩
  keep := fun i h h' st k => let ⟨⟨old, he⟩, hi, hne⟩ := st; ⟨⟨old, k e (by simp) _ he⟩, hi.at fun o q => k it (by simp) o q, hne⟩
  item := by
    intro X hP hw hK hc i pins s σ H E I hf st hg
    subst hP hw hK
    obtain ⟨⟨old, he⟩, hit, hne, hea, hai, hiN⟩ := st
    obtain ⟨xs, x, hq, hxN, hx⟩ := hg
    obtain ⟨its, rv, p, hz⟩ := I.tuple hq
    obtain ⟨u, hu, ru⟩ := rv.get hx
    have hlx := rv.length
    have hel : e < s.heap.objs.size := Heap.lt_size he
    have hil : it < s.heap.objs.size := by obtain ⟨_, q, _⟩ := hit; exact Heap.lt_size q
    have hlt : i < its.toArray.size := by
      have := (List.getElem?_eq_some_iff.mp hu).1
      rw [List.size_toArray]; exact this
    refine wpAny_pyNext_enum_itemD (Draws.tuple (prog := X.prog) (w := X.w) (A := X.A.in1) (I.ok.hd hc) it a hai its.toArray) he ⟨hit, p⟩ hlt hne (by simp [hne, hea]) fun y h' tk hy ho hs' hT hsz hk => ?_
    have hy' : y = u := by
      have h2 : its[i]? = some y := by simpa using hy
      rw [hu] at h2; cases h2; rfl
    subst hy'
    refine ⟨_, rfl, wpAny_letOwnedTupleGo_enum (s := { s with heap := h', toks := tk + 1 }) ho fun h'' he' sb => ?_⟩
    have hT2 : h''.get? s.heap.objs.size = some { cls := .type "tuple", data := .seq #[.int i tk, y] } := (sb.2 _ (Nat.ne_of_gt hel)).trans hT
    have new : ObjOk X.prog X.w (upd H s.heap.objs.size (.tup [.int (i : Nat), x])) h'' s.heap.objs.size (.tup [.int (i : Nat), x]) :=
      ⟨by show 2 ≤ sizeLine; decide, [.int i tk, y], .cons ⟨_, rfl⟩ (.cons ru .nil), ⟨_, hT2, rfl, _, rfl⟩⟩
    have I1 : Inv X pins σ (upd H s.heap.objs.size (.tup [.int (i : Nat), x])) { s with heap := h'', toks := tk + 1 } :=
      I.turnedNew (ch := [e, it]) (fun b ob hb q => (sb.2 b (fun z => hb (by simp [z]))).trans (hk b ob (fun z => hb (by simp [z])) (fun z => hb (by simp [z])) q)) hf (Nat.le_refl _) new
    refine ⟨.ref s.heap.objs.size, _, I1, rfl, ⟨_, x, rfl, I.hok.fresh (Nat.le_refl _), rfl, fun ys hy => by rw [I.tuple_inj hy hq]; exact hx⟩, ⟨⟨y, ?_⟩, hs'.1.at fun o q => (sb.2 it (Ne.symm hne)).trans q, hne, hea, hai, by rw [List.size_toArray] at hlt; omega⟩, fun b hb => ?_⟩
    · have e1 : ((i + 1 : Nat) : Int) = (i : Int) + 1 := by omega
      rw [e1]; exact he'
    · have hb' : b < s.heap.objs.size := by
        have e' : b = e ∨ b = it := by simpa using hb
        rcases e' with z | z
        · rw [z]; exact hel
        · rw [z]; exact hil
      rw [upd_ne (Nat.ne_of_lt hb')]
      exact (hf b hb).1
  done := by
    intro X hP hw hK hc i pins s σ H E I hf st hg
    subst hP hw hK
    obtain ⟨⟨old, he⟩, hit, hne, hea, hai, hiN⟩ := st
    obtain ⟨xs, hq, hxN, hx⟩ := hg
    obtain ⟨its, rv, p, hz⟩ := I.tuple hq
    obtain ⟨f0, f1, f2, f3, f4, f5⟩ := hf it (by simp)
    have hl := rv.length
    have hn : i = its.toArray.size := by rw [List.size_toArray]; omega
    exact wpAny_pyNext_enum_endD (Draws.tuple (prog := X.prog) (w := X.w) (A := X.A.in1) (I.ok.hd hc) it a hai its.toArray) he ⟨by rw [← hn]; exact hit, p⟩ fun h' eb => ⟨rfl, I.turned (t' := s.toks) (fun b o hb q => eb b o hb q) f0 f1 f3 f4 f5⟩
  self := fun A i s Q E st h => let ⟨⟨_, he⟩, _⟩ := st; wpAny_pyIter_enum he h
/-- what enumerate gives -/
def enumD : Nat → List PyData → List PyData
  | _, [] => []
  | n, x :: xs => .tuple [.int n, x] :: enumD (n + 1) xs
theorem enumD_get : ∀ (xs : List PyData) (n i : Nat) {d : PyData}, (enumD n xs)[i]? = some d → ∃ x, xs[i]? = some x ∧ d = .tuple [.int ((n + i : Nat) : Int), x]
  | [], _, _, _, h => by simp [enumD] at h
  | x :: xs, n, 0, d, h => by simp [enumD] at h; exact ⟨x, rfl, h.symm⟩
  | x :: xs, n, i + 1, d, h => by
    simp only [enumD, List.getElem?_cons_succ] at h ⊢
    obtain ⟨y, h1, h2⟩ := enumD_get xs (n + 1) i h
    exact ⟨y, h1, by rw [h2, show n + 1 + i = n + (i + 1) by omega]⟩
theorem enumD_length : ∀ (xs : List PyData) (n : Nat), (enumD n xs).length = xs.length
  | [], _ => rfl
  | _ :: xs, n => by simp only [enumD, List.length_cons, enumD_length xs]
theorem itOk_enumL {a : Addr} {vs : List V} {xs : List PyData} (z : ow a = 0) (e : H a = some (.lst vs)) (r : RpA K ow H vs xs) : ItOk K (Ite K a) ow H (enumD 0 xs) := fun i ow' H' l nl => by
  have e' := (l.ap a _ z e).1
  have r' := RpA.later0 l r
  refine ⟨fun d hd => ?_, fun hl => ⟨vs, SqL.of e', by rw [r.length]; rwa [enumD_length] at hl⟩⟩
  obtain ⟨x, h1, rfl⟩ := enumD_get _ _ _ hd
  obtain ⟨v, h1, h2⟩ := r'.get h1
  refine ⟨⟨vs, v, SqL.of e', h1⟩, fun y H'' q => ?_⟩
  obtain ⟨T, v', rfl, hT, rfl, hv⟩ := q
  have := hv vs (SqL.of e')
  rw [h1] at this; cases this
  rw [Nat.zero_add]
  exact ⟨same_upd hT, rp_newTup hT (trk_nil nl T hT) (.cons (.int _) (.cons h2 .nil))⟩
theorem itOk_enumT {a : Addr} {vs : List V} {xs : List PyData} (e : SqTo K ow H a vs) (r : RpA K ow H vs xs) : ItOk K (IteT K a vs.length) ow H (enumD 0 xs) := fun i ow' H' l nl => by
  have e' := (e.later0 l).sq
  have r' := RpA.later0 l r
  refine ⟨fun d hd => ?_, fun hl => ⟨vs, e', rfl, by rw [r.length]; rwa [enumD_length] at hl⟩⟩
  obtain ⟨x, h1, rfl⟩ := enumD_get _ _ _ hd
  obtain ⟨v, h1, h2⟩ := r'.get h1
  refine ⟨⟨vs, v, e', rfl, h1⟩, fun y H'' q => ?_⟩
  obtain ⟨T, v', rfl, hT, rfl, hv⟩ := q
  have := hv vs e'
  rw [h1] at this; cases this
  rw [Nat.zero_add]
  exact ⟨same_upd hT, rp_newTup hT (trk_nil nl T hT) (.cons (.int _) (.cons h2 .nil))⟩
/-- a list or a tuple, each item with its number -/
def dEnum (da : Den) : DenI := fun ρ => (da ρ).bind fun r => match r.1 with
  | .list xs => .ok (enumD 0 xs, r.2)
  | .tuple xs => .ok (enumD 0 xs, r.2)
  | _ => .stk
theorem si_enum {e : Expr} {da : Den} {x : Str} {p pos tpos : Pos} {elts : List Expr} {kk : Nat} (ha : SE X C e da) (hx : x = ("enumerate" : Str)) (hg : Gl X x) (hm : X.mg x = none) (hs : starEach [e] X.env = [(false, eval e X.env)] := by rfl) :
    SI X C (.Tuple elts kk tpos) (.Call (.Name x p) [e] [] pos) (dEnum da) := fun ct => by
  subst hx
  refine ⟨fun pins s σ H R I h => ?_⟩
  obtain ⟨ρ, ow, S, h⟩ := h
  have ha' : PA X [e] (rdA X.K C (dCons da dNil)) := (sa_cons ha sa_nil hs) ct
  refine Call_ (ld_blt I hg hm boot_enumerate (PyProof.Rows.callWith_type1 (thn (ha'.run pos pins s σ H (fun vs H1 => ∃ v ow1 d ρ1, vs = [v] ∧ Rp X.K ow1 H1 v d ∧ SR X.K C ρ1 ow1 σ H1 ∧ Post X.K C (fun ow H J xs => ItOk X.K J ow H xs) (match d with
    | .list xs => .ok (enumD 0 xs, ρ1)
    | .tuple xs => .ok (enumD 0 xs, ρ1)
    | _ => .stk) σ ow1 H1 R) I ⟨ρ, ow, S, ?_⟩) fun us s1 ⟨vs, H1, I1, r1, q1⟩ => ?_) hs rfl))
  · unfold dEnum at h
    unfold dCons
    cases e1 : da ρ with
    | exc c x => rw [e1] at h; exact h.elim
    | stk => rw [e1] at h; exact h.elim
    | ok r =>
      rw [e1] at h
      obtain ⟨d, ρ1⟩ := r
      intro vs H1 ow1 l1 S1 r1
      cases r1 with
      | cons r0 rr =>
        cases rr
        exact ⟨_, ow1, d, ρ1, rfl, r0, S1, Post.later l1 h⟩
  · obtain ⟨v, ow1, d, ρ1, rfl, rd, S1, q⟩ := q1
    cases r1 with
    | cons r rr =>
      cases rr
      have fin : ∀ (b : Addr), (b = s1.heap.objs.size + 1 ∨ b = s1.heap.objs.size) → s1.heap.objs.size ≤ b := fun b e' => by
        rcases e' with z | z
        · rw [z]; exact Nat.le_add_right _ _
        · rw [z]; exact Nat.le_refl _
      cases rd with
      | @lst a xs ds z e r0 =>
        cases r
        obtain ⟨its, rv, p', hz⟩ := I1.list (SqL.of e)
        refine call_enumerate_list p'.isList fun h' he hit hsz hk => wpAny_pyIter_enum he ?_
        have I2 : Inv X pins σ H1 { s1 with heap := h' } := I1.kept (t' := s1.toks) hk
        refine ⟨s1.heap.objs.size + 1, [s1.heap.objs.size + 1, s1.heap.objs.size], _, _, H1, rfl, I2, turn_enum a (s1.heap.objs.size + 1) s1.heap.objs.size, ⟨⟨.none, he⟩, hit, Nat.succ_ne_self _⟩, fun b hb => ?_, q _ H1 ow1 (.refl _ _) S1 (itOk_enumL z e r0)⟩
        have hle := fin b (by simpa using hb)
        exact I1.fpOk hle (I1.hok.fresh hle)
      | @tup a xs ds e r0 =>
        cases r
        obtain ⟨its, rv, p', hz⟩ := I1.tuple e.sq
        have ha1 : a < s1.heap.objs.size := by obtain ⟨o, q, _⟩ := id p'; exact Heap.lt_size q
        refine call_enumerate_tuple (show s1.heap.IsTuple a its.toArray from p') fun h' he hit hsz hk => wpAny_pyIter_enum he ?_
        have I2 : Inv X pins σ H1 { s1 with heap := h' } := I1.kept (t' := s1.toks) hk
        refine ⟨s1.heap.objs.size + 1, [s1.heap.objs.size + 1, s1.heap.objs.size], _, _, H1, rfl, I2, turn_enumT a (s1.heap.objs.size + 1) s1.heap.objs.size xs.length, ⟨⟨.none, he⟩, hit, Nat.succ_ne_self _, fun z => absurd (z ▸ ha1 : s1.heap.objs.size + 1 < s1.heap.objs.size) (Nat.not_lt.mpr (Nat.le_add_right _ _)), Nat.ne_of_lt ha1, Nat.zero_le _⟩, fun b hb => ?_, q _ H1 ow1 (.refl _ _) S1 (itOk_enumT e r0)⟩
        have hle := fin b (by simpa using hb)
        exact I1.fpOk hle (I1.hok.fresh hle)
      | _ => exact q.elim
end
end L2.DY

end
section
/-! DyDict: dict displays; what is new given up (frozen). -/
namespace L2.DY
open PySem PySem.Spec PyProof.Rows
section
variable {X : Cx} {C : Cy} {K : PySem.W.Frag} {σ : St} {H : Hp} {ow : Ow} {ρ : Rho}
/-- what is new, frozen -/
theorem SR.give {ρ0 : Rho} {ow0 : Ow} {H0 : Hp} {σ0 : St} (S0 : SR K C ρ0 ow0 σ0 H0) (l : Later ow0 H0 ow H) (S : SR K C ρ ow σ H) {p : Addr} (hn : New ow0 H0 p) (o1 : ow p = 1) :
    Later ow0 H0 (own ow p 0) H ∧ SR K C ρ (own ow p 0) σ H ∧ Later0 ow H (own ow p 0) H := by
  have l0 : Later0 ow H (own ow p 0) H := .mk fun a o z e n => by
    have ne : a ≠ p := fun q => by subst q; omega
    exact ⟨e, by rw [own_ne ne]; exact z⟩
  have ln : Later ow0 H0 (own ow p 0) H := .mk fun a o z e n => by
    obtain ⟨q1, q2⟩ := l.ap a o z e
    have ne : a ≠ p := fun q => by subst q; exact hn.no z e n
    exact ⟨q1, by rw [own_ne ne]; exact q2⟩
  refine ⟨ln, ⟨S.len, fun j => ?_, S0.ent.trans ln, fun a h => ?_, fun a h => ?_, S.dom, S.par⟩, l0⟩
  · exact (S.slots j).other0 l0 fun a o z q => by
      have ne : a ≠ p := fun q => by subst q; omega
      exact ⟨q, by rw [own_ne ne]; exact z⟩
  · have ne : a ≠ p := fun q => by
      subst q
      have z0 := S0.out a h
      have := hn.1 z0
      exact (S0.trk a (by omega)).1 this
    rw [own_ne ne]; exact S.out a h
  · by_cases q : a = p
    · subst q; exact absurd own_same h
    · rw [own_ne q] at h; exact S.trk a h
def Nv.data : Nv → PyData
  | .d x => x
  | .nl xs => .list xs
  | .nd ds => .dict ds
def dFrz (dn : DenN) : Den := fun ρ => (dn ρ).bind fun r => .ok (r.1.data, r.2)
theorem rd_frz {dn : DenN} {Q : VK} (h : rdE K C (dFrz dn) σ H Q) : rdN K C dn σ H Q := by
  obtain ⟨ρ, ow, S, h⟩ := h
  refine ⟨ρ, ow, S, ?_⟩
  unfold dFrz at h
  cases e : dn ρ with
  | exc c x => rw [e] at h; exact h.elim
  | stk => rw [e] at h; exact h.elim
  | ok r =>
    rw [e] at h
    obtain ⟨n, ρ1⟩ := r
    intro v H1 ow1 l1 S1 r1
    cases n with
    | d x => exact h v H1 ow1 l1 S1 r1
    | nl xs =>
      obtain ⟨p, vs, rfl, h2, h3, h4, h5⟩ := r1
      obtain ⟨q1, q2, q3⟩ := S.give l1 S1 h2 h3
      exact h _ H1 _ q1 q2 (.lst own_same h4 (RpA.later0 q3 h5))
    | nd xs =>
      obtain ⟨p, vs, rfl, h2, h3, h4, h5⟩ := r1
      obtain ⟨q1, q2, q3⟩ := S.give l1 S1 h2 h3
      exact h _ H1 _ q1 q2 (.dct own_same h4 (RpD.later0 q3 h5))
theorem se_frz {e : Expr} {dn : DenN} (h : SN X C e dn) : SE X C e (dFrz dn) := fun ct => PE.imp (h ct) fun _ _ _ q => rd_frz q

/-! ### {k: v, ..} -/
inductive RpP2 (K : PySem.W.Frag) (ow : Ow) (H : Hp) : List (V × V) → List (PyData × PyData) → Prop
  | nil : RpP2 K ow H [] []
  | cons {v w : V} {x y : PyData} {vs : List (V × V)} {ds : List (PyData × PyData)} : Rp K ow H v x → Rp K ow H w y → RpP2 K ow H vs ds → RpP2 K ow H ((v, w) :: vs) ((x, y) :: ds)
abbrev DenPs := Rho → R (List (PyData × PyData) × Rho)
def rdPs (K : PySem.W.Frag) (C : Cy) (dp : DenPs) (σ : St) (H : Hp) (Q : List (V × V) → Hp → Prop) : Prop := ∃ ρ ow, SR K C ρ ow σ H ∧ match dp ρ with
  | .ok (ps, ρ') => ∀ vs H' ow', Later ow H ow' H' → SR K C ρ' ow' σ H' → RpP2 K ow' H' vs ps → Q vs H'
  | _ => False
def SPs (X : Cx) (C : Cy) (pos : Pos) (keys : List (Option Expr)) (values : List Expr) (dp : DenPs) : Prop := Ct X → ∃ trs, PPs X pos keys values trs ∧ ∀ σ H Q, rdPs X.K C dp σ H Q → tPairs trs σ H Q
def dPs0 : DenPs := fun ρ => .ok ([], ρ)
def dPs1 (da db : Den) (dr : DenPs) : DenPs := fun ρ => (da ρ).bind fun r => (db r.2).bind fun q => (dr q.2).bind fun z => .ok ((r.1, q.1) :: z.1, z.2)
theorem sps_nil {pos : Pos} : SPs X C pos [] [] dPs0 := fun ct => ⟨_, pps_nil, fun σ H Q ⟨ρ, ow, S, h⟩ => h [] H ow (.refl _ _) S .nil⟩
theorem sps_cons {pos : Pos} {k v : Expr} {ks : List (Option Expr)} {vs : List Expr} {da db : Den} {dr : DenPs} (ha : SE X C k da) (hb : SE X C v db) (hr : SPs X C pos ks vs dr) : SPs X C pos (some k :: ks) (v :: vs) (dPs1 da db dr) := fun ct => by
  obtain ⟨trs, h1, h2⟩ := hr ct
  refine ⟨_, pps_cons (ha ct) (hb ct) h1, fun σ H Q ⟨ρ, ow, S, h⟩ => ⟨ρ, ow, S, ?_⟩⟩
  unfold dPs1 at h
  cases e1 : da ρ with
  | exc c x => rw [e1] at h; exact h.elim
  | stk => rw [e1] at h; exact h.elim
  | ok r =>
    rw [e1] at h
    simp only [R.bind] at h
    intro v1 H1 ow1 l1 S1 r1
    refine ⟨r.2, ow1, S1, ?_⟩
    cases e2 : db r.2 with
    | exc c x => rw [e2] at h; exact h.elim
    | stk => rw [e2] at h; exact h.elim
    | ok q =>
      rw [e2] at h
      intro v2 H2 ow2 l2 S2 r2
      refine h2 σ H2 _ ⟨q.2, ow2, S2, ?_⟩
      dsimp only at h
      cases e3 : dr q.2 with
      | exc c x => rw [e3] at h; exact h.elim
      | stk => rw [e3] at h; exact h.elim
      | ok z =>
        rw [e3] at h
        exact fun vs H3 ow3 l3 S3 r3 => h _ H3 ow3 ((l1.trans l2).trans l3) S3 (.cons ((r1.later l2).later l3) (r2.later l3) r3)
/-- the pairs as a dict has them -/
def pairsD : List (PyData × PyData) → List (PyData × PyData) → Option (List (PyData × PyData))
  | acc, [] => some acc
  | acc, (x, y) :: r => match keyOf x with
    | some k => pairsD (putD acc k y) r
    | none => none
theorem RpP2.merge : ∀ {vs : List (V × V)} {ps : List (PyData × PyData)} {acc ds : List (PyData × PyData)} {ka : List (Key × V)}, RpP2 K ow H vs ps → RpK K ow H ka acc → pairsD acc ps = some ds →
    ∃ kvs : List (Key × V), vs = kvs.map (fun kv => (kV kv.1, kv.2)) ∧ kvs.length = vs.length ∧ RpK K ow H (mergeK ka kvs) ds
  | _, _, _, _, _, .nil, ra, h => by cases h; exact ⟨[], rfl, rfl, ra⟩
  | _, _, _, _, _, .cons (x := x) r1 r2 rr, ra, h => by
    simp only [pairsD] at h
    cases e : keyOf x with
    | none => rw [e] at h; cases h
    | some k =>
      rw [e] at h
      obtain ⟨rfl, hk⟩ := key_rp r1.s e
      obtain ⟨kvs, h1, h2, h3⟩ := RpP2.merge rr (ra.put hk r2) h
      exact ⟨(k, _) :: kvs, by rw [h1]; rfl, by rw [List.length_cons, h2]; rfl, h3⟩
def dDisp (dp : DenPs) : DenN := fun ρ => (dp ρ).bind fun r => match pairsD [] r.1 with
  | some ds => if r.1.length ≤ 15 then .ok (.nd ds, r.2) else .stk
  | none => .stk
theorem RpP2.length {vs : List (V × V)} {ps : List (PyData × PyData)} (r : RpP2 K ow H vs ps) : vs.length = ps.length := by
  induction r with
  | nil => rfl
  | cons _ _ _ ih => rw [List.length_cons, List.length_cons, ih]
theorem RpP2.later0 {ow' : Ow} {H' : Hp} (l : Later0 ow H ow' H') {vs : List (V × V)} {ps : List (PyData × PyData)} (r : RpP2 K ow H vs ps) : RpP2 K ow' H' vs ps := by
  induction r with
  | nil => exact .nil
  | cons a b _ ih => exact .cons (Rp.later0 l a) (Rp.later0 l b) ih
theorem sn_disp {keys : List (Option Expr)} {values : List Expr} {dp : DenPs} {pos : Pos} (h : SPs X C pos keys values dp) (hall : keys.all (·.isSome) = true := by rfl) (hl : keys.length = values.length := by rfl) (h0 : keys ≠ [] := by exact fun z => nomatch z) (h15 : keys.length ≤ 15 := by decide) : SN X C (.Dict keys values pos) (dDisp dp) := fun ct => by
  obtain ⟨trs, h1, h2⟩ := h ct
  refine PE.imp (pe_disp h1 hall hl h0 h15) fun σ H Q ⟨ρ, ow, S, hq⟩ p hp => h2 _ _ _ ⟨ρ, own ow p 1, S.alloc hp, ?_⟩
  unfold dDisp at hq
  cases e1 : dp ρ with
  | exc c x => rw [e1] at hq; exact hq.elim
  | stk => rw [e1] at hq; exact hq.elim
  | ok r =>
    rw [e1] at hq
    obtain ⟨ps, ρ1⟩ := r
    simp only [R.bind] at hq
    cases e2 : pairsD [] ps with
    | none => rw [e2] at hq; exact hq.elim
    | some ds =>
      rw [e2] at hq
      dsimp only at hq
      split at hq
      · rename_i hz
        intro vs H1 ow1 l1 S1 r1
        obtain ⟨k1, k2⟩ := l1.ap p _ (by rw [own_same]; omega) upd_same
        rw [own_same] at k2
        obtain ⟨kvs, q1, q2, q3⟩ := r1.merge .nil e2
        refine ⟨k1, kvs, q1, by rw [q2, r1.length]; exact hz, ?_⟩
        have lput : Later0 ow1 H1 ow1 (upd H1 p (.dK (mergeK [] kvs))) := .mk fun a o z q n => by
          have ne : a ≠ p := fun q => by subst q; omega
          exact ⟨by rw [upd_ne ne]; exact q, z⟩
        have d0 : C.H0 p = none := by
          cases q : C.H0 p with
          | none => rfl
          | some o => exact absurd hp (S.dom p (by rw [q]; exact fun z => nomatch z))
        refine hq _ _ ow1 (.mk fun a o z q n => ?_) (S1.put k2 d0) ⟨p, _, rfl, New.of hp, k2, upd_same, .k (RpK.later0 lput q3)⟩
        have ne : a ≠ p := ne_of_none q hp
        obtain ⟨t1, t2⟩ := l1.ap a o (by rw [own_ne ne]; exact z) (by rw [upd_ne ne]; exact q) (by rw [own_ne ne]; exact n)
        exact ⟨by rw [upd_ne ne]; exact t1, by rw [t2, own_ne ne]⟩
      · exact hq.elim
/-- {} -/
def dNewD : DenN := fun ρ => .ok (.nd [], ρ)
theorem sn_disp0 {pos : Pos} : SN X C (.Dict [] [] pos) dNewD := fun ct => PE.imp pe_dnewK fun σ H Q ⟨ρ, ow, S, hq⟩ p hp => by
  obtain ⟨q1, q2, q3, q4⟩ := S.make (.refl ow H) hp (.dK [])
  exact hq _ _ _ q1 q2 ⟨p, _, rfl, q3, own_same, upd_same, .k .nil⟩
/-- {}, to have tuples as keys -/
def dNewT : DenN := fun ρ => .ok (.nd [(.none, .none)], ρ)
theorem sn_dispT {pos : Pos} : SN X C (.Dict [] [] pos) dNewT := fun ct => PE.imp pe_dnewT fun σ H Q ⟨ρ, ow, S, hq⟩ p hp => by
  obtain ⟨q1, q2, q3, q4⟩ := S.make (.refl ow H) hp (.dT [])
  exact hq _ _ _ q1 q2 ⟨p, _, rfl, q3, own_same, upd_same, .t .nil⟩
end
end L2.DY

end
section
/-! DyComp2: list comprehensions of two clauses. -/
namespace L2.DY
open PySem PySem.Spec PyProof.Rows
section
variable {X : Cx} {C : Cy} {K : PySem.W.Frag} {σ : St} {H : Hp} {ow : Ow} {ρ : Rho}
/-- the turns of two clauses -/
def lcLoop2 (vs vs1 : List Nat) (g : GDen) (t : DenB) (di : DenI) (g1 : GDen) (t1 : DenB) (e : Den) : List PyData → Rho → R (List PyData × Rho)
  | [], ρ => .ok ([], ρ)
  | x :: xs, ρ => (g x (wipeR ρ vs)).bind fun ρ1 => (t ρ1).bind fun r => if r.1 then (di r.2).bind fun p => (lcLoop vs1 g1 t1 e p.1 p.2).bind fun q =>
      (lcLoop2 vs vs1 g t di g1 t1 e xs (wipeR q.2 vs1)).bind fun z => .ok (q.1 ++ z.1, z.2)
    else lcLoop2 vs vs1 g t di g1 t1 e xs r.2
/-- what has been made and what is still to come -/
def fin2 (vs : List Nat) (ρ1 : Rho) (acc : List PyData) (r : R (List PyData × Rho)) : R (PyData × Rho) := r.bind fun q => if (acc ++ q.1).length ≤ lineN then .ok (.list (acc ++ q.1), restR ρ1 q.2 vs) else .stk
def dLc2 (vs vs1 : List Nat) (di : DenI) (g : GDen) (t : DenB) (di1 : DenI) (g1 : GDen) (t1 : DenB) (e : Den) : Den := fun ρ => (di ρ).bind fun r =>
  if vs.all (fun i => plainSl (r.2.getD i .u)) then fin2 vs r.2 [] (lcLoop2 vs vs1 g t di1 g1 t1 e r.1 r.2) else .stk
theorem wipe_wipe (σ : St) {vs1 vs : List Nat} (h : ∀ i ∈ vs1, i ∈ vs) : wipe (wipe σ vs1) vs = wipe σ vs := by
  refine List.ext_getElem? fun j => ?_
  rw [wipe_get, wipe_get, wipe_get, wipe_length]
  by_cases q : j ∈ vs ∧ j < σ.length
  · rw [if_pos q, if_pos q]
  · rw [if_neg q, if_neg q]
    have : ¬ (j ∈ vs1 ∧ j < σ.length) := fun z => q ⟨h j z.1, z.2⟩
    rw [if_neg this]
theorem wipe_twice (σ : St) (vs : List Nat) : wipe (wipe σ vs) vs = wipe σ vs := wipe_wipe σ fun _ h => h
theorem rd_lc2 {vs vs1 : List Nat} {di di1 : DenI} {g g1 : GDen} {t t1 : DenB} {e : Den} {Q : VK} (hb : ∀ i ∈ vs, C.br i = false) (hv : ∀ i ∈ vs1, i ∈ vs) (h : rdE K C (dLc2 vs vs1 di g t di1 g1 t1 e) σ H Q) :
    tLc2 (rdI K C di) (rdG K C vs g) (rdB K C t) (rdI K C di1) (rdG K C vs1 g1) (rdB K C t1) (rdE K C e) vs vs1 σ H Q := by
  have hb1 : ∀ i ∈ vs1, C.br i = false := fun i h => hb i (hv i h)
  obtain ⟨ρ, ow, S, h⟩ := h
  refine ⟨ρ, ow, S, Post.bind h fun xs ρ1 J H1 ow1 l1 S1 r1 h1 D hD => ?_⟩
  dsimp only at h1
  split at h1
  · rename_i hp
    simp only [List.all_eq_true] at hp
    have d0 : C.H0 D = none := by
      cases q : C.H0 D with
      | none => rfl
      | some o => exact absurd hD (S1.dom D (by rw [q]; exact fun z => nomatch z))
    have w0 : C.ow0 D ≠ 1 := fun z => by
      have := S1.out D z
      have := S1.fresh hD
      omega
    -- the list at D and what is to come
    let Lo : Ow → Hp → List PyData → Prop := fun ow2 H acc => ow2 D = 1 ∧ (∃ us, H D = some (.lst us) ∧ RpA K ow2 H us acc) ∧ Later ow1 H1 ow2 H
    have lo_later : ∀ {ow2 ow3 : Ow} {H2 H3 : Hp} {acc : List PyData}, Lo ow2 H2 acc → Later ow2 H2 ow3 H3 → Lo ow3 H3 acc := fun {ow2 ow3 H2 H3 acc} ⟨o, ⟨us, e, r⟩, l⟩ k => by
      obtain ⟨k1, k2⟩ := k.ap D _ (by omega) e
      exact ⟨by omega, ⟨us, k1, r.later k⟩, l.trans k⟩
    have l6t : ∀ {owa owb owc : Ow} {Ha Hb Hc : Hp}, Later0 owa Ha owb Hb → Later owb Hb owc Hc → Later0 owa Ha owc Hc := fun a b => .mk fun x o z q n => by
      obtain ⟨k1, k2⟩ := a.ap x o z q
      obtain ⟨k3, k4⟩ := b.ap x o (by omega) k1 (fun _ => n)
      exact ⟨k3, by omega⟩
    let Fp : List PyData → R (List PyData × Rho) → Prop := fun acc r => Post K C (Rp K) (fin2 vs ρ1 acc r) σ ow1 H1 Q
    -- nothing else is left than a value, and it is no longer than it may be
    have fp_ok : ∀ {acc : List PyData} {r : R (List PyData × Rho)}, Fp acc r → ∃ q, r = .ok q ∧ (acc ++ q.1).length ≤ lineN := fun {acc r} h => by
      cases r with
      | exc c x => exact h.elim
      | stk => exact h.elim
      | ok q =>
        refine ⟨q, rfl, ?_⟩
        have h' : Post K C (Rp K) (if (acc ++ q.1).length ≤ lineN then .ok (.list (acc ++ q.1), restR ρ1 q.2 vs) else .stk) σ ow1 H1 Q := h
        by_cases hz : (acc ++ q.1).length ≤ lineN
        · exact hz
        · rw [if_neg hz] at h'; exact h'.elim
    have fp_app : ∀ {acc ys : List PyData} {r : R (List PyData × Rho)}, Fp acc (r.bind fun z => .ok (ys ++ z.1, z.2)) → Fp (acc ++ ys) r := fun {acc ys r} h => by
      cases r with
      | exc c x => exact h
      | stk => exact h
      | ok q =>
        have e : fin2 vs ρ1 acc ((R.ok q).bind fun z => .ok (ys ++ z.1, z.2)) = fin2 vs ρ1 (acc ++ ys) (.ok q) := by
          simp only [fin2, R.bind, List.append_assoc]
        show Post K C (Rp K) (fin2 vs ρ1 (acc ++ ys) (.ok q)) σ ow1 H1 Q
        rw [← e]; exact h
    refine ⟨fun i m H => m = xs.length - i ∧ i ≤ xs.length ∧ ∃ ρ2 ow2 acc, SR K C (wipeR ρ2 vs) ow2 (wipe σ vs) H ∧ Lo ow2 H acc ∧ Fp acc (lcLoop2 vs vs1 g t di1 g1 t1 e (xs.drop i) ρ2),
      ⟨xs.length, by simp, Nat.zero_le _, ρ1, own ow1 D 1, [], (S1.wiped vs hb).alloc hD, ⟨own_same, ⟨[], upd_same, .nil⟩, .mk fun a o z q n => ?_⟩, h1⟩, ?_⟩
    · have ne : a ≠ D := ne_of_none q hD
      exact ⟨by rw [upd_ne ne]; exact q, by rw [own_ne ne]⟩
    · rintro i m H2 ⟨rfl, hi, ρ2, ow2, acc, S2, lo2, h2⟩
      obtain ⟨q1, q2⟩ := r1 i ow2 H2 lo2.2.2.z S2.trk
      by_cases hlt : i < xs.length
      · rw [List.drop_eq_getElem_cons hlt] at h2
        obtain ⟨go, yld⟩ := q1 xs[i] (List.getElem?_eq_getElem hlt)
        refine .inr ⟨go, fun H' => i + 1 ≤ xs.length ∧ ∃ ρ2 ow2 acc, SR K C (wipeR ρ2 vs) ow2 (wipe σ vs) H' ∧ Lo ow2 H' acc ∧ Fp acc (lcLoop2 vs vs1 g t di1 g1 t1 e (xs.drop (i + 1)) ρ2),
          fun H' hN => ⟨xs.length - (i + 1), by omega, rfl, hN.1, hN.2⟩, fun x H' y => ?_⟩
        obtain ⟨sm, rx⟩ := yld x H' y
        refine ⟨wipeR ρ2 vs, ow2, xs[i], S2.same sm, rx, ?_⟩
        simp only [lcLoop2] at h2
        cases e1 : g xs[i] (wipeR ρ2 vs) with
        | exc c x => rw [e1] at h2; exact h2.elim
        | stk => rw [e1] at h2; exact h2.elim
        | ok ρ3 =>
          rw [e1] at h2
          intro σ3 H3 ow3 l3 S3 w3
          have lo3 := lo_later lo2 ((Later.same sm).trans l3)
          simp only [R.bind_ok] at h2
          have w3' : wipe σ3 vs = wipe σ vs := w3.trans (wipe_twice σ vs)
          refine ⟨w3', ρ3, ow3, S3, ?_⟩
          cases e2 : t ρ3 with
          | exc c x => rw [e2] at h2; exact h2.elim
          | stk => rw [e2] at h2; exact h2.elim
          | ok r =>
            obtain ⟨k, ρ4⟩ := r
            rw [e2] at h2
            simp only [R.bind_ok] at h2
            intro b H4 ow4 l4 S4 rb
            subst rb
            have wb : ∀ {ρ' : Rho} {σ' : St} {ow' : Ow} {H' : Hp}, wipe σ' vs = wipe σ vs → SR K C ρ' ow' σ' H' → SR K C (wipeR ρ' vs) ow' (wipe σ vs) H' := fun {ρ' σ' ow' H'} e S' => by
              have := S'.wiped vs hb
              rwa [e] at this
            have lo4 := lo_later lo3 l4
            cases b with
            | false =>
              rw [if_neg Bool.false_ne_true] at h2 ⊢
              exact ⟨hlt, ρ4, ow4, acc, wb w3' S4, lo4, h2⟩
            | true =>
              rw [if_pos rfl] at h2 ⊢
              refine ⟨ρ4, ow4, S4, ?_⟩
              cases e5 : di1 ρ4 with
              | exc c x => rw [e5] at h2; exact h2.elim
              | stk => rw [e5] at h2; exact h2.elim
              | ok r =>
                obtain ⟨ys, ρ5⟩ := r
                rw [e5] at h2
                simp only [R.bind_ok] at h2
                intro J1 H5 ow5 l5 S5 r5
                have lo5 := lo_later lo4 l5
                -- the inner loop
                refine ⟨fun j k H => k = ys.length - j ∧ j ≤ ys.length ∧ ∃ ρ6 ow6 acc, SR K C (wipeR ρ6 vs1) ow6 (wipe σ3 vs1) H ∧ Lo ow6 H acc ∧ Later0 ow5 H5 ow6 H ∧ Fp acc ((lcLoop vs1 g1 t1 e (ys.drop j) ρ6).bind fun q => (lcLoop2 vs vs1 g t di1 g1 t1 e (xs.drop (i + 1)) (wipeR q.2 vs1)).bind fun z => .ok (q.1 ++ z.1, z.2)),
                  ⟨ys.length, by simp, Nat.zero_le _, ρ5, ow5, acc, S5.wiped vs1 hb1, lo5, (Later.refl _ _).z, h2⟩, ?_⟩
                rintro j k H6 ⟨rfl, hj, ρ6, ow6, acc, S6, lo6, l6, h6⟩
                obtain ⟨q1', q2'⟩ := r5 j ow6 H6 l6 S6.trk
                by_cases hlt2 : j < ys.length
                · rw [List.drop_eq_getElem_cons hlt2] at h6
                  obtain ⟨go', yld'⟩ := q1' ys[j] (List.getElem?_eq_getElem hlt2)
                  refine .inr ⟨go', fun H' => j + 1 ≤ ys.length ∧ ∃ ρ6 ow6 acc, SR K C (wipeR ρ6 vs1) ow6 (wipe σ3 vs1) H' ∧ Lo ow6 H' acc ∧ Later0 ow5 H5 ow6 H' ∧ Fp acc ((lcLoop vs1 g1 t1 e (ys.drop (j + 1)) ρ6).bind fun q => (lcLoop2 vs vs1 g t di1 g1 t1 e (xs.drop (i + 1)) (wipeR q.2 vs1)).bind fun z => .ok (q.1 ++ z.1, z.2)),
                    fun H' hN => ⟨ys.length - (j + 1), by omega, rfl, hN.1, hN.2⟩, fun x' H' y' => ?_⟩
                  obtain ⟨sm', rx'⟩ := yld' x' H' y'
                  refine ⟨wipeR ρ6 vs1, ow6, ys[j], S6.same sm', rx', ?_⟩
                  simp only [lcLoop] at h6
                  cases e6 : g1 ys[j] (wipeR ρ6 vs1) with
                  | exc c x => rw [e6] at h6; exact h6.elim
                  | stk => rw [e6] at h6; exact h6.elim
                  | ok ρ7 =>
                    rw [e6] at h6
                    intro σ7 H7 ow7 l7 S7 w7
                    have l67 : Later ow6 H6 ow7 H7 := (Later.same sm').trans l7
                    have lo7 := lo_later lo6 l67
                    simp only [R.bind_ok] at h6
                    have w7' : wipe σ7 vs1 = wipe σ3 vs1 := w7.trans (wipe_twice σ3 vs1)
                    refine ⟨w7', ρ7, ow7, S7, ?_⟩
                    have wb1 : ∀ {ρ' : Rho} {σ' : St} {ow' : Ow} {H' : Hp}, wipe σ' vs1 = wipe σ3 vs1 → SR K C ρ' ow' σ' H' → SR K C (wipeR ρ' vs1) ow' (wipe σ3 vs1) H' := fun {ρ' σ' ow' H'} e S' => by
                      have := S'.wiped vs1 hb1
                      rwa [e] at this
                    cases e7 : t1 ρ7 with
                    | exc c x => rw [e7] at h6; exact h6.elim
                    | stk => rw [e7] at h6; exact h6.elim
                    | ok r =>
                      obtain ⟨k', ρ8⟩ := r
                      rw [e7] at h6
                      simp only [R.bind_ok] at h6
                      intro b H8 ow8 l8 S8 rb
                      subst rb
                      have l68 := l67.trans l8
                      have lo8 := lo_later lo7 l8
                      cases b with
                      | false =>
                        rw [if_neg Bool.false_ne_true] at h6 ⊢
                        exact ⟨hlt2, ρ8, ow8, acc, wb1 w7' S8, lo8, l6t l6 l68, h6⟩
                      | true =>
                        rw [if_pos rfl] at h6 ⊢
                        refine ⟨ρ8, ow8, S8, ?_⟩
                        cases e8 : e ρ8 with
                        | exc c x => rw [e8] at h6; exact h6.elim
                        | stk => rw [e8] at h6; exact h6.elim
                        | ok r =>
                          obtain ⟨y, ρ9⟩ := r
                          rw [e8] at h6
                          simp only [R.bind_ok] at h6
                          intro yv H9 ow9 l9 S9 ry
                          obtain ⟨o9, ⟨us, d9, r9⟩, lJ9⟩ := lo_later lo8 l9
                          have lput : Later0 ow9 H9 ow9 (upd H9 D (.lst (us ++ [yv]))) := .mk fun a o z q n => by
                            have ne : a ≠ D := fun q => by subst q; omega
                            exact ⟨by rw [upd_ne ne]; exact q, z⟩
                          -- the value there is still to come
                          have h6' : Fp acc (((lcLoop vs1 g1 t1 e (ys.drop (j + 1)) ρ9).bind fun q => (lcLoop2 vs vs1 g t di1 g1 t1 e (xs.drop (i + 1)) (wipeR q.2 vs1)).bind fun z => .ok (q.1 ++ z.1, z.2)).bind fun z => .ok ([y] ++ z.1, z.2)) := by
                            have e0 : ∀ (r : R (List PyData × Rho)) (k : Rho → R (List PyData × Rho)), ((r.bind fun z => .ok (y :: z.1, z.2)).bind fun q => (k (wipeR q.2 vs1)).bind fun z => .ok (q.1 ++ z.1, z.2)) = ((r.bind fun q => (k (wipeR q.2 vs1)).bind fun z => .ok (q.1 ++ z.1, z.2)).bind fun z => .ok ([y] ++ z.1, z.2)) := fun r k => by
                              cases r with
                              | exc c x => rfl
                              | stk => rfl
                              | ok q =>
                                simp only [R.bind]
                                cases k (wipeR q.2 vs1) with
                                | exc c x => rfl
                                | stk => rfl
                                | ok z => simp
                            rw [← e0]; exact h6
                          have h9 := fp_app h6'
                          have hz : us.length < lineN := by
                            obtain ⟨q, _, hz⟩ := fp_ok h9
                            rw [List.length_append, List.length_append, ← r9.length] at hz
                            simp at hz; omega
                          refine ⟨us, d9, by rw [lineN_eq]; exact hz, hlt2, ρ9, ow9, acc ++ [y], (wb1 w7' S9).put o9 d0, ⟨o9, ⟨us ++ [yv], upd_same, RpA.later0 lput (r9.append (.cons ry .nil))⟩, .mk fun a o z q n => ?_⟩, .mk fun a o z q n => ?_, h9⟩
                          · obtain ⟨p3, p4⟩ := lJ9.ap a o z q
                            have ne : a ≠ D := ne_of_none q hD
                            exact ⟨by rw [upd_ne ne]; exact p3, p4⟩
                          · obtain ⟨p3, p4⟩ := (l6t l6 (l68.trans l9)).ap a o z q
                            have ne : a ≠ D := fun y => by rw [y] at p4; omega
                            exact ⟨by rw [upd_ne ne]; exact p3, p4⟩
                · have ej : j = ys.length := by omega
                  subst ej
                  rw [List.drop_length] at h6
                  refine .inl ⟨q2' (Nat.le_refl _), hlt, wipeR ρ6 vs1, ow6, acc, ?_, lo6, ?_⟩
                  · have := S6.wiped vs hb
                    rwa [wipe_wipe σ3 hv, w3'] at this
                  · simp only [lcLoop, R.bind_ok] at h6
                    have := fp_app (ys := []) h6
                    rwa [List.append_nil] at this
      · have ei : i = xs.length := by omega
        subst ei
        rw [List.drop_length] at h2
        refine .inl ⟨q2 (Nat.le_refl _), ?_⟩
        obtain ⟨o2, ⟨us, hD2, ra⟩, lJ⟩ := lo2
        have S3 : SR K C (restR ρ1 ρ2 vs) ow2 σ H2 := S1.rested lJ S2 hp
        have l3 : Later0 ow2 H2 (own ow2 D 0) H2 := .mk fun a o z q n => by
          have ne : a ≠ D := fun q => by subst q; omega
          exact ⟨q, by rw [own_ne ne]; exact z⟩
        have lf : Later ow1 H1 (own ow2 D 0) H2 := .mk fun a o z q n => by
          have ne : a ≠ D := ne_of_none q hD
          exact ⟨(lJ.ap a o z q).1, by rw [own_ne ne]; exact (lJ.ap a o z q).2⟩
        have h2' : Post K C (Rp K) (if (acc ++ []).length ≤ lineN then .ok (.list (acc ++ []), restR ρ1 ρ2 vs) else .stk) σ ow1 H1 Q := h2
        split at h2'
        · rw [List.append_nil] at h2'
          exact h2' _ H2 (own ow2 D 0) lf (S3.freed o2 w0 d0) (.lst own_same hD2 (RpA.later0 l3 ra))
        · exact h2'.elim
  · exact h1.elim
theorem se_lc2 (vs vs1 : List Nat) {own : List (Str × Nat)} {elt tg iter tg1 iter1 : Expr} {ifs ifs1 : List Expr} {scope : Scope} {pos : Pos} {di di1 : DenI} {g g1 : GDen} {t t1 : DenB} {e : Den} (ok : BlkOk X.N X.env.scope scope own) (hv : own.map (·.2) = vs) (hb : ∀ i ∈ vs, C.br i = false) (hv1 : ∀ i ∈ vs1, i ∈ vs)
    (hi : SI X C tg iter di) (hg : ∀ (s : Shared) (H : Hp) (c : Addr) (cl : List (Str × Addr)) (fp : List Addr), SG (X.blk s H scope (compEnvC scope cl c X.env) fp) C tg vs g)
    (ht : ∀ (s : Shared) (H : Hp) (c : Addr) (cl : List (Str × Addr)) (fp : List Addr), SF (X.blk s H scope (compEnvC scope cl c X.env) fp) C ifs t)
    (hi1 : ∀ (s : Shared) (H : Hp) (c : Addr) (cl : List (Str × Addr)) (fp : List Addr), SI (X.blk s H scope (compEnvC scope cl c X.env) fp) C tg1 iter1 di1)
    (hg1 : ∀ (s : Shared) (H : Hp) (c : Addr) (cl : List (Str × Addr)) (fp : List Addr), SG (X.blk s H scope (compEnvC scope cl c X.env) fp) C tg1 vs1 g1)
    (ht1 : ∀ (s : Shared) (H : Hp) (c : Addr) (cl : List (Str × Addr)) (fp : List Addr), SF (X.blk s H scope (compEnvC scope cl c X.env) fp) C ifs1 t1)
    (he : ∀ (s : Shared) (H : Hp) (c : Addr) (cl : List (Str × Addr)) (fp : List Addr), SE (X.blk s H scope (compEnvC scope cl c X.env) fp) C elt e)
    (hs : ∀ x, foldedSetIterable iter X.env x = pure x := by intro _; rfl) (hs1 : ∀ env x, foldedSetIterable iter1 env x = pure x := by intro _ _; rfl) : SE X C (.ListComp elt [⟨tg, iter, ifs, 0⟩, ⟨tg1, iter1, ifs1, 0⟩] scope pos) (dLc2 vs vs1 di g t di1 g1 t1 e) := fun ct => by
  subst hv
  exact PE.imp (pe_lc2 (wi := rdI X.K C di) (g := rdG X.K C _ g) (tt := rdB X.K C t) (wi1 := rdI X.K C di1) (g1 := rdG X.K C vs1 g1) (tt1 := rdB X.K C t1) (te := rdE X.K C e) ct.calm ct.nd (hi ct) ok hv1 (fun s H c cl fp => hg s H c cl fp ct.blk) (fun s H c cl fp => ht s H c cl fp ct.blk) (fun s H c cl fp => hi1 s H c cl fp ct.blk) (fun s H c cl fp => hg1 s H c cl fp ct.blk) (fun s H c cl fp => ht1 s H c cl fp ct.blk) (fun s H c cl fp => he s H c cl fp ct.blk) hs hs1) fun σ H Q h => rd_lc2 hb hv1 h
end
end L2.DY

end
section
/-! DyLock: a dict with tuples as keys, locked while its keys are walked. -/
namespace L2.DY
open PySem PySem.Spec PyProof.Rows

/-- what is frozen, and of the kind p, stays -/
def LaterP (p : HO → Prop) (ow : Ow) (H : Hp) (ow' : Ow) (H' : Hp) : Prop := ∀ a o, p o → ow a = 0 → H a = some o → H' a = some o ∧ ow' a = 0
def isSq : HO → Prop := fun o => (∃ xs, o = .lst xs) ∨ ∃ xs, o = .tup xs
def noFz : HO → Prop := fun o => ∀ od u, o ≠ .frz od u
theorem nf_lst {xs : List V} : noFz (.lst xs) := fun od u z => by cases z
theorem nf_tup {xs : List V} : noFz (.tup xs) := fun od u z => by cases z
section
variable {K : PySem.W.Frag} {ow ow' : Ow} {H H' : Hp}
theorem nf_rpD {u : HO} {ds : List (PyData × PyData)} (r : RpD K ow H u ds) : noFz u := by
  cases r with
  | k _ => exact fun od u z => by cases z
  | t _ => exact fun od u z => by cases z
mutual
theorem Rp.laterP (l : LaterP isSq ow H ow' H') : ∀ {v : V} {d : PyData}, Rp K ow H v d → noD d = true → Rp K ow' H' v d
  | _, _, .non, _ => .non
  | _, _, .bl b, _ => .bl b
  | _, _, .int i, _ => .int i
  | _, _, .str x h, _ => .str x h
  | _, _, .lst z s r, n => .lst (l _ _ (.inl ⟨_, rfl⟩) z s).2 (l _ _ (.inl ⟨_, rfl⟩) z s).1 (RpA.laterP l r (by simpa [noD] using n))
  | _, _, .tup s r, n => .tup ⟨(l _ _ (.inr ⟨_, rfl⟩) s.1 s.2).2, (l _ _ (.inr ⟨_, rfl⟩) s.1 s.2).1⟩ (RpA.laterP l r (by simpa [noD] using n))
  | _, _, .dct _ _ _, n => by simp [noD] at n
theorem RpA.laterP (l : LaterP isSq ow H ow' H') : ∀ {vs : List V} {ds : List PyData}, RpA K ow H vs ds → noDs ds = true → RpA K ow' H' vs ds
  | _, _, .nil, _ => .nil
  | _, _, .cons a b, n => .cons (Rp.laterP l a (by simp [noDs] at n; exact n.1)) (RpA.laterP l b (by simp [noDs] at n; exact n.2))
end
mutual
theorem Rp.laterF (l : LaterP noFz ow H ow' H') : ∀ {v : V} {d : PyData}, Rp K ow H v d → Rp K ow' H' v d
  | _, _, .non => .non
  | _, _, .bl b => .bl b
  | _, _, .int i => .int i
  | _, _, .str x h => .str x h
  | _, _, .lst z s r => .lst (l _ _ nf_lst z s).2 (l _ _ nf_lst z s).1 (RpA.laterF l r)
  | _, _, .tup s r => .tup ⟨(l _ _ nf_tup s.1 s.2).2, (l _ _ nf_tup s.1 s.2).1⟩ (RpA.laterF l r)
  | _, _, .dct z s r => .dct (l _ _ (nf_rpD r) z s).2 (l _ _ (nf_rpD r) z s).1 (RpD.laterF l r)
theorem RpA.laterF (l : LaterP noFz ow H ow' H') : ∀ {vs : List V} {ds : List PyData}, RpA K ow H vs ds → RpA K ow' H' vs ds
  | _, _, .nil => .nil
  | _, _, .cons a b => .cons (Rp.laterF l a) (RpA.laterF l b)
theorem RpK.laterF (l : LaterP noFz ow H ow' H') : ∀ {vs : List (Key × V)} {ds : List (PyData × PyData)}, RpK K ow H vs ds → RpK K ow' H' vs ds
  | _, _, .nil => .nil
  | _, _, .cons z a b => .cons z (Rp.laterF l a) (RpK.laterF l b)
theorem RpT.laterF (l : LaterP noFz ow H ow' H') : ∀ {vs : List (List Key × V)} {ds : List (PyData × PyData)}, RpT K ow H vs ds → RpT K ow' H' vs ds
  | _, _, .nil => .nil
  | _, _, .cons z a b => .cons z (Rp.laterF l a) (RpT.laterF l b)
theorem RpD.laterF (l : LaterP noFz ow H ow' H') : ∀ {u : HO} {ds : List (PyData × PyData)}, RpD K ow H u ds → RpD K ow' H' u ds
  | _, _, .k r => .k (RpK.laterF l r)
  | _, _, .t r => .t (RpT.laterF l r)
end
/-- the values of a dict hold no dict -/
def noDv : List (PyData × PyData) → Bool
  | [] => true
  | p :: ps => noD p.2 && noDv ps
theorem RpT.laterP (l : LaterP isSq ow H ow' H') : ∀ {vs : List (List Key × V)} {ds : List (PyData × PyData)}, RpT K ow H vs ds → noDv ds = true → RpT K ow' H' vs ds
  | _, _, .nil, _ => .nil
  | _, _, .cons z a b, n => .cons z (Rp.laterP l a (by simp [noDv] at n; exact n.1)) (RpT.laterP l b (by simp [noDv] at n; exact n.2))
end
/-- a slot that a lock leaves as it is -/
def lockSl : Sl → Sl
  | .d x => if noD x then .d x else .u
  | _ => .u
def backSl : Sl → Sl
  | .d x => .d x
  | _ => .u
def dLock (i : Nat) (de : Den) : Den := fun ρ => match ρ.getD i .u with
  | .d (.dict ((.none, .none) :: ds)) => if noDv ds then (de ((ρ.map lockSl).set i (.dl ds))).bind fun r => .ok (r.1, ρ.map backSl) else .stk
  | _ => .stk
section
variable {X : Cx} {C : Cy} {K : PySem.W.Frag} {σ : St} {H : Hp} {ow : Ow} {ρ : Rho}
theorem getD_map {f : Sl → Sl} (hf : f .u = .u) (l : List Sl) (j : Nat) : (l.map f).getD j .u = f (l.getD j .u) := by
  rw [List.getD_eq_getElem?_getD, List.getD_eq_getElem?_getD, List.getElem?_map]
  cases l[j]? with
  | none => exact hf.symm
  | some s => rfl
/-- the lock in the view of the entry -/
def lkO (f : HO) : Option HO → Option HO
  | none => none
  | some (.tbl ps) => some (.tbl ps)
  | some _ => some f
theorem lkO_cases (f : HO) (o : HO) : (∃ ps, o = .tbl ps ∧ lkO f (some o) = some (.tbl ps)) ∨ (NTb o ∧ lkO f (some o) = some f) := by
  cases o with
  | tbl ps => exact .inl ⟨ps, rfl, rfl⟩
  | _ => exact .inr ⟨fun ps z => (by cases z), rfl⟩
theorem tag_rp {v : V} {ds : List (PyData × PyData)} (r : Rp K ow H v (.dict ((.none, .none) :: ds))) : ∃ d kvs, v = .ref d ∧ ow d = 0 ∧ H d = some (.dT kvs) ∧ RpT K ow H kvs ds := by
  generalize e : PyData.dict ((.none, .none) :: ds) = x at r
  cases r with
  | @dct d u es z hd rd =>
    cases e
    generalize e2 : ((PyData.none, PyData.none) :: ds) = es at rd
    cases rd with
    | k rk =>
      subst e2
      have := rk.tag
      cases this
    | @t kvs ds' rt => cases e2; exact ⟨d, kvs, rfl, z, hd, rt⟩
  | _ => cases e
theorem se_lock (i : Nat) {e : Expr} {de : Den} (h : ∀ H0', SE X ⟨H0', C.ow0, C.σ0, C.br⟩ e de) : SE X C e (dLock i de) := fun ct => by
  refine ⟨fun pins s σ H Q I ⟨ρ, ow, S, hp⟩ => ?_⟩
  unfold dLock at hp
  split at hp
  case h_2 => exact hp.elim
  rename_i ds es
  split at hp
  case isFalse => exact hp.elim
  rename_i nd
  have r := S.slots i
  rw [es] at r
  obtain ⟨v, hv, rv⟩ := r
  obtain ⟨d, kvs, rfl, z, hd, rt⟩ := tag_rp rv
  have hE : PE X e (fun σ H Q => ∃ H0', rdE X.K ⟨H0', C.ow0, C.σ0, C.br⟩ de σ H Q) := ⟨fun pins s σ H Q I ⟨H0', hq⟩ => (h H0' ct).run pins s σ H Q I hq⟩
  refine (pe_lock hE).run pins s σ H Q I ⟨d, .dT kvs, hd, True.intro, fun od => ?_⟩
  -- the lock
  have lP : LaterP isSq ow H ow (upd H d (.frz od (.dT kvs))) := fun a o po z0 e0 => by
    have ne : a ≠ d := fun q => by
      rw [q, hd] at e0
      cases e0
      rcases po with ⟨_, q⟩ | ⟨_, q⟩ <;> cases q
    exact ⟨by rw [upd_ne ne]; exact e0, z0⟩
  have fzd : (upd H d (.frz od (.dT kvs))) d = some (.frz od (.dT kvs)) := upd_same
  have SL : SR X.K ⟨fun a => if a = d then lkO (.frz od (.dT kvs)) (C.H0 d) else C.H0 a, C.ow0, C.σ0, C.br⟩ ((ρ.map lockSl).set i (.dl ds)) ow σ (upd H d (.frz od (.dT kvs))) := by
    refine ⟨by rw [List.length_set, List.length_map]; exact S.len, fun j => ?_, .mk fun a o z0 e0 n => ?_, S.out, fun a z0 => ?_, fun a z0 => ?_, S.par⟩
    · rw [getD_set]
      by_cases q : i = j ∧ i < (ρ.map lockSl).length
      · rw [if_pos q, ← q.1]
        exact ⟨d, od, kvs, hv, z, fzd, rt.laterP lP nd⟩
      · rw [if_neg q, getD_map rfl]
        have r := S.slots j
        cases ej : ρ.getD j .u with
        | d x =>
          show RSl X.K _ _ _ _ (if noD x then .d x else .u)
          by_cases nx : noD x = true
          · rw [if_pos nx]
            rw [ej] at r
            obtain ⟨v', h1, h2⟩ := r
            exact ⟨v', h1, h2.laterP lP nx⟩
          · rw [if_neg nx]; exact True.intro
        | _ => exact True.intro
    · have e0 : (if a = d then lkO (.frz od (.dT kvs)) (C.H0 d) else C.H0 a) = some o := e0
      by_cases q : a = d
      · rw [if_pos q] at e0
        subst q
        cases eo : C.H0 a with
        | none => rw [eo] at e0; cases e0
        | some o' =>
          rw [eo] at e0
          rcases lkO_cases (.frz od (.dT kvs)) o' with ⟨ps, rfl, q2⟩ | ⟨q1, q2⟩
          · rw [q2] at e0; cases e0
            have := (S.ent.ap a _ z0 eo n).1
            rw [hd] at this; cases this
          · rw [q2] at e0; cases e0
            exact ⟨upd_same, (S.ent.ap a o' z0 eo (fun _ => q1)).2⟩
      · rw [if_neg q] at e0
        exact ⟨by rw [upd_ne q]; exact (S.ent.ap a o z0 e0).1, (S.ent.ap a o z0 e0).2⟩
    · by_cases q : a = d
      · rw [q]; exact .of fzd nofun
      · rw [upd_ne q]; exact S.trk a z0
    · have z0 : (if a = d then lkO (.frz od (.dT kvs)) (C.H0 d) else C.H0 a) ≠ none := z0
      by_cases q : a = d
      · rw [q, upd_same]; exact nofun
      · rw [upd_ne q]
        refine S.dom a ?_
        rwa [if_neg q] at z0
  refine ⟨_, _, ow, SL, ?_⟩
  cases er : de ((ρ.map lockSl).set i (.dl ds)) with
  | exc c x => rw [er] at hp; exact hp.elim
  | stk => rw [er] at hp; exact hp.elim
  | ok r =>
  obtain ⟨dr, ρ1⟩ := r
  rw [er] at hp
  intro v' H1 ow1 l1 S1 r1
  obtain ⟨f1, f2⟩ := l1.ap d _ (by omega) fzd
  refine ⟨f1, ?_⟩
  -- and back
  have f2' : ow1 d = 0 := f2.trans z
  have lF : LaterP noFz ow1 H1 ow1 (upd H1 d (.dT kvs)) := fun a o po z0 e0 => by
    have ne : a ≠ d := fun q => by
      rw [q, f1] at e0
      cases e0
      exact po _ _ rfl
    exact ⟨by rw [upd_ne ne]; exact e0, z0⟩
  have l2 : Later ow H ow1 (upd H1 d (.dT kvs)) := .mk fun a o z0 e0 n => by
    by_cases q : a = d
    · subst q
      rw [hd] at e0
      cases e0
      exact ⟨upd_same, f2⟩
    · obtain ⟨p1, p2⟩ := l1.ap a o z0 (by rw [upd_ne q]; exact e0)
      exact ⟨by rw [upd_ne q]; exact p1, p2⟩
  refine hp v' _ ow1 l2 ⟨by rw [List.length_map]; exact S.len, fun j => ?_, S.ent.trans l2, S1.out, fun a z0 => ?_, fun a z0 => ?_, S.par⟩ (r1.laterF lF)
  · rw [getD_map rfl]
    have r := S.slots j
    cases ej : ρ.getD j .u with
    | d x =>
      rw [ej] at r
      obtain ⟨v', h1, h2⟩ := r
      exact ⟨v', h1, h2.later l2⟩
    | _ => exact True.intro
  · have ne : a ≠ d := fun q => by rw [q, f2'] at z0; exact z0 rfl
    rw [upd_ne ne]; exact S1.trk a z0
  · by_cases q : a = d
    · rw [q, upd_same]; exact nofun
    · rw [upd_ne q]
      refine S1.dom a ?_
      show (if a = d then lkO (.frz od (.dT kvs)) (C.H0 d) else C.H0 a) ≠ none
      rw [if_neg q]; exact z0

/-! ### the keys walked -/
theorem RpT.get : ∀ {kvs : List (List Key × V)} {ds : List (PyData × PyData)} {i : Nat} {d : PyData}, RpT K ow H kvs ds → (ds.map (·.1))[i]? = some d → ∃ k v, kvs[i]? = some (k, v) ∧ d = .tuple (k.map keyD) ∧ ∀ z ∈ k, KOk z
  | _, _, _, _, .nil, h => by cases h
  | _, _, 0, _, .cons z a b, h => by cases h; exact ⟨_, _, rfl, rfl, z⟩
  | _, _, i + 1, _, .cons z a b, h => by
    obtain ⟨k, v, h1, h2⟩ := RpT.get (i := i) b (by simpa using h)
    exact ⟨k, v, by simpa using h1, h2⟩
theorem rpA_keysL {ks : List Key} (h : ∀ z ∈ ks, KOk z) : RpA K ow H (ks.map kV) (ks.map keyD) := by
  induction ks with
  | nil => exact .nil
  | cons k ks ih =>
    refine .cons ?_ (ih fun z hz => h z (List.mem_cons_of_mem _ hz))
    cases k with
    | inl i => exact .int i
    | inr x => exact .str x (h _ List.mem_cons_self)
theorem itOk_keysT {d : Addr} {od : Obj} {kvs : List (List Key × V)} {ds : List (PyData × PyData)} (z : ow d = 0) (e : H d = some (.frz od (.dT kvs))) (r : RpT K ow H kvs ds) : ItOk K (Itkt d od kvs) ow H (ds.map (·.1)) := fun i ow' H' l trk => by
  have e' := (l.ap d _ z e).1
  refine ⟨fun x hx => ?_, fun hl => ⟨e', by rw [r.length]; rwa [List.length_map] at hl⟩⟩
  obtain ⟨k, v, h1, rfl, hk⟩ := r.get hx
  refine ⟨⟨e', (List.getElem?_eq_some_iff.mp h1).1⟩, fun y H'' q => ?_⟩
  obtain ⟨rfl, k', v', q, h2, rfl, h3⟩ := q
  rw [h1] at h2
  cases h2
  have oq : ow' q = 0 := by
    by_cases o : ow' q = 0
    · exact o
    · exact absurd h3 ((trk q o).2 _ (.tup _))
  exact ⟨.refl _, .tup ⟨oq, h3⟩ (rpA_keysL hk)⟩
def dlI (i : Nat) : DenI := fun ρ => match ρ.getD i .u with
  | .dl ds => .ok (ds.map (·.1), ρ)
  | _ => .stk
theorem si_dl (i : Nat) {tg : Expr} {x : Str} {pos : Pos} (hN : X.N[i]? = some x := by rfl) (hv : Vis X.env.scope x := by first | exact Or.inl rfl | exact Or.inr (Or.inl rfl) | exact Or.inr (Or.inr rfl))
    (hd : (x == ("__debug__" : Str)) = false := by decide) (hcd : (x == ("__classdict__" : Str)) = false := by decide) : SI X C tg (.Name x pos) (dlI i) := fun ct =>
  PI.imp (pi_keys (pe_var hN hv hd hcd)) fun σ H Q ⟨ρ, ow, S, h⟩ => by
    unfold dlI at h
    split at h
    case h_2 => exact h.elim
    rename_i ds es
    have r := S.slots i
    rw [es] at r
    obtain ⟨p, od, kvs, h1, h2, h3, h4⟩ := r
    exact ⟨.ref p, getD_some h1, p, od, rfl, .inr ⟨kvs, h3, h _ H ow (.refl _ _) S (itOk_keysT h2 h3 h4)⟩⟩
/-- the value at a key of a locked dict -/
theorem getT_rp {a : Addr} {od : Obj} {kvs : List (List Key × V)} {ds : List (PyData × PyData)} {v : V} {x : PyData} {d : PyData} (e : H a = some (.frz od (.dT kvs))) (r : RpT K ow H kvs ds) (rx : RpS K ow H v x) (h : atD ((.none, .none) :: ds) x = .ok (some d)) :
    ∃ w, DGet H a v (some w) ∧ Rp K ow H w d := by
  unfold atD at h
  have h : (R.ofO (keyT x)).bind (fun k => .ok (lookT ds k)) = R.ok (some d) := h
  cases rx with
  | @tup b vs xs eb rr =>
    cases ek : keysOf xs with
    | none => rw [show keyT (.tuple xs) = keysOf xs from rfl, ek] at h; cases h
    | some k =>
      rw [show keyT (.tuple xs) = keysOf xs from rfl, ek] at h
      obtain ⟨rfl, _, _⟩ := keys_rp rr ek
      have q := r.look k
      have h : R.ok (lookT ds k) = R.ok (some d) := h
      injection h with h
      rw [h] at q
      obtain ⟨w, q1, q2⟩ := q
      exact ⟨w, .inr ⟨kvs, k, b, .inr ⟨od, e⟩, rfl, eb.2, q1.symm⟩, q2⟩
  | _ => cases h
def dIxDl (i : Nat) (db : Den) : Den := fun ρ => match ρ.getD i .u with
  | .dl ds => (db ρ).bind fun r => (atD ((.none, .none) :: ds) r.1).bind fun o => (R.ofO o).bind fun d => .ok (d, r.2)
  | _ => .stk
theorem se_ixDl (i : Nat) {x : Str} {b : Expr} {db : Den} {p pos : Pos} (hb : SE X C b db) (hs : NoSl b := by exact fun _ _ => rfl) (hN : X.N[i]? = some x := by rfl) (hv : Vis X.env.scope x := by first | exact Or.inl rfl | exact Or.inr (Or.inl rfl) | exact Or.inr (Or.inr rfl))
    (hd : (x == ("__debug__" : Str)) = false := by decide) (hcd : (x == ("__classdict__" : Str)) = false := by decide) : SE X C (.Subscript (.Name x p) b pos) (dIxDl i db) := fun ct =>
  PE.imp (pe_dget (by have := ct.un; omega) (pe_var hN hv hd hcd) (hb ct) hs) fun σ H Q ⟨ρ, ow, S, h⟩ => by
    unfold dIxDl at h
    split at h
    case h_2 => exact h.elim
    rename_i ds es
    have r := S.slots i
    rw [es] at r
    obtain ⟨p, od, kvs, h1, h2, h3, h4⟩ := r
    refine ⟨.ref p, getD_some h1, ρ, ow, S, Post.bind h fun a ρ1 b H1 ow1 l1 S1 r1 h1 => ?_⟩
    dsimp only at h1
    cases e : atD ((.none, .none) :: ds) a with
    | exc c x => rw [e] at h1; exact h1.elim
    | stk => rw [e] at h1; exact h1.elim
    | ok o =>
      rw [e] at h1
      cases o with
      | none => exact h1.elim
      | some d =>
        obtain ⟨w, q1, q2⟩ := getT_rp (l1.ap p _ (by omega) h3).1 (RpT.later0 l1.z h4) r1.s e
        exact ⟨p, w, rfl, q1, h1 w H1 ow1 (.refl _ _) S1 q2⟩
/-! ### a statement under the lock -/
def okL : Sl → Bool
  | .u => true
  | .d x => noD x
  | _ => false
def lockH (C : Cy) (d : Addr) (f : HO) : Cy := ⟨fun a => if a = d then lkO f (C.H0 d) else C.H0 a, C.ow0, C.σ0, C.br⟩
theorem SR.lock (S : SR K C ρ ow σ H) {i : Nat} {d : Addr} {od : Obj} {kvs : List (List Key × V)} {ds : List (PyData × PyData)} {vs : List Nat} (hv : σ.getD i none = some (.ref d)) (z : ow d = 0) (hd : H d = some (.dT kvs)) (rt : RpT K ow H kvs ds) (nd : noDv ds = true)
    (hk : ((wipeR ρ vs).set i .u).all okL = true) : SR K (lockH C d (.frz od (.dT kvs))) ((wipeR ρ vs).set i (.dl ds)) ow σ (upd H d (.frz od (.dT kvs))) := by
  have lP : LaterP isSq ow H ow (upd H d (.frz od (.dT kvs))) := fun a o po z0 e0 => by
    have ne : a ≠ d := fun q => by
      rw [q, hd] at e0
      cases e0
      rcases po with ⟨_, q⟩ | ⟨_, q⟩ <;> cases q
    exact ⟨by rw [upd_ne ne]; exact e0, z0⟩
  have fzd : (upd H d (.frz od (.dT kvs))) d = some (.frz od (.dT kvs)) := upd_same
  refine ⟨by rw [List.length_set, wipeR_length]; exact S.len, fun j => ?_, .mk fun a o z0 e0 n => ?_, S.out, fun a z0 => ?_, fun a z0 => ?_, S.par⟩
  · rw [getD_set]
    by_cases q : i = j ∧ i < (wipeR ρ vs).length
    · rw [if_pos q, ← q.1]
      exact ⟨d, od, kvs, hv, z, fzd, rt.laterP lP nd⟩
    · rw [if_neg q]
      by_cases hj : j < (wipeR ρ vs).length
      · have ne : ¬ (i = j ∧ i < (wipeR ρ vs).length) := q
        have h2 := List.all_eq_true.mp hk (((wipeR ρ vs).set i .u).getD j .u) (by
          rw [List.getD_eq_getElem?_getD, List.getElem?_eq_getElem (by rw [List.length_set]; exact hj)]
          exact List.getElem_mem _)
        rw [getD_set, if_neg q] at h2
        have r := S.slots j
        rw [wipeR_getD] at h2 ⊢
        by_cases hm : j ∈ vs
        · rw [if_pos hm]; exact True.intro
        · rw [if_neg hm] at h2 ⊢
          cases ej : ρ.getD j .u with
          | u => exact True.intro
          | d x =>
            rw [ej] at r h2
            obtain ⟨v', h1, h3⟩ := r
            exact ⟨v', h1, h3.laterP lP h2⟩
          | _ => rw [ej] at h2; cases h2
      · rw [List.getD_eq_getElem?_getD (l := wipeR ρ vs), List.getElem?_eq_none (l := wipeR ρ vs) (by omega)]; exact True.intro
  · have e0 : (if a = d then lkO (.frz od (.dT kvs)) (C.H0 d) else C.H0 a) = some o := e0
    have n : C.ow0 a = 0 → NTb o := n
    by_cases q : a = d
    · rw [if_pos q] at e0
      subst q
      cases eo : C.H0 a with
      | none => rw [eo] at e0; cases e0
      | some o' =>
        rw [eo] at e0
        rcases lkO_cases (.frz od (.dT kvs)) o' with ⟨ps, rfl, q2⟩ | ⟨q1, q2⟩
        · rw [q2] at e0; cases e0
          have := (S.ent.ap a _ z0 eo n).1
          rw [hd] at this; cases this
        · rw [q2] at e0; cases e0
          exact ⟨upd_same, (S.ent.ap a o' z0 eo (fun _ => q1)).2⟩
    · rw [if_neg q] at e0
      exact ⟨by rw [upd_ne q]; exact (S.ent.ap a o z0 e0 n).1, (S.ent.ap a o z0 e0 n).2⟩
  · by_cases q : a = d
    · rw [q]; exact .of fzd nofun
    · rw [upd_ne q]; exact S.trk a z0
  · have z0 : (if a = d then lkO (.frz od (.dT kvs)) (C.H0 d) else C.H0 a) ≠ none := z0
    by_cases q : a = d
    · rw [q, upd_same]; exact nofun
    · rw [upd_ne q]
      refine S.dom a ?_
      rwa [if_neg q] at z0
theorem SR.unlock (S : SR K C ρ ow σ H) {ρ1 : Rho} {ow1 : Ow} {σ1 : St} {H1 : Hp} {d : Addr} {od : Obj} {kvs : List (List Key × V)} (z : ow d = 0) (hd : H d = some (.dT kvs)) (l1 : Later ow (upd H d (.frz od (.dT kvs))) ow1 H1) (S1 : SR K (lockH C d (.frz od (.dT kvs))) ρ1 ow1 σ1 H1) :
    H1 d = some (.frz od (.dT kvs)) ∧ Later ow H ow1 (upd H1 d (.dT kvs)) ∧ SR K C (ρ1.map backSl) ow1 σ1 (upd H1 d (.dT kvs)) ∧ ∀ {v : V} {x : PyData}, Rp K ow1 H1 v x → Rp K ow1 (upd H1 d (.dT kvs)) v x := by
  have fzd : (upd H d (.frz od (.dT kvs))) d = some (.frz od (.dT kvs)) := upd_same
  obtain ⟨f1, f2⟩ := l1.ap d _ (by omega) fzd
  have f2' : ow1 d = 0 := f2.trans z
  have lF : LaterP noFz ow1 H1 ow1 (upd H1 d (.dT kvs)) := fun a o po z0 e0 => by
    have ne : a ≠ d := fun q => by
      rw [q, f1] at e0
      cases e0
      exact po _ _ rfl
    exact ⟨by rw [upd_ne ne]; exact e0, z0⟩
  have l2 : Later ow H ow1 (upd H1 d (.dT kvs)) := .mk fun a o z0 e0 n => by
    by_cases q : a = d
    · subst q
      rw [hd] at e0
      cases e0
      exact ⟨upd_same, f2⟩
    · obtain ⟨p1, p2⟩ := l1.ap a o z0 (by rw [upd_ne q]; exact e0)
      exact ⟨by rw [upd_ne q]; exact p1, p2⟩
  refine ⟨f1, l2, ⟨by rw [List.length_map]; exact S1.len, fun j => ?_, S.ent.trans l2, S1.out, fun a z0 => ?_, fun a z0 => ?_, S1.par⟩, fun r => r.laterF lF⟩
  · rw [getD_map rfl]
    have r := S1.slots j
    cases ej : ρ1.getD j .u with
    | d x =>
      rw [ej] at r
      obtain ⟨v', h1, h2⟩ := r
      exact ⟨v', h1, h2.laterF lF⟩
    | _ => exact True.intro
  · have ne : a ≠ d := fun q => by rw [q, f2'] at z0; exact z0 rfl
    rw [upd_ne ne]; exact S1.trk a z0
  · by_cases q : a = d
    · rw [q, upd_same]; exact nofun
    · rw [upd_ne q]
      refine S1.dom a ?_
      show (if a = d then lkO (HO.frz od (.dT kvs)) (C.H0 d) else C.H0 a) ≠ none
      rw [if_neg q]; exact z0
def dLockS (i : Nat) (vs : List Nat) (den : SDen) : SDen := fun ρ => match ρ.getD i .u with
  | .d (.dict ((.none, .none) :: ds)) => if noDv ds && ((wipeR ρ vs).set i .u).all okL then (match den ((wipeR ρ vs).set i (.dl ds)) with
    | .nx ρ' => .nx (ρ'.map backSl)
    | _ => .stk) else .stk
  | _ => .stk
theorem ss_lock (i : Nat) (vs : List Nat) {st : Stmt} {den : SDen} (h : ∀ H0', SS X ⟨H0', C.ow0, C.σ0, C.br⟩ st den) : SS X C st (dLockS i vs den) := fun ct => by
  refine ⟨fun pins s σ H D I ⟨ρ, ow, S, hp⟩ => ?_⟩
  unfold dLockS at hp
  split at hp
  case h_2 => exact hp.elim
  rename_i ds es
  split at hp
  case isFalse => exact hp.elim
  rename_i nd
  simp only [Bool.and_eq_true] at nd
  have r := S.slots i
  rw [es] at r
  obtain ⟨v, hv, rv⟩ := r
  obtain ⟨d, kvs, rfl, z, hd, rt⟩ := tag_rp rv
  have hE : PS X st (fun D σ H => ∃ H0', rdS X.K ⟨H0', C.ow0, C.σ0, C.br⟩ den D σ H) := ⟨fun pins s σ H D I ⟨H0', hq⟩ => (h H0' ct).run pins s σ H D I hq⟩
  refine (ps_lock hE).run pins s σ H D I ⟨d, .dT kvs, hd, True.intro, fun od => ?_⟩
  refine ⟨(lockH C d (.frz od (.dT kvs))).H0, (wipeR ρ vs).set i (.dl ds), ow, S.lock hv z hd rt nd.1 nd.2, ?_⟩
  cases er : den ((wipeR ρ vs).set i (.dl ds)) with
  | nx ρ' =>
    rw [er] at hp
    intro σ' H' ow' l S'
    obtain ⟨f1, l2, S2, _⟩ := S.unlock z hd l S'
    exact ⟨f1, hp σ' _ ow' l2 S2⟩
  | rt d ρ' => rw [er] at hp; exact hp.elim
  | bk ρ' => rw [er] at hp; exact hp.elim
  | ct ρ' => rw [er] at hp; exact hp.elim
  | stk => rw [er] at hp; exact hp.elim
end
end L2.DY

end
section
/-! DyData: sorted, min, max of data. -/
namespace L2.DY
open PySem PySem.Spec PyProof.Rows
section
variable {X : Cx} {C : Cy} {K : PySem.W.Frag} {σ : St} {H : Hp} {ow : Ow} {ρ : Rho}
/-- every two of them can be compared -/
def alikeB (xs : List PyData) : Bool := xs.all fun x => xs.all fun y => PySem.W.alike x y
theorem alikeB_all {xs : List PyData} (h : alikeB xs = true) : PySem.W.AllAlike xs := fun d hd e he => List.all_eq_true.mp (List.all_eq_true.mp h d hd) e he
def tupB : PyData → Bool
  | .tuple (_ :: _) => true
  | _ => false
def atomB : PyData → Bool
  | .none => false
  | .tuple _ => false
  | _ => true
def sortB (xs : List PyData) : Bool := xs.all tupB || xs.all atomB
theorem sortB_all {xs : List PyData} (h : sortB xs = true) : PySem.W.Sortable xs := by
  unfold sortB at h
  rw [Bool.or_eq_true] at h
  rcases h with h | h
  · refine .inl fun d hd => ?_
    have := List.all_eq_true.mp h d hd
    cases d with
    | tuple ys => cases ys with
      | nil => cases this
      | cons y r => exact ⟨y, r, rfl⟩
    | _ => cases this
  · refine .inr fun d hd => ?_
    have := List.all_eq_true.mp h d hd
    cases d with
    | none => cases this
    | tuple ys => cases this
    | _ => exact ⟨nofun, fun ys => nofun⟩
def sortD (xs : List PyData) : List PyData := xs.mergeSort (PySem.W.dataLe false id)
def okSort (xs : List PyData) : Bool := alikeB xs && sortB xs && noDs xs && decide (PyData.depthAll xs ≤ 60) && decide (xs.length ≤ lineN)
def fSorted : List PyData → R PyData
  | [.list xs] => if okSort xs = true then .ok (.list (sortD xs)) else .stk
  | _ => .stk
theorem depth_mem : ∀ {xs : List PyData} {x : PyData}, x ∈ xs → x.depth ≤ PyData.depthAll xs
  | [], _, h => nomatch h
  | y :: ys, x, h => by
    rw [PyData.depthAll]
    rcases List.mem_cons.mp h with rfl | h
    · omega
    · have := depth_mem h; omega
/-- items with what they are -/
theorem each_of {pins : List (Addr × Obj)} {s : Shared} (I : Inv X pins σ H s) : ∀ {vs : List V} {us : List Value} {ds : List PyData}, RpA X.K ow H vs ds → noDs ds = true → Vals vs us → PySem.W.EachIs (fun u d => ∃ as, Reads s.heap u d as) us ds ∧ PySem.W.EachIs (fun u d => ∃ v, RelV v u ∧ Rp X.K ow H v d) us ds
  | _, _, _, .nil, _, r => by cases r; exact ⟨.nil, .nil⟩
  | _, _, _, .cons a b, n, r => by
    cases r with
    | cons r1 r2 =>
      simp only [noDs, Bool.and_eq_true] at n
      obtain ⟨h1, h2⟩ := each_of I b n.2 r2
      exact ⟨.cons (Dp.reads I _ _ _ (a.dp n.1) r1) h1, .cons ⟨_, r1, a⟩ h2⟩
theorem each_back : ∀ {us : List Value} {ds : List PyData}, PySem.W.EachIs (fun u d => ∃ v, RelV v u ∧ Rp K ow H v d) us ds → ∃ vs, Vals vs us ∧ RpA K ow H vs ds
  | _, _, .nil => ⟨[], .nil, .nil⟩
  | _, _, .cons ⟨v, h1, h2⟩ t => by
    obtain ⟨vs, h3, h4⟩ := each_back t
    exact ⟨v :: vs, .cons h1 h3, .cons h2 h4⟩
theorem o_sorted : OpA X (.builtin "sorted") fSorted := by
  intro ct pins s σ H xs us Q I rv h
  obtain ⟨ow, ds, nl, hx, h⟩ := h
  cases hx with
  | nil => exact h.elim
  | cons r rr =>
    cases rr with
    | cons _ _ => cases r <;> exact h.elim
    | nil =>
      cases r with
      | @lst a vs zs e r =>
        simp only [fSorted] at h
        split at h
        · rename_i hz
          simp only [okSort, Bool.and_eq_true, decide_eq_true_eq] at hz
          obtain ⟨⟨⟨⟨h1, h2⟩, h3⟩, h4⟩, h5⟩ := hz
          obtain ⟨u, rfl, ru⟩ := vals1 rv
          obtain rfl : u = Value.ref a := ru
          obtain ⟨its, ri, hl, hlen⟩ := I.list (SqL.of e)
          obtain ⟨e1, e2⟩ := each_of I r h3 ri
          have un := ct.un
          refine PySem.W.sorted_data (R := fun u d => ∃ v, RelV v u ∧ Rp X.K ow H v d) (enc := id) hl.isList e2 e1 (by rw [List.map_id]; exact alikeB_all h1) (by rw [List.map_id]; exact sortB_all h2) (by rw [lineN_eq]; exact h5) (fun b hb => by have := depth_mem hb; show X.A.units + 2 + b.depth < cLine; omega) fun out ho eo => ?_
          obtain ⟨ws, w1, w2⟩ := each_back eo
          obtain ⟨c, hc⟩ := sortedAll_at s.heap its out.toArray
          have hd : s.heap.objs.size ≤ s.heap.objs.size + 1 := Nat.le_succ _
          have hn : H (s.heap.objs.size + 1) = none := I.hok.fresh hd
          refine ⟨.ref (s.heap.objs.size + 1), upd H (s.heap.objs.size + 1) (.lst ws), I.laid (t' := s.toks) (fun _ _ => sortedAll_old) hd ⟨?_, out, c, w1, hc⟩, rfl, h _ _ (same_upd hn) (rp_newLst hn (nl _ hn) w2)⟩
          rw [w1.length, ho, lineN_eq]; exact h5
        · exact h.elim
      | _ => exact h.elim
mutual
theorem noD_plain : ∀ d : PyData, noD d = true → d.plain = true
  | .none, _ => by simp [PyData.plain]
  | .bool _, _ => by simp [PyData.plain]
  | .int _, _ => by simp [PyData.plain]
  | .str _, _ => by simp [PyData.plain]
  | .list xs, h => by simpa [PyData.plain] using noDs_plain xs (by simpa [noD] using h)
  | .tuple xs, h => by simpa [PyData.plain] using noDs_plain xs (by simpa [noD] using h)
  | .dict _, h => by simp [noD] at h
theorem noDs_plain : ∀ xs : List PyData, noDs xs = true → PyData.plainAll xs = true
  | [], _ => by simp [PyData.plainAll]
  | x :: xs, h => by
    simp only [noDs, Bool.and_eq_true] at h
    simp [PyData.plainAll, noD_plain x h.1, noDs_plain xs h.2]
end
def noneB : PyData → Bool
  | .none => true
  | _ => false
def okMin (xs : List PyData) : Bool := alikeB xs && xs.all (fun x => !noneB x) && noDs xs && decide (PyData.depthAll xs ≤ 60) && decide (xs.length ≤ lineN)
theorem okMin_all {xs : List PyData} (h : alikeB xs = true) (h2 : xs.all (fun x => !noneB x) = true) : PySem.W.AlikeAll xs := ⟨alikeB_all h, fun x hx e => by
  have := List.all_eq_true.mp h2 x hx
  subst e; cases this⟩
def minF : List PyData → R PyData
  | [] => .stk
  | x :: xs => if okMin (x :: xs) = true then .ok (PySem.W.minD x xs) else .stk
def maxF : List PyData → R PyData
  | [] => .stk
  | x :: xs => if okMin (x :: xs) = true then .ok (PySem.W.maxD x xs) else .stk
def fMin : List PyData → R PyData
  | [.int i, .int j] => .ok (.int (if j < i then j else i))
  | [.list xs] => minF xs
  | [.tuple xs] => minF xs
  | _ => .stk
def fMax : List PyData → R PyData
  | [.int i, .int j] => .ok (.int (if j > i then j else i))
  | [.list xs] => maxF xs
  | [.tuple xs] => maxF xs
  | _ => .stk
theorem vals_at : ∀ {vs : List V} {us : List Value} {ds : List PyData} {i : Nat} {u : Value}, RpA K ow H vs ds → Vals vs us → us[i]? = some u → ∃ v d, RelV v u ∧ Rp K ow H v d ∧ d ∈ ds
  | _, _, _, _, _, .nil, r, e => by cases r; simp at e
  | _, _, _, 0, _, .cons a b, r, e => by
    cases r with
    | cons r1 r2 => simp at e; subst e; exact ⟨_, _, r1, a, List.mem_cons_self⟩
  | _, _, _, i + 1, _, .cons a b, r, e => by
    cases r with
    | cons r1 r2 =>
      obtain ⟨v, d, h1, h2, h3⟩ := vals_at b r2 (i := i) (by simpa using e)
      exact ⟨v, d, h1, h2, List.mem_cons_of_mem _ h3⟩
/-- the item found is the one told -/
theorem found_rp {pins : List (Addr × Obj)} {s : Shared} {h' : Heap} {tk i : Nat} {vs : List V} {us : List Value} {ds : List PyData} {u : Value} {m : PyData} {bs : List Addr} (I : Inv X pins σ H s) (hk : ∀ b o, s.heap.get? b = some o → h'.get? b = some o)
    (r : RpA X.K ow H vs ds) (rv : Vals vs us) (n : noDs ds = true) (e : us[i]? = some u) (rm : Reads h' u m bs) : Inv X pins σ H { s with heap := h', toks := tk } ∧ ∃ v, RelV v u ∧ Rp X.K ow H v m := by
  have I2 : Inv X pins σ H { s with heap := h', toks := tk } := I.kept hk
  obtain ⟨v, d, h1, h2, h3⟩ := vals_at r rv e
  have nd : noD d = true := by
    clear rm e rv r
    induction ds with
    | nil => cases h3
    | cons x xs ih =>
      simp only [noDs, Bool.and_eq_true] at n
      rcases List.mem_cons.mp h3 with rfl | h3
      · exact n.1
      · exact ih n.2 h3
  obtain ⟨as, r2⟩ := Dp.reads I2 d v u (h2.dp nd) h1
  have e : d = m := PySem.SeqAt.plain_unique d m u as bs (noD_plain d nd) r2 rm
  subst e
  exact ⟨I2, v, h1, h2⟩
theorem o_min : OpA X (.builtin "min") fMin := by
  intro ct pins s σ H xs us Q I rv h
  obtain ⟨ow, ds, nl, hx, h⟩ := h
  have un := ct.un
  cases hx with
  | nil => exact h.elim
  | cons r rr =>
    cases rr with
    | cons r2 rr =>
      cases rr with
      | cons _ _ => cases r <;> cases r2 <;> exact h.elim
      | nil =>
        cases r with
        | int i =>
          cases r2 with
          | int j => exact call_min2 ct.calm pins s σ H _ us Q I rv ⟨i, j, rfl, h _ H (.refl H) (.int _)⟩
          | _ => exact h.elim
        | _ => cases r2 <;> exact h.elim
    | nil =>
      cases r with
      | @lst a vs zs e r =>
        cases zs with
        | nil => exact h.elim
        | cons z zs =>
          simp only [fMin, minF] at h
          split at h
          · rename_i hz
            simp only [okMin, Bool.and_eq_true, decide_eq_true_eq] at hz
            obtain ⟨⟨⟨⟨h1, h2⟩, h3⟩, h4⟩, h5⟩ := hz
            obtain ⟨u, rfl, ru⟩ := vals1 rv
            obtain rfl : u = Value.ref a := ru
            obtain ⟨its, ri, hl, hlen⟩ := I.list (SqL.of e)
            obtain ⟨as, rd⟩ := Dp.readsAll I _ _ _ (r.dp h3) ri
            refine PySem.W.min_list_data ct.hd hl.isList rd (okMin_all h1 h2) (by omega) fun i v h' tk bs hv rm hk => ?_
            obtain ⟨I2, w, w1, w2⟩ := found_rp (tk := tk) I hk r ri h3 (by simpa using hv) rm
            exact ⟨w, H, I2, w1, h w H (.refl H) w2⟩
          · exact h.elim
      | @tup a vs zs e r =>
        cases zs with
        | nil => exact h.elim
        | cons z zs =>
          simp only [fMin, minF] at h
          split at h
          · rename_i hz
            simp only [okMin, Bool.and_eq_true, decide_eq_true_eq] at hz
            obtain ⟨⟨⟨⟨h1, h2⟩, h3⟩, h4⟩, h5⟩ := hz
            obtain ⟨u, rfl, ru⟩ := vals1 rv
            obtain rfl : u = Value.ref a := ru
            obtain ⟨its, ri, hl, hlen⟩ := I.tuple e.sq
            obtain ⟨as, rd⟩ := Dp.readsAll I _ _ _ (r.dp h3) ri
            refine PySem.W.min_tuple_data ct.hd (show s.heap.IsTuple a its.toArray from hl) rd (okMin_all h1 h2) (by omega) fun i v h' tk bs hv rm hk => ?_
            obtain ⟨I2, w, w1, w2⟩ := found_rp (tk := tk) I hk r ri h3 (by simpa using hv) rm
            exact ⟨w, H, I2, w1, h w H (.refl H) w2⟩
          · exact h.elim
      | _ => exact h.elim
theorem o_max : OpA X (.builtin "max") fMax := by
  intro ct pins s σ H xs us Q I rv h
  obtain ⟨ow, ds, nl, hx, h⟩ := h
  have un := ct.un
  cases hx with
  | nil => exact h.elim
  | cons r rr =>
    cases rr with
    | cons r2 rr =>
      cases rr with
      | cons _ _ => cases r <;> cases r2 <;> exact h.elim
      | nil =>
        cases r with
        | int i =>
          cases r2 with
          | int j => exact call_max2 ct.calm pins s σ H _ us Q I rv ⟨i, j, rfl, h _ H (.refl H) (.int _)⟩
          | _ => exact h.elim
        | _ => cases r2 <;> exact h.elim
    | nil =>
      cases r with
      | @lst a vs zs e r =>
        cases zs with
        | nil => exact h.elim
        | cons z zs =>
          simp only [fMax, maxF] at h
          split at h
          · rename_i hz
            simp only [okMin, Bool.and_eq_true, decide_eq_true_eq] at hz
            obtain ⟨⟨⟨⟨h1, h2⟩, h3⟩, h4⟩, h5⟩ := hz
            obtain ⟨u, rfl, ru⟩ := vals1 rv
            obtain rfl : u = Value.ref a := ru
            obtain ⟨its, ri, hl, hlen⟩ := I.list (SqL.of e)
            obtain ⟨as, rd⟩ := Dp.readsAll I _ _ _ (r.dp h3) ri
            refine PySem.W.max_list_data ct.hd hl.isList rd (okMin_all h1 h2) (by omega) fun i v h' tk bs hv rm hk => ?_
            obtain ⟨I2, w, w1, w2⟩ := found_rp (tk := tk) I hk r ri h3 (by simpa using hv) rm
            exact ⟨w, H, I2, w1, h w H (.refl H) w2⟩
          · exact h.elim
      | @tup a vs zs e r =>
        cases zs with
        | nil => exact h.elim
        | cons z zs =>
          simp only [fMax, maxF] at h
          split at h
          · rename_i hz
            simp only [okMin, Bool.and_eq_true, decide_eq_true_eq] at hz
            obtain ⟨⟨⟨⟨h1, h2⟩, h3⟩, h4⟩, h5⟩ := hz
            obtain ⟨u, rfl, ru⟩ := vals1 rv
            obtain rfl : u = Value.ref a := ru
            obtain ⟨its, ri, hl, hlen⟩ := I.tuple e.sq
            obtain ⟨as, rd⟩ := Dp.readsAll I _ _ _ (r.dp h3) ri
            refine PySem.W.max_tuple_data ct.hd (show s.heap.IsTuple a its.toArray from hl) rd (okMin_all h1 h2) (by omega) fun i v h' tk bs hv rm hk => ?_
            obtain ⟨I2, w, w1, w2⟩ := found_rp (tk := tk) I hk r ri h3 (by simpa using hv) rm
            exact ⟨w, H, I2, w1, h w H (.refl H) w2⟩
          · exact h.elim
      | _ => exact h.elim
end
end L2.DY

end
section
/-! DyJoin: s.join(texts). -/
namespace L2.DY
open PySem PySem.Spec PyProof.Rows
section
variable {X : Cx} {C : Cy} {K : PySem.W.Frag} {σ : St} {H : Hp} {ow : Ow} {ρ : Rho}
def strsOf : List PyData → Option (List Str)
  | [] => some []
  | .str x :: r => (strsOf r).map (x :: ·)
  | _ => none
theorem strsOf_rp : ∀ {vs : List V} {ds : List PyData} {ns : List Str}, RpA K ow H vs ds → strsOf ds = some ns → vs = ns.map V.str ∧ ∀ x ∈ ns, SOk x
  | _, _, _, .nil, h => by cases h; exact ⟨rfl, nofun⟩
  | _, _, _, .cons a b, h => by
    cases a with
    | str x hx =>
      simp only [strsOf, Option.map_eq_some_iff] at h
      obtain ⟨r, h1, h2⟩ := h
      subst h2
      obtain ⟨h3, h4⟩ := strsOf_rp b h1
      refine ⟨by rw [h3]; rfl, fun y hy => ?_⟩
      rcases List.mem_cons.mp hy with rfl | hy
      · exact hx
      · exact h4 y hy
    | _ => cases h
theorem join_ok {a : Str} (ha : SOk a) : ∀ ys : List Str, (∀ y ∈ ys, SOk y) → (ys.map (·.length)).sum + ys.length * a.length ≤ lineN → SOk (Str.join a ys) ∧ (Str.join a ys).length ≤ (ys.map (·.length)).sum + ys.length * a.length
  | [], _, _ => ⟨⟨(by decide +kernel : PyData.strOk Str.empty = true), (by decide +kernel : Str.empty.length ≤ lineN)⟩, (by show Str.empty.length ≤ _; exact Nat.zero_le _)⟩
  | [x], h, hl => ⟨h x List.mem_cons_self, by show x.length ≤ _; simp⟩
  | x :: y :: r, h, hl => by
    have e : Str.join a (x :: y :: r) = x ++ a ++ Str.join a (y :: r) := rfl
    have s1 : ((x :: y :: r).map (·.length)).sum = x.length + ((y :: r).map (·.length)).sum := rfl
    have s2 : (x :: y :: r).length * a.length = a.length + (y :: r).length * a.length := by rw [List.length_cons, Nat.succ_mul]; omega
    rw [s1, s2] at hl
    obtain ⟨h1, h2⟩ := join_ok ha (y :: r) (fun z hz => h z (List.mem_cons_of_mem _ hz)) (by omega)
    have hx := h x List.mem_cons_self
    have o1 : SOk (x ++ a) := hx.append ha (by omega)
    have l1 : (x ++ a).length = x.length + a.length := len_append x a
    rw [e, s1, s2]
    refine ⟨o1.append h1 (by rw [l1]; omega), ?_⟩
    have l2 : (x ++ a ++ Str.join a (y :: r)).length = (x ++ a).length + (Str.join a (y :: r)).length := len_append _ _
    rw [l2, l1]; omega
def joinF (a : Str) (xs : List PyData) : R PyData := match strsOf xs with
  | some ys => if (ys.map (·.length)).sum + ys.length * a.length ≤ lineN then .ok (.str (Str.join a ys)) else .stk
  | none => .stk
def fJoin : PyData → PyData → R PyData
  | .str a, .list xs => joinF a xs
  | .str a, .tuple xs => joinF a xs
  | _, _ => .stk
theorem fJoin_str {x y : PyData} {d : PyData} (h : fJoin x y = .ok d) : ∃ a, x = .str a := by
  cases x with
  | str a => exact ⟨a, rfl⟩
  | _ => cases h
theorem se_join {o e : Expr} {do_ de : Den} {apos pos : Pos} (ho : SE X C o do_) (he : SE X C e de) (hs : starEach [e] X.env = [(false, eval e X.env)] := by rfl) (hbase : attributeBase o "join" X.env (eval o X.env) = eval o X.env := by rfl) (hline : (apos.endLine == pos.line) = true := by rfl) :
    SE X C (.Call (.Attribute o "join" apos) [e] [] pos) (dOp2 fJoin do_ de) := fun ct =>
  PE.imp (pe_join (ho ct) (he ct) hs hbase hline) fun σ H Q ⟨ρ, ow, S, h⟩ => ⟨ρ, ow, S, Post.bind h fun a ρ1 b H1 ow1 l1 S1 r1 h1 => by
    have h1' : Post X.K C (Rp X.K) ((de ρ1).bind fun q => (fJoin a q.1).bind fun d => .ok (d, q.2)) σ ow1 H1 Q := h1
    have isS : ∃ s, a = .str s := by
      cases e1 : de ρ1 with
      | exc c x => rw [e1] at h1'; exact h1'.elim
      | stk => rw [e1] at h1'; exact h1'.elim
      | ok q =>
        rw [e1] at h1'
        simp only [R.bind_ok] at h1'
        cases e2 : fJoin a q.1 with
        | exc c x => rw [e2] at h1'; exact h1'.elim
        | stk => rw [e2] at h1'; exact h1'.elim
        | ok d => exact fJoin_str e2
    obtain ⟨s, rfl⟩ := isS
    cases r1 with
    | str _ hsok =>
      refine ⟨⟨s, rfl⟩, ρ1, ow1, S1, Post.bind h1' fun y ρ2 w H2 ow2 l2 S2 r2 h2 => ?_⟩
      have fin : ∀ (p : Addr) (vs : List V) (xs : List PyData), RpA X.K ow2 H2 vs xs → (SqL X.K H2 p vs ∨ SqT X.K H2 p vs) → Post X.K C (Rp X.K) ((joinF s xs).bind fun d => .ok (d, ρ2)) σ ow2 H2 Q → ∃ a p_1, ∃ ys : List Str, V.str s = .str a ∧ [V.ref p] = [.ref p_1] ∧ (SqL X.K H2 p_1 (ys.map V.str) ∨ SqT X.K H2 p_1 (ys.map V.str)) ∧ (ys.map (·.length)).sum + ys.length * a.length ≤ 16777216 ∧ Q (.str (Txt.join a ys)) H2 := fun p vs xs rr sq hq => by
        unfold joinF at hq
        cases e3 : strsOf xs with
        | none => rw [e3] at hq; exact hq.elim
        | some ys =>
          rw [e3] at hq
          dsimp only at hq
          split at hq
          · rename_i hz
            obtain ⟨e4, e5⟩ := strsOf_rp rr e3
            subst e4
            exact ⟨s, p, ys, rfl, rfl, sq, hz, by rw [TL.join_eq]; exact hq _ H2 ow2 (.refl _ _) S2 (.str _ (join_ok hsok ys e5 hz).1)⟩
          · exact hq.elim
      cases r2 with
      | lst z e rr => exact fin _ _ _ rr (.inl (SqL.of e)) h2
      | tup e rr => exact fin _ _ _ rr (.inr e.sq) h2
      | _ => exact h2.elim⟩
end
end L2.DY

end
section
/-! DyStore: d[k] = e and d.get(k, e), d a dict that a slot owns. -/
namespace L2.DY
open PySem PySem.Spec PyProof.Rows
section
variable {X : Cx} {C : Cy} {K : PySem.W.Frag} {σ : St} {H : Hp} {ow : Ow} {ρ : Rho}
def onOd {β : Type} (s : Sl) (k : List (PyData × PyData) → R β) : R β := match s with
  | .od xs => k xs
  | _ => .stk
def onOdS (s : Sl) (k : List (PyData × PyData) → RS) : RS := match s with
  | .od xs => k xs
  | _ => .stk
theorem SR.dctAt (S : SR K C ρ ow σ H) {i : Nat} {xs : List (PyData × PyData)} (e : ρ.getD i .u = .od xs) : ∃ p u, σ.getD i none = some (.ref p) ∧ ow p = i + 2 ∧ H p = some u ∧ RpD K ow H u xs := by
  have r := S.slots i
  rw [e] at r
  exact r
theorem RpD.nt {u : HO} {ds : List (PyData × PyData)} (r : RpD K ow H u ds) : ∀ a, ¬ BadO K a u := by
  cases r <;> exact nofun
theorem isD_rp {u : HO} {a : Addr} {ds : List (PyData × PyData)} (e : H a = some u) (r : RpD K ow H u ds) : IsD H a := by
  cases r with
  | k _ => exact .inl ⟨_, .inl e⟩
  | t _ => exact .inr ⟨_, .inl e⟩
/-- d[k] = e -/
def dDput (i : Nat) (dk dv : Den) : SDen := fun ρ => (dv ρ).then fun r => onOdS (r.2.getD i .u) fun _ => (dk r.2).then fun q => onOdS (q.2.getD i .u) fun ds => (putAt ds q.1 r.1).then fun es => .nx (q.2.set i (.od es))
theorem ss_dput (i : Nat) {x : Str} {ek ev : Expr} {dk dv : Den} {p1 pos pos' : Pos} (hk : SE X C ek dk) (hv : SE X C ev dv) (hN : X.N[i]? = some x := by rfl) (hx : Vis X.env.scope x := by first | exact Or.inl rfl | exact Or.inr (Or.inl rfl) | exact Or.inr (Or.inr rfl))
    (hd : (x == ("__debug__" : Str)) = false := by decide) (hcd : (x == ("__classdict__" : Str)) = false := by decide)
    (hs : swapsWith ev (some (.Subscript (.Name x p1) ek pos')) pos.line X.env = pure false := by rfl) : SS X C (.Assign [.Subscript (.Name x p1) ek pos'] ev pos) (dDput i dk dv) := fun ct =>
  PS.imp (ps_dput (by have := ct.un; omega) (pe_var hN hx hd hcd) (hk ct) (hv ct) hs) fun D σ H ⟨ρ, ow, S, h⟩ => ⟨ρ, ow, S, PostS.bind h fun a ρ1 b H1 ow1 l1 S1 r1 h1 => by
    dsimp only at h1
    cases e1 : ρ1.getD i .u with
    | od ys =>
      rw [e1] at h1
      obtain ⟨p, u, g1, _, _, _⟩ := S1.dctAt e1
      refine ⟨.ref p, getD_some g1, ρ1, ow1, S1, PostS.bind h1 fun a2 ρ2 b2 H2 ow2 l2 S2 r2 h2 => ?_⟩
      dsimp only at h2
      cases e2 : ρ2.getD i .u with
      | od ds =>
        rw [e2] at h2
        obtain ⟨p', u', k1, k2, k3, k4⟩ := S2.dctAt e2
        rw [g1] at k1; cases k1
        simp only [onOdS] at h2
        cases e3 : putAt ds a2 a with
        | exc c z => rw [e3] at h2; exact h2.elim
        | stk => rw [e3] at h2; exact h2.elim
        | ok es =>
          rw [e3] at h2
          obtain ⟨u2, q1, q2⟩ := put_rp k3 k4 r2.s (r1.later l2) e3
          obtain ⟨l3, S3⟩ := S2.wr (s := .od es) g1 k2 (by rw [e2]; rfl) (fun l => ⟨p, u2, rfl, k2, upd_same, q2.later0 l⟩) (fun t z => by rw [e2] at z; cases z) q2.nt
          exact ⟨p, _, rfl, q1, h2 _ _ _ l3 S3⟩
      | u => rw [e2] at h2; exact h2.elim
      | d z => rw [e2] at h2; exact h2.elim
      | ol z => rw [e2] at h2; exact h2.elim
      | tp x => rw [e2] at h2; exact h2.elim
      | dl x => rw [e2] at h2; exact h2.elim
      | tb => rw [e2] at h2; exact h2.elim
    | u => rw [e1] at h1; exact h1.elim
    | d z => rw [e1] at h1; exact h1.elim
    | ol z => rw [e1] at h1; exact h1.elim
    | tp x => rw [e1] at h1; exact h1.elim
    | dl x => rw [e1] at h1; exact h1.elim
    | tb => rw [e1] at h1; exact h1.elim⟩
/-- d.get(k, e) -/
def dGet2 (i : Nat) (dk de : Den) : Den := fun ρ => onOd (ρ.getD i .u) fun _ => (dk ρ).bind fun q => (de q.2).bind fun r => onOd (r.2.getD i .u) fun ds => (atD ds q.1).bind fun o => .ok (o.getD r.1, r.2)
theorem m2_by {o e f : Expr} {m : Str} {apos cpos : Pos} (base : attributeBase o m X.env (eval o X.env) = eval o X.env)
    (few : ((backTo cpos (starEach [e, f] X.env)).all (fun x => !x.1) && (backToKw cpos (keywordEach [] X.env)).all (fun x => x.1.isSome) && decide (([e, f] : List Expr).length + ([] : List Keyword).length + (if ([] : List Keyword).isEmpty then 0 else 1) < 30)) = true)
    (line : (apos.endLine == cpos.line) = true) (trees : backTo cpos (starEach [e, f] X.env) = [(false, eval e X.env), (false, eval f X.env)]) : M2 X o m apos e f cpos := ⟨base, few, line, trees⟩
theorem se_get2 (i : Nat) {x : Str} {ek ev : Expr} {dk de : Den} {p1 p2 pos : Pos} (hk : SE X C ek dk) (he : SE X C ev de) (hN : X.N[i]? = some x := by rfl) (hx : Vis X.env.scope x := by first | exact Or.inl rfl | exact Or.inr (Or.inl rfl) | exact Or.inr (Or.inr rfl))
    (hd : (x == ("__debug__" : Str)) = false := by decide) (hcd : (x == ("__classdict__" : Str)) = false := by decide) (hbase : attributeBase (.Name x p1) "get" X.env (eval (.Name x p1) X.env) = eval (.Name x p1) X.env := by rfl)
    (hfew : ((backTo pos (starEach [ek, ev] X.env)).all (fun x => !x.1) && (backToKw pos (keywordEach [] X.env)).all (fun x => x.1.isSome) && decide (([ek, ev] : List Expr).length + ([] : List Keyword).length + (if ([] : List Keyword).isEmpty then 0 else 1) < 30)) = true := by rfl)
    (hline : (p2.endLine == pos.line) = true := by rfl) (ht : backTo pos (starEach [ek, ev] X.env) = [(false, eval ek X.env), (false, eval ev X.env)] := by rfl) :
    SE X C (.Call (.Attribute (.Name x p1) "get" p2) [ek, ev] [] pos) (dGet2 i dk de) := fun ct =>
  PE.imp (pe_dget2 (by have := ct.un; omega) (pe_var hN hx hd hcd) (hk ct) (he ct) (m2_by hbase hfew hline ht)) fun σ H Q ⟨ρ, ow, S, h⟩ => by
    unfold dGet2 at h
    cases e1 : ρ.getD i .u with
    | od ys =>
      rw [e1] at h
      obtain ⟨p, u, g1, g2, g3, g4⟩ := S.dctAt e1
      refine ⟨.ref p, getD_some g1, p, rfl, isD_rp g3 g4, ρ, ow, S, Post.bind h fun a ρ1 b H1 ow1 l1 S1 r1 h1 => ⟨ρ1, ow1, S1, Post.bind h1 fun a2 ρ2 b2 H2 ow2 l2 S2 r2 h2 => ?_⟩⟩
      dsimp only at h2
      cases e2 : ρ2.getD i .u with
      | od ds =>
        rw [e2] at h2
        obtain ⟨p', u', k1, k2, k3, k4⟩ := S2.dctAt e2
        rw [g1] at k1; cases k1
        simp only [onOd] at h2
        cases e3 : atD ds a with
        | exc c z => rw [e3] at h2; exact h2.elim
        | stk => rw [e3] at h2; exact h2.elim
        | ok o =>
          rw [e3] at h2
          obtain ⟨ov, q1, q2⟩ := get_rp k3 k4 (r1.later l2).s e3
          refine ⟨ov, q1, ?_⟩
          cases o with
          | none =>
            rw [show ov = none from q2]
            exact h2 _ H2 ow2 (.refl _ _) S2 r2
          | some d =>
            obtain ⟨w, e4, r4⟩ := q2
            subst e4
            exact h2 _ H2 ow2 (.refl _ _) S2 r4
      | u => rw [e2] at h2; exact h2.elim
      | d z => rw [e2] at h2; exact h2.elim
      | ol z => rw [e2] at h2; exact h2.elim
      | tp x => rw [e2] at h2; exact h2.elim
      | dl x => rw [e2] at h2; exact h2.elim
      | tb => rw [e2] at h2; exact h2.elim
    | u => rw [e1] at h; exact h.elim
    | d z => rw [e1] at h; exact h.elim
    | ol z => rw [e1] at h; exact h.elim
    | tp x => rw [e1] at h; exact h.elim
    | dl x => rw [e1] at h; exact h.elim
    | tb => rw [e1] at h; exact h.elim
end
end L2.DY

end
section
/-! DyItems: sorted(d.items()), d a dict with tuples as keys. -/
namespace L2.DY
open PySem PySem.Spec PyProof.Rows
section
variable {X : Cx} {C : Cy} {K : PySem.W.Frag} {σ : St} {H : Hp} {ow : Ow} {ρ : Rho}
mutual
theorem reads_there {h : Heap} : ∀ (d : PyData) (v : Value) (as : List Addr), noD d = true → Reads h v d as → ∀ b ∈ as, ∃ o, h.get? b = some o
  | .none, _, _, _, r => by cases r; exact nofun
  | .bool _, _, _, _, r => by cases r; exact nofun
  | .int _, _, _, _, r => by cases r; exact nofun
  | .str _, _, _, _, r => by cases r; exact nofun
  | .list xs, _, _, n, r => by
    cases r with
    | list h1 h2 h3 h4 =>
      intro b hb
      rcases List.mem_cons.mp hb with rfl | hb
      · exact ⟨_, h1⟩
      · exact readsAll_there xs _ _ (by simpa [noD] using n) h4 b hb
  | .tuple xs, _, _, n, r => by
    cases r with
    | tuple h1 h2 h3 h4 => exact readsAll_there xs _ _ (by simpa [noD] using n) h4
  | .dict _, _, _, n, _ => by simp [noD] at n
theorem readsAll_there {h : Heap} : ∀ (ds : List PyData) (vs : List Value) (as : List Addr), noDs ds = true → ReadsAll h vs ds as → ∀ b ∈ as, ∃ o, h.get? b = some o
  | [], _, _, _, r => by cases r; exact nofun
  | d :: ds, _, _, n, r => by
    simp only [noDs, Bool.and_eq_true] at n
    cases r with
    | cons h1 h2 =>
      intro b hb
      rcases List.mem_append.mp hb with hb | hb
      · exact reads_there d _ _ n.1 h1 b hb
      · exact readsAll_there ds _ _ n.2 h2 b hb
end
def pairD (p : PyData × PyData) : PyData := .tuple [p.1, p.2]
def pairsOf (ds : List (PyData × PyData)) : List PyData := ds.map pairD
theorem rpA_keys {ks : List Key} (h : ∀ y ∈ ks, KOk y) : RpA K ow H (ks.map kV) (ks.map keyD) := by
  induction ks with
  | nil => exact .nil
  | cons k ks ih =>
    refine .cons ?_ (ih fun y hy => h y (List.mem_cons_of_mem _ hy))
    have := h k List.mem_cons_self
    cases k with
    | inl i => exact .int i
    | inr x => exact .str x this
theorem RpT.at : ∀ {kvs : List (List Key × V)} {ds : List (PyData × PyData)} {j : Nat} {kv : List Key × V}, RpT K ow H kvs ds → kvs[j]? = some kv → ∃ d, ds[j]? = some (.tuple (kv.1.map keyD), d) ∧ (∀ y ∈ kv.1, KOk y) ∧ Rp K ow H kv.2 d
  | _, _, _, _, .nil, e => by simp at e
  | _, _, 0, _, .cons z a b, e => by simp at e; subst e; exact ⟨_, rfl, z, a⟩
  | _, _, j + 1, _, .cons z a b, e => by
    obtain ⟨d, h1, h2⟩ := RpT.at b (j := j) (by simpa using e)
    exact ⟨d, by simpa using h1, h2⟩
def rSI (K : PySem.W.Frag) : List V → Hp → VK → Prop := fun vs H Q => ∃ (p a : Addr) (kvs : List (List Key × V)) (ds : List (PyData × PyData)) (ow : Ow), vs = [.ref p] ∧ H p = some (DX.itemsO p a) ∧ H a = some (.dT kvs) ∧ RpT K ow H kvs ds ∧
  (∀ b xs, H b = some (.tup xs) → ow b = 0) ∧ (∀ b, H b = none → ow b = 0) ∧ okSort (pairsOf ds) = true ∧ ∀ H' v, Same H H' → Rp K ow H' v (.list (sortD (pairsOf ds))) → Q v H'
theorem noDs_get : ∀ {xs : List PyData} {j : Nat} {d : PyData}, noDs xs = true → xs[j]? = some d → noD d = true
  | [], _, _, _, e => by simp at e
  | x :: xs, 0, d, n, e => by simp only [noDs, Bool.and_eq_true] at n; simp at e; subst e; exact n.1
  | x :: xs, j + 1, d, n, e => by simp only [noDs, Bool.and_eq_true] at n; exact noDs_get n.2 (j := j) (by simpa using e)
theorem each_ix {R : Value → PyData → Prop} : ∀ {us : List Value} {ds : List PyData}, us.length = ds.length → (∀ (j : Nat) (u : Value) (d : PyData), us[j]? = some u → ds[j]? = some d → R u d) → PySem.W.EachIs R us ds
  | [], [], _, _ => .nil
  | [], _ :: _, h, _ => by simp at h
  | _ :: _, [], h, _ => by simp at h
  | u :: us, d :: ds, hl, h => .cons (h 0 u d rfl rfl) (each_ix (by simpa using hl) fun j u d e1 e2 => h (j + 1) u d (by simpa using e1) (by simpa using e2))
theorem each_refs {as : List Addr} {R : Addr → PyData → Prop} : ∀ {us : List Value} {ds : List PyData}, PySem.W.EachIs (fun u d => ∃ b, u = .ref b ∧ R b d) us ds → ∃ bs : List Addr, us = bs.map Value.ref ∧ bs.length = ds.length ∧ ∀ (j : Nat) (b : Addr) (d : PyData), bs[j]? = some b → ds[j]? = some d → R b d
  | _, _, .nil => ⟨[], rfl, rfl, fun j b d e => by simp at e⟩
  | _, _, .cons ⟨b, h1, h2⟩ t => by
    obtain ⟨bs, h3, h4, h5⟩ := each_refs (as := as) t
    refine ⟨b :: bs, by rw [h1, h3]; rfl, by simp [h4], fun j b' d e1 e2 => ?_⟩
    cases j with
    | zero => simp at e1 e2; subst e1 e2; exact h2
    | succ j => exact h5 j b' d (by simpa using e1) (by simpa using e2)
theorem rpA_ix : ∀ {vs : List V} {ds : List PyData}, vs.length = ds.length → (∀ (j : Nat) (v : V) (d : PyData), vs[j]? = some v → ds[j]? = some d → Rp K ow H v d) → RpA K ow H vs ds
  | [], [], _, _ => .nil
  | [], _ :: _, h, _ => by simp at h
  | _ :: _, [], h, _ => by simp at h
  | u :: us, d :: ds, hl, h => .cons (h 0 u d rfl rfl) (rpA_ix (by simpa using hl) fun j u d e1 e2 => h (j + 1) u d (by simpa using e1) (by simpa using e2))
theorem vals_refs : ∀ bs : List Addr, Vals (bs.map V.ref) (bs.map Value.ref)
  | [] => .nil
  | b :: bs => .cons rfl (vals_refs bs)
theorem cr_sortedI (ct : Ct X) : CallR X (.builtin "sorted") (rSI X.K) := by
  intro pins s σ H xs us Q I rv h
  obtain ⟨p, a, kvs, ds, ow, rfl, hp, ha, r, htp, nl, ok, q⟩ := h
  obtain rfl := Vals.ref1 rv
  have un := ct.un
  simp only [okSort, Bool.and_eq_true, decide_eq_true_eq] at ok
  obtain ⟨⟨⟨⟨k1, k2⟩, k3⟩, k4⟩, k5⟩ := ok
  have view : s.heap.IsItemsView p a := (show ObjOk X.prog X.w H s.heap p (DX.itemsO p a) from I.hok p _ hp).1
  obtain ⟨z, hd, xs', rel, o, es, ep, ho, hx, hdat, hes, his, hn⟩ := dt_of I.hok ha
  have l1 : kvs.length = xs'.length := Paired.length rel
  have l2 : es.size = xs'.length := size_of_entries hes
  have l3 : (pairsOf ds).length = kvs.length := by unfold pairsOf; rw [List.length_map, r.length]
  have hl5 : kvs.length ≤ 16777216 := by rw [← l3]; exact k5
  refine DT.sortedI (es := es) (ep := ep) ct.hd view ⟨o, ho, hx, hdat⟩ (by rw [sizeLine_eq]; omega) fun h' tk as hk hlt hl hG => ?_
  have lak : as.length = (pairsOf ds).length := by omega
  have nd : as.Nodup := List.Pairwise.imp (fun h => Nat.ne_of_lt h) hG.rise
  -- the pairs that were made
  have pr : ∀ (j : Nat) (b : Addr), as[j]? = some b → ∃ (kq : Addr) (v : V) (u : Value) (k d : PyData), (pairsOf ds)[j]? = some (.tuple [k, d]) ∧ RelV v u ∧ Rp X.K ow H (.ref kq) k ∧ Rp X.K ow H v d ∧ h'.get? b = some { cls := .type "tuple", data := .seq #[Value.ref kq, u] } := by
    intro j b hj
    obtain ⟨en, he, hg⟩ := hG.pairs j b hj
    rw [entry_at hes j] at he
    cases hxj : xs'[j]? with
    | none => rw [hxj] at he; cases he
    | some x =>
      rw [hxj] at he
      have een : entryOfKey (tupleKind (mixKind X.prog X.w)) x = en := Option.some.inj he
      obtain ⟨e0, he0, r1, r2, r3⟩ := DX.pget rel hxj
      obtain ⟨d, d1, d2, d3⟩ := r.at he0
      have rk : Rp X.K ow H (.ref x.2.1) (.tuple (e0.1.map keyD)) := .tup ⟨htp _ _ r2, r2⟩ (rpA_keys d2)
      refine ⟨x.2.1, e0.2, x.2.2, _, d, ?_, r3, rk, d3, ?_⟩
      · unfold pairsOf; rw [List.getElem?_map, d1]; rfl
      · rw [hg, ← een]
        all_goals rfl
  -- they read as the pairs
  have rd : ∀ (j : Nat) (b : Addr) (d : PyData), as[j]? = some b → (pairsOf ds)[j]? = some d → ∃ qs, Reads h' (.ref b) d qs := by
    intro j b d hj hd'
    obtain ⟨kq, v, u, k, d2, e1, e2, e3, e4, e5⟩ := pr j b hj
    rw [e1] at hd'; cases hd'
    have n2 := noDs_get k3 e1
    simp only [noD, noDs, Bool.and_eq_true] at n2
    obtain ⟨q1, t1⟩ := Dp.reads I k (.ref kq) (.ref kq) (e3.dp n2.1) rfl
    obtain ⟨q2, t2⟩ := Dp.reads I d2 v u (e4.dp n2.2.1) e2
    exact ⟨_, .tuple e5 rfl rfl (.cons (PyProof.Rows.Reads.keeps hk t1) (.cons (PyProof.Rows.Reads.keeps hk t2) .nil))⟩
  have hob : (h'.push { cls := .type "list", data := .seq (as.map Value.ref).toArray }).get? h'.objs.size = some (seqObj "list" (as.map Value.ref).toArray 0) := Heap.get?_push_size _ rfl
  have ne0 : ∀ b o, h'.get? b = some o → b ≠ h'.objs.size := fun b o e => Nat.ne_of_lt (Heap.lt_size e)
  have ka : ∀ b o, h'.get? b = some o → (h'.push { cls := .type "list", data := .seq (as.map Value.ref).toArray }).get? b = some o := fun b o e => Heap.get?_push_of_some _ e
  generalize hh2 : h'.push { cls := .type "list", data := .seq (as.map Value.ref).toArray } = h2 at hob ka ⊢
  have kb : ∀ b o, s.heap.get? b = some o → h2.get? b = some o := fun b o e => ka b o (hk b o e)
  have lvs : (as.map Value.ref).length = (pairsOf ds).length := by rw [List.length_map]; exact lak
  have eR : PySem.W.EachIs (fun u d => ∃ b, u = .ref b ∧ ∃ j : Nat, as[j]? = some b ∧ (pairsOf ds)[j]? = some d) (as.map Value.ref) (pairsOf ds) := each_ix lvs fun j u d e1 e2 => by
    rw [List.getElem?_map] at e1
    cases e3 : as[j]? with
    | none => rw [e3] at e1; cases e1
    | some b => rw [e3] at e1; cases e1; exact ⟨b, rfl, j, e3, e2⟩
  have eD : PySem.W.EachIs (fun u d => ∃ qs, Reads h2 u d qs ∧ h'.objs.size ∉ qs) (as.map Value.ref) (pairsOf ds) := each_ix lvs fun j u d e1 e2 => by
    rw [List.getElem?_map] at e1
    cases e3 : as[j]? with
    | none => rw [e3] at e1; cases e1
    | some b =>
      rw [e3] at e1; cases e1
      obtain ⟨qs, t1⟩ := rd j b d e3 e2
      refine ⟨qs, PyProof.Rows.Reads.keeps ka t1, fun hm => ?_⟩
      obtain ⟨o', ho'⟩ := reads_there d _ _ (noDs_get k3 e2) t1 _ hm
      exact ne0 _ _ ho' rfl
  refine PySem.W.list_sort_data (s := { s with heap := h2, toks := tk }) (A := X.A.in1) (enc := id) hob eR eD (by rw [List.map_id]; exact alikeB_all k1) (by rw [List.map_id]; exact sortB_all k2) (by rw [lineN_eq]; exact k5)
    (fun b hb => by have := depth_mem hb; show X.A.units + 1 + 1 + b.depth < cLine; omega) fun out lo eo => ?_
  show EP X pins σ Q (.ref h'.objs.size) { s with heap := sortedHeap h2 h'.objs.size (as.map Value.ref) (List.toArray out), toks := tk }
  obtain ⟨bs, b1, b2, b3⟩ := each_refs (as := as) (R := fun b d => ∃ j : Nat, as[j]? = some b ∧ (pairsOf ds)[j]? = some d) eo
  have kF : ∀ b o, b ≠ h'.objs.size → h2.get? b = some o → (sortedHeap h2 h'.objs.size (as.map Value.ref) (List.toArray out)).get? b = some o := fun b o hb e => (PyProof.Rows.sortedHeap_old hb (Heap.lt_size e)).trans e
  have kS : ∀ b o, s.heap.get? b = some o → (sortedHeap h2 h'.objs.size (as.map Value.ref) (List.toArray out)).get? b = some o := fun b o e => kF b o (ne0 _ _ (hk b o e)) (kb b o e)
  obtain ⟨eF, heF⟩ := PyProof.Rows.sortedHeap_at (vs := as.map Value.ref) (out := List.toArray out) hob
  have I1 : Inv X pins σ H { s with heap := sortedHeap h2 h'.objs.size (as.map Value.ref) (List.toArray out), toks := tk } := I.kept (t' := tk) kS
  have hn0 : H h'.objs.size = none := I.hok.fresh (Nat.le_of_lt hlt)
  have hlen : (bs.map V.ref).length ≤ sizeLine := by
    rw [List.length_map, b2, sizeLine_eq]
    show (List.mergeSort (pairsOf ds) _).length ≤ _
    rw [List.length_mergeSort, l3]; exact hl5
  have I2 : Inv X pins σ (upd H h'.objs.size (.lst (bs.map V.ref))) { s with heap := sortedHeap h2 h'.objs.size (as.map Value.ref) (List.toArray out), toks := tk } :=
    I1.take (h' := sortedHeap h2 h'.objs.size (as.map Value.ref) (List.toArray out)) (t' := tk) (fun b ob _ e => e) (I.fpOk (Nat.le_of_lt hlt) hn0) ⟨hlen, out, eF, by rw [b1]; exact vals_refs bs, heF⟩
  obtain ⟨H2, I3, g, qt⟩ := DX.takeT (P := fun b vs => ∀ (j : Nat) (d : PyData), as[j]? = some b → (pairsOf ds)[j]? = some d → ∃ zs, d = .tuple zs ∧ RpA X.K ow H vs zs) I as _ I2 nd fun b hb => by
    obtain ⟨j, hj⟩ := List.mem_iff_getElem?.mp hb
    obtain ⟨kq, v, u, k, d2, e1, e2, e3, e4, e5⟩ := pr j b hj
    have hbl : s.heap.objs.size ≤ b := Nat.le_of_lt (hG.above b hb)
    refine ⟨hbl, ?_, [.ref kq, v], fun i d hi hdi => ?_, fun H3 => ⟨(by rw [sizeLine_eq]; show 2 ≤ 16777216; omega), [Value.ref kq, u], .cons rfl (.cons e2 .nil), ⟨_, kF _ _ (ne0 _ _ e5) (ka _ _ e5), rfl, 0, rfl⟩⟩⟩
    · rw [upd_ne (ne0 _ _ e5)]
      exact I.hok.fresh hbl
    · have eij : i = j := (List.getElem?_inj (List.getElem?_eq_some_iff.mp hi).1 nd).mp (hi.trans hj.symm)
      subst eij
      rw [e1] at hdi; cases hdi
      exact ⟨_, rfl, .cons e3 (.cons e4 .nil)⟩
  have gr : Same H H2 := fun b o e => g b o (by rw [upd_ne (ne_of_none e hn0)]; exact e)
  refine ⟨.ref h'.objs.size, H2, I3, rfl, q H2 _ gr (.lst (nl _ hn0) (g _ _ upd_same) (rpA_ix (by rw [List.length_map, b2]; rfl) fun j v d e1 e2 => ?_))⟩
  rw [List.getElem?_map] at e1
  cases e3 : bs[j]? with
  | none => rw [e3] at e1; cases e1
  | some b =>
    rw [e3] at e1; cases e1
    obtain ⟨i, i1, i2⟩ := b3 j b d e3 e2
    have hbm : b ∈ as := List.mem_of_getElem? i1
    obtain ⟨vs, hP, hH⟩ := qt b hbm
    obtain ⟨zs, rfl, rz⟩ := hP i d i1 i2
    exact .tup ⟨nl b (I.hok.fresh (Nat.le_of_lt (hG.above b hbm))), hH⟩ (rz.later (.same gr))
end
end L2.DY

end
section
/-! DySort: sorted(d) and sorted(d.items()) of a dict that is at hand; a pair of new things; the rest. -/
namespace L2.DY
open PySem PySem.Spec PyProof.Rows
section
variable {X : Cx} {C : Cy} {K : PySem.W.Frag} {σ : St} {H : Hp} {ow : Ow} {ρ : Rho}
def keysD (ds : List (PyData × PyData)) : List PyData := ds.map (·.1)
def rSK (K : PySem.W.Frag) : List V → Hp → VK → Prop := fun vs H Q => ∃ (a : Addr) (kvs : List (List Key × V)) (ds : List (PyData × PyData)) (ow : Ow), vs = [.ref a] ∧ H a = some (.dT kvs) ∧ RpT K ow H kvs ds ∧
  (∀ b xs, H b = some (.tup xs) → ow b = 0) ∧ (∀ b, H b = none → ow b = 0) ∧ okSort (keysD ds) = true ∧ ∀ H' v, Same H H' → Rp K ow H' v (.list (sortD (keysD ds))) → Q v H'
theorem cr_sortedK (ct : Ct X) : CallR X (.builtin "sorted") (rSK X.K) := by
  intro pins s σ H xs us Q I rv h
  obtain ⟨a, kvs, ds, ow, rfl, ha, r, htp, nl, ok, q⟩ := h
  obtain rfl := Vals.ref1 rv
  have un := ct.un
  simp only [okSort, Bool.and_eq_true, decide_eq_true_eq] at ok
  obtain ⟨⟨⟨⟨k1, k2⟩, k3⟩, k4⟩, k5⟩ := ok
  obtain ⟨z, hd, xs', rel, o, es, ep, ho, hx, hdat, hes, his, hn⟩ := dt_of I.hok ha
  have l1 : kvs.length = xs'.length := Paired.length rel
  have l2 : es.size = xs'.length := size_of_entries hes
  have l3 : (keysD ds).length = kvs.length := by unfold keysD; rw [List.length_map, r.length]
  have hl5 : kvs.length ≤ 16777216 := by rw [← l3]; exact k5
  have e16 : sizeLine = 16777216 := sizeLine_eq
  refine Calls.call_function_entry PyProof.Rows.kind_sorted PyProof.Rows.plain_sorted PyProof.Rows.entry_sorted (PyProof.Rows.args_sorted1 _) ?_
  unfold Builtin.«sorted»
  refine wpAny_bind (m := checkCount "sorted" 1 1 _) (wpAny_pure ?_)
  refine wpAny_bind (PySem.W.kdu_collect (A := X.A.in1) (kdl_raw hd hx hdat) ct.hd ho (by omega) fun h' tk acc hk hacc => ?_)
  have ea : acc.toList = xs'.map fun x => Value.ref x.2.1 := by
    have hl : acc.toList.length = xs'.length := by rw [Array.length_toList, hacc.1]; exact l2
    apply List.ext_getElem?
    intro j
    rw [List.getElem?_map]
    cases hj : acc.toList[j]? with
    | none =>
      have h1 := List.getElem?_eq_none_iff.mp hj
      rw [List.getElem?_eq_none (by omega)]
      all_goals rfl
    | some v =>
      obtain ⟨en, hen, hv⟩ := hacc.2 j v (by rw [← Array.getElem?_toList]; exact hj)
      have qe := entry_at hes j
      rw [hen] at qe
      cases hb : xs'[j]? with
      | none =>
        rw [hb] at qe
        exact nomatch (show some en = none from qe)
      | some b =>
        rw [hb] at qe
        have e2 : en = entryOfKey (tupleKind (mixKind X.prog X.w)) b := Option.some.inj qe
        rw [hv, e2]
        all_goals rfl
  -- the keys, as data
  have pr : ∀ (j : Nat) (u : Value) (d : PyData), (acc.toList)[j]? = some u → (keysD ds)[j]? = some d → ∃ b, u = .ref b ∧ Rp X.K ow H (.ref b) d := by
    intro j u d hj hd'
    rw [ea, List.getElem?_map] at hj
    cases hxj : xs'[j]? with
    | none => rw [hxj] at hj; cases hj
    | some x =>
      rw [hxj] at hj; cases hj
      obtain ⟨e0, he0, r1, r2, r3⟩ := DX.pget rel hxj
      obtain ⟨d0, d1, d2, d3⟩ := r.at he0
      unfold keysD at hd'
      rw [List.getElem?_map, d1] at hd'
      cases hd'
      exact ⟨x.2.1, rfl, .tup ⟨htp _ _ r2, r2⟩ (rpA_keys d2)⟩
  have lvs : (acc.toList).length = (keysD ds).length := by rw [ea, List.length_map, l3, l1]
  refine wpAny_bind (wpAny_newList ?_ (by rw [lvs]; omega))
  have hob : (h'.push { cls := .type "list", data := .seq (acc.toList).toArray }).get? h'.objs.size = some (seqObj "list" (acc.toList).toArray 0) := Heap.get?_push_size _ rfl
  have ne0 : ∀ b o, h'.get? b = some o → b ≠ h'.objs.size := fun b o e => Nat.ne_of_lt (Heap.lt_size e)
  have ka : ∀ b o, h'.get? b = some o → (h'.push { cls := .type "list", data := .seq (acc.toList).toArray }).get? b = some o := fun b o e => Heap.get?_push_of_some _ e
  show wpAny _ _ _ _ _ { s with heap := h'.push { cls := .type "list", data := .seq (acc.toList).toArray }, toks := tk }
  generalize hh2 : h'.push { cls := .type "list", data := .seq (acc.toList).toArray } = h2 at hob ka ⊢
  have kb : ∀ b o, s.heap.get? b = some o → h2.get? b = some o := fun b o e => ka b o (hk b o e)
  have I0 : Inv X pins σ H { s with heap := h', toks := tk } := I.kept (t' := tk) hk
  have eR : PySem.W.EachIs (fun u d => ∃ b, u = .ref b ∧ Rp X.K ow H (.ref b) d) (acc.toList) (keysD ds) := each_ix lvs pr
  have eD : PySem.W.EachIs (fun u d => ∃ qs, Reads h2 u d qs ∧ h'.objs.size ∉ qs) (acc.toList) (keysD ds) := each_ix lvs fun j u d e1 e2 => by
    obtain ⟨b, rfl, rb⟩ := pr j u d e1 e2
    have n2 := noDs_get k3 e2
    obtain ⟨q1, t1⟩ := Dp.reads I d (.ref b) (.ref b) (rb.dp n2) rfl
    refine ⟨q1, PyProof.Rows.Reads.keeps kb t1, fun hm => ?_⟩
    obtain ⟨o', ho'⟩ := reads_there d _ _ n2 t1 _ hm
    exact ne0 _ _ (hk _ _ ho') rfl
  have hg := PySem.W.list_sort_data (prog := X.prog) (w := X.w) (s := { s with heap := h2, toks := tk }) (A := X.A.in1) (E := X.xe) (Q := fun _ s' => EP X pins σ Q (.ref h'.objs.size) s') (enc := id) hob eR eD (by rw [List.map_id]; exact alikeB_all k1) (by rw [List.map_id]; exact sortB_all k2) (by rw [lineN_eq]; exact k5)
    (fun b hb => by have := depth_mem hb; show X.A.units + 1 + 1 + b.depth < cLine; omega) fun out lo eo => by
      show EP X pins σ Q (.ref h'.objs.size) { s with heap := sortedHeap h2 h'.objs.size (acc.toList) (List.toArray out), toks := tk }
      obtain ⟨bs, b1, b2, b3⟩ := each_refs (as := []) (R := fun b d => Rp X.K ow H (.ref b) d) eo
      have kF : ∀ b o, b ≠ h'.objs.size → h2.get? b = some o → (sortedHeap h2 h'.objs.size (acc.toList) (List.toArray out)).get? b = some o := fun b o hb e => (PyProof.Rows.sortedHeap_old hb (Heap.lt_size e)).trans e
      have kS : ∀ b o, s.heap.get? b = some o → (sortedHeap h2 h'.objs.size (acc.toList) (List.toArray out)).get? b = some o := fun b o e => kF b o (ne0 _ _ (hk b o e)) (kb b o e)
      obtain ⟨eF, heF⟩ := PyProof.Rows.sortedHeap_at (vs := acc.toList) (out := List.toArray out) hob
      have I1 : Inv X pins σ H { s with heap := sortedHeap h2 h'.objs.size (acc.toList) (List.toArray out), toks := tk } := I.kept (t' := tk) kS
      have hn0 : H h'.objs.size = none := I0.hok.fresh (Nat.le_refl _)
      have hlen : (bs.map V.ref).length ≤ sizeLine := by
        rw [List.length_map, b2, sizeLine_eq]
        show (List.mergeSort (keysD ds) _).length ≤ _
        rw [List.length_mergeSort, l3]; exact hl5
      have I2 : Inv X pins σ (upd H h'.objs.size (.lst (bs.map V.ref))) { s with heap := sortedHeap h2 h'.objs.size (acc.toList) (List.toArray out), toks := tk } :=
        I1.take (h' := sortedHeap h2 h'.objs.size (acc.toList) (List.toArray out)) (t' := tk) (fun b ob _ e => e) (I0.fpOk (Nat.le_refl _) hn0) ⟨hlen, out, eF, by rw [b1]; exact vals_refs bs, heF⟩
      refine ⟨.ref h'.objs.size, _, I2, rfl, q _ _ (same_upd hn0) (.lst (nl _ hn0) upd_same (rpA_ix (by rw [List.length_map, b2]; rfl) fun j v d e1 e2 => ?_))⟩
      rw [List.getElem?_map] at e1
      cases e3 : bs[j]? with
      | none => rw [e3] at e1; cases e1
      | some b =>
        rw [e3] at e1; cases e1
        exact (b3 j b d e3 e2).later (.same (same_upd hn0))
  refine wpAny_bind (wpAny_holding (wpAny_mono hg (fun _ s' x => ?_) fun _ _ e => e))
  exact wpAny_pure ⟨_, rfl, x⟩

theorem SR.htp (S : SR K C ρ ow σ H) : ∀ b xs, H b = some (.tup xs) → ow b = 0 := fun b xs e => by
  by_cases z : ow b = 0
  · exact z
  · exact absurd e ((S.trk b z).2 _ (.tup xs))
def fSortK : List PyData → R PyData
  | [.dict ((.none, .none) :: ds)] => if okSort (keysD ds) then .ok (.list (sortD (keysD ds))) else .stk
  | _ => .stk
def fSortI : List PyData → R PyData
  | [.dict ((.none, .none) :: ds)] => if okSort (pairsOf ds) then .ok (.list (sortD (pairsOf ds))) else .stk
  | _ => .stk
/-- sorted(d) -/
theorem se_sortK (i : Nat) {y : Str} {p py pos : Pos} (hg : Gl X "sorted") (hm : X.mg "sorted" = none) (hN : X.N[i]? = some y := by rfl) (hvy : Vis X.env.scope y := by first | exact Or.inl rfl | exact Or.inr (Or.inl rfl) | exact Or.inr (Or.inr rfl))
    (hd : (y == ("__debug__" : Str)) = false := by decide) (hcd : (y == ("__classdict__" : Str)) = false := by decide)
    (he : starEach [.Name y py] X.env = (false, eval (.Name y py) X.env) :: starEach [] X.env := by rfl) (hpl : (backTo pos (starEach [] X.env)).any (·.1) = false := by rfl) : SE X C (.Call (.Name "sorted" p) [.Name y py] [] pos) (dOpPk fSortK i) := fun ct =>
  PE.imp (pe_callB (cr_sortedK ct) hg hm (by decide +kernel) (pa_cons (pe_var hN hvy hd hcd) pa_nil he) (by decide) (by decide) he hpl) fun σ H Q ⟨ρ, ow, S, h⟩ => by
    unfold dOpPk at h
    cases e : peek (ρ.getD i .u) with
    | exc c x => rw [e] at h; exact h.elim
    | stk => rw [e] at h; exact h.elim
    | ok x =>
      rw [e] at h
      obtain ⟨v, h1, h2⟩ := S.peek e
      simp only [R.bind] at h
      cases h2 with
      | dct ha r =>
        cases r with
        | k r =>
          cases r with
          | nil => exact h.elim
          | @cons k v d ks ds z a b => cases k <;> exact h.elim
        | @t kvs ds r =>
          by_cases ok : okSort (keysD ds) = true
          · simp only [fSortK, ok, if_true] at h
            exact ⟨_, getD_some h1, _, _, _, ow, rfl, ha, r, S.htp, S.nil, ok, fun H' v' sm rv => h v' H' ow (.same sm) (S.same sm) rv⟩
          · simp only [fSortK, ok] at h; exact h.elim
      | _ => exact h.elim
/-- sorted(d.items()) -/
theorem se_sortI (i : Nat) {y : Str} {p py p2 pos2 pos : Pos} (hg : Gl X "sorted") (hm : X.mg "sorted" = none) (hN : X.N[i]? = some y := by rfl) (hvy : Vis X.env.scope y := by first | exact Or.inl rfl | exact Or.inr (Or.inl rfl) | exact Or.inr (Or.inr rfl))
    (hd : (y == ("__debug__" : Str)) = false := by decide) (hcd : (y == ("__classdict__" : Str)) = false := by decide)
    (hbase : attributeBase (.Name y py) "items" X.env (eval (.Name y py) X.env) = eval (.Name y py) X.env := by rfl) (hline : (p2.endLine == pos2.line) = true := by rfl)
    (he : starEach [.Call (.Attribute (.Name y py) "items" p2) [] [] pos2] X.env = (false, eval (.Call (.Attribute (.Name y py) "items" p2) [] [] pos2) X.env) :: starEach [] X.env := by rfl) (hpl : (backTo pos (starEach [] X.env)).any (·.1) = false := by rfl) :
    SE X C (.Call (.Name "sorted" p) [.Call (.Attribute (.Name y py) "items" p2) [] [] pos2] [] pos) (dOpPk fSortI i) := fun ct =>
  PE.imp (pe_callB (cr_sortedI ct) hg hm (by decide +kernel) (pa_cons (pe_bm0 PySem.F.plainAttrs_dict PySem.F.slot_dict_items PySem.F.type_dict_items DX.mt_itemsT (pe_var hN hvy hd hcd) hbase hline) pa_nil he) (by decide) (by decide) he hpl) fun σ H Q ⟨ρ, ow, S, h⟩ => by
    unfold dOpPk at h
    cases e : peek (ρ.getD i .u) with
    | exc c x => rw [e] at h; exact h.elim
    | stk => rw [e] at h; exact h.elim
    | ok x =>
      rw [e] at h
      obtain ⟨v, h1, h2⟩ := S.peek e
      simp only [R.bind] at h
      cases h2 with
      | @dct a u ds ha r =>
        cases r with
        | k r =>
          cases r with
          | nil => exact h.elim
          | @cons k v d ks ds z a b => cases k <;> exact h.elim
        | @t kvs ds r =>
          by_cases ok : okSort (pairsOf ds) = true
          · simp only [fSortI, ok, if_true] at h
            refine ⟨_, getD_some h1, .inr (.inr (.inl ⟨rfl, .inr ⟨_, ha⟩⟩)), a, _, rfl, rfl, ha, fun p hp => ?_⟩
            have sm := same_upd (o := DX.itemsO p a) hp
            have S1 := S.same sm
            exact ⟨p, a, _, _, ow, rfl, upd_same, sm _ _ ha, RpT.later0 (.same sm) r, S1.htp, S1.nil, ok, fun H' v' sm' rv => h v' H' ow (.same (sm.trans sm')) (S.same (sm.trans sm')) rv⟩
          · simp only [fSortI, ok] at h; exact h.elim
      | _ => exact h.elim
/-- a, b = x, y, a cell among them, new or not -/
theorem ss_parG (i j : Nat) {x y : Str} {a b : Expr} {da db : DenN} {px py pt pos : Pos} {kt k2 pt2} (ha : SN X C a da) (hb : SN X C b db) (hij : i ≠ j := by decide) (hi : X.N[i]? = some x := by rfl) (hj : X.N[j]? = some y := by rfl)
    (hx : Loc X.env.scope x := by first | exact Or.inl rfl | exact Or.inr rfl) (hy : Loc X.env.scope y := by first | exact Or.inl rfl | exact Or.inr rfl) (hbi : C.br i = false := by rfl) (hbj : C.br j = false := by rfl)
    (hfx : X.fn x = true ∨ X.env.scope.names.lookup x = some .local := by first | exact .inl rfl | exact .inr rfl) (hfy : X.fn y = true ∨ X.env.scope.names.lookup y = some .local := by first | exact .inl rfl | exact .inr rfl)
    (hw : swappedStores [.Tuple [.Name x px, .Name y py] kt pt] (.Tuple [a, b] k2 pt2) X.env = pure none := by rfl)
    (hs : swapsWithSole [.Tuple [.Name x px, .Name y py] kt pt] (.Tuple [a, b] k2 pt2) pos.line X.env = pure false := by rfl)
    (h1 : (assignEach [.Tuple [.Name x px, .Name y py] kt pt] X.env).map (·.2) = [assign (.Tuple [.Name x px, .Name y py] kt pt) X.env] := by rfl)
    (hn : (assignEach [.Name x px, .Name y py] X.env).length = 2 := by rfl) (hst : (assignEach [.Name x px, .Name y py] X.env).findIdx? (·.1) = none := by rfl)
    (ha1 : (assignEach [.Name x px, .Name y py] X.env).map (·.2) = assign (.Name x px) X.env :: (assignEach [.Name y py] X.env).map (·.2) := by rfl) (ha2 : (assignEach [.Name y py] X.env).map (·.2) = assign (.Name y py) X.env :: (assignEach [] X.env).map (·.2) := by rfl)
    (hs1 : starEach [a, b] X.env = (false, eval a X.env) :: starEach [b] X.env := by rfl) (hs2 : starEach [b] X.env = (false, eval b X.env) :: starEach [] X.env := by rfl) : SS X C (.Assign [.Tuple [.Name x px, .Name y py] kt pt] (.Tuple [a, b] k2 pt2) pos) (dParN i j da db) := fun ct =>
  PS.imp (ps_asg (pe_tup (pa_cons (ha ct) (pa_cons (hb ct) pa_nil hs2) hs1)) (pg_tup ct.calm (pgs_cons (pg_name ct.nd hi hx hfx) (pgs_cons (pg_name ct.nd hj hy hfy) pgs_nil ha2) ha1) hn hst) hs hw h1) fun D σ H ⟨ρ, ow, S, h⟩ => ⟨ρ, ow, S, by
    unfold dParN at h
    cases e : da ρ with
    | exc c x => rw [e] at h; exact h.elim
    | stk => rw [e] at h; exact h.elim
    | ok r =>
      rw [e] at h
      obtain ⟨n, ρ1⟩ := r
      simp only [R.then] at h
      intro v H1 ow1 l1 S1 r1
      refine ⟨ρ1, ow1, S1, ?_⟩
      cases e2 : db ρ1 with
      | exc c x => rw [e2] at h; exact h.elim
      | stk => rw [e2] at h; exact h.elim
      | ok q =>
        rw [e2] at h
        obtain ⟨m, ρ2⟩ := q
        intro w H2' ow2 l2' S2' r2'
        refine ⟨by show 2 ≤ sizeLine; rw [sizeLine_eq]; omega, fun tp htp => ?_⟩
        have sm := same_upd (o := .tup [v, w]) htp
        have S2 := S2'.same sm
        have l2 := l2'.trans (.same sm)
        have r2 := r2'.later (.same sm)
        refine ⟨tp, [v, w], rfl, .inl (.inl upd_same), rfl, v, [w], rfl, w, [], rfl, rfl, ?_⟩
        have l12 := l1.trans l2
        obtain ⟨ow3, l3, S3, k3⟩ := S.take l12 S2 (r1.later l2) hbi
        have r2' : RN X.K ow H ow3 _ w m := k3 w m (r2.since l1) fun p ev ew hn hm => by
          have t1 : ow1 p = 1 ∧ H1 p ≠ none := by
            cases n with
            | d z => cases hn
            | nl z => obtain ⟨p', _, h1, h2, h3, h4, _⟩ := r1; rw [ev] at h1; cases h1; exact ⟨h3, by rw [h4]; exact fun z => nomatch z⟩
            | nd z => obtain ⟨p', _, h1, h2, h3, h4, _⟩ := r1; rw [ev] at h1; cases h1; exact ⟨h3, by rw [h4]; exact fun z => nomatch z⟩
          have t2 : New ow1 H1 p := by
            cases m with
            | d z => cases hm
            | nl z => obtain ⟨p', _, h1, h2, _⟩ := r2; rw [ew] at h1; cases h1; exact h2
            | nd z => obtain ⟨p', _, h1, h2, _⟩ := r2; rw [ew] at h1; cases h1; exact h2
          exact t1.2 (t2.1 t1.1)
        obtain ⟨ow4, l4, S4, _⟩ := S.take l3 S3 r2' hbj
        exact h _ _ ow4 l4 S4⟩
/-- what is never reached -/
def dStk : Den := fun _ => .stk
theorem se_stk {e : Expr} : SE X C e dStk := fun _ => ⟨fun _ _ _ _ _ _ ⟨_, _, _, h⟩ => h.elim⟩
def dStkS : SDen := fun _ => .stk
theorem ss_stk {st : Stmt} : SS X C st dStkS := fun _ => ⟨fun _ _ _ _ _ _ ⟨_, _, _, h⟩ => h.elim⟩
end
end L2.DY

end
section
/-! DyWipe: loops that forget the slots of the names that live within one turn. -/
namespace L2.DY
open PySem PySem.Spec PyProof.Rows
section
variable {X : Cx} {C : Cy} {K : PySem.W.Frag} {σ : St} {H : Hp} {ow : Ow} {ρ : Rho}
theorem SR.forget (S : SR K C ρ ow σ H) (vs : List Nat) : SR K C (wipeR ρ vs) ow σ H := by
  refine ⟨by rw [wipeR_length]; exact S.len, fun j => ?_, S.ent, S.out, S.trk, S.dom, S.par⟩
  rw [wipeR_getD]
  by_cases h : j ∈ vs
  · rw [if_pos h]; exact True.intro
  · rw [if_neg h]; exact S.slots j
def forLoopW (ts : List Nat) (g : GDen) (b : SDen) : List PyData → SDen
  | [], ρ => .nx ρ
  | x :: xs, ρ => (g x ρ).then fun ρ1 => match b ρ1 with
    | .nx ρ2 => forLoopW ts g b xs (wipeR ρ2 ts)
    | .ct ρ2 => forLoopW ts g b xs (wipeR ρ2 ts)
    | .bk ρ2 => .nx (wipeR ρ2 ts)
    | .rt d ρ2 => .rt d ρ2
    | .stk => .stk
def dForW (ts : List Nat) (di : DenI) (g : GDen) (b : SDen) : SDen := fun ρ => (di ρ).then fun r => forLoopW ts g b r.1 (wipeR r.2 ts)
theorem ss_forW (fs : List Nat) {ts : List Nat} {tg iter : Expr} {body : List Stmt} {di : DenI} {g : GDen} {b : SDen} {pos : Pos} (hi : SI X C tg iter di) (hg : SG X C tg ts g) (hb : SSs X C body b) (hp : PassesOwn (model X.prog X.w) X.A X.env X.xe := by exact PassesOwn.never)
    (hs : ∀ x, foldedSetIterable iter X.env x = pure x := by intro _; rfl) : SS X C (.For tg iter body [] pos) (dForW fs di g b) := fun ct =>
  PS.imp (ps_for hp ct.calm (hi ct) (hg ct) (hb ct) hs) fun D σ H ⟨ρ, ow, S, h⟩ => ⟨ρ, ow, S, PostS.bind h fun xs ρ1 J H1 ow1 l1 S1 r1 h1 => by
    dsimp only at h1
    refine ⟨fun i m σ H => m = xs.length - i ∧ i ≤ xs.length ∧ ∃ ρ ow, SR X.K C ρ ow σ H ∧ Later ow1 H1 ow H ∧ PostS X.K C (forLoopW fs g b (xs.drop i) ρ) ow H D, ⟨xs.length, by simp, Nat.zero_le _, wipeR ρ1 fs, ow1, S1.forget fs, .refl _ _, h1⟩, ?_⟩
    rintro i m σ2 H2 ⟨rfl, hi, ρ2, ow2, S2, l2, h2⟩
    obtain ⟨q1, q2⟩ := r1 i ow2 H2 l2.z S2.trk
    by_cases hlt : i < xs.length
    · rw [List.drop_eq_getElem_cons hlt] at h2
      obtain ⟨go, yld⟩ := q1 xs[i] (List.getElem?_eq_getElem hlt)
      refine .inr ⟨go, fun σ' H' => i + 1 ≤ xs.length ∧ ∃ ρ ow, SR X.K C ρ ow σ' H' ∧ Later ow1 H1 ow H' ∧ PostS X.K C (forLoopW fs g b (xs.drop (i + 1)) ρ) ow H' D, fun σ' H' hN => ⟨xs.length - (i + 1), by omega, rfl, hN.1, hN.2⟩, fun x H' y => ?_⟩
      obtain ⟨sm, rx⟩ := yld x H' y
      refine ⟨ρ2, ow2, xs[i], S2.same sm, rx, ?_⟩
      simp only [forLoopW] at h2
      cases e : g xs[i] ρ2 with
      | exc c x => rw [e] at h2; exact h2.elim
      | stk => rw [e] at h2; exact h2.elim
      | ok ρ3 =>
        rw [e] at h2
        intro σ3 H3 ow3 l3 S3 _
        have l23 : Later ow2 H2 ow3 H3 := (Later.same sm).trans l3
        refine ⟨ρ3, ow3, S3, ?_⟩
        have h3 := PostS.later l23 h2
        simp only [R.then] at h3
        cases e2 : b ρ3 with
        | nx ρ4 => rw [e2] at h3; exact fun σ4 H4 ow4 l4 S4 => ⟨hlt, wipeR ρ4 fs, ow4, S4.forget fs, (l2.trans l23).trans l4, PostS.later l4 h3⟩
        | ct ρ4 => rw [e2] at h3; exact fun σ4 H4 ow4 l4 S4 => ⟨hlt, wipeR ρ4 fs, ow4, S4.forget fs, (l2.trans l23).trans l4, PostS.later l4 h3⟩
        | bk ρ4 => rw [e2] at h3; exact fun σ4 H4 ow4 l4 S4 => h3 σ4 H4 ow4 l4 (S4.forget fs)
        | rt d ρ4 => rw [e2] at h3; exact h3
        | stk => rw [e2] at h3; exact h3
    · have e : i = xs.length := by omega
      subst e
      rw [List.drop_length] at h2
      exact .inl ⟨q2 (Nat.le_refl _), h2 σ2 H2 ow2 (.refl _ _) S2⟩⟩
def whLoopW (ts : List Nat) (c : DenB) (b : SDen) : Nat → SDen
  | 0, _ => .stk
  | n + 1, ρ => (c ρ).then fun r => if r.1 then (match b r.2 with
    | .nx ρ2 => whLoopW ts c b n (wipeR ρ2 ts)
    | .ct ρ2 => whLoopW ts c b n (wipeR ρ2 ts)
    | .bk ρ2 => .nx (wipeR ρ2 ts)
    | .rt d ρ2 => .rt d ρ2
    | .stk => .stk) else .nx r.2
def dWhileW (ts : List Nat) (fuel : Rho → Nat) (c : DenB) (b : SDen) : SDen := fun ρ => whLoopW ts c b (fuel (wipeR ρ ts)) (wipeR ρ ts)
theorem ss_whileW (ts : List Nat) (fuel : Rho → Nat) {c : Expr} {body : List Stmt} {tc : DenB} {b : SDen} {pos : Pos} (hc : ST X C c tc) (hb : SSs X C body b) (hp : PassesOwn (model X.prog X.w) X.A X.env X.xe := by exact PassesOwn.never) : SS X C (.While c body [] pos) (dWhileW ts fuel tc b) := fun ct =>
  PS.imp (ps_while hp (hc ct) (hb ct)) fun D σ H ⟨ρ, ow, S, h⟩ => by
    refine ⟨fun m σ H => ∃ ρ ow, SR X.K C ρ ow σ H ∧ PostS X.K C (whLoopW ts tc b m ρ) ow H D, ⟨fuel (wipeR ρ ts), wipeR ρ ts, ow, S.forget ts, h⟩, ?_⟩
    rintro m σ2 H2 ⟨ρ2, ow2, S2, h2⟩
    cases m with
    | zero => exact h2.elim
    | succ n =>
      simp only [whLoopW] at h2
      refine ⟨ρ2, ow2, S2, PostS.bind h2 fun a ρ1 k H1 ow1 l1 S1 r1 h1 => ?_⟩
      subst r1
      dsimp only at h1
      cases k with
      | false =>
        rw [if_neg Bool.false_ne_true] at h1 ⊢
        exact h1 σ2 H1 ow1 (.refl _ _) S1
      | true =>
        rw [if_pos rfl] at h1 ⊢
        refine ⟨fun σ' H' => ∃ ρ ow, SR X.K C ρ ow σ' H' ∧ PostS X.K C (whLoopW ts tc b n ρ) ow H' D, fun σ' H' hN => ⟨n, Nat.lt_succ_self _, hN⟩, ρ1, ow1, S1, ?_⟩
        cases e2 : b ρ1 with
        | nx ρ4 => rw [e2] at h1; exact fun σ4 H4 ow4 l4 S4 => ⟨_, ow4, S4.forget ts, PostS.later l4 h1⟩
        | ct ρ4 => rw [e2] at h1; exact fun σ4 H4 ow4 l4 S4 => ⟨_, ow4, S4.forget ts, PostS.later l4 h1⟩
        | bk ρ4 => rw [e2] at h1; exact fun σ4 H4 ow4 l4 S4 => h1 σ4 H4 ow4 l4 (S4.forget ts)
        | rt d ρ4 => rw [e2] at h1; exact h1
        | stk => rw [e2] at h1; exact h1
end
end L2.DY

end
section
/-! DyEnd: what the top has written, as the derivations want it. -/
namespace L2.DY
open PySem PySem.Spec PyProof.Rows
section
variable {P : Program} {w : World} {K : PySem.W.Frag} {mg : Str → Option Value} {base : Heap}
/-- a def of the text stands where its name says -/
def DA (K : PySem.W.Frag) (x : Str) (st : Stmt) : Prop := ∃ f fd, PySem.W.nsIn K mainGlobals x = some (some (.ref f)) ∧ Fun K x x st f fd
theorem da_mk {x : Str} {st : Stmt} {f : Addr} {oc : Value} {od an : Option Addr} {osl : Array (Option Value)} {kV doc pm cdv ct : Value} (a : PySem.W.nsIn K mainGlobals x = some (some (.ref f)))
    (l : K.lookup f = some ⟨oc, od, .func (PySem.W.fnOf x x (defArgs st) (defBody st) (defScope st) .none kV doc pm an cdv ct), osl⟩)
    (c : PySem.W.codeIn K cdv x = true) (k : PySem.W.keepIn K (.ref f) = true) : DA K x st := ⟨f, _, a, fun_mk l c k⟩
theorem FnOk.zero {n : Nat} {f : Addr} {fd : FuncData} {ps : List Str} {br : Nat → Bool} {j : Nat} : FnOk P w K mg base CX0 j f fd ps (spOf K n br fun _ => .stk) :=
  ⟨fun vs H Q E h => absurd h spOf.stk, fun A outer s H args us vs Q E _ _ _ _ h => absurd h spOf.stk⟩
theorem gc_int {x : Str} {i : Int} {t : Tok} (e : mg x = some (.int i t)) : GC K mg x (.int i) := ⟨.int i, _, e, ⟨t, rfl⟩, fun _ _ => .int i⟩
theorem gc_str {x : Str} {z : Str} {t : Tok} (e : mg x = some (.str z t)) (h : PyData.strOk z = true ∧ z.length ≤ lineN) : GC K mg x (.str z) := ⟨.str z, _, e, ⟨t, rfl⟩, fun _ _ => .str z ⟨h.1, h.2⟩⟩
/-- a value of the frozen part is the data d -/
inductive KD (K : PySem.W.Frag) : Value → V → PyData → Prop
  | int (i : Int) (t : Tok) : KD K (.int i t) (.int i) (.int i)
  | str (z : Str) (t : Tok) (h : PyData.strOk z = true ∧ z.length ≤ lineN) : KD K (.str z t) (.str z) (.str z)
  | bl (b : Bool) : KD K (.bool b) (.bl b) (.bool b)
  | non : KD K .none .non .none
theorem KD.rel {u : Value} {v : V} {d : PyData} (h : KD K u v d) : RelV v u ∧ ∀ ow H, Rp K ow H v d := by
  cases h with
  | int i t => exact ⟨⟨t, rfl⟩, fun _ _ => .int i⟩
  | str z t h => exact ⟨⟨t, rfl⟩, fun _ _ => .str z ⟨h.1, h.2⟩⟩
  | bl b => exact ⟨rfl, fun _ _ => .bl b⟩
  | non => exact ⟨rfl, fun _ _ => .non⟩
theorem KD.dp {u : Value} {v : V} {d : PyData} (h : KD K u v d) : (∀ H, Dp K H v d) ∧ d.canLay0 = true := by
  cases h with
  | int i t => exact ⟨fun _ => .int i, by simp [PyData.canLay0]⟩
  | str z t h => exact ⟨fun _ => .str z, by simpa [PyData.canLay0] using h.1⟩
  | bl b => exact ⟨fun _ => .bl b, by simp [PyData.canLay0]⟩
  | non => exact ⟨fun _ => .non, by simp [PyData.canLay0]⟩
inductive KDs (K : PySem.W.Frag) : List Value → List V → List PyData → Prop
  | nil : KDs K [] [] []
  | cons {u : Value} {v : V} {d : PyData} {us : List Value} {vs : List V} {ds : List PyData} : KD K u v d → KDs K us vs ds → KDs K (u :: us) (v :: vs) (d :: ds)
theorem KDs.rel {us : List Value} {vs : List V} {ds : List PyData} (h : KDs K us vs ds) : Vals vs us ∧ (∀ H, DpAll K H vs ds) ∧ PyData.canLayAll0 ds = true := by
  induction h with
  | nil => exact ⟨.nil, fun _ => .nil, by simp [PyData.canLayAll0]⟩
  | cons h _ ih => exact ⟨.cons h.rel.1 ih.1, fun H => .cons (h.dp.1 H) (ih.2.1 H), by simp [PyData.canLayAll0, h.dp.2, ih.2.2]⟩
theorem gt_tup {x : Str} {a : Addr} {o : Obj} {us : List Value} {n : Nat} {vs : List V} {ds : List PyData} (e : mg x = some (.ref a)) (l : K.lookup a = some o) (hc : o.cls = .type "tuple") (hd : o.data = .seq us.toArray n)
    (hz : us.length ≤ lineN) (h : KDs K us vs ds) : GT K mg x (.tuple ds) := by
  refine ⟨.ref a, _, ds, rfl, h.rel.2.2, e, rfl, fun H => .tup (.inr ⟨o, us.toArray, n, l, hc, hd, ?_, h.rel.1⟩) (h.rel.2.1 H)⟩
  rw [List.size_toArray, lineN_eq]; exact hz
end
theorem load_congr : ∀ (sls : List Sl) (d : PyData) (sls' : List Sl), sls.length = ["box"].length → fLoad sls = .ok (d, sls') → runDef 6 1 denLoad sls = .ok (d, sls') := fun sls d sls' _ h => by
  unfold fLoad at h
  split at h
  · split at h
    · rename_i hz
      simp only [Bool.and_eq_true, decide_eq_true_eq] at hz
      rw [run_load _ hz.2]; exact h
    · cases h
  · cases h
theorem draw_congr : ∀ (sls : List Sl) (d : PyData) (sls' : List Sl), sls.length = ["box", "many"].length → fDraw sls = .ok (d, sls') → runDef 3 2 (denDraw fLoad) sls = .ok (d, sls') := fun sls d sls' _ h => by
  unfold fDraw at h
  split at h
  · rename_i t many _
    split at h
    · rename_i hz
      simp only [Bool.and_eq_true, decide_eq_true_eq] at hz
      rw [run_draw t hz.1.2 hz.2 hz.1.1.1.1 hz.1.1.1.2 hz.1.1.2]; exact h
    · cases h
  · cases h
end L2.DY

end
section
/-! DyMath: how denotations compute. -/
namespace L2.DY
open PySem PySem.Spec PyProof.Rows
theorem R.then_ok {α : Type} (a : α) (k : α → RS) : (R.ok a).then k = k a := rfl
/-- a turn of a comprehension -/
def turn (vs : List Nat) (g : GDen) (t : DenB) (e : Den) (x : PyData) (ρ : Rho) : R (Option PyData × Rho) :=
  (g x (wipeR ρ vs)).bind fun ρ1 => (t ρ1).bind fun r => if r.1 then (e r.2).bind fun q => .ok (some q.1, q.2) else .ok (none, r.2)
theorem lcLoop_cons {vs : List Nat} {g : GDen} {t : DenB} {e : Den} {x : PyData} {xs : List PyData} {ρ ρ' : Rho} {y : Option PyData} (h : turn vs g t e x ρ = .ok (y, ρ')) :
    lcLoop vs g t e (x :: xs) ρ = (lcLoop vs g t e xs ρ').bind fun z => .ok (y.toList ++ z.1, z.2) := by
  unfold turn at h
  simp only [lcLoop]
  cases e1 : g x (wipeR ρ vs) with
  | exc c x => rw [e1] at h; cases h
  | stk => rw [e1] at h; cases h
  | ok ρ1 =>
    rw [e1] at h
    simp only [R.bind_ok] at h ⊢
    cases e2 : t ρ1 with
    | exc c x => rw [e2] at h; cases h
    | stk => rw [e2] at h; cases h
    | ok r =>
      rw [e2] at h
      simp only [R.bind_ok] at h ⊢
      obtain ⟨b, ρ2⟩ := r
      cases b with
      | false =>
        rw [if_neg Bool.false_ne_true] at h ⊢
        cases h
        cases lcLoop vs g t e xs ρ2 <;> rfl
      | true =>
        rw [if_pos rfl] at h ⊢
        cases e3 : e ρ2 with
        | exc c x => rw [e3] at h; cases h
        | stk => rw [e3] at h; cases h
        | ok q => rw [e3] at h; cases h; rfl
/-- the turns, by what holds between them -/
theorem lcLoop_inv {vs : List Nat} {g : GDen} {t : DenB} {e : Den} (I : List PyData → Rho → Prop) : ∀ (xs : List PyData) (acc : List PyData) (ρ : Rho), I acc ρ →
    (∀ x ∈ xs, ∀ acc ρ, I acc ρ → ∃ y ρ', turn vs g t e x ρ = .ok (y, ρ') ∧ I (acc ++ y.toList) ρ') → ∃ ys ρ', lcLoop vs g t e xs ρ = .ok (ys, ρ') ∧ I (acc ++ ys) ρ'
  | [], acc, ρ, h, _ => ⟨[], ρ, rfl, by rwa [List.append_nil]⟩
  | x :: xs, acc, ρ, h, hs => by
    obtain ⟨y, ρ1, h1, h2⟩ := hs x List.mem_cons_self acc ρ h
    obtain ⟨ys, ρ2, h3, h4⟩ := lcLoop_inv I xs _ ρ1 h2 fun x hx => hs x (List.mem_cons_of_mem _ hx)
    exact ⟨y.toList ++ ys, ρ2, by rw [lcLoop_cons h1, h3]; rfl, by rwa [← List.append_assoc]⟩
theorem restR_eq {ρ1 ρ2 : Rho} {vs : List Nat} (hl : ρ2.length = ρ1.length) (h : wipeR ρ2 vs = wipeR ρ1 vs) : restR ρ1 ρ2 vs = ρ1 := by
  refine List.ext_getElem? fun j => ?_
  by_cases hj : j < ρ1.length
  · have e : (restR ρ1 ρ2 vs).getD j .u = ρ1.getD j .u := by
      rw [restR_getD _ _ hl.symm]
      by_cases q : j ∈ vs
      · rw [if_pos q]
      · rw [if_neg q]
        have := congrArg (fun l => l.getD j Sl.u) h
        simp only [wipeR_getD, if_neg q] at this
        exact this
    rw [List.getD_eq_getElem?_getD, List.getD_eq_getElem?_getD, List.getElem?_eq_getElem (by rw [restR_length, hl]; exact hj), List.getElem?_eq_getElem hj] at e
    rw [List.getElem?_eq_getElem (by rw [restR_length, hl]; exact hj), List.getElem?_eq_getElem hj]
    exact congrArg some e
  · rw [List.getElem?_eq_none (by rw [restR_length, hl]; omega), List.getElem?_eq_none (by omega)]
/-- a comprehension whose turns leave everything as it was -/
theorem dLc_pure {vs : List Nat} {di : DenI} {g : GDen} {t : DenB} {e : Den} {ρ ρ1 : Rho} {xs : List PyData} (f : PyData → Option PyData) (hdi : di ρ = .ok (xs, ρ1)) (hl : xs.length ≤ lineN) (hp : vs.all (fun i => plainSl (ρ1.getD i .u)) = true)
    (h : ∀ x ∈ xs, ∃ ρ3, turn vs g t e x (wipeR ρ1 vs) = .ok (f x, ρ3) ∧ wipeR ρ3 vs = wipeR ρ1 vs) : dLc vs di g t e ρ = .ok (.list (xs.filterMap f), ρ1) := by
  have tw : ∀ ρ', wipeR ρ' vs = wipeR ρ1 vs → ∀ x, turn vs g t e x ρ' = turn vs g t e x (wipeR ρ1 vs) := fun ρ' e x => by
    unfold turn
    have : wipeR (wipeR ρ1 vs) vs = wipeR ρ1 vs := by
      refine List.ext_getElem? fun j => ?_
      have hl : (wipeR (wipeR ρ1 vs) vs).length = (wipeR ρ1 vs).length := wipeR_length _ _
      by_cases hj : j < (wipeR ρ1 vs).length
      · have e2 : (wipeR (wipeR ρ1 vs) vs).getD j .u = (wipeR ρ1 vs).getD j .u := by
          rw [wipeR_getD, wipeR_getD]
          by_cases q : j ∈ vs
          · rw [if_pos q, if_pos q]
          · rw [if_neg q, if_neg q]
        rw [List.getD_eq_getElem?_getD, List.getD_eq_getElem?_getD, List.getElem?_eq_getElem (by rw [hl]; exact hj), List.getElem?_eq_getElem hj] at e2
        rw [List.getElem?_eq_getElem (by rw [hl]; exact hj), List.getElem?_eq_getElem hj]
        exact congrArg some e2
      · rw [List.getElem?_eq_none (by rw [hl]; omega), List.getElem?_eq_none (by omega)]
    rw [this, e]
  have main : ∀ (ys : List PyData) (ρ' : Rho), (∀ x ∈ ys, x ∈ xs) → wipeR ρ' vs = wipeR ρ1 vs → ∃ ρ2, lcLoop vs g t e ys ρ' = .ok (ys.filterMap f, ρ2) ∧ wipeR ρ2 vs = wipeR ρ1 vs := by
    intro ys
    induction ys with
    | nil => exact fun ρ' _ e => ⟨ρ', rfl, e⟩
    | cons y ys ih =>
      intro ρ' hm e
      obtain ⟨ρ3, h1, h2⟩ := h y (hm y List.mem_cons_self)
      rw [← tw ρ' e y] at h1
      obtain ⟨ρ2, h3, h4⟩ := ih ρ3 (fun x hx => hm x (List.mem_cons_of_mem _ hx)) h2
      refine ⟨ρ2, ?_, h4⟩
      rw [lcLoop_cons h1, h3]
      cases q : f y with
      | none => rw [List.filterMap_cons, q]; rfl
      | some z => rw [List.filterMap_cons, q]; rfl
  obtain ⟨ρ2, h1, h2⟩ := main xs ρ1 (fun _ h => h) rfl
  unfold dLc
  rw [hdi]
  simp only [R.bind_ok]
  rw [if_pos (by simp only [Bool.and_eq_true, decide_eq_true_eq]; exact ⟨hl, hp⟩), h1]
  simp only [R.bind_ok]
  rw [restR_eq (by have := congrArg List.length h2; rwa [wipeR_length, wipeR_length] at this) h2]
/-- .. by what holds between the turns -/
theorem dLc_inv {vs : List Nat} {di : DenI} {g : GDen} {t : DenB} {e : Den} {ρ ρ1 : Rho} {xs : List PyData} (I : List PyData → Rho → Prop) (hdi : di ρ = .ok (xs, ρ1)) (hl : xs.length ≤ lineN) (hp : vs.all (fun i => plainSl (ρ1.getD i .u)) = true) (h0 : I [] ρ1)
    (h : ∀ x ∈ xs, ∀ acc ρ, I acc ρ → ∃ y ρ', turn vs g t e x ρ = .ok (y, ρ') ∧ I (acc ++ y.toList) ρ') : ∃ ys ρ', I ys ρ' ∧ dLc vs di g t e ρ = .ok (.list ys, restR ρ1 ρ' vs) := by
  obtain ⟨ys, ρ', h1, h2⟩ := lcLoop_inv I xs [] ρ1 h0 h
  refine ⟨ys, ρ', h2, ?_⟩
  unfold dLc
  rw [hdi]
  simp only [R.bind_ok]
  rw [if_pos (by simp only [Bool.and_eq_true, decide_eq_true_eq]; exact ⟨hl, hp⟩), h1]
  rfl
/-- a loop whose turns all go on -/
theorem forLoop_inv {g : GDen} {b : SDen} (I : Rho → Prop) : ∀ (xs : List PyData) (ρ : Rho), I ρ → (∀ x ∈ xs, ∀ ρ, I ρ → ∃ ρ1 ρ2, g x ρ = .ok ρ1 ∧ b ρ1 = .nx ρ2 ∧ I ρ2) → ∃ ρ', forLoop g b xs ρ = .nx ρ' ∧ I ρ'
  | [], ρ, h, _ => ⟨ρ, rfl, h⟩
  | x :: xs, ρ, h, hs => by
    obtain ⟨ρ1, ρ2, h1, h2, h3⟩ := hs x List.mem_cons_self ρ h
    obtain ⟨ρ', h4, h5⟩ := forLoop_inv I xs ρ2 h3 fun x hx => hs x (List.mem_cons_of_mem _ hx)
    refine ⟨ρ', ?_, h5⟩
    simp only [forLoop, h1, R.then_ok, h2]
    exact h4
end L2.DY

end
section
/-! DyFn: denotations as plain functions of values (r .. ok means: the denotation gives it). -/
namespace L2.DY
open PySem PySem.Spec PyProof.Rows
theorem R.bind_eq_ok {α β : Type} {x : R α} {k : α → R β} {z : β} : x.bind k = .ok z ↔ ∃ a, x = .ok a ∧ k a = .ok z := by
  cases x with
  | ok a => exact ⟨fun h => ⟨a, rfl, h⟩, fun ⟨b, h1, h2⟩ => by cases h1; exact h2⟩
  | exc c x => exact ⟨fun h => (nomatch h), fun ⟨b, h1, h2⟩ => by cases h1⟩
  | stk => exact ⟨fun h => (nomatch h), fun ⟨b, h1, h2⟩ => by cases h1⟩
theorem R.bind_stk {α β : Type} (k : α → R β) : (R.stk : R α).bind k = .stk := rfl
def R.bindT {α β : Type} (r : R (α × Tp)) (k : α → Tp → R β) : R β := r.bind fun p => k p.1 p.2
theorem R.bindT_eq_ok {α β : Type} {x : R (α × Tp)} {k : α → Tp → R β} {z : β} : x.bindT k = .ok z ↔ ∃ a t, x = .ok (a, t) ∧ k a t = .ok z := by
  unfold R.bindT
  rw [R.bind_eq_ok]
  exact ⟨fun ⟨p, h1, h2⟩ => ⟨p.1, p.2, h1, h2⟩, fun ⟨a, t, h1, h2⟩ => ⟨(a, t), h1, h2⟩⟩
theorem R.bindT_ok {α β : Type} (a : α) (t : Tp) (k : α → Tp → R β) : (R.ok (a, t)).bindT k = k a t := rfl

/-- d at ρ gives what r gives, and leaves ρ' -/
def Pg {α : Type} (d : Rho → R (α × Rho)) (ρ ρ' : Rho) (r : R α) : Prop := ∀ a, r = .ok a → d ρ = .ok (a, ρ')
/-- .. with the tape -/
def Tg {α : Type} (d : Rho → R (α × Rho)) (ρ : Rho) (τ : Tp → Rho) (r : R (α × Tp)) : Prop := ∀ a t, r = .ok (a, t) → d ρ = .ok (a, τ t)
section
variable {α : Type} {ρ ρ1 ρ2 ρ3 : Rho} {τ τ1 τ2 τ3 : Tp → Rho}
theorem Pg.t {d : Rho → R (α × Rho)} {r : R α} {t : Tp} (h : Pg d ρ ρ1 r) (e : ρ1 = τ t) : Tg d ρ τ (r.bind fun a => .ok (a, t)) := fun a t' h' => by
  obtain ⟨b, h1, h2⟩ := R.bind_eq_ok.mp h'
  cases h2
  rw [h _ h1, e]
theorem p_var (i : Nat) {x : PyData} (h : ρ.getD i .u = .d x := by rfl) : Pg (dVar i) ρ ρ (.ok x) := fun a e => by cases e; unfold dVar; rw [h]
/-- an owned list given up -/
theorem p_varO (i : Nat) {xs : List PyData} (h : ρ.getD i .u = .ol xs) (e : ρ.set i (.d (.list xs)) = ρ1) : Pg (dVar i) ρ ρ1 (.ok (.list xs)) := fun a q => by cases q; unfold dVar; rw [h, ← e]
theorem p_varD (i : Nat) {xs : List (PyData × PyData)} (h : ρ.getD i .u = .od xs) (e : ρ.set i (.d (.dict xs)) = ρ1) : Pg (dVar i) ρ ρ1 (.ok (.dict xs)) := fun a q => by cases q; unfold dVar; rw [h, ← e]
theorem p_c (x : PyData) : Pg (dC x) ρ ρ (.ok x) := fun a e => by cases e; rfl
theorem p_nil : Pg dNil ρ ρ (.ok []) := fun a e => by cases e; rfl
theorem p_cons {da : Den} {ds : DenA} {ra : R PyData} {rs : R (List PyData)} (ha : Pg da ρ ρ1 ra) (hs : Pg ds ρ1 ρ2 rs) : Pg (dCons da ds) ρ ρ2 (ra.bind fun a => rs.bind fun as => .ok (a :: as)) := fun z h => by
  obtain ⟨a, h1, h⟩ := R.bind_eq_ok.mp h
  obtain ⟨b, h2, h⟩ := R.bind_eq_ok.mp h
  cases h
  unfold dCons; rw [ha a h1]; simp only [R.bind_ok]; rw [hs b h2]; rfl
theorem t_cons {da : Den} {ds : DenA} {ra : R (PyData × Tp)} {rs : Tp → R (List PyData × Tp)} (ha : Tg da ρ τ1 ra) (hs : ∀ t, Tg ds (τ1 t) τ2 (rs t)) : Tg (dCons da ds) ρ τ2 (ra.bindT fun a t => (rs t).bindT fun as t => .ok (a :: as, t)) := fun z t h => by
  obtain ⟨a, t1, h1, h⟩ := R.bindT_eq_ok.mp h
  obtain ⟨b, t2, h2, h⟩ := R.bindT_eq_ok.mp h
  cases h
  unfold dCons; rw [ha a t1 h1]; simp only [R.bind_ok]; rw [hs t1 b _ h2]; rfl
def chkL (xs : List PyData) (d : PyData) : R PyData := if xs.length ≤ lineN then .ok d else .stk
theorem p_tup {ds : DenA} {rs : R (List PyData)} (hs : Pg ds ρ ρ1 rs) : Pg (dTup ds) ρ ρ1 (rs.bind fun as => chkL as (.tuple as)) := fun z h => by
  obtain ⟨a, h1, h⟩ := R.bind_eq_ok.mp h
  unfold chkL at h
  unfold dTup; rw [hs a h1]; simp only [R.bind_ok]
  split at h
  · rename_i hz; cases h; rw [if_pos hz]
  · cases h
theorem p_lst {ds : DenA} {rs : R (List PyData)} (hs : Pg ds ρ ρ1 rs) : Pg (dLst ds) ρ ρ1 (rs.bind fun as => chkL as (.list as)) := fun z h => by
  obtain ⟨a, h1, h⟩ := R.bind_eq_ok.mp h
  unfold chkL at h
  unfold dLst; rw [hs a h1]; simp only [R.bind_ok]
  split at h
  · rename_i hz; cases h; rw [if_pos hz]
  · cases h
theorem t_tup {ds : DenA} {rs : R (List PyData × Tp)} (hs : Tg ds ρ τ rs) : Tg (dTup ds) ρ τ (rs.bindT fun as t => (chkL as (.tuple as)).bind fun d => .ok (d, t)) := fun z t h => by
  obtain ⟨a, t1, h1, h⟩ := R.bindT_eq_ok.mp h
  obtain ⟨d, h2, h⟩ := R.bind_eq_ok.mp h
  cases h
  unfold chkL at h2
  unfold dTup; rw [hs a _ h1]; simp only [R.bind_ok]
  split at h2
  · rename_i hz; cases h2; rw [if_pos hz]
  · cases h2
theorem t_lst {ds : DenA} {rs : R (List PyData × Tp)} (hs : Tg ds ρ τ rs) : Tg (dLst ds) ρ τ (rs.bindT fun as t => (chkL as (.list as)).bind fun d => .ok (d, t)) := fun z t h => by
  obtain ⟨a, t1, h1, h⟩ := R.bindT_eq_ok.mp h
  obtain ⟨d, h2, h⟩ := R.bind_eq_ok.mp h
  cases h
  unfold chkL at h2
  unfold dLst; rw [hs a _ h1]; simp only [R.bind_ok]
  split at h2
  · rename_i hz; cases h2; rw [if_pos hz]
  · cases h2
theorem p_op2 {f : PyData → PyData → R PyData} {da db : Den} {ra rb : R PyData} (ha : Pg da ρ ρ1 ra) (hb : Pg db ρ1 ρ2 rb) : Pg (dOp2 f da db) ρ ρ2 (ra.bind fun a => rb.bind fun b => f a b) := fun z h => by
  obtain ⟨a, h1, h⟩ := R.bind_eq_ok.mp h
  obtain ⟨b, h2, h⟩ := R.bind_eq_ok.mp h
  unfold dOp2; rw [ha a h1]; simp only [R.bind_ok]; rw [hb b h2]; simp only [R.bind_ok]; rw [h]; rfl
theorem t_op2 {f : PyData → PyData → R PyData} {da db : Den} {ra : R (PyData × Tp)} {rb : Tp → R (PyData × Tp)} (ha : Tg da ρ τ1 ra) (hb : ∀ t, Tg db (τ1 t) τ2 (rb t)) : Tg (dOp2 f da db) ρ τ2 (ra.bindT fun a t => (rb t).bindT fun b t => (f a b).bind fun d => .ok (d, t)) := fun z t h => by
  obtain ⟨a, t1, h1, h⟩ := R.bindT_eq_ok.mp h
  obtain ⟨b, t2, h2, h⟩ := R.bindT_eq_ok.mp h
  obtain ⟨d, h3, h⟩ := R.bind_eq_ok.mp h
  cases h
  unfold dOp2; rw [ha a t1 h1]; simp only [R.bind_ok]; rw [hb t1 b _ h2]; simp only [R.bind_ok]; rw [h3]; rfl
theorem p_op1 {f : PyData → R PyData} {da : Den} {ra : R PyData} (ha : Pg da ρ ρ1 ra) : Pg (dOp1 f da) ρ ρ1 (ra.bind f) := fun z h => by
  obtain ⟨a, h1, h⟩ := R.bind_eq_ok.mp h
  unfold dOp1; rw [ha a h1]; simp only [R.bind_ok]; rw [h]; rfl
theorem t_op1 {f : PyData → R PyData} {da : Den} {ra : R (PyData × Tp)} (ha : Tg da ρ τ ra) : Tg (dOp1 f da) ρ τ (ra.bindT fun a t => (f a).bind fun d => .ok (d, t)) := fun z t h => by
  obtain ⟨a, t1, h1, h⟩ := R.bindT_eq_ok.mp h
  obtain ⟨d, h3, h⟩ := R.bind_eq_ok.mp h
  cases h
  unfold dOp1; rw [ha a _ h1]; simp only [R.bind_ok]; rw [h3]; rfl
theorem p_opA {f : List PyData → R PyData} {ds : DenA} {rs : R (List PyData)} (hs : Pg ds ρ ρ1 rs) : Pg (dOpA f ds) ρ ρ1 (rs.bind f) := fun z h => by
  obtain ⟨a, h1, h⟩ := R.bind_eq_ok.mp h
  unfold dOpA; rw [hs a h1]; simp only [R.bind_ok]; rw [h]; rfl
theorem t_opA {f : List PyData → R PyData} {ds : DenA} {rs : R (List PyData × Tp)} (hs : Tg ds ρ τ rs) : Tg (dOpA f ds) ρ τ (rs.bindT fun as t => (f as).bind fun d => .ok (d, t)) := fun z t h => by
  obtain ⟨a, t1, h1, h⟩ := R.bindT_eq_ok.mp h
  obtain ⟨d, h3, h⟩ := R.bind_eq_ok.mp h
  cases h
  unfold dOpA; rw [hs a _ h1]; simp only [R.bind_ok]; rw [h3]; rfl
theorem p_isi {T : String} {da : Den} {ra : R PyData} (ha : Pg da ρ ρ1 ra) : Pg (dIsi T da) ρ ρ1 (ra.bind fun a => .ok (.bool (isT T a))) := fun z h => by
  obtain ⟨a, h1, h⟩ := R.bind_eq_ok.mp h
  cases h
  unfold dIsi; rw [ha a h1]; rfl
/-! ### tests and choices -/
theorem p_test {da : Den} {ra : R PyData} (ha : Pg da ρ ρ1 ra) : Pg (dTest da) ρ ρ1 (ra.bind tru) := fun z h => by
  obtain ⟨a, h1, h⟩ := R.bind_eq_ok.mp h
  unfold dTest; rw [ha a h1]; simp only [R.bind_ok]; rw [h]; rfl
theorem t_test {da : Den} {ra : R (PyData × Tp)} (ha : Tg da ρ τ ra) : Tg (dTest da) ρ τ (ra.bindT fun a t => (tru a).bind fun b => .ok (b, t)) := fun z t h => by
  obtain ⟨a, t1, h1, h⟩ := R.bindT_eq_ok.mp h
  obtain ⟨d, h3, h⟩ := R.bind_eq_ok.mp h
  cases h
  unfold dTest; rw [ha a _ h1]; simp only [R.bind_ok]; rw [h3]; rfl
theorem p_testB {da : Den} {ra : R PyData} (ha : Pg da ρ ρ1 ra) : Pg (dTestB da) ρ ρ1 (ra.bind isBl) := fun z h => by
  obtain ⟨a, h1, h⟩ := R.bind_eq_ok.mp h
  unfold dTestB; rw [ha a h1]; simp only [R.bind_ok]; rw [h]; rfl
theorem t_testB {da : Den} {ra : R (PyData × Tp)} (ha : Tg da ρ τ ra) : Tg (dTestB da) ρ τ (ra.bindT fun a t => (isBl a).bind fun b => .ok (b, t)) := fun z t h => by
  obtain ⟨a, t1, h1, h⟩ := R.bindT_eq_ok.mp h
  obtain ⟨d, h3, h⟩ := R.bind_eq_ok.mp h
  cases h
  unfold dTestB; rw [ha a _ h1]; simp only [R.bind_ok]; rw [h3]; rfl
/-- the second only if the first is b -/
theorem p_andB {t u : DenB} {rt ru : R Bool} (ht : Pg t ρ ρ1 rt) (hu : Pg u ρ1 ρ1 ru) : Pg (dAndB t u) ρ ρ1 (rt.bind fun b => if b then ru else .ok false) := fun z h => by
  obtain ⟨a, h1, h⟩ := R.bind_eq_ok.mp h
  unfold dAndB; rw [ht a h1]; simp only [R.bind_ok]
  cases a with
  | true => rw [if_pos rfl] at h ⊢; exact hu z h
  | false => rw [if_neg Bool.false_ne_true] at h ⊢; cases h; rfl
theorem p_orB {t u : DenB} {rt ru : R Bool} (ht : Pg t ρ ρ1 rt) (hu : Pg u ρ1 ρ1 ru) : Pg (dOrB t u) ρ ρ1 (rt.bind fun b => if b then .ok true else ru) := fun z h => by
  obtain ⟨a, h1, h⟩ := R.bind_eq_ok.mp h
  unfold dOrB; rw [ht a h1]; simp only [R.bind_ok]
  cases a with
  | true => rw [if_pos rfl] at h ⊢; cases h; rfl
  | false => rw [if_neg Bool.false_ne_true] at h ⊢; exact hu z h
theorem p_notB {t : DenB} {rt : R Bool} (ht : Pg t ρ ρ1 rt) : Pg (dNotB t) ρ ρ1 (rt.bind fun b => .ok (!b)) := fun z h => by
  obtain ⟨a, h1, h⟩ := R.bind_eq_ok.mp h
  cases h
  unfold dNotB; rw [ht a h1]; rfl
theorem t_andB {t u : DenB} {rt : R (Bool × Tp)} {ru : Tp → R (Bool × Tp)} (ht : Tg t ρ τ rt) (hu : ∀ t, Tg u (τ t) τ (ru t)) : Tg (dAndB t u) ρ τ (rt.bindT fun b t => if b then ru t else .ok (false, t)) := fun z t' h => by
  obtain ⟨a, t1, h1, h⟩ := R.bindT_eq_ok.mp h
  unfold dAndB; rw [ht a t1 h1]; simp only [R.bind_ok]
  cases a with
  | true => rw [if_pos rfl] at h ⊢; exact hu t1 z t' h
  | false => rw [if_neg Bool.false_ne_true] at h ⊢; cases h; rfl
theorem t_orB {t u : DenB} {rt : R (Bool × Tp)} {ru : Tp → R (Bool × Tp)} (ht : Tg t ρ τ rt) (hu : ∀ t, Tg u (τ t) τ (ru t)) : Tg (dOrB t u) ρ τ (rt.bindT fun b t => if b then .ok (true, t) else ru t) := fun z t' h => by
  obtain ⟨a, t1, h1, h⟩ := R.bindT_eq_ok.mp h
  unfold dOrB; rw [ht a t1 h1]; simp only [R.bind_ok]
  cases a with
  | true => rw [if_pos rfl] at h ⊢; cases h; rfl
  | false => rw [if_neg Bool.false_ne_true] at h ⊢; exact hu t1 z t' h
theorem t_notB {t : DenB} {rt : R (Bool × Tp)} (ht : Tg t ρ τ rt) : Tg (dNotB t) ρ τ (rt.bindT fun b t => .ok (!b, t)) := fun z t' h => by
  obtain ⟨a, t1, h1, h⟩ := R.bindT_eq_ok.mp h
  cases h
  unfold dNotB; rw [ht a _ h1]; rfl
theorem p_and {t u : Den} {rt ru : R PyData} (ht : Pg t ρ ρ1 rt) (hu : Pg u ρ1 ρ1 ru) : Pg (dAnd t u) ρ ρ1 (rt.bind fun a => (isBl a).bind fun b => if b then ru else .ok (.bool false)) := fun z h => by
  obtain ⟨a, h1, h⟩ := R.bind_eq_ok.mp h
  obtain ⟨b, h2, h⟩ := R.bind_eq_ok.mp h
  unfold dAnd; rw [ht a h1]; simp only [R.bind_ok]; rw [h2]; simp only [R.bind_ok]
  cases b with
  | true => rw [if_pos rfl] at h ⊢; exact hu z h
  | false => rw [if_neg Bool.false_ne_true] at h ⊢; cases h; rfl
theorem p_or {t u : Den} {rt ru : R PyData} (ht : Pg t ρ ρ1 rt) (hu : Pg u ρ1 ρ1 ru) : Pg (dOr t u) ρ ρ1 (rt.bind fun a => (isBl a).bind fun b => if b then .ok (.bool true) else ru) := fun z h => by
  obtain ⟨a, h1, h⟩ := R.bind_eq_ok.mp h
  obtain ⟨b, h2, h⟩ := R.bind_eq_ok.mp h
  unfold dOr; rw [ht a h1]; simp only [R.bind_ok]; rw [h2]; simp only [R.bind_ok]
  cases b with
  | true => rw [if_pos rfl] at h ⊢; cases h; rfl
  | false => rw [if_neg Bool.false_ne_true] at h ⊢; exact hu z h
theorem p_not {t : Den} {rt : R PyData} (ht : Pg t ρ ρ1 rt) : Pg (dNot t) ρ ρ1 (rt.bind fun a => (isBl a).bind fun b => .ok (.bool (!b))) := fun z h => by
  obtain ⟨a, h1, h⟩ := R.bind_eq_ok.mp h
  obtain ⟨b, h2, h⟩ := R.bind_eq_ok.mp h
  cases h
  unfold dNot; rw [ht a h1]; simp only [R.bind_ok]; rw [h2]; rfl
theorem t_and {t u : Den} {rt : R (PyData × Tp)} {ru : Tp → R (PyData × Tp)} (ht : Tg t ρ τ rt) (hu : ∀ t, Tg u (τ t) τ (ru t)) : Tg (dAnd t u) ρ τ (rt.bindT fun a t => (isBl a).bind fun b => if b then ru t else .ok (.bool false, t)) := fun z t' h => by
  obtain ⟨a, t1, h1, h⟩ := R.bindT_eq_ok.mp h
  obtain ⟨b, h2, h⟩ := R.bind_eq_ok.mp h
  unfold dAnd; rw [ht a _ h1]; simp only [R.bind_ok]; rw [h2]; simp only [R.bind_ok]
  cases b with
  | true => rw [if_pos rfl] at h ⊢; exact hu t1 z t' h
  | false => rw [if_neg Bool.false_ne_true] at h ⊢; cases h; rfl
theorem t_or {t u : Den} {rt : R (PyData × Tp)} {ru : Tp → R (PyData × Tp)} (ht : Tg t ρ τ rt) (hu : ∀ t, Tg u (τ t) τ (ru t)) : Tg (dOr t u) ρ τ (rt.bindT fun a t => (isBl a).bind fun b => if b then .ok (.bool true, t) else ru t) := fun z t' h => by
  obtain ⟨a, t1, h1, h⟩ := R.bindT_eq_ok.mp h
  obtain ⟨b, h2, h⟩ := R.bind_eq_ok.mp h
  unfold dOr; rw [ht a _ h1]; simp only [R.bind_ok]; rw [h2]; simp only [R.bind_ok]
  cases b with
  | true => rw [if_pos rfl] at h ⊢; cases h; rfl
  | false => rw [if_neg Bool.false_ne_true] at h ⊢; exact hu t1 z t' h
theorem t_not {t : Den} {rt : R (PyData × Tp)} (ht : Tg t ρ τ rt) : Tg (dNot t) ρ τ (rt.bindT fun a t => (isBl a).bind fun b => .ok (.bool (!b), t)) := fun z t' h => by
  obtain ⟨a, t1, h1, h⟩ := R.bindT_eq_ok.mp h
  obtain ⟨b, h2, h⟩ := R.bind_eq_ok.mp h
  cases h
  unfold dNot; rw [ht a _ h1]; simp only [R.bind_ok]; rw [h2]; rfl
theorem p_if {t : DenB} {da db : Den} {rt : R Bool} {ra rb : R PyData} (ht : Pg t ρ ρ1 rt) (ha : Pg da ρ1 ρ2 ra) (hb : Pg db ρ1 ρ2 rb) : Pg (dIf t da db) ρ ρ2 (rt.bind fun b => if b then ra else rb) := fun z h => by
  obtain ⟨b, h1, h⟩ := R.bind_eq_ok.mp h
  unfold dIf; rw [ht b h1]; simp only [R.bind_ok]
  cases b with
  | true => rw [if_pos rfl] at h ⊢; exact ha z h
  | false => rw [if_neg Bool.false_ne_true] at h ⊢; exact hb z h
theorem t_if {t : DenB} {da db : Den} {rt : R (Bool × Tp)} {ra rb : Tp → R (PyData × Tp)} (ht : Tg t ρ τ1 rt) (ha : ∀ t, Tg da (τ1 t) τ (ra t)) (hb : ∀ t, Tg db (τ1 t) τ (rb t)) : Tg (dIf t da db) ρ τ (rt.bindT fun b t => if b then ra t else rb t) := fun z t' h => by
  obtain ⟨b, t1, h1, h⟩ := R.bindT_eq_ok.mp h
  unfold dIf; rw [ht b _ h1]; simp only [R.bind_ok]
  cases b with
  | true => rw [if_pos rfl] at h ⊢; exact ha t1 z t' h
  | false => rw [if_neg Bool.false_ne_true] at h ⊢; exact hb t1 z t' h
theorem p_chain {f g : PyData → PyData → R PyData} {da db dc : Den} {ra rb rc : R PyData} (ha : Pg da ρ ρ1 ra) (hb : Pg db ρ1 ρ2 rb) (hc : Pg dc ρ2 ρ2 rc) : Pg (dChain f g da db dc) ρ ρ2 (ra.bind fun a => rb.bind fun b => (f a b).bind fun z => (isBl z).bind fun k => if k then rc.bind fun c => g b c else .ok (.bool false)) := fun w h => by
  obtain ⟨a, h1, h⟩ := R.bind_eq_ok.mp h
  obtain ⟨b, h2, h⟩ := R.bind_eq_ok.mp h
  obtain ⟨z, h3, h⟩ := R.bind_eq_ok.mp h
  obtain ⟨k, h4, h⟩ := R.bind_eq_ok.mp h
  unfold dChain; rw [ha a h1]; simp only [R.bind_ok]; rw [hb b h2]; simp only [R.bind_ok]; rw [h3]; simp only [R.bind_ok]; rw [h4]; simp only [R.bind_ok]
  cases k with
  | true =>
    rw [if_pos rfl] at h ⊢
    obtain ⟨c, h5, h⟩ := R.bind_eq_ok.mp h
    rw [hc c h5]; simp only [R.bind_ok]; rw [h]; rfl
  | false => rw [if_neg Bool.false_ne_true] at h ⊢; cases h; rfl
end
end L2.DY

end
section
/-! DyFn2: what is walked, comprehensions, calls, looks, slices as plain functions. -/
namespace L2.DY
open PySem PySem.Spec PyProof.Rows
section
variable {α : Type} {ρ ρ1 ρ2 ρ3 : Rho} {τ τ1 τ2 τ3 : Tp → Rho}
theorem p_seqI {da : Den} {ra : R PyData} (ha : Pg da ρ ρ1 ra) : Pg (dSeqI da) ρ ρ1 (ra.bind itemsOf) := fun z h => by
  obtain ⟨a, h1, h⟩ := R.bind_eq_ok.mp h
  unfold dSeqI; rw [ha a h1]; simp only [R.bind_ok]; rw [h]; rfl
theorem t_seqI {da : Den} {ra : R (PyData × Tp)} (ha : Tg da ρ τ ra) : Tg (dSeqI da) ρ τ (ra.bindT fun a t => (itemsOf a).bind fun xs => .ok (xs, t)) := fun z t h => by
  obtain ⟨a, t1, h1, h⟩ := R.bindT_eq_ok.mp h
  obtain ⟨d, h3, h⟩ := R.bind_eq_ok.mp h
  cases h
  unfold dSeqI; rw [ha a _ h1]; simp only [R.bind_ok]; rw [h3]; rfl
def rng1F : List PyData → R (List PyData)
  | [.int j] => if inR j then .ok (rngD 0 j.toNat) else .stk
  | _ => .stk
def rng2F : List PyData → R (List PyData)
  | [.int i, .int j] => if inR i && inR j then .ok (rngD i (j - i).toNat) else .stk
  | _ => .stk
theorem rng1_eq (ds : DenA) (ρ : Rho) : dRng1 ds ρ = (ds ρ).bind fun r => (rng1F r.1).bind fun xs => .ok (xs, r.2) := by
  unfold dRng1
  cases ds ρ with
  | exc c x => rfl
  | stk => rfl
  | ok r =>
    obtain ⟨as, ρ1⟩ := r
    simp only [R.bind_ok]
    split
    · rename_i j
      show _ = (if inR j then _ else _ : R (List PyData)).bind _
      split <;> rfl
    · rename_i hn
      unfold rng1F
      split
      · exact absurd rfl (hn _)
      · rfl
theorem rng2_eq (ds : DenA) (ρ : Rho) : dRng2 ds ρ = (ds ρ).bind fun r => (rng2F r.1).bind fun xs => .ok (xs, r.2) := by
  unfold dRng2
  cases ds ρ with
  | exc c x => rfl
  | stk => rfl
  | ok r =>
    obtain ⟨as, ρ1⟩ := r
    simp only [R.bind_ok]
    split
    · rename_i i j
      show _ = (if inR i && inR j then _ else _ : R (List PyData)).bind _
      split <;> rfl
    · rename_i hn
      unfold rng2F
      split
      · exact absurd rfl (hn _ _)
      · rfl
theorem p_rng1 {ds : DenA} {rs : R (List PyData)} (hs : Pg ds ρ ρ1 rs) : Pg (dRng1 ds) ρ ρ1 (rs.bind rng1F) := fun z h => by
  obtain ⟨a, h1, h⟩ := R.bind_eq_ok.mp h
  rw [rng1_eq, hs a h1]; simp only [R.bind_ok]; rw [h]; rfl
theorem p_rng2 {ds : DenA} {rs : R (List PyData)} (hs : Pg ds ρ ρ1 rs) : Pg (dRng2 ds) ρ ρ1 (rs.bind rng2F) := fun z h => by
  obtain ⟨a, h1, h⟩ := R.bind_eq_ok.mp h
  rw [rng2_eq, hs a h1]; simp only [R.bind_ok]; rw [h]; rfl
theorem t_rng1 {ds : DenA} {rs : R (List PyData × Tp)} (hs : Tg ds ρ τ rs) : Tg (dRng1 ds) ρ τ (rs.bindT fun as t => (rng1F as).bind fun xs => .ok (xs, t)) := fun z t h => by
  obtain ⟨a, t1, h1, h⟩ := R.bindT_eq_ok.mp h
  obtain ⟨d, h3, h⟩ := R.bind_eq_ok.mp h
  cases h
  rw [rng1_eq, hs a _ h1]; simp only [R.bind_ok]; rw [h3]; rfl
theorem t_rng2 {ds : DenA} {rs : R (List PyData × Tp)} (hs : Tg ds ρ τ rs) : Tg (dRng2 ds) ρ τ (rs.bindT fun as t => (rng2F as).bind fun xs => .ok (xs, t)) := fun z t h => by
  obtain ⟨a, t1, h1, h⟩ := R.bindT_eq_ok.mp h
  obtain ⟨d, h3, h⟩ := R.bind_eq_ok.mp h
  cases h
  rw [rng2_eq, hs a _ h1]; simp only [R.bind_ok]; rw [h3]; rfl
def enumF : PyData → R (List PyData)
  | .list xs => .ok (enumD 0 xs)
  | .tuple xs => .ok (enumD 0 xs)
  | _ => .stk
theorem enum_eq (da : Den) (ρ : Rho) : dEnum da ρ = (da ρ).bind fun r => (enumF r.1).bind fun xs => .ok (xs, r.2) := by
  unfold dEnum
  cases da ρ with
  | exc c x => rfl
  | stk => rfl
  | ok r =>
    simp only [R.bind_ok]
    cases r.1 <;> rfl
theorem p_enum {da : Den} {ra : R PyData} (ha : Pg da ρ ρ1 ra) : Pg (dEnum da) ρ ρ1 (ra.bind enumF) := fun z h => by
  obtain ⟨a, h1, h⟩ := R.bind_eq_ok.mp h
  rw [enum_eq, ha a h1]; simp only [R.bind_ok]; rw [h]; rfl
theorem t_enum {da : Den} {ra : R (PyData × Tp)} (ha : Tg da ρ τ ra) : Tg (dEnum da) ρ τ (ra.bindT fun a t => (enumF a).bind fun xs => .ok (xs, t)) := fun z t h => by
  obtain ⟨a, t1, h1, h⟩ := R.bindT_eq_ok.mp h
  obtain ⟨d, h3, h⟩ := R.bind_eq_ok.mp h
  cases h
  rw [enum_eq, ha a _ h1]; simp only [R.bind_ok]; rw [h3]; rfl

/-! ### comprehensions -/
def mapR (F : PyData → R PyData) : List PyData → R (List PyData)
  | [] => .ok []
  | x :: xs => (F x).bind fun y => (mapR F xs).bind fun ys => .ok (y :: ys)
def mapO (F : PyData → R (Option PyData)) : List PyData → R (List PyData)
  | [] => .ok []
  | x :: xs => (F x).bind fun y => (mapO F xs).bind fun ys => .ok (y.toList ++ ys)
def mapT (F : PyData → Tp → R (PyData × Tp)) : List PyData → Tp → R (List PyData × Tp)
  | [], t => .ok ([], t)
  | x :: xs, t => (F x t).bindT fun y t => (mapT F xs t).bindT fun ys t => .ok (y :: ys, t)
def lcR (xs : List PyData) (r : R (List PyData)) : R PyData := if xs.length ≤ lineN then r.bind fun ys => .ok (.list ys) else .stk
def lcT (xs : List PyData) (r : R (List PyData × Tp)) : R (PyData × Tp) := if xs.length ≤ lineN then r.bindT fun ys t => .ok (.list ys, t) else .stk
def un2 {β : Type} (x : PyData) (k : PyData → PyData → R β) : R β := match x with
  | .tuple [a, b] => k a b
  | _ => .stk
def un3 {β : Type} (x : PyData) (k : PyData → PyData → PyData → R β) : R β := match x with
  | .tuple [a, b, c] => k a b c
  | _ => .stk
def un4 {β : Type} (x : PyData) (k : PyData → PyData → PyData → PyData → R β) : R β := match x with
  | .tuple [a, b, c, d] => k a b c d
  | _ => .stk
theorem wipeR_ext {l m : Rho} (hl : l.length = m.length) (h : ∀ j, l.getD j .u = m.getD j .u) : l = m := by
  refine List.ext_getElem? fun j => ?_
  by_cases hj : j < l.length
  · have := h j
    rw [List.getD_eq_getElem?_getD, List.getD_eq_getElem?_getD, List.getElem?_eq_getElem hj, List.getElem?_eq_getElem (by omega)] at this
    rw [List.getElem?_eq_getElem hj, List.getElem?_eq_getElem (by omega)]
    exact congrArg some this
  · rw [List.getElem?_eq_none (by omega), List.getElem?_eq_none (by omega)]
theorem wipeR_twice (l : Rho) (vs : List Nat) : wipeR (wipeR l vs) vs = wipeR l vs := wipeR_ext (wipeR_length _ _) fun j => by
  rw [wipeR_getD, wipeR_getD]
  by_cases q : j ∈ vs
  · rw [if_pos q, if_pos q]
  · rw [if_neg q, if_neg q]
theorem turn_wipe {vs : List Nat} {g : GDen} {t : DenB} {e : Den} {x : PyData} {l m : Rho} (h : wipeR l vs = wipeR m vs) : turn vs g t e x l = turn vs g t e x m := by unfold turn; rw [h]
theorem lcLoop_mapO {vs : List Nat} {g : GDen} {t : DenB} {e : Den} {F : PyData → R (Option PyData)} (h : ∀ x y, F x = .ok y → ∃ ρ3, turn vs g t e x ρ1 = .ok (y, ρ3) ∧ wipeR ρ3 vs = wipeR ρ1 vs) :
    ∀ (xs ys : List PyData) (ρ' : Rho), wipeR ρ' vs = wipeR ρ1 vs → mapO F xs = .ok ys → ∃ ρ2, lcLoop vs g t e xs ρ' = .ok (ys, ρ2) ∧ wipeR ρ2 vs = wipeR ρ1 vs
  | [], ys, ρ', e, hm => by cases hm; exact ⟨ρ', rfl, e⟩
  | x :: xs, ys, ρ', e, hm => by
    obtain ⟨y, h1, hm⟩ := R.bind_eq_ok.mp hm
    obtain ⟨zs, h2, hm⟩ := R.bind_eq_ok.mp hm
    cases hm
    obtain ⟨ρ3, h3, h4⟩ := h x y h1
    rw [← turn_wipe e] at h3
    obtain ⟨ρ2, h5, h6⟩ := lcLoop_mapO h xs zs ρ3 h4 h2
    exact ⟨ρ2, by rw [lcLoop_cons h3, h5]; rfl, h6⟩
theorem mapO_some (F : PyData → R PyData) : ∀ xs, mapO (fun x => (F x).bind fun y => .ok (some y)) xs = mapR F xs
  | [] => rfl
  | x :: xs => by
    simp only [mapO, mapR, R.bind_assoc, R.bind_ok, mapO_some F xs]
    rfl
theorem p_lcO {vs : List Nat} {di : DenI} {g : GDen} {t : DenB} {e : Den} {ri : R (List PyData)} {F : PyData → R (Option PyData)} (hi : Pg di ρ ρ1 ri) (h : ∀ x y, F x = .ok y → ∃ ρ3, turn vs g t e x ρ1 = .ok (y, ρ3) ∧ wipeR ρ3 vs = wipeR ρ1 vs)
    (hp : vs.all (fun i => plainSl (ρ1.getD i .u)) = true := by rfl) : Pg (dLc vs di g t e) ρ ρ1 (ri.bind fun xs => lcR xs (mapO F xs)) := fun z hz => by
  obtain ⟨xs, h1, hz⟩ := R.bind_eq_ok.mp hz
  unfold lcR at hz
  unfold dLc; rw [hi xs h1]; simp only [R.bind_ok]
  split at hz
  · rename_i hl
    obtain ⟨ys, h2, hz⟩ := R.bind_eq_ok.mp hz
    cases hz
    rw [if_pos (by simp only [Bool.and_eq_true, decide_eq_true_eq]; exact ⟨hl, hp⟩)]
    obtain ⟨ρ2, h3, h4⟩ := lcLoop_mapO h xs ys ρ1 rfl h2
    rw [h3]; simp only [R.bind_ok]
    rw [restR_eq (by have := congrArg List.length h4; rwa [wipeR_length, wipeR_length] at this) h4]
  · cases hz
theorem p_lc {vs : List Nat} {di : DenI} {g : GDen} {t : DenB} {e : Den} {ri : R (List PyData)} {F : PyData → R PyData} (hi : Pg di ρ ρ1 ri) (h : ∀ x y, (F x).bind (fun y => .ok (some y)) = .ok y → ∃ ρ3, turn vs g t e x ρ1 = .ok (y, ρ3) ∧ wipeR ρ3 vs = wipeR ρ1 vs)
    (hp : vs.all (fun i => plainSl (ρ1.getD i .u)) = true := by rfl) : Pg (dLc vs di g t e) ρ ρ1 (ri.bind fun xs => lcR xs (mapR F xs)) := by
  have := p_lcO hi h hp
  simp only [mapO_some] at this
  exact this
/-- a turn, the target a name or a tuple of names -/
theorem tn1 {vs : List Nat} {e : Den} {i : Nat} {F : PyData → R PyData} {ρa ρb : PyData → Rho} (he : ∀ x, Pg e (ρa x) (ρb x) (F x)) (ha : ∀ x, (wipeR ρ1 vs).set i (.d x) = ρa x := by exact fun _ => rfl) (hb : ∀ x, wipeR (ρb x) vs = wipeR ρ1 vs := by exact fun _ => rfl) :
    ∀ x y, (F x).bind (fun y => .ok (some y)) = .ok y → ∃ ρ3, turn vs (gdName i) dYes e x ρ1 = .ok (y, ρ3) ∧ wipeR ρ3 vs = wipeR ρ1 vs := fun x y h => by
  obtain ⟨z, h1, h⟩ := R.bind_eq_ok.mp h
  cases h
  refine ⟨ρb x, ?_, hb x⟩
  unfold turn gdName dYes
  simp only [R.bind_ok, if_true]
  rw [ha, he x z h1]; rfl
theorem tn1T {vs : List Nat} {t : DenB} {e : Den} {i : Nat} {c : PyData → R Bool} {F : PyData → R PyData} {ρa ρb : PyData → Rho} (ht : ∀ x, Pg t (ρa x) (ρa x) (c x)) (he : ∀ x, Pg e (ρa x) (ρb x) (F x)) (ha : ∀ x, (wipeR ρ1 vs).set i (.d x) = ρa x := by exact fun _ => rfl) (hb : ∀ x, wipeR (ρb x) vs = wipeR ρ1 vs := by exact fun _ => rfl) (hc : ∀ x, wipeR (ρa x) vs = wipeR ρ1 vs := by exact fun _ => rfl) :
    ∀ x y, ((c x).bind fun b => if b then (F x).bind fun y => .ok (some y) else .ok none) = .ok y → ∃ ρ3, turn vs (gdName i) t e x ρ1 = .ok (y, ρ3) ∧ wipeR ρ3 vs = wipeR ρ1 vs := fun x y h => by
  obtain ⟨b, h1, h⟩ := R.bind_eq_ok.mp h
  unfold turn gdName
  simp only [R.bind_ok]
  rw [ha, ht x b h1]; simp only [R.bind_ok]
  cases b with
  | false => rw [if_neg Bool.false_ne_true] at h ⊢; cases h; exact ⟨_, rfl, hc x⟩
  | true =>
    rw [if_pos rfl] at h ⊢
    obtain ⟨z, h2, h⟩ := R.bind_eq_ok.mp h
    cases h
    rw [he x z h2]; exact ⟨_, rfl, hb x⟩
theorem un2_eq_ok {β : Type} {x : PyData} {k : PyData → PyData → R β} {z : β} (h : un2 x k = .ok z) : ∃ a b, x = .tuple [a, b] ∧ k a b = .ok z := by
  unfold un2 at h
  split at h
  · exact ⟨_, _, rfl, h⟩
  · cases h
theorem un3_eq_ok {β : Type} {x : PyData} {k : PyData → PyData → PyData → R β} {z : β} (h : un3 x k = .ok z) : ∃ a b c, x = .tuple [a, b, c] ∧ k a b c = .ok z := by
  unfold un3 at h
  split at h
  · exact ⟨_, _, _, rfl, h⟩
  · cases h
abbrev gd2 (i j : Nat) : GDen := gdTup 2 (gdCons (gdName i) (gdCons (gdName j) gdNil))
abbrev gd3 (i j k : Nat) : GDen := gdTup 3 (gdCons (gdName i) (gdCons (gdName j) (gdCons (gdName k) gdNil)))
theorem tn2 {vs : List Nat} {e : Den} {i j : Nat} {F : PyData → PyData → R PyData} {ρa ρb : PyData → PyData → Rho} (he : ∀ x y, Pg e (ρa x y) (ρb x y) (F x y)) (ha : ∀ x y, ((wipeR ρ1 vs).set i (.d x)).set j (.d y) = ρa x y := by exact fun _ _ => rfl) (hb : ∀ x y, wipeR (ρb x y) vs = wipeR ρ1 vs := by exact fun _ _ => rfl) :
    ∀ x y, (un2 x F).bind (fun y => .ok (some y)) = .ok y → ∃ ρ3, turn vs (gd2 i j) dYes e x ρ1 = .ok (y, ρ3) ∧ wipeR ρ3 vs = wipeR ρ1 vs := fun x y h => by
  obtain ⟨z, h1, h⟩ := R.bind_eq_ok.mp h
  cases h
  obtain ⟨a, b, rfl, h1⟩ := un2_eq_ok h1
  refine ⟨ρb a b, ?_, hb a b⟩
  unfold turn dYes
  simp only [gdTup, gdCons, gdName, gdNil, List.length_cons, List.length_nil, R.bind_ok, if_true]
  rw [ha, he a b z h1]; rfl
theorem tn2T {vs : List Nat} {t : DenB} {e : Den} {i j : Nat} {c : PyData → PyData → R Bool} {F : PyData → PyData → R PyData} {ρa ρb : PyData → PyData → Rho} (ht : ∀ x y, Pg t (ρa x y) (ρa x y) (c x y)) (he : ∀ x y, Pg e (ρa x y) (ρb x y) (F x y)) (ha : ∀ x y, ((wipeR ρ1 vs).set i (.d x)).set j (.d y) = ρa x y := by exact fun _ _ => rfl) (hb : ∀ x y, wipeR (ρb x y) vs = wipeR ρ1 vs := by exact fun _ _ => rfl) (hc : ∀ x y, wipeR (ρa x y) vs = wipeR ρ1 vs := by exact fun _ _ => rfl) :
    ∀ x y, (un2 x fun a b => (c a b).bind fun k => if k then (F a b).bind fun y => .ok (some y) else .ok none) = .ok y → ∃ ρ3, turn vs (gd2 i j) t e x ρ1 = .ok (y, ρ3) ∧ wipeR ρ3 vs = wipeR ρ1 vs := fun x y h => by
  obtain ⟨a, b, rfl, h⟩ := un2_eq_ok h
  obtain ⟨k, h1, h⟩ := R.bind_eq_ok.mp h
  unfold turn
  simp only [gdTup, gdCons, gdName, gdNil, List.length_cons, List.length_nil, R.bind_ok, if_true]
  rw [ha, ht a b k h1]; simp only [R.bind_ok]
  cases k with
  | false => rw [if_neg Bool.false_ne_true] at h ⊢; cases h; exact ⟨_, rfl, hc a b⟩
  | true =>
    rw [if_pos rfl] at h ⊢
    obtain ⟨z, h2, h⟩ := R.bind_eq_ok.mp h
    cases h
    rw [he a b z h2]; exact ⟨_, rfl, hb a b⟩
/-- .. with the tape -/
theorem restR_wipe {l m n : Rho} {vs : List Nat} (hl : l.length = m.length) (hm : m.length = n.length) (h : wipeR m vs = wipeR n vs) : restR l m vs = restR l n vs := wipeR_ext (by rw [restR_length, restR_length, hm]) fun j => by
  rw [restR_getD _ _ hl, restR_getD _ _ (hl.trans hm)]
  by_cases q : j ∈ vs
  · rw [if_pos q, if_pos q]
  · rw [if_neg q, if_neg q]
    have := congrArg (fun x => x.getD j Sl.u) h
    simp only [wipeR_getD, if_neg q] at this
    exact this
theorem lcLoop_mapT {vs : List Nat} {g : GDen} {t : DenB} {e : Den} {F : PyData → Tp → R (PyData × Tp)} (h : ∀ x t0 y t1, F x t0 = .ok (y, t1) → ∃ ρ3, turn vs g t e x (τ t0) = .ok (some y, ρ3) ∧ wipeR ρ3 vs = wipeR (τ t1) vs) :
    ∀ (xs ys : List PyData) (t0 t1 : Tp) (ρ' : Rho), wipeR ρ' vs = wipeR (τ t0) vs → mapT F xs t0 = .ok (ys, t1) → ∃ ρ2, lcLoop vs g t e xs ρ' = .ok (ys, ρ2) ∧ wipeR ρ2 vs = wipeR (τ t1) vs
  | [], ys, t0, t1, ρ', e, hm => by cases hm; exact ⟨ρ', rfl, e⟩
  | x :: xs, ys, t0, t1, ρ', e, hm => by
    obtain ⟨y, ta, h1, hm⟩ := R.bindT_eq_ok.mp hm
    obtain ⟨zs, tb, h2, hm⟩ := R.bindT_eq_ok.mp hm
    cases hm
    obtain ⟨ρ3, h3, h4⟩ := h x t0 y ta h1
    rw [← turn_wipe e] at h3
    obtain ⟨ρ2, h5, h6⟩ := lcLoop_mapT h xs zs ta t1 ρ3 h4 h2
    exact ⟨ρ2, by rw [lcLoop_cons h3, h5]; rfl, h6⟩
theorem t_lc {vs : List Nat} {di : DenI} {g : GDen} {t : DenB} {e : Den} {ri : R (List PyData × Tp)} {F : PyData → Tp → R (PyData × Tp)} (hi : Tg di ρ τ ri) (h : ∀ x t0 y t1, F x t0 = .ok (y, t1) → ∃ ρ3, turn vs g t e x (τ t0) = .ok (some y, ρ3) ∧ wipeR ρ3 vs = wipeR (τ t1) vs)
    (hp : ∀ t, vs.all (fun i => plainSl ((τ t).getD i .u)) = true := by exact fun _ => rfl) (hl : ∀ t t', (τ t).length = (τ t').length := by exact fun _ _ => rfl) (hr : ∀ t t', restR (τ t) (τ t') vs = τ t' := by exact fun _ _ => rfl) : Tg (dLc vs di g t e) ρ τ (ri.bindT fun xs t => lcT xs (mapT F xs t)) := fun z t' hz => by
  obtain ⟨xs, t0, h1, hz⟩ := R.bindT_eq_ok.mp hz
  unfold lcT at hz
  unfold dLc; rw [hi xs t0 h1]; simp only [R.bind_ok]
  split at hz
  · rename_i hx
    obtain ⟨ys, t1, h2, hz⟩ := R.bindT_eq_ok.mp hz
    cases hz
    rw [if_pos (by simp only [Bool.and_eq_true, decide_eq_true_eq]; exact ⟨hx, hp t0⟩)]
    obtain ⟨ρ2, h3, h4⟩ := lcLoop_mapT h xs ys t0 t' (τ t0) rfl h2
    rw [h3]; simp only [R.bind_ok]
    have hl2 : ρ2.length = (τ t').length := by have := congrArg List.length h4; rwa [wipeR_length, wipeR_length] at this
    rw [restR_wipe ((hl t0 t').trans hl2.symm) hl2 h4, hr]
  · cases hz
theorem tnT1 {vs : List Nat} {e : Den} {i : Nat} {F : PyData → Tp → R (PyData × Tp)} {ρa : PyData → Tp → Rho} {τb : PyData → Tp → Rho} (he : ∀ x t, Tg e (ρa x t) (τb x) (F x t)) (ha : ∀ x t, (wipeR (τ t) vs).set i (.d x) = ρa x t := by exact fun _ _ => rfl) (hb : ∀ x t, wipeR (τb x t) vs = wipeR (τ t) vs := by exact fun _ _ => rfl) :
    ∀ x t0 y t1, F x t0 = .ok (y, t1) → ∃ ρ3, turn vs (gdName i) dYes e x (τ t0) = .ok (some y, ρ3) ∧ wipeR ρ3 vs = wipeR (τ t1) vs := fun x t0 y t1 h => by
  refine ⟨τb x t1, ?_, hb x t1⟩
  unfold turn gdName dYes
  simp only [R.bind_ok, if_true]
  rw [ha, he x t0 y t1 h]; rfl

/-- two clauses -/
def mapJ (G : PyData → R (List PyData)) : List PyData → R (List PyData)
  | [] => .ok []
  | x :: xs => (G x).bind fun ys => (mapJ G xs).bind fun zs => .ok (ys ++ zs)
theorem lcLoop2_mapJ {vs vs1 : List Nat} {g g1 : GDen} {di1 : DenI} {e : Den} {G : PyData → R (List PyData)}
    (h : ∀ x zs, G x = .ok zs → ∃ ρa ys ρb ρc, g x (wipeR ρ1 vs) = .ok ρa ∧ di1 ρa = .ok (ys, ρb) ∧ lcLoop vs1 g1 dYes e ys ρb = .ok (zs, ρc) ∧ wipeR (wipeR ρc vs1) vs = wipeR ρ1 vs) :
    ∀ (xs zs : List PyData) (ρ' : Rho), wipeR ρ' vs = wipeR ρ1 vs → mapJ G xs = .ok zs → ∃ ρ2, lcLoop2 vs vs1 g dYes di1 g1 dYes e xs ρ' = .ok (zs, ρ2) ∧ wipeR ρ2 vs = wipeR ρ1 vs
  | [], zs, ρ', hw, hm => by cases hm; exact ⟨ρ', rfl, hw⟩
  | x :: xs, zs, ρ', hw, hm => by
    obtain ⟨as, h1, hm⟩ := R.bind_eq_ok.mp hm
    obtain ⟨bs, h2, hm⟩ := R.bind_eq_ok.mp hm
    cases hm
    obtain ⟨ρa, ys, ρb, ρc, k1, k2, k3, k4⟩ := h x as h1
    obtain ⟨ρ2, k5, k6⟩ := lcLoop2_mapJ h xs bs (wipeR ρc vs1) k4 h2
    refine ⟨ρ2, ?_, k6⟩
    simp only [lcLoop2]
    rw [hw, k1]; simp only [R.bind_ok]
    unfold dYes at *
    simp only [R.bind_ok, if_true]
    rw [k2]; simp only [R.bind_ok]; rw [k3]; simp only [R.bind_ok]; rw [k5]; rfl
theorem p_lc2 {vs vs1 : List Nat} {di di1 : DenI} {g g1 : GDen} {e : Den} {ri : R (List PyData)} {G : PyData → R (List PyData)} (hi : Pg di ρ ρ1 ri)
    (h : ∀ x zs, G x = .ok zs → ∃ ρa ys ρb ρc, g x (wipeR ρ1 vs) = .ok ρa ∧ di1 ρa = .ok (ys, ρb) ∧ lcLoop vs1 g1 dYes e ys ρb = .ok (zs, ρc) ∧ wipeR (wipeR ρc vs1) vs = wipeR ρ1 vs)
    (hp : vs.all (fun i => plainSl (ρ1.getD i .u)) = true := by rfl) : Pg (dLc2 vs vs1 di g dYes di1 g1 dYes e) ρ ρ1 (ri.bind fun xs => (mapJ G xs).bind fun zs => chkL zs (.list zs)) := fun z hz => by
  obtain ⟨xs, h1, hz⟩ := R.bind_eq_ok.mp hz
  obtain ⟨zs, h2, hz⟩ := R.bind_eq_ok.mp hz
  unfold chkL at hz
  unfold dLc2; rw [hi xs h1]; simp only [R.bind_ok]
  rw [if_pos hp]
  obtain ⟨ρ2, k1, k2⟩ := lcLoop2_mapJ h xs zs ρ1 rfl h2
  unfold fin2; rw [k1]; simp only [R.bind_ok, List.nil_append]
  split at hz
  · rename_i hl
    cases hz
    rw [if_pos hl, restR_eq (by have := congrArg List.length k2; rwa [wipeR_length, wipeR_length] at this) k2]
  · cases hz
theorem tj_in {vs1 : List Nat} {i : Nat} {e : Den} {F : PyData → R PyData} {ρb : Rho} {ρc : PyData → Rho} {ρd : PyData → Rho} (he : ∀ y, Pg e (ρc y) (ρd y) (F y)) (hc : ∀ y, (wipeR ρb vs1).set i (.d y) = ρc y) (hd : ∀ y, wipeR (ρd y) vs1 = wipeR ρb vs1) {ys zs : List PyData} (h : mapR F ys = .ok zs) :
    ∃ ρ2, lcLoop vs1 (gdName i) dYes e ys ρb = .ok (zs, ρ2) ∧ wipeR ρ2 vs1 = wipeR ρb vs1 := by
  rw [← mapO_some] at h
  exact lcLoop_mapO (tn1 he hc hd) ys zs ρb rfl h
theorem tj1 {vs vs1 : List Nat} {i j : Nat} {di1 : DenI} {e : Den} {ri1 : PyData → R (List PyData)} {F : PyData → PyData → R PyData} {ρa ρb : PyData → Rho} {ρc ρd : PyData → PyData → Rho} (hi : ∀ x, Pg di1 (ρa x) (ρb x) (ri1 x)) (he : ∀ x y, Pg e (ρc x y) (ρd x y) (F x y))
    (ha : ∀ x, (wipeR ρ1 vs).set i (.d x) = ρa x := by exact fun _ => rfl) (hc : ∀ x y, (wipeR (ρb x) vs1).set j (.d y) = ρc x y := by exact fun _ _ => rfl) (hd : ∀ x y, wipeR (ρd x y) vs1 = wipeR (ρb x) vs1 := by exact fun _ _ => rfl) (hw : ∀ x, wipeR (wipeR (ρb x) vs1) vs = wipeR ρ1 vs := by exact fun _ => rfl) :
    ∀ x zs, ((ri1 x).bind fun ys => mapR (F x) ys) = .ok zs → ∃ ρa' ys ρb' ρc', gdName i x (wipeR ρ1 vs) = .ok ρa' ∧ di1 ρa' = .ok (ys, ρb') ∧ lcLoop vs1 (gdName j) dYes e ys ρb' = .ok (zs, ρc') ∧ wipeR (wipeR ρc' vs1) vs = wipeR ρ1 vs := fun x zs h => by
  obtain ⟨ys, h1, h⟩ := R.bind_eq_ok.mp h
  obtain ⟨ρ2, h2, h3⟩ := tj_in (he x) (hc x) (hd x) h
  exact ⟨_, ys, ρb x, ρ2, rfl, by rw [ha]; exact hi x ys h1, h2, by rw [h3]; exact hw x⟩
theorem tj2 {vs vs1 : List Nat} {i i2 j : Nat} {di1 : DenI} {e : Den} {ri1 : PyData → PyData → R (List PyData)} {F : PyData → PyData → PyData → R PyData} {ρa ρb : PyData → PyData → Rho} {ρc ρd : PyData → PyData → PyData → Rho} (hi : ∀ x x2, Pg di1 (ρa x x2) (ρb x x2) (ri1 x x2)) (he : ∀ x x2 y, Pg e (ρc x x2 y) (ρd x x2 y) (F x x2 y))
    (ha : ∀ x x2, ((wipeR ρ1 vs).set i (.d x)).set i2 (.d x2) = ρa x x2 := by exact fun _ _ => rfl) (hc : ∀ x x2 y, (wipeR (ρb x x2) vs1).set j (.d y) = ρc x x2 y := by exact fun _ _ _ => rfl) (hd : ∀ x x2 y, wipeR (ρd x x2 y) vs1 = wipeR (ρb x x2) vs1 := by exact fun _ _ _ => rfl) (hw : ∀ x x2, wipeR (wipeR (ρb x x2) vs1) vs = wipeR ρ1 vs := by exact fun _ _ => rfl) :
    ∀ x zs, (un2 x fun a b => (ri1 a b).bind fun ys => mapR (F a b) ys) = .ok zs → ∃ ρa' ys ρb' ρc', gd2 i i2 x (wipeR ρ1 vs) = .ok ρa' ∧ di1 ρa' = .ok (ys, ρb') ∧ lcLoop vs1 (gdName j) dYes e ys ρb' = .ok (zs, ρc') ∧ wipeR (wipeR ρc' vs1) vs = wipeR ρ1 vs := fun x zs h => by
  obtain ⟨a, b, rfl, h⟩ := un2_eq_ok h
  obtain ⟨ys, h1, h⟩ := R.bind_eq_ok.mp h
  obtain ⟨ρ2, h2, h3⟩ := tj_in (he a b) (hc a b) (hd a b) h
  exact ⟨_, ys, ρb a b, ρ2, rfl, by rw [← hi a b ys h1, ← ha], h2, by rw [h3]; exact hw a b⟩

/-! ### calls -/
def SemP (sem : Sem1) (F : List PyData → R PyData) : Prop := ∀ as d, F as = .ok d → ∃ s, sem (as.map .d) = .ok (d, s)
def SemT (sem : Sem1) (F : Tp → List PyData → R (PyData × Tp)) : Prop := ∀ t as d t', F t as = .ok (d, t') → ∃ s, sem (.tp t :: as.map .d) = .ok (d, .tp t' :: s)
def ap1 (f : PyData → R PyData) : List PyData → R PyData
  | [a] => f a
  | _ => .stk
def ap2 (f : PyData → PyData → R PyData) : List PyData → R PyData
  | [a, b] => f a b
  | _ => .stk
def ap3 (f : PyData → PyData → PyData → R PyData) : List PyData → R PyData
  | [a, b, c] => f a b c
  | _ => .stk
def ap4 (f : PyData → PyData → PyData → PyData → R PyData) : List PyData → R PyData
  | [a, b, c, d] => f a b c d
  | _ => .stk
def ap5 (f : PyData → PyData → PyData → PyData → PyData → R PyData) : List PyData → R PyData
  | [a, b, c, d, e] => f a b c d e
  | _ => .stk
def apT0 (f : Tp → R (PyData × Tp)) : Tp → List PyData → R (PyData × Tp)
  | t, [] => f t
  | _, _ => .stk
def apT1 (f : Tp → PyData → R (PyData × Tp)) : Tp → List PyData → R (PyData × Tp)
  | t, [a] => f t a
  | _, _ => .stk
def apT2 (f : Tp → PyData → PyData → R (PyData × Tp)) : Tp → List PyData → R (PyData × Tp)
  | t, [a, b] => f t a b
  | _, _ => .stk
def apT3 (f : Tp → PyData → PyData → PyData → R (PyData × Tp)) : Tp → List PyData → R (PyData × Tp)
  | t, [a, b, c] => f t a b c
  | _, _ => .stk
def apT4 (f : Tp → PyData → PyData → PyData → PyData → R (PyData × Tp)) : Tp → List PyData → R (PyData × Tp)
  | t, [a, b, c, d] => f t a b c d
  | _, _ => .stk
theorem p_call {sem : Sem1} {F : List PyData → R PyData} {ds : DenA} {rs : R (List PyData)} (h : SemP sem F) (hs : Pg ds ρ ρ1 rs) : Pg (dCall sem ds) ρ ρ1 (rs.bind F) := fun z hz => by
  obtain ⟨as, h1, hz⟩ := R.bind_eq_ok.mp hz
  obtain ⟨s, h2⟩ := h as z hz
  unfold dCall; rw [hs as h1]; simp only [R.bind_ok]; rw [h2]; rfl
theorem t_call {sem : Sem1} {F : List PyData → R PyData} {ds : DenA} {rs : R (List PyData × Tp)} (h : SemP sem F) (hs : Tg ds ρ τ rs) : Tg (dCall sem ds) ρ τ (rs.bindT fun as t => (F as).bind fun d => .ok (d, t)) := fun z t hz => by
  obtain ⟨as, t1, h1, hz⟩ := R.bindT_eq_ok.mp hz
  obtain ⟨d, h3, hz⟩ := R.bind_eq_ok.mp hz
  cases hz
  obtain ⟨s, h2⟩ := h as _ h3
  unfold dCall; rw [hs as _ h1]; simp only [R.bind_ok]; rw [h2]; rfl
theorem t_callR (j : Nat) {sem : Sem1} {F : Tp → List PyData → R (PyData × Tp)} {ds : DenA} {rs : R (List PyData × Tp)} (h : SemT sem F) (hs : Tg ds ρ τ rs) (h0 : isU (ρ.getD j .u) = false := by rfl) (hj : ∀ t, (τ t).getD j .u = .tp t := by exact fun _ => rfl) (hw : ∀ t t', (τ t).set j (.tp t') = τ t' := by exact fun _ _ => rfl) :
    Tg (dCallR sem j ds) ρ τ (rs.bindT fun as t => F t as) := fun z t hz => by
  obtain ⟨as, t1, h1, hz⟩ := R.bindT_eq_ok.mp hz
  obtain ⟨s, h2⟩ := h t1 as z t hz
  unfold dCallR; rw [h0, if_neg Bool.false_ne_true, hs as _ h1]; simp only [R.bind_ok]; rw [hj, h2]; simp only [R.bind_ok]
  show R.ok (z, (τ t1).set j (.tp t)) = _
  rw [hw]

/-! ### looks, slices -/
theorem p_2ee {da db : Den} {ra rb : R PyData} (ha : Pg da ρ ρ1 ra) (hb : Pg db ρ1 ρ2 rb) : Pg (d2ee da db) ρ ρ2 (ra.bind fun a => rb.bind fun b => .ok (a, b)) := fun z h => by
  obtain ⟨a, h1, h⟩ := R.bind_eq_ok.mp h
  obtain ⟨b, h2, h⟩ := R.bind_eq_ok.mp h
  cases h
  unfold d2ee; rw [ha a h1]; simp only [R.bind_ok]; rw [hb b h2]; rfl
theorem p_2pe (i : Nat) {db : Den} {rb : R PyData} {x : PyData} (hb : Pg db ρ ρ1 rb) (h : peek (ρ1.getD i .u) = .ok x := by rfl) (h0 : isU (ρ.getD i .u) = false := by rfl) : Pg (d2pe i db) ρ ρ1 (rb.bind fun b => .ok (x, b)) := fun z hz => by
  obtain ⟨b, h1, hz⟩ := R.bind_eq_ok.mp hz
  cases hz
  unfold d2pe; rw [h0, if_neg Bool.false_ne_true, hb b h1]; simp only [R.bind_ok]; rw [h]; rfl
theorem t_2pe (i : Nat) {db : Den} {rb : R (PyData × Tp)} {x : PyData} (hb : Tg db ρ τ rb) (h : ∀ t, peek ((τ t).getD i .u) = .ok x := by exact fun _ => rfl) (h0 : isU (ρ.getD i .u) = false := by rfl) : Tg (d2pe i db) ρ τ (rb.bindT fun b t => .ok ((x, b), t)) := fun z t hz => by
  obtain ⟨b, t1, h1, hz⟩ := R.bindT_eq_ok.mp hz
  cases hz
  unfold d2pe; rw [h0, if_neg Bool.false_ne_true, hb b _ h1]; simp only [R.bind_ok]; rw [h]; rfl
theorem p_2ep {da : Den} (i : Nat) {ra : R PyData} {x : PyData} (ha : Pg da ρ ρ1 ra) (h : peek (ρ1.getD i .u) = .ok x := by rfl) : Pg (d2ep da i) ρ ρ1 (ra.bind fun a => .ok (a, x)) := fun z hz => by
  obtain ⟨b, h1, hz⟩ := R.bind_eq_ok.mp hz
  cases hz
  unfold d2ep; rw [ha b h1]; simp only [R.bind_ok]; rw [h]; rfl
theorem t_2ep {da : Den} (i : Nat) {ra : R (PyData × Tp)} {x : PyData} (ha : Tg da ρ τ ra) (h : ∀ t, peek ((τ t).getD i .u) = .ok x := by exact fun _ => rfl) : Tg (d2ep da i) ρ τ (ra.bindT fun a t => .ok ((a, x), t)) := fun z t hz => by
  obtain ⟨b, t1, h1, hz⟩ := R.bindT_eq_ok.mp hz
  cases hz
  unfold d2ep; rw [ha b _ h1]; simp only [R.bind_ok]; rw [h]; rfl
theorem p_2pp (i j : Nat) {x y : PyData} (h : peek (ρ.getD i .u) = .ok x := by rfl) (h2 : peek (ρ.getD j .u) = .ok y := by rfl) : Pg (d2pp i j) ρ ρ (.ok (x, y)) := fun z hz => by
  cases hz
  unfold d2pp; rw [h]; simp only [R.bind_ok]; rw [h2]; rfl
theorem p_opP {f : PyData → PyData → R PyData} {d : Den2} {r : R (PyData × PyData)} (h : Pg d ρ ρ1 r) : Pg (dOpP f d) ρ ρ1 (r.bind fun p => f p.1 p.2) := fun z hz => by
  obtain ⟨p, h1, hz⟩ := R.bind_eq_ok.mp hz
  unfold dOpP; rw [h p h1]; simp only [R.bind_ok]; rw [hz]; rfl
theorem t_opP {f : PyData → PyData → R PyData} {d : Den2} {r : R ((PyData × PyData) × Tp)} (h : Tg d ρ τ r) : Tg (dOpP f d) ρ τ (r.bindT fun p t => (f p.1 p.2).bind fun z => .ok (z, t)) := fun z t hz => by
  obtain ⟨p, t1, h1, hz⟩ := R.bindT_eq_ok.mp hz
  obtain ⟨d, h3, hz⟩ := R.bind_eq_ok.mp hz
  cases hz
  unfold dOpP; rw [h p _ h1]; simp only [R.bind_ok]; rw [h3]; rfl
theorem p_opPk {f : List PyData → R PyData} (i : Nat) {x : PyData} (h : peek (ρ.getD i .u) = .ok x := by rfl) : Pg (dOpPk f i) ρ ρ (f [x]) := fun z hz => by
  unfold dOpPk; rw [h]; simp only [R.bind_ok]; rw [hz]; rfl
theorem p_testP (i : Nat) {x : PyData} (h : peek (ρ.getD i .u) = .ok x := by rfl) : Pg (dTestP i) ρ ρ (tru x) := fun z hz => by
  unfold dTestP; rw [h]; simp only [R.bind_ok]; rw [hz]; rfl
theorem p_no : Pg dNo ρ ρ (.ok none) := fun a e => by cases e; rfl
theorem p_some {da : Den} {ra : R PyData} (ha : Pg da ρ ρ1 ra) : Pg (dSome da) ρ ρ1 (ra.bind fun a => (isI a).bind fun i => .ok (some i)) := fun z h => by
  obtain ⟨a, h1, h⟩ := R.bind_eq_ok.mp h
  obtain ⟨i, h2, h⟩ := R.bind_eq_ok.mp h
  cases h
  unfold dSome; rw [ha a h1]; simp only [R.bind_ok]; rw [h2]; rfl
theorem p_sl {da : Den} {dl dh : DenO} {ra : R PyData} {rl rh : R (Option Int)} (ha : Pg da ρ ρ1 ra) (hl : Pg dl ρ1 ρ1 rl) (hh : Pg dh ρ1 ρ1 rh) : Pg (dSl da dl dh) ρ ρ1 (ra.bind fun a => rl.bind fun l => rh.bind fun h => fSl a l h) := fun z h => by
  obtain ⟨a, h1, h⟩ := R.bind_eq_ok.mp h
  obtain ⟨l, h2, h⟩ := R.bind_eq_ok.mp h
  obtain ⟨k, h3, h⟩ := R.bind_eq_ok.mp h
  unfold dSl; rw [ha a h1]; simp only [R.bind_ok]; rw [hl l h2]; simp only [R.bind_ok]; rw [hh k h3]; simp only [R.bind_ok]; rw [h]; rfl
theorem t_sl {da : Den} {dl dh : DenO} {ra : R (PyData × Tp)} {rl rh : R (Option Int)} (ha : Tg da ρ τ ra) (hl : ∀ t, Pg dl (τ t) (τ t) rl) (hh : ∀ t, Pg dh (τ t) (τ t) rh) : Tg (dSl da dl dh) ρ τ (ra.bindT fun a t => rl.bind fun l => rh.bind fun h => (fSl a l h).bind fun d => .ok (d, t)) := fun z t h => by
  obtain ⟨a, t1, h1, h⟩ := R.bindT_eq_ok.mp h
  obtain ⟨l, h2, h⟩ := R.bind_eq_ok.mp h
  obtain ⟨k, h3, h⟩ := R.bind_eq_ok.mp h
  obtain ⟨d, h4, h⟩ := R.bind_eq_ok.mp h
  cases h
  unfold dSl; rw [ha a _ h1]; simp only [R.bind_ok]; rw [hl _ l h2]; simp only [R.bind_ok]; rw [hh _ k h3]; simp only [R.bind_ok]; rw [h4]; rfl
theorem p_slP (i : Nat) {dl dh : DenO} {rl rh : R (Option Int)} {x : PyData} (hl : Pg dl ρ ρ rl) (hh : Pg dh ρ ρ rh) (h : peek (ρ.getD i .u) = .ok x := by rfl) (h0 : isU (ρ.getD i .u) = false := by rfl) : Pg (dSlP i dl dh) ρ ρ (rl.bind fun l => rh.bind fun h => fSl x l h) := fun z hz => by
  obtain ⟨l, h2, hz⟩ := R.bind_eq_ok.mp hz
  obtain ⟨k, h3, hz⟩ := R.bind_eq_ok.mp hz
  unfold dSlP; rw [h0, if_neg Bool.false_ne_true, hl l h2]; simp only [R.bind_ok]; rw [hh k h3]; simp only [R.bind_ok]; rw [h]; simp only [R.bind_ok]; rw [hz]; rfl
/-! ### dict displays -/
theorem p_ps0 : Pg dPs0 ρ ρ (.ok []) := fun a e => by cases e; rfl
theorem p_ps1 {da db : Den} {dr : DenPs} {ra rb : R PyData} {rr : R (List (PyData × PyData))} (ha : Pg da ρ ρ1 ra) (hb : Pg db ρ1 ρ2 rb) (hr : Pg dr ρ2 ρ3 rr) : Pg (dPs1 da db dr) ρ ρ3 (ra.bind fun a => rb.bind fun b => rr.bind fun ps => .ok ((a, b) :: ps)) := fun z h => by
  obtain ⟨a, h1, h⟩ := R.bind_eq_ok.mp h
  obtain ⟨b, h2, h⟩ := R.bind_eq_ok.mp h
  obtain ⟨c, h3, h⟩ := R.bind_eq_ok.mp h
  cases h
  unfold dPs1; rw [ha a h1]; simp only [R.bind_ok]; rw [hb b h2]; simp only [R.bind_ok]; rw [hr c h3]; rfl
def dispF (ps : List (PyData × PyData)) : R (List (PyData × PyData)) := match pairsD [] ps with
  | some ds => if ps.length ≤ 15 then .ok ds else .stk
  | none => .stk
/-- a new list, a new dict -/
def PnL (d : DenN) (ρ ρ' : Rho) (r : R (List PyData)) : Prop := ∀ a, r = .ok a → d ρ = .ok (.nl a, ρ')
def PnD (d : DenN) (ρ ρ' : Rho) (r : R (List (PyData × PyData))) : Prop := ∀ a, r = .ok a → d ρ = .ok (.nd a, ρ')
def TnL (d : DenN) (ρ : Rho) (τ : Tp → Rho) (r : R (List PyData × Tp)) : Prop := ∀ a t, r = .ok (a, t) → d ρ = .ok (.nl a, τ t)
theorem pn_disp {dp : DenPs} {rp : R (List (PyData × PyData))} (h : Pg dp ρ ρ1 rp) : PnD (dDisp dp) ρ ρ1 (rp.bind dispF) := fun z hz => by
  obtain ⟨ps, h1, hz⟩ := R.bind_eq_ok.mp hz
  unfold dispF at hz
  unfold dDisp; rw [h ps h1]; simp only [R.bind_ok]
  split at hz
  · rename_i ds e
    (try rw [e]); (try dsimp only)
    split at hz
    · rename_i hl; cases hz; rw [if_pos hl]
    · cases hz
  · cases hz
theorem pn_disp0 : PnD dNewD ρ ρ (.ok []) := fun z hz => by cases hz; rfl
theorem p_frzD {dn : DenN} {r : R (List (PyData × PyData))} (h : PnD dn ρ ρ1 r) : Pg (dFrz dn) ρ ρ1 (r.bind fun ds => .ok (.dict ds)) := fun z hz => by
  obtain ⟨a, h1, hz⟩ := R.bind_eq_ok.mp hz
  cases hz
  unfold dFrz; rw [h a h1]; rfl
def chkN (xs : List PyData) : R (List PyData) := if xs.length ≤ lineN then .ok xs else .stk
theorem pn_lst {ds : DenA} {rs : R (List PyData)} (hs : Pg ds ρ ρ1 rs) : PnL (dNl ds) ρ ρ1 (rs.bind chkN) := fun z h => by
  obtain ⟨a, h1, h⟩ := R.bind_eq_ok.mp h
  unfold chkN at h
  unfold dNl; rw [hs a h1]; simp only [R.bind_ok]
  split at h
  · rename_i hz; cases h; rw [if_pos hz]
  · cases h
theorem tn_lst {ds : DenA} {rs : R (List PyData × Tp)} (hs : Tg ds ρ τ rs) : TnL (dNl ds) ρ τ (rs.bindT fun as t => (chkN as).bind fun xs => .ok (xs, t)) := fun z t h => by
  obtain ⟨a, t1, h1, h⟩ := R.bindT_eq_ok.mp h
  obtain ⟨b, h2, h⟩ := R.bind_eq_ok.mp h
  cases h
  unfold chkN at h2
  unfold dNl; rw [hs a _ h1]; simp only [R.bind_ok]
  split at h2
  · rename_i hz; cases h2; rw [if_pos hz]
  · cases h2
def catF : PyData × PyData → R (List PyData)
  | (.list a, .list b) => if a.length + b.length ≤ lineN then .ok (a ++ b) else .stk
  | _ => .stk
theorem cat_eq (d : Den2) (ρ : Rho) : dCatN d ρ = (d ρ).bind fun r => (catF r.1).bind fun xs => .ok (.nl xs, r.2) := by
  unfold dCatN
  cases d ρ with
  | exc c x => rfl
  | stk => rfl
  | ok r =>
    obtain ⟨p, ρ1⟩ := r
    simp only [R.bind_ok]
    split
    · rename_i a b
      show _ = (if a.length + b.length ≤ lineN then _ else _ : R (List PyData)).bind _
      split <;> rfl
    · rename_i hn
      unfold catF
      split
      · exact absurd rfl (hn _ _)
      · rfl
theorem pn_cat {d : Den2} {r : R (PyData × PyData)} (h : Pg d ρ ρ1 r) : PnL (dCatN d) ρ ρ1 (r.bind catF) := fun z hz => by
  obtain ⟨p, h1, hz⟩ := R.bind_eq_ok.mp hz
  rw [cat_eq, h p h1]; simp only [R.bind_ok]; rw [hz]; rfl
theorem tn_cat {d : Den2} {r : R ((PyData × PyData) × Tp)} (h : Tg d ρ τ r) : TnL (dCatN d) ρ τ (r.bindT fun p t => (catF p).bind fun xs => .ok (xs, t)) := fun z t hz => by
  obtain ⟨p, t1, h1, hz⟩ := R.bindT_eq_ok.mp hz
  obtain ⟨b, h2, hz⟩ := R.bind_eq_ok.mp hz
  cases hz
  rw [cat_eq, h p _ h1]; simp only [R.bind_ok]; rw [h2]; rfl
def listF : PyData → R (List PyData)
  | .list xs => .ok xs
  | .tuple xs => .ok xs
  | _ => .stk
theorem pn_list {da : Den} {ra : R PyData} (ha : Pg da ρ ρ1 ra) : PnL (dListN da) ρ ρ1 (ra.bind listF) := fun z hz => by
  obtain ⟨a, h1, hz⟩ := R.bind_eq_ok.mp hz
  unfold dListN; rw [ha a h1]; simp only [R.bind_ok]
  cases a <;> first | (cases hz; rfl) | cases hz
end
end L2.DY

end
section
/-! DyFn3: statements and defs as plain functions. -/
namespace L2.DY
open PySem PySem.Spec PyProof.Rows
/-- what a def gives -/
def OutRP (d : PyData) (rs : RS) : Prop := ∃ ρ', rs = .rt d ρ'
def OutRT (j : Nat) (z : PyData × Tp) (rs : RS) : Prop := ∃ ρ', rs = .rt z.1 ρ' ∧ ρ'.getD j .u = .tp z.2
def OutF (d : PyData) (rs : RS) : Prop := OutRP d rs ∨ (d = .none ∧ ∃ ρ', rs = .nx ρ')
def OutT (j : Nat) (z : PyData × Tp) (rs : RS) : Prop := OutRT j z rs ∨ (z.1 = .none ∧ ∃ ρ', rs = .nx ρ' ∧ ρ'.getD j .u = .tp z.2)
/-- what a turn of a loop gives -/
inductive LR (S D : Type) where
  | nx (s : S)
  | rt (d : D)
  | bk (s : S)
def OutL {S D : Type} (φ : S → Rho) (ts : List Nat) (OutR : D → RS → Prop) (l : LR S D) (rs : RS) : Prop := match l with
  | .nx s => ∃ ρ', (rs = .nx ρ' ∨ rs = .ct ρ') ∧ wipeR ρ' ts = φ s
  | .bk s => ∃ ρ', rs = .bk ρ' ∧ wipeR ρ' ts = φ s
  | .rt d => OutR d rs
theorem inlP (d : PyData) (rs : RS) (h : OutRP d rs) : OutF d rs := .inl h
theorem inlT (j : Nat) (d : PyData × Tp) (rs : RS) (h : OutRT j d rs) : OutT j d rs := .inl h
theorem rtL {S D : Type} (φ : S → Rho) (ts : List Nat) (OutR : D → RS → Prop) (d : D) (rs : RS) (h : OutR d rs) : OutL φ ts OutR (LR.rt d : LR S D) rs := h
def OutJ {S : Type} (φ : S → Rho) (s : S) (rs : RS) : Prop := rs = .nx (φ s)
def RetOk {D : Type} (OutR : D → RS → Prop) : Prop := ∀ d rs, OutR d rs → ∃ e ρ', rs = .rt e ρ'
theorem retP : RetOk OutRP := fun d rs ⟨ρ', h⟩ => ⟨_, _, h⟩
theorem retT {j : Nat} : RetOk (OutRT j) := fun d rs ⟨ρ', h, _⟩ => ⟨_, _, h⟩
def Sg {β : Type} (s : SDen) (ρ : Rho) (Out : β → RS → Prop) (r : R β) : Prop := ∀ z, r = .ok z → Out z (s ρ)
def l2 {β : Type} (k : PyData → PyData → R β) : List PyData → R β
  | [a, b] => k a b
  | _ => .stk
def l3 {β : Type} (k : PyData → PyData → PyData → R β) : List PyData → R β
  | [a, b, c] => k a b c
  | _ => .stk
theorem l2_eq_ok {β : Type} {k : PyData → PyData → R β} {as : List PyData} {z : β} (h : l2 k as = .ok z) : ∃ a b, as = [a, b] ∧ k a b = .ok z := by
  unfold l2 at h
  split at h
  · exact ⟨_, _, rfl, h⟩
  · cases h
theorem l3_eq_ok {β : Type} {k : PyData → PyData → PyData → R β} {as : List PyData} {z : β} (h : l3 k as = .ok z) : ∃ a b c, as = [a, b, c] ∧ k a b c = .ok z := by
  unfold l3 at h
  split at h
  · exact ⟨_, _, _, rfl, h⟩
  · cases h
section
variable {β : Type} {Out : β → RS → Prop} {ρ ρ1 ρ2 ρ3 : Rho} {τ τ1 τ2 τ3 : Tp → Rho} {s t u v : SDen}
theorem sg_k {z : β} (h : Out z (s ρ)) : Sg s ρ Out (.ok z) := fun w e => by cases e; exact h
theorem sg_eq {r : R β} (e : s ρ = t ρ) (h : Sg t ρ Out r) : Sg s ρ Out r := fun z hz => by rw [e]; exact h z hz
theorem sg_last {r : R β} (h : Sg (dSeq t dNext) ρ Out r) : Sg t ρ Out r := sg_eq (by unfold dSeq dNext; cases t ρ <;> rfl) h
theorem sg_next {r : R β} (h : Sg u ρ Out r) : Sg (dSeq dNext u) ρ Out r := h
theorem sg_assoc {r : R β} (h : Sg (dSeq s (dSeq t u)) ρ Out r) : Sg (dSeq (dSeq s t) u) ρ Out r := sg_eq (by unfold dSeq; cases s ρ <;> rfl) h
theorem sg_ret {da : Den} {ra : R PyData} (inj : PyData → β) (ha : Pg da ρ ρ1 ra) (ho : ∀ a, Out (inj a) (.rt a ρ1)) : Sg (dRet da) ρ Out (ra.bind fun a => .ok (inj a)) := fun z h => by
  obtain ⟨a, h1, h⟩ := R.bind_eq_ok.mp h
  cases h
  unfold dRet; rw [ha a h1]; exact ho a
theorem sg_retT {da : Den} {ra : R (PyData × Tp)} (inj : PyData → Tp → β) (ha : Tg da ρ τ ra) (ho : ∀ a t, Out (inj a t) (.rt a (τ t))) : Sg (dRet da) ρ Out (ra.bindT fun a t => .ok (inj a t)) := fun z h => by
  obtain ⟨a, t, h1, h⟩ := R.bindT_eq_ok.mp h
  cases h
  unfold dRet; rw [ha a t h1]; exact ho a t
theorem sg_retS {da : Den} {r : R β} (h : Sg (dRet da) ρ Out r) : Sg (dSeq (dRet da) u) ρ Out r := sg_eq (by unfold dSeq dRet; cases da ρ <;> rfl) h
theorem sg_bkS {r : R β} (h : Sg (fun ρ => .bk ρ) ρ Out r) : Sg (dSeq (fun ρ => .bk ρ) u) ρ Out r := h
theorem sg_ctS {r : R β} (h : Sg (fun ρ => .ct ρ) ρ Out r) : Sg (dSeq (fun ρ => .ct ρ) u) ρ Out r := h
theorem sg_rtS {d : PyData} {r : R β} (h : Sg (fun ρ => .rt d ρ) ρ Out r) : Sg (dSeq (fun ρ => .rt d ρ) u) ρ Out r := h
theorem sg_set {i : Nat} {da : Den} {ra : R PyData} {k : PyData → R β} (ha : Pg da ρ ρ1 ra) (hk : ∀ a, Sg u (ρ1.set i (.d a)) Out (k a)) : Sg (dSeq (dSet i da) u) ρ Out (ra.bind k) := fun z h => by
  obtain ⟨a, h1, h⟩ := R.bind_eq_ok.mp h
  unfold dSeq dSet; rw [ha a h1]; exact hk a z h
theorem sg_setT {i : Nat} {da : Den} {ra : R (PyData × Tp)} {k : PyData → Tp → R β} (ha : Tg da ρ τ ra) (hk : ∀ a t, Sg u ((τ t).set i (.d a)) Out (k a t)) : Sg (dSeq (dSet i da) u) ρ Out (ra.bindT k) := fun z h => by
  obtain ⟨a, t, h1, h⟩ := R.bindT_eq_ok.mp h
  unfold dSeq dSet; rw [ha a t h1]; exact hk a t z h
theorem sg_drop {da : Den} {ra : R PyData} {k : R β} (ha : Pg da ρ ρ1 ra) (hk : Sg u ρ1 Out k) : Sg (dSeq (dDrop da) u) ρ Out (ra.bind fun _ => k) := fun z h => by
  obtain ⟨a, h1, h⟩ := R.bind_eq_ok.mp h
  unfold dSeq dDrop; rw [ha a h1]; exact hk z h
theorem sg_dropT {da : Den} {ra : R (PyData × Tp)} {k : Tp → R β} (ha : Tg da ρ τ ra) (hk : ∀ t, Sg u (τ t) Out (k t)) : Sg (dSeq (dDrop da) u) ρ Out (ra.bindT fun _ t => k t) := fun z h => by
  obtain ⟨a, t, h1, h⟩ := R.bindT_eq_ok.mp h
  unfold dSeq dDrop; rw [ha a t h1]; exact hk t z h
theorem sg_if {c : DenB} {rc : R Bool} {ra rb : R β} (hc : Pg c ρ ρ1 rc) (ha : Sg (dSeq s u) ρ1 Out ra) (hb : Sg (dSeq t u) ρ1 Out rb) : Sg (dSeq (dIfS c s t) u) ρ Out (rc.bind fun b => if b then ra else rb) := fun z h => by
  obtain ⟨b, h1, h⟩ := R.bind_eq_ok.mp h
  have e : dSeq (dIfS c s t) u ρ = if b then dSeq s u ρ1 else dSeq t u ρ1 := by
    unfold dSeq dIfS; rw [hc b h1]; cases b <;> rfl
  rw [e]
  cases b with
  | true => rw [if_pos rfl] at h ⊢; exact ha z h
  | false => rw [if_neg Bool.false_ne_true] at h ⊢; exact hb z h
theorem sg_ifT {c : DenB} {rc : R (Bool × Tp)} {ra rb : Tp → R β} (hc : Tg c ρ τ rc) (ha : ∀ x, Sg (dSeq s u) (τ x) Out (ra x)) (hb : ∀ x, Sg (dSeq t u) (τ x) Out (rb x)) : Sg (dSeq (dIfS c s t) u) ρ Out (rc.bindT fun b x => if b then ra x else rb x) := fun z h => by
  obtain ⟨b, x, h1, h⟩ := R.bindT_eq_ok.mp h
  have e : dSeq (dIfS c s t) u ρ = if b then dSeq s u (τ x) else dSeq t u (τ x) := by
    unfold dSeq dIfS; rw [hc b x h1]; cases b <;> rfl
  rw [e]
  cases b with
  | true => rw [if_pos rfl] at h ⊢; exact ha x z h
  | false => rw [if_neg Bool.false_ne_true] at h ⊢; exact hb x z h
/-- an if whose branches meet again -/
theorem sg_ifJ {S : Type} (φ : S → Rho) {c : DenB} {rc : R Bool} {ra rb : R S} {k : S → R β} (hc : Pg c ρ ρ1 rc) (ha : Sg s ρ1 (OutJ φ) ra) (hb : Sg t ρ1 (OutJ φ) rb) (hk : ∀ x, Sg u (φ x) Out (k x)) : Sg (dSeq (dIfS c s t) u) ρ Out ((rc.bind fun b => if b then ra else rb).bind k) := fun z h => by
  obtain ⟨x, h1, h⟩ := R.bind_eq_ok.mp h
  obtain ⟨b, h2, h1⟩ := R.bind_eq_ok.mp h1
  have e : dSeq (dIfS c s t) u ρ = if b then dSeq s u ρ1 else dSeq t u ρ1 := by
    unfold dSeq dIfS; rw [hc b h2]; cases b <;> rfl
  rw [e]
  cases b with
  | true =>
    rw [if_pos rfl] at h1 ⊢
    have := ha x h1
    unfold dSeq; rw [show s ρ1 = .nx (φ x) from this]; exact hk x z h
  | false =>
    rw [if_neg Bool.false_ne_true] at h1 ⊢
    have := hb x h1
    unfold dSeq; rw [show t ρ1 = .nx (φ x) from this]; exact hk x z h
theorem sg_ifJT {S : Type} (φ : S → Rho) {c : DenB} {rc : R (Bool × Tp)} {ra rb : Tp → R S} {k : S → R β} (hc : Tg c ρ τ rc) (ha : ∀ x, Sg s (τ x) (OutJ φ) (ra x)) (hb : ∀ x, Sg t (τ x) (OutJ φ) (rb x)) (hk : ∀ x, Sg u (φ x) Out (k x)) : Sg (dSeq (dIfS c s t) u) ρ Out ((rc.bindT fun b x => if b then ra x else rb x).bind k) := fun z h => by
  obtain ⟨x, h1, h⟩ := R.bind_eq_ok.mp h
  obtain ⟨b, y, h2, h1⟩ := R.bindT_eq_ok.mp h1
  have e : dSeq (dIfS c s t) u ρ = if b then dSeq s u (τ y) else dSeq t u (τ y) := by
    unfold dSeq dIfS; rw [hc b y h2]; cases b <;> rfl
  rw [e]
  cases b with
  | true =>
    rw [if_pos rfl] at h1 ⊢
    have := ha y x h1
    unfold dSeq; rw [show s (τ y) = .nx (φ x) from this]; exact hk x z h
  | false =>
    rw [if_neg Bool.false_ne_true] at h1 ⊢
    have := hb y x h1
    unfold dSeq; rw [show t (τ y) = .nx (φ x) from this]; exact hk x z h
theorem sg_par {i j : Nat} {ds : DenA} {rs : R (List PyData)} {k : PyData → PyData → R β} (hs : Pg ds ρ ρ1 rs) (hk : ∀ a b, Sg u ((ρ1.set i (.d a)).set j (.d b)) Out (k a b)) : Sg (dSeq (dPar i j ds) u) ρ Out (rs.bind (l2 k)) := fun z h => by
  obtain ⟨as, h1, h⟩ := R.bind_eq_ok.mp h
  obtain ⟨a, b, rfl, h⟩ := l2_eq_ok h
  unfold dSeq dPar; rw [hs _ h1]; exact hk a b z h
theorem sg_parT {i j : Nat} {ds : DenA} {rs : R (List PyData × Tp)} {k : PyData → PyData → Tp → R β} (hs : Tg ds ρ τ rs) (hk : ∀ a b t, Sg u (((τ t).set i (.d a)).set j (.d b)) Out (k a b t)) : Sg (dSeq (dPar i j ds) u) ρ Out (rs.bindT fun as t => l2 (fun a b => k a b t) as) := fun z h => by
  obtain ⟨as, t, h1, h⟩ := R.bindT_eq_ok.mp h
  obtain ⟨a, b, rfl, h⟩ := l2_eq_ok h
  unfold dSeq dPar; rw [hs _ _ h1]; exact hk a b t z h
theorem sg_par3 {i j l : Nat} {ds : DenA} {rs : R (List PyData)} {k : PyData → PyData → PyData → R β} (hs : Pg ds ρ ρ1 rs) (hk : ∀ a b c, Sg u (((ρ1.set i (.d a)).set j (.d b)).set l (.d c)) Out (k a b c)) : Sg (dSeq (dPar3 i j l ds) u) ρ Out (rs.bind (l3 k)) := fun z h => by
  obtain ⟨as, h1, h⟩ := R.bind_eq_ok.mp h
  obtain ⟨a, b, c, rfl, h⟩ := l3_eq_ok h
  unfold dSeq dPar3; rw [hs _ h1]; exact hk a b c z h
theorem sg_par3T {i j l : Nat} {ds : DenA} {rs : R (List PyData × Tp)} {k : PyData → PyData → PyData → Tp → R β} (hs : Tg ds ρ τ rs) (hk : ∀ a b c t, Sg u ((((τ t).set i (.d a)).set j (.d b)).set l (.d c)) Out (k a b c t)) : Sg (dSeq (dPar3 i j l ds) u) ρ Out (rs.bindT fun as t => l3 (fun a b c => k a b c t) as) := fun z h => by
  obtain ⟨as, t, h1, h⟩ := R.bindT_eq_ok.mp h
  obtain ⟨a, b, c, rfl, h⟩ := l3_eq_ok h
  unfold dSeq dPar3; rw [hs _ _ h1]; exact hk a b c t z h
theorem sg_asg2 {i j : Nat} {da : Den} {ra : R PyData} {k : PyData → PyData → R β} (ha : Pg da ρ ρ1 ra) (hk : ∀ a b, Sg u ((ρ1.set i (.d a)).set j (.d b)) Out (k a b)) : Sg (dSeq (dAsg da (gd2 i j)) u) ρ Out (ra.bind fun a => un2 a k) := fun z h => by
  obtain ⟨a, h1, h⟩ := R.bind_eq_ok.mp h
  obtain ⟨x, y, rfl, h⟩ := un2_eq_ok h
  unfold dSeq dAsg; rw [ha _ h1]; exact hk x y z h
theorem sg_asg2T {i j : Nat} {da : Den} {ra : R (PyData × Tp)} {k : PyData → PyData → Tp → R β} (ha : Tg da ρ τ ra) (hk : ∀ a b t, Sg u (((τ t).set i (.d a)).set j (.d b)) Out (k a b t)) : Sg (dSeq (dAsg da (gd2 i j)) u) ρ Out (ra.bindT fun a t => un2 a fun x y => k x y t) := fun z h => by
  obtain ⟨a, t, h1, h⟩ := R.bindT_eq_ok.mp h
  obtain ⟨x, y, rfl, h⟩ := un2_eq_ok h
  unfold dSeq dAsg; rw [ha _ _ h1]; exact hk x y t z h
theorem sg_asg3 {i j l : Nat} {da : Den} {ra : R PyData} {k : PyData → PyData → PyData → R β} (ha : Pg da ρ ρ1 ra) (hk : ∀ a b c, Sg u (((ρ1.set i (.d a)).set j (.d b)).set l (.d c)) Out (k a b c)) : Sg (dSeq (dAsg da (gd3 i j l)) u) ρ Out (ra.bind fun a => un3 a k) := fun z h => by
  obtain ⟨a, h1, h⟩ := R.bind_eq_ok.mp h
  obtain ⟨x, y, w, rfl, h⟩ := un3_eq_ok h
  unfold dSeq dAsg; rw [ha _ h1]; exact hk x y w z h
theorem sg_aug {i : Nat} {f : PyData → PyData → R PyData} {da : Den} {ra : R PyData} {x : PyData} {k : PyData → R β} (ha : Pg da ρ ρ1 ra) (hk : ∀ d, Sg u (ρ1.set i (.d d)) Out (k d)) (hx : ρ.getD i .u = .d x := by rfl) : Sg (dSeq (dAug i f da) u) ρ Out (ra.bind fun b => (f x b).bind k) := fun z h => by
  obtain ⟨b, h1, h⟩ := R.bind_eq_ok.mp h
  obtain ⟨d, h2, h⟩ := R.bind_eq_ok.mp h
  unfold dSeq dAug; rw [hx]; simp only [slD, R.then_ok]; rw [ha b h1]; simp only [R.then_ok]; rw [h2]; exact hk d z h
theorem sg_augT {i : Nat} {f : PyData → PyData → R PyData} {da : Den} {ra : R (PyData × Tp)} {x : PyData} {k : PyData → Tp → R β} (ha : Tg da ρ τ ra) (hk : ∀ d t, Sg u ((τ t).set i (.d d)) Out (k d t)) (hx : ρ.getD i .u = .d x := by rfl) : Sg (dSeq (dAug i f da) u) ρ Out (ra.bindT fun b t => (f x b).bind fun d => k d t) := fun z h => by
  obtain ⟨b, t, h1, h⟩ := R.bindT_eq_ok.mp h
  obtain ⟨d, h2, h⟩ := R.bind_eq_ok.mp h
  unfold dSeq dAug; rw [hx]; simp only [slD, R.then_ok]; rw [ha b _ h1]; simp only [R.then_ok]; rw [h2]; exact hk d t z h
/-- new things -/
def Pn {γ : Type} (inj : γ → Nv) (d : DenN) (ρ ρ' : Rho) (r : R γ) : Prop := ∀ a, r = .ok a → d ρ = .ok (inj a, ρ')
def Tn {γ : Type} (inj : γ → Nv) (d : DenN) (ρ : Rho) (τ : Tp → Rho) (r : R (γ × Tp)) : Prop := ∀ a t, r = .ok (a, t) → d ρ = .ok (inj a, τ t)
theorem pn_d {da : Den} {ra : R PyData} (ha : Pg da ρ ρ1 ra) : Pn Nv.d (dN da) ρ ρ1 ra := fun a h => by unfold dN; rw [ha a h]; rfl
theorem tn_d {da : Den} {ra : R (PyData × Tp)} (ha : Tg da ρ τ ra) : Tn Nv.d (dN da) ρ τ ra := fun a t h => by unfold dN; rw [ha a t h]; rfl
theorem pn_t {γ : Type} {inj : γ → Nv} {d : DenN} {r : R γ} {t : Tp} (h : Pn inj d ρ ρ1 r) (e : ρ1 = τ t) : Tn inj d ρ τ (r.bind fun a => .ok (a, t)) := fun a t' h' => by
  obtain ⟨b, h1, h2⟩ := R.bind_eq_ok.mp h'
  cases h2
  rw [h _ h1, e]
theorem sg_new {γ : Type} {inj : γ → Nv} {i : Nat} {dn : DenN} {r : R γ} {k : γ → R β} (hn : Pn inj dn ρ ρ1 r) (hk : ∀ z, Sg u (ρ1.set i (inj z).sl) Out (k z)) : Sg (dSeq (dNew i dn) u) ρ Out (r.bind k) := fun z h => by
  obtain ⟨a, h1, h⟩ := R.bind_eq_ok.mp h
  unfold dSeq dNew; rw [hn a h1]; exact hk a z h
theorem sg_newT {γ : Type} {inj : γ → Nv} {i : Nat} {dn : DenN} {r : R (γ × Tp)} {k : γ → Tp → R β} (hn : Tn inj dn ρ τ r) (hk : ∀ z t, Sg u ((τ t).set i (inj z).sl) Out (k z t)) : Sg (dSeq (dNew i dn) u) ρ Out (r.bindT k) := fun z h => by
  obtain ⟨a, t, h1, h⟩ := R.bindT_eq_ok.mp h
  unfold dSeq dNew; rw [hn a t h1]; exact hk a t z h
theorem sg_parN {γ δ : Type} {inj : γ → Nv} {inj2 : δ → Nv} {i j : Nat} {da db : DenN} {ra : R γ} {rb : R δ} {k : γ → δ → R β} (ha : Pn inj da ρ ρ1 ra) (hb : Pn inj2 db ρ1 ρ2 rb) (hk : ∀ a b, Sg u ((ρ2.set i (inj a).sl).set j (inj2 b).sl) Out (k a b)) : Sg (dSeq (dParN i j da db) u) ρ Out (ra.bind fun a => rb.bind fun b => k a b) := fun z h => by
  obtain ⟨a, h1, h⟩ := R.bind_eq_ok.mp h
  obtain ⟨b, h2, h⟩ := R.bind_eq_ok.mp h
  unfold dSeq dParN; rw [ha a h1]; simp only [R.then_ok]; rw [hb b h2]; exact hk a b z h
theorem sg_parNT {γ δ : Type} {inj : γ → Nv} {inj2 : δ → Nv} {i j : Nat} {da db : DenN} {ra : R (γ × Tp)} {rb : Tp → R (δ × Tp)} {k : γ → δ → Tp → R β} (ha : Tn inj da ρ τ1 ra) (hb : ∀ t, Tn inj2 db (τ1 t) τ (rb t)) (hk : ∀ a b t, Sg u (((τ t).set i (inj a).sl).set j (inj2 b).sl) Out (k a b t)) : Sg (dSeq (dParN i j da db) u) ρ Out (ra.bindT fun a t => (rb t).bindT fun b t => k a b t) := fun z h => by
  obtain ⟨a, t, h1, h⟩ := R.bindT_eq_ok.mp h
  obtain ⟨b, t', h2, h⟩ := R.bindT_eq_ok.mp h
  unfold dSeq dParN; rw [ha a t h1]; simp only [R.then_ok]; rw [hb t b t' h2]; exact hk a b t' z h
/-- x.append(e), x.extend(e), x.pop(0) -/
def appF (xs : List PyData) (a : PyData) (k : List PyData → R β) : R β := if xs.length < lineN then k (xs ++ [a]) else .stk
def extF (xs : List PyData) (a : PyData) (k : List PyData → R β) : R β := match a with
  | .list zs => if xs.length + zs.length ≤ lineN then k (xs ++ zs) else .stk
  | _ => .stk
def popF (xs : List PyData) (k : PyData → List PyData → R β) : R β := match xs with
  | y :: ys => k y ys
  | [] => .stk
def popL (xs : List PyData) (k : PyData → List PyData → R β) : R β := match xs.getLast? with
  | some y => k y xs.dropLast
  | none => .stk
theorem sg_app {i : Nat} {da : Den} {ra : R PyData} {xs : List PyData} {k : List PyData → R β} (ha : Pg da ρ ρ1 ra) (hk : ∀ ys, Sg u (ρ1.set i (.ol ys)) Out (k ys)) (h0 : ∃ ys, ρ.getD i .u = .ol ys := by exact ⟨_, rfl⟩) (hx : ρ1.getD i .u = .ol xs := by rfl) : Sg (dSeq (dDrop (dApp i da)) u) ρ Out (ra.bind fun a => appF xs a k) := fun z h => by
  obtain ⟨a, h1, h⟩ := R.bind_eq_ok.mp h
  obtain ⟨ys, h0⟩ := h0
  unfold appF at h
  unfold dSeq dDrop dApp; rw [h0]; simp only [onOl]; rw [ha a h1]; simp only [R.bind_ok]; rw [hx]; dsimp only
  split at h
  · rename_i hz; rw [if_pos hz]; exact hk _ z h
  · cases h
theorem sg_appT {i : Nat} {da : Den} {ra : R (PyData × Tp)} {xs : List PyData} {k : List PyData → Tp → R β} (ha : Tg da ρ τ ra) (hk : ∀ ys t, Sg u ((τ t).set i (.ol ys)) Out (k ys t)) (h0 : ∃ ys, ρ.getD i .u = .ol ys := by exact ⟨_, rfl⟩) (hx : ∀ t, (τ t).getD i .u = .ol xs := by exact fun _ => rfl) : Sg (dSeq (dDrop (dApp i da)) u) ρ Out (ra.bindT fun a t => appF xs a fun ys => k ys t) := fun z h => by
  obtain ⟨a, t, h1, h⟩ := R.bindT_eq_ok.mp h
  obtain ⟨ys, h0⟩ := h0
  unfold appF at h
  unfold dSeq dDrop dApp; rw [h0]; simp only [onOl]; rw [ha a _ h1]; simp only [R.bind_ok]; rw [hx]; dsimp only
  split at h
  · rename_i hz; rw [if_pos hz]; exact hk _ t z h
  · cases h
theorem sg_ext {i : Nat} {da : Den} {ra : R PyData} {xs : List PyData} {k : List PyData → R β} (ha : Pg da ρ ρ1 ra) (hk : ∀ ys, Sg u (ρ1.set i (.ol ys)) Out (k ys)) (h0 : ∃ ys, ρ.getD i .u = .ol ys := by exact ⟨_, rfl⟩) (hx : ρ1.getD i .u = .ol xs := by rfl) : Sg (dSeq (dDrop (dExt i da)) u) ρ Out (ra.bind fun a => extF xs a k) := fun z h => by
  obtain ⟨a, h1, h⟩ := R.bind_eq_ok.mp h
  obtain ⟨ys, h0⟩ := h0
  unfold extF at h
  unfold dSeq dDrop dExt; rw [h0]; simp only [onOl]; rw [ha a h1]; simp only [R.bind_ok]; rw [hx]; dsimp only
  split at h
  · (try dsimp only)
    split at h
    · rename_i hz; rw [if_pos hz]; exact hk _ z h
    · cases h
  · cases h
theorem sg_extT {i : Nat} {da : Den} {ra : R (PyData × Tp)} {xs : List PyData} {k : List PyData → Tp → R β} (ha : Tg da ρ τ ra) (hk : ∀ ys t, Sg u ((τ t).set i (.ol ys)) Out (k ys t)) (h0 : ∃ ys, ρ.getD i .u = .ol ys := by exact ⟨_, rfl⟩) (hx : ∀ t, (τ t).getD i .u = .ol xs := by exact fun _ => rfl) : Sg (dSeq (dDrop (dExt i da)) u) ρ Out (ra.bindT fun a t => extF xs a fun ys => k ys t) := fun z h => by
  obtain ⟨a, t, h1, h⟩ := R.bindT_eq_ok.mp h
  obtain ⟨ys, h0⟩ := h0
  unfold extF at h
  unfold dSeq dDrop dExt; rw [h0]; simp only [onOl]; rw [ha a _ h1]; simp only [R.bind_ok]; rw [hx]; dsimp only
  split at h
  · (try dsimp only)
    split at h
    · rename_i hz; rw [if_pos hz]; exact hk _ t z h
    · cases h
  · cases h
theorem sg_pop0Set {i j : Nat} {xs : List PyData} {k : PyData → List PyData → R β} (hk : ∀ y ys, Sg u ((ρ.set i (.ol ys)).set j (.d y)) Out (k y ys)) (hx : ρ.getD i .u = .ol xs := by rfl) : Sg (dSeq (dSet j (dPopI i (dC (.int 0)))) u) ρ Out (popF xs k) := fun z h => by
  unfold popF at h
  unfold dSeq dSet dPopI dC; rw [hx]; simp only [onOl, R.bind_ok]; rw [hx]; dsimp only
  split at h
  · exact hk _ _ z h
  · cases h
theorem sg_pop0Asg2 {i j l : Nat} {xs : List PyData} {k : PyData → PyData → List PyData → R β} (hk : ∀ a b ys, Sg u (((ρ.set i (.ol ys)).set j (.d a)).set l (.d b)) Out (k a b ys)) (hx : ρ.getD i .u = .ol xs := by rfl) : Sg (dSeq (dAsg (dPopI i (dC (.int 0))) (gd2 j l)) u) ρ Out (popF xs fun y ys => un2 y fun a b => k a b ys) := fun z h => by
  unfold popF at h
  unfold dSeq dAsg dPopI dC; rw [hx]; simp only [onOl, R.bind_ok]; rw [hx]; dsimp only
  split at h
  · obtain ⟨a, b, rfl, h⟩ := un2_eq_ok h
    exact hk a b _ z h
  · cases h
theorem sg_popSet {i j : Nat} {xs : List PyData} {k : PyData → List PyData → R β} (hk : ∀ y ys, Sg u ((ρ.set i (.ol ys)).set j (.d y)) Out (k y ys)) (hx : ρ.getD i .u = .ol xs := by rfl) : Sg (dSeq (dSet j (dPop i)) u) ρ Out (popL xs k) := fun z h => by
  unfold popL at h
  unfold dSeq dSet dPop; rw [hx]; simp only [onOl]
  split at h
  · rename_i y e; (try rw [e]); exact hk _ _ z h
  · cases h
theorem sg_popAsg2 {i j l : Nat} {xs : List PyData} {k : PyData → PyData → List PyData → R β} (hk : ∀ a b ys, Sg u (((ρ.set i (.ol ys)).set j (.d a)).set l (.d b)) Out (k a b ys)) (hx : ρ.getD i .u = .ol xs := by rfl) : Sg (dSeq (dAsg (dPop i) (gd2 j l)) u) ρ Out (popL xs fun y ys => un2 y fun a b => k a b ys) := fun z h => by
  unfold popL at h
  unfold dSeq dAsg dPop; rw [hx]; simp only [onOl]
  split at h
  · rename_i y e
    (try rw [e])
    obtain ⟨a, b, rfl, h⟩ := un2_eq_ok h
    exact hk a b _ z h
  · cases h
theorem sg_box {mk : List Int → Tp} {j : Nat} {ns : List Int} {r : R β} (h : Sg u (ρ.set j (.tp (mk ns))) Out r) (hj : j < ρ.length := by decide) : Sg (dSeq (dBoxG mk j ns) u) ρ Out r := fun z hz => by
  unfold dSeq dBoxG; rw [if_pos hj]; exact h z hz
/-! ### loops -/
def forR {S D : Type} (B : PyData → S → R (LR S D)) : List PyData → S → R (LR S D)
  | [], s => .ok (.nx s)
  | x :: xs, s => (B x s).bind fun l => match l with
    | .nx s => forR B xs s
    | .rt d => .ok (.rt d)
    | .bk s => .ok (.bk s)
def finL {S D : Type} (k : S → R β) (inj : D → β) : LR S D → R β
  | .nx s => k s
  | .bk s => k s
  | .rt d => .ok (inj d)
/-- a turn: the target stored, then the body -/
def Bd {S D : Type} (g : GDen) (b : SDen) (φ : S → Rho) (ts : List Nat) (OutR : D → RS → Prop) (B : PyData → S → R (LR S D)) : Prop := ∀ x s z, B x s = .ok z → ∃ ρ', g x (φ s) = .ok ρ' ∧ OutL φ ts OutR z (b ρ')
theorem bd1 {S D : Type} {i : Nat} {b : SDen} {φ : S → Rho} {ts : List Nat} {OutR : D → RS → Prop} {B : PyData → S → R (LR S D)} (h : ∀ x s, Sg b ((φ s).set i (.d x)) (OutL φ ts OutR) (B x s)) : Bd (gdName i) b φ ts OutR B := fun x s z hz => ⟨_, rfl, h x s z hz⟩
theorem bd2 {S D : Type} {i j : Nat} {b : SDen} {φ : S → Rho} {ts : List Nat} {OutR : D → RS → Prop} {B : PyData → PyData → S → R (LR S D)} (h : ∀ x y s, Sg b (((φ s).set i (.d x)).set j (.d y)) (OutL φ ts OutR) (B x y s)) : Bd (gd2 i j) b φ ts OutR (fun x s => un2 x fun a b => B a b s) := fun x s z hz => by
  obtain ⟨a, c, rfl, hz⟩ := un2_eq_ok hz
  exact ⟨_, rfl, h a c s z hz⟩
theorem bd3 {S D : Type} {i j l : Nat} {b : SDen} {φ : S → Rho} {ts : List Nat} {OutR : D → RS → Prop} {B : PyData → PyData → PyData → S → R (LR S D)} (h : ∀ x y w s, Sg b ((((φ s).set i (.d x)).set j (.d y)).set l (.d w)) (OutL φ ts OutR) (B x y w s)) : Bd (gd3 i j l) b φ ts OutR (fun x s => un3 x fun a b c => B a b c s) := fun x s z hz => by
  obtain ⟨a, c, e, rfl, hz⟩ := un3_eq_ok hz
  exact ⟨_, rfl, h a c e s z hz⟩
theorem forR_ok {S D : Type} {g : GDen} {b : SDen} {φ : S → Rho} {ts : List Nat} {OutR : D → RS → Prop} {B : PyData → S → R (LR S D)} (hB : Bd g b φ ts OutR B) (hR : RetOk OutR) : ∀ (xs : List PyData) (s : S) (l : LR S D), forR B xs s = .ok l → (match l with
    | .nx s' => forLoopW ts g b xs (φ s) = .nx (φ s')
    | .bk s' => forLoopW ts g b xs (φ s) = .nx (φ s')
    | .rt d => OutR d (forLoopW ts g b xs (φ s)))
  | [], s, l, h => by cases h; rfl
  | x :: xs, s, l, h => by
    obtain ⟨m, h1, h⟩ := R.bind_eq_ok.mp h
    obtain ⟨ρ', h2, h3⟩ := hB x s m h1
    simp only [forLoopW, h2, R.then_ok]
    cases m with
    | nx s' =>
      obtain ⟨ρ2, h4, h5⟩ := h3
      have ih := forR_ok hB hR xs s' l h
      rcases h4 with h4 | h4
      · simp only [h4, h5]; exact ih
      · simp only [h4, h5]; exact ih
    | bk s' =>
      obtain ⟨ρ2, h4, h5⟩ := h3
      cases h
      simp only [h4, h5]
    | rt d =>
      cases h
      have h3' : OutR d (b ρ') := h3
      obtain ⟨e, ρ2, h4⟩ := hR d _ h3'
      simp only [h4]
      rwa [h4] at h3'
theorem sg_nx {S D : Type} {φ : S → Rho} {ts : List Nat} {OutR : D → RS → Prop} (s : S) (h : wipeR ρ ts = φ s := by rfl) : Sg dNext ρ (OutL φ ts OutR) (R.ok (LR.nx s)) := sg_k ⟨_, .inl rfl, h⟩
theorem sg_bk {S D : Type} {φ : S → Rho} {ts : List Nat} {OutR : D → RS → Prop} (s : S) (h : wipeR ρ ts = φ s := by rfl) : Sg (fun ρ => .bk ρ) ρ (OutL φ ts OutR) (R.ok (LR.bk s)) := sg_k ⟨_, rfl, h⟩
theorem sg_ct {S D : Type} {φ : S → Rho} {ts : List Nat} {OutR : D → RS → Prop} (s : S) (h : wipeR ρ ts = φ s := by rfl) : Sg (fun ρ => .ct ρ) ρ (OutL φ ts OutR) (R.ok (LR.nx s)) := sg_k ⟨_, .inr rfl, h⟩
theorem sg_jn {S : Type} {φ : S → Rho} (s : S) (h : ρ = φ s := by rfl) : Sg dNext ρ (OutJ φ) (R.ok s) := sg_k (by show RS.nx ρ = _; rw [h])
theorem sg_for {S D : Type} {ts : List Nat} (φ : S → Rho) {s0 : S} {OutR : D → RS → Prop} {di : DenI} {g : GDen} {b : SDen} {ri : R (List PyData)} {B : PyData → S → R (LR S D)} {k : S → R β} (inj : D → β) (hi : Pg di ρ ρ1 ri) (hB : Bd g b φ ts OutR B) (hR : RetOk OutR) (hj : ∀ d rs, OutR d rs → Out (inj d) rs) (hk : ∀ s, Sg u (φ s) Out (k s)) (h0 : wipeR ρ1 ts = φ s0 := by rfl) :
    Sg (dSeq (dForW ts di g b) u) ρ Out (ri.bind fun xs => (forR B xs s0).bind (finL k inj)) := fun z h => by
  obtain ⟨xs, h1, h⟩ := R.bind_eq_ok.mp h
  obtain ⟨l, h2, h⟩ := R.bind_eq_ok.mp h
  have q := forR_ok hB hR xs s0 l h2
  have e : dForW ts di g b ρ = forLoopW ts g b xs (φ s0) := by unfold dForW; rw [hi xs h1]; simp only [R.then_ok]; rw [h0]
  unfold dSeq
  rw [e]
  cases l with
  | nx s => dsimp only at q; rw [q]; exact hk s z h
  | bk s => dsimp only at q; rw [q]; exact hk s z h
  | rt d =>
    cases h
    have q' : OutR d (forLoopW ts g b xs (φ s0)) := q
    obtain ⟨e2, ρ2, h4⟩ := hR d _ q'
    rw [h4] at q' ⊢
    exact hj d _ q'
theorem sg_forT {S D : Type} {ts : List Nat} (φ : S → Rho) {s0 : Tp → S} {OutR : D → RS → Prop} {di : DenI} {g : GDen} {b : SDen} {ri : R (List PyData × Tp)} {B : PyData → S → R (LR S D)} {k : S → R β} (inj : D → β) (hi : Tg di ρ τ ri) (hB : Bd g b φ ts OutR B) (hR : RetOk OutR) (hj : ∀ d rs, OutR d rs → Out (inj d) rs) (hk : ∀ s, Sg u (φ s) Out (k s)) (h0 : ∀ t, wipeR (τ t) ts = φ (s0 t) := by exact fun _ => rfl) :
    Sg (dSeq (dForW ts di g b) u) ρ Out (ri.bindT fun xs t => (forR B xs (s0 t)).bind (finL k inj)) := fun z h => by
  obtain ⟨xs, t, h1, h⟩ := R.bindT_eq_ok.mp h
  obtain ⟨l, h2, h⟩ := R.bind_eq_ok.mp h
  have q := forR_ok hB hR xs (s0 t) l h2
  have e : dForW ts di g b ρ = forLoopW ts g b xs (φ (s0 t)) := by unfold dForW; rw [hi xs t h1]; simp only [R.then_ok]; rw [h0]
  unfold dSeq
  rw [e]
  cases l with
  | nx s => dsimp only at q; rw [q]; exact hk s z h
  | bk s => dsimp only at q; rw [q]; exact hk s z h
  | rt d =>
    cases h
    have q' : OutR d (forLoopW ts g b xs (φ (s0 t))) := q
    obtain ⟨e2, ρ2, h4⟩ := hR d _ q'
    rw [h4] at q' ⊢
    exact hj d _ q'
def whR {S D : Type} (c : S → R Bool) (B : S → R (LR S D)) : Nat → S → R (LR S D)
  | 0, _ => .stk
  | n + 1, s => (c s).bind fun b => if b then (B s).bind fun l => match l with
    | .nx s => whR c B n s
    | .rt d => .ok (.rt d)
    | .bk s => .ok (.bk s)
    else .ok (.nx s)
theorem whR_ok {S D : Type} {tc : DenB} {b : SDen} {φ : S → Rho} {ts : List Nat} {OutR : D → RS → Prop} {c : S → R Bool} {B : S → R (LR S D)} (hc : ∀ s, Pg tc (φ s) (φ s) (c s)) (hB : ∀ s, Sg b (φ s) (OutL φ ts OutR) (B s)) (hR : RetOk OutR) : ∀ (n : Nat) (s : S) (l : LR S D), whR c B n s = .ok l → (match l with
    | .nx s' => whLoopW ts tc b n (φ s) = .nx (φ s')
    | .bk s' => whLoopW ts tc b n (φ s) = .nx (φ s')
    | .rt d => OutR d (whLoopW ts tc b n (φ s)))
  | 0, s, l, h => by cases h
  | n + 1, s, l, h => by
    obtain ⟨k, h1, h⟩ := R.bind_eq_ok.mp h
    simp only [whLoopW, hc s k h1, R.then_ok]
    cases k with
    | false => rw [if_neg Bool.false_ne_true] at h; cases h; simp
    | true =>
      rw [if_pos rfl] at h
      simp only [if_true]
      obtain ⟨m, h2, h⟩ := R.bind_eq_ok.mp h
      have h3 := hB s m h2
      cases m with
      | nx s' =>
        obtain ⟨ρ2, h4, h5⟩ := h3
        have ih := whR_ok hc hB hR n s' l h
        rcases h4 with h4 | h4
        · simp only [h4, h5]; exact ih
        · simp only [h4, h5]; exact ih
      | bk s' =>
        obtain ⟨ρ2, h4, h5⟩ := h3
        cases h
        simp only [h4, h5]
      | rt d =>
        cases h
        have h3' : OutR d (b (φ s)) := h3
        obtain ⟨e, ρ2, h4⟩ := hR d _ h3'
        simp only [h4]
        rwa [h4] at h3'
theorem sg_while {S D : Type} {ts : List Nat} (φ : S → Rho) {s0 : S} {OutR : D → RS → Prop} {tc : DenB} {b : SDen} {n : Nat} {c : S → R Bool} {B : S → R (LR S D)} {k : S → R β} (inj : D → β) (hc : ∀ s, Pg tc (φ s) (φ s) (c s)) (hB : ∀ s, Sg b (φ s) (OutL φ ts OutR) (B s)) (hR : RetOk OutR) (hj : ∀ d rs, OutR d rs → Out (inj d) rs) (hk : ∀ s, Sg u (φ s) Out (k s)) (h0 : wipeR ρ ts = φ s0 := by rfl) :
    Sg (dSeq (dWhileW ts (fun _ => n) tc b) u) ρ Out ((whR c B n s0).bind (finL k inj)) := fun z h => by
  obtain ⟨l, h2, h⟩ := R.bind_eq_ok.mp h
  have q := whR_ok hc hB hR n s0 l h2
  have e : dWhileW ts (fun _ => n) tc b ρ = whLoopW ts tc b n (φ s0) := by unfold dWhileW; rw [h0]
  unfold dSeq
  rw [e]
  cases l with
  | nx s => dsimp only at q; rw [q]; exact hk s z h
  | bk s => dsimp only at q; rw [q]; exact hk s z h
  | rt d =>
    cases h
    have q' : OutR d (whLoopW ts tc b n (φ s0)) := q
    obtain ⟨e2, ρ2, h4⟩ := hR d _ q'
    rw [h4] at q' ⊢
    exact hj d _ q'
end
/-! ### defs -/
theorem semP {m n : Nat} {body : SDen} {F : List PyData → R PyData} (h : ∀ as, Sg body (as.map .d ++ List.replicate (m - n) .u) OutF (F as)) : SemP (runDef m n body) F := fun as d e => by
  rcases h as d e with ⟨ρ', q⟩ | ⟨rfl, ρ', q⟩
  · exact ⟨ρ'.take n, by unfold runDef; rw [q]⟩
  · exact ⟨ρ'.take n, by unfold runDef; rw [q]⟩
theorem semP1 {m : Nat} {body : SDen} {F : PyData → R PyData} (h : ∀ a, Sg body (.d a :: List.replicate (m - 1) .u) OutF (F a)) : SemP (runDef m 1 body) (ap1 F) := semP fun as => match as with
  | [] => fun z e => nomatch e
  | [a] => h a
  | _ :: _ :: _ => fun z e => nomatch e
theorem semP2 {m : Nat} {body : SDen} {F : PyData → PyData → R PyData} (h : ∀ a b, Sg body (.d a :: .d b :: List.replicate (m - 2) .u) OutF (F a b)) : SemP (runDef m 2 body) (ap2 F) := semP fun as => match as with
  | [] => fun z e => nomatch e
  | [a] => fun z e => nomatch e
  | [a, b] => h a b
  | _ :: _ :: _ :: _ => fun z e => nomatch e
theorem semP3 {m : Nat} {body : SDen} {F : PyData → PyData → PyData → R PyData} (h : ∀ a b c, Sg body (.d a :: .d b :: .d c :: List.replicate (m - 3) .u) OutF (F a b c)) : SemP (runDef m 3 body) (ap3 F) := semP fun as => match as with
  | [] => fun z e => nomatch e
  | [a] => fun z e => nomatch e
  | [a, b] => fun z e => nomatch e
  | [a, b, c] => h a b c
  | _ :: _ :: _ :: _ :: _ => fun z e => nomatch e
theorem semP4 {m : Nat} {body : SDen} {F : PyData → PyData → PyData → PyData → R PyData} (h : ∀ a b c d, Sg body (.d a :: .d b :: .d c :: .d d :: List.replicate (m - 4) .u) OutF (F a b c d)) : SemP (runDef m 4 body) (ap4 F) := semP fun as => match as with
  | [] => fun z e => nomatch e
  | [a] => fun z e => nomatch e
  | [a, b] => fun z e => nomatch e
  | [a, b, c] => fun z e => nomatch e
  | [a, b, c, d] => h a b c d
  | _ :: _ :: _ :: _ :: _ :: _ => fun z e => nomatch e
theorem semT {m n : Nat} {body : SDen} {F : Tp → List PyData → R (PyData × Tp)} (h : ∀ t as, Sg body (.tp t :: as.map .d ++ List.replicate (m - (n + 1)) .u) (OutT 0) (F t as)) : SemT (runDef m (n + 1) body) F := fun t as d t' e => by
  have fin : ∀ {ρ' : Rho}, ρ'.getD 0 .u = .tp t' → ∃ s, ρ'.take (n + 1) = .tp t' :: s := fun {ρ'} q => by
    cases ρ' with
    | nil => cases q
    | cons a r => exact ⟨r.take n, by rw [List.take_succ_cons]; exact congrArg (· :: _) q⟩
  rcases h t as (d, t') e with ⟨ρ', q, q2⟩ | ⟨q0, ρ', q, q2⟩
  · obtain ⟨s, e2⟩ := fin q2
    exact ⟨s, by unfold runDef; rw [q]; dsimp only; rw [e2]⟩
  · obtain ⟨s, e2⟩ := fin q2
    have q0' : d = .none := q0
    subst q0'
    exact ⟨s, by unfold runDef; rw [q]; dsimp only; rw [e2]⟩
theorem semT0 {m : Nat} {body : SDen} {F : Tp → R (PyData × Tp)} (h : ∀ t, Sg body (.tp t :: List.replicate (m - 1) .u) (OutT 0) (F t)) : SemT (runDef m 1 body) (apT0 F) := semT (n := 0) fun t as => match as with
  | [] => h t
  | _ :: _ => fun z e => nomatch e
theorem semT1 {m : Nat} {body : SDen} {F : Tp → PyData → R (PyData × Tp)} (h : ∀ t a, Sg body (.tp t :: .d a :: List.replicate (m - 2) .u) (OutT 0) (F t a)) : SemT (runDef m 2 body) (apT1 F) := semT (n := 1) fun t as => match as with
  | [] => fun z e => nomatch e
  | [a] => h t a
  | _ :: _ :: _ => fun z e => nomatch e
theorem semT2 {m : Nat} {body : SDen} {F : Tp → PyData → PyData → R (PyData × Tp)} (h : ∀ t a b, Sg body (.tp t :: .d a :: .d b :: List.replicate (m - 3) .u) (OutT 0) (F t a b)) : SemT (runDef m 3 body) (apT2 F) := semT (n := 2) fun t as => match as with
  | [] => fun z e => nomatch e
  | [a] => fun z e => nomatch e
  | [a, b] => h t a b
  | _ :: _ :: _ :: _ => fun z e => nomatch e
theorem semT3 {m : Nat} {body : SDen} {F : Tp → PyData → PyData → PyData → R (PyData × Tp)} (h : ∀ t a b c, Sg body (.tp t :: .d a :: .d b :: .d c :: List.replicate (m - 4) .u) (OutT 0) (F t a b c)) : SemT (runDef m 4 body) (apT3 F) := semT (n := 3) fun t as => match as with
  | [] => fun z e => nomatch e
  | [a] => fun z e => nomatch e
  | [a, b] => fun z e => nomatch e
  | [a, b, c] => h t a b c
  | _ :: _ :: _ :: _ :: _ => fun z e => nomatch e
theorem semP_stk {F : List PyData → R PyData} {sem : Sem1} (h : ∀ as, F as = .stk) : SemP sem F := fun as d e => by rw [h] at e; cases e
theorem semT_stk {F : Tp → List PyData → R (PyData × Tp)} {sem : Sem1} (h : ∀ t as, F t as = .stk) : SemT sem F := fun t as d t' e => by rw [h] at e; cases e
/-- a draw -/
def drawG (t : Tp) : PyData → R (PyData × Tp)
  | .int many => if 0 ≤ t.seed && decide (t.seed < 4294967296) && decide (t.ix = none) && decide (0 < many) && decide (many < 1073741824) then .ok (.int (drawF t many).1, (drawF t many).2) else .stk
  | _ => .stk
theorem semT_draw : SemT fDraw (apT1 drawG) := fun t as d t' e => by
  cases as with
  | nil => cases e
  | cons a r =>
    cases r with
    | cons _ _ => cases e
    | nil =>
      have e' : drawG t a = .ok (d, t') := e
      cases a with
      | int many =>
        simp only [drawG] at e'
        split at e'
        · rename_i hz
          cases e'
          exact ⟨_, by show fDraw [.tp t, .d (.int many)] = _; unfold fDraw; dsimp only; rw [if_pos hz]⟩
        · cases e'
      | _ => cases e'
end L2.DY

end
section
/-! DyFn4: more of DyFn: dicts that are owned, longer targets, the other tape. -/
namespace L2.DY
open PySem PySem.Spec PyProof.Rows
section
variable {α β : Type} {ρ ρ1 ρ2 ρ3 : Rho} {τ τ1 τ2 τ3 : Tp → Rho} {u : SDen} {Out : β → RS → Prop}
theorem p_get2 (i : Nat) {dk de : Den} {rk re : R PyData} {ds : List (PyData × PyData)} (hk : Pg dk ρ ρ1 rk) (he : Pg de ρ1 ρ2 re) (h0 : ∃ ys, ρ.getD i .u = .od ys := by exact ⟨_, rfl⟩) (hx : ρ2.getD i .u = .od ds := by rfl) :
    Pg (dGet2 i dk de) ρ ρ2 (rk.bind fun a => re.bind fun b => (atD ds a).bind fun o => .ok (o.getD b)) := fun z h => by
  obtain ⟨a, h1, h⟩ := R.bind_eq_ok.mp h
  obtain ⟨b, h2, h⟩ := R.bind_eq_ok.mp h
  obtain ⟨o, h3, h⟩ := R.bind_eq_ok.mp h
  cases h
  obtain ⟨ys, h0⟩ := h0
  unfold dGet2; rw [h0]; simp only [onOd]; rw [hk a h1]; simp only [R.bind_ok]; rw [he b h2]; simp only [R.bind_ok]; rw [hx]; dsimp only; rw [h3]; rfl
theorem sg_dput {i : Nat} {dk dv : Den} {rk rv : R PyData} {ds : List (PyData × PyData)} {k : List (PyData × PyData) → R β} (hv : Pg dv ρ ρ1 rv) (hk : Pg dk ρ1 ρ2 rk) (hn : ∀ es, Sg u (ρ2.set i (.od es)) Out (k es)) (h0 : ∃ ys, ρ1.getD i .u = .od ys := by exact ⟨_, rfl⟩) (hx : ρ2.getD i .u = .od ds := by rfl) :
    Sg (dSeq (dDput i dk dv) u) ρ Out (rv.bind fun b => rk.bind fun a => (putAt ds a b).bind k) := fun z h => by
  obtain ⟨b, h1, h⟩ := R.bind_eq_ok.mp h
  obtain ⟨a, h2, h⟩ := R.bind_eq_ok.mp h
  obtain ⟨es, h3, h⟩ := R.bind_eq_ok.mp h
  obtain ⟨ys, h0⟩ := h0
  unfold dSeq dDput; rw [hv b h1]; simp only [R.then_ok]; rw [h0]; simp only [onOdS]; rw [hk a h2]; simp only [R.then_ok]; rw [hx]; simp only [onOdS]; rw [h3]; exact hn es z h
theorem pn_dispT : PnD dNewT ρ ρ (.ok [(.none, .none)]) := fun z hz => by cases hz; rfl
theorem un4_eq_ok {x : PyData} {k : PyData → PyData → PyData → PyData → R β} {z : β} (h : un4 x k = .ok z) : ∃ a b c d, x = .tuple [a, b, c, d] ∧ k a b c d = .ok z := by
  unfold un4 at h
  split at h
  · exact ⟨_, _, _, _, rfl, h⟩
  · cases h
abbrev gd4 (i j k l : Nat) : GDen := gdTup 4 (gdCons (gdName i) (gdCons (gdName j) (gdCons (gdName k) (gdCons (gdName l) gdNil))))
theorem sg_popAsg3 {i j l m : Nat} {xs : List PyData} {k : PyData → PyData → PyData → List PyData → R β} (hk : ∀ a b c ys, Sg u ((((ρ.set i (.ol ys)).set j (.d a)).set l (.d b)).set m (.d c)) Out (k a b c ys)) (hx : ρ.getD i .u = .ol xs := by rfl) : Sg (dSeq (dAsg (dPop i) (gd3 j l m)) u) ρ Out (popL xs fun y ys => un3 y fun a b c => k a b c ys) := fun z h => by
  unfold popL at h
  unfold dSeq dAsg dPop; rw [hx]; simp only [onOl]
  split at h
  · rename_i y e
    (try rw [e])
    obtain ⟨a, b, c, rfl, h⟩ := un3_eq_ok h
    exact hk a b c _ z h
  · cases h
theorem sg_popAsg4 {i j l m n : Nat} {xs : List PyData} {k : PyData → PyData → PyData → PyData → List PyData → R β} (hk : ∀ a b c d ys, Sg u (((((ρ.set i (.ol ys)).set j (.d a)).set l (.d b)).set m (.d c)).set n (.d d)) Out (k a b c d ys)) (hx : ρ.getD i .u = .ol xs := by rfl) : Sg (dSeq (dAsg (dPop i) (gd4 j l m n)) u) ρ Out (popL xs fun y ys => un4 y fun a b c d => k a b c d ys) := fun z h => by
  unfold popL at h
  unfold dSeq dAsg dPop; rw [hx]; simp only [onOl]
  split at h
  · rename_i y e
    (try rw [e])
    obtain ⟨a, b, c, d, rfl, h⟩ := un4_eq_ok h
    exact hk a b c d _ z h
  · cases h
theorem sg_asg4 {i j l m : Nat} {da : Den} {ra : R PyData} {k : PyData → PyData → PyData → PyData → R β} (ha : Pg da ρ ρ1 ra) (hk : ∀ a b c d, Sg u ((((ρ1.set i (.d a)).set j (.d b)).set l (.d c)).set m (.d d)) Out (k a b c d)) : Sg (dSeq (dAsg da (gd4 i j l m)) u) ρ Out (ra.bind fun a => un4 a k) := fun z h => by
  obtain ⟨a, h1, h⟩ := R.bind_eq_ok.mp h
  obtain ⟨x, y, w, v, rfl, h⟩ := un4_eq_ok h
  unfold dSeq dAsg; rw [ha _ h1]; exact hk x y w v z h
/-- i, (j, l) = .. -/
abbrev gd12 (i j l : Nat) : GDen := gdTup 2 (gdCons (gdName i) (gdCons (gd2 j l) gdNil))
theorem sg_asg12 {i j l : Nat} {da : Den} {ra : R PyData} {k : PyData → PyData → PyData → R β} (ha : Pg da ρ ρ1 ra) (hk : ∀ a b c, Sg u (((ρ1.set i (.d a)).set j (.d b)).set l (.d c)) Out (k a b c)) : Sg (dSeq (dAsg da (gd12 i j l)) u) ρ Out (ra.bind fun a => un2 a fun x y => un2 y fun b c => k x b c) := fun z h => by
  obtain ⟨a, h1, h⟩ := R.bind_eq_ok.mp h
  obtain ⟨x, y, ea, h2⟩ := un2_eq_ok h
  obtain ⟨b, c, eb, h3⟩ := un2_eq_ok (x := y) (k := fun b c => k x b c) h2
  subst ea; subst eb
  unfold dSeq dAsg; rw [ha _ h1]; exact hk x b c z h3
end
/-- the other tape's draw -/
def takeG (t : Tp) : PyData → R (PyData × Tp)
  | .int many => match t.ix with
    | some k => if 0 ≤ k && decide (0 < many) && decide (many < 1073741824) then .ok (.int (takeF t k many).1, (takeF t k many).2) else .stk
    | none => .stk
  | _ => .stk
theorem semT_take : SemT fTake (apT1 takeG) := fun t as d t' e => by
  cases as with
  | nil => cases e
  | cons a r =>
    cases r with
    | cons _ _ => cases e
    | nil =>
      have e' : takeG t a = .ok (d, t') := e
      cases a with
      | int many =>
        simp only [takeG] at e'
        split at e'
        · rename_i k hx
          split at e'
          · rename_i hz
            cases e'
            exact ⟨_, by show fTake [.tp t, .d (.int many)] = _; unfold fTake; dsimp only; rw [hx]; dsimp only; rw [if_pos hz]⟩
          · cases e'
        · cases e'
      | _ => cases e'
end L2.DY

end
section
/-! DyTold: defs that raise an exception of their own; told(lambda: g(..)) with an except clause that gives None. -/
namespace L2.DY
open PySem PySem.Spec PyProof.Rows

/-- the outcome of a raise -/
def xD : PyData := .dict [(.none, .int 0)]
def isXD : PyData → Bool
  | .dict [(.none, .int _)] => true
  | _ => false
def toldD (d : PyData) : PyData := if isXD d then .none else d
/-- an own class of exceptions, of ValueError's kind -/
structure XC (K : PySem.W.Frag) (mg : Str → Option Value) (x : Str) (CS : Addr) : Prop where
  g : mg x = some (.ref CS)
  k : PySem.W.keepIn K (.ref CS) = true
  q : PySem.W.excIn K CS [.type "ValueError", .type "Exception", .type "BaseException", .type "object"] "ValueError.__new__" = true
  s : PySem.W.subIn K (.ref CS) (.type "BaseException") = some true
  t : PySem.W.typeIn K (.ref CS) = some (.type "type")
  m : PySem.W.exmOne K (.ref CS) (.ref CS) = some true
theorem xD_rp {K : PySem.W.Frag} {ow : Ow} {H : Hp} {v : V} {d : PyData} (r : Rp K ow H v d) (h : isXD d = true) : False := by
  cases r with
  | @dct a u ds z e rd =>
    cases rd with
    | k rk =>
      cases rk with
      | nil => cases h
      | @cons k v d ks ds z a b => cases k <;> cases h
    | t rt => cases h
  | _ => cases h

/-- the promise of a def that raises -/
def spX (K : PySem.W.Frag) (n : Nat) (CS : Addr) (sem : Sem1) : Sp := fun vs H Q E => ∃ ow sls d sls', vs.length = n ∧ sls.length = n ∧ (∀ a, ow a ≠ 0 → OwO K a (H a)) ∧ (∀ i, RSl K ow H i (vs[i]?) (sls.getD i .u)) ∧ sem sls = .ok (d, sls') ∧
  (∀ v H' ow', Later ow H ow' H' → (∀ a, ow' a ≠ 0 → OwO K a (H' a)) → (∀ a, H a ≠ none → H' a ≠ none) → Rp K ow' H' v d → Q v H') ∧
  (isXD d = true → ∀ H' ow', Later ow H ow' H' → (∀ a, ow' a ≠ 0 → OwO K a (H' a)) → (∀ a, H a ≠ none → H' a ≠ none) → E (.ref CS) none H')
structure FDX (P : Program) (w : World) (K : PySem.W.Frag) (mg : Str → Option Value) (base : Heap) (k : Nat) (x : Str) (ps : List Str) (CS : Addr) (sem : Sem1) : Prop where
  ex : ∃ f fd, FnOk P w K mg base (L2.CX P w) k f fd ps (spX K ps.length CS sem) ∧ mg x = some (.ref f) ∧ PySem.W.keepIn K (.ref f) = true ∧ Binds K fd ps []
theorem FDX.mono {P : Program} {w : World} {K : PySem.W.Frag} {mg : Str → Option Value} {base : Heap} {k j : Nat} {x : Str} {ps : List Str} {CS : Addr} {sem : Sem1} (F : FDX P w K mg base k x ps CS sem) (h : k ≤ j) : FDX P w K mg base j x ps CS sem := by
  obtain ⟨f, fd, h1, h2⟩ := F.ex
  exact ⟨f, fd, h1.mono h, h2⟩

/-! ### bodies that raise -/
def rdX (K : PySem.W.Frag) (C : Cy) (CS : Addr) (E : XK) (den : SDen) : TS := fun D σ H => ∃ ρ ow, SR K C ρ ow σ H ∧ PostS K C (den ρ) ow H D ∧
  ∀ d ρ', den ρ = .rt d ρ' → isXD d = true → ∀ σ' H' ow', Later ow H ow' H' → SR K C ρ' ow' σ' H' → E (.ref CS) none H'
abbrev XS (X : Cx) (C : Cy) (CS : Addr) (st : Stmt) (den : SDen) : Prop := Ct X → ∀ E : XK, Takes X (fun cls d _ H => E cls d H) → PS X st (rdX X.K C CS E den)
abbrev XSs (X : Cx) (C : Cy) (CS : Addr) (st : List Stmt) (den : SDen) : Prop := Ct X → ∀ E : XK, Takes X (fun cls d _ H => E cls d H) → PSs X st (rdX X.K C CS E den)
section
variable {X : Cx} {C : Cy} {K : PySem.W.Frag} {σ : St} {H : Hp} {ow : Ow} {ρ : Rho} {CS : Addr}
theorem xs_of {st : List Stmt} {den : SDen} (h : SSs X C st den) : XSs X C CS st den := fun ct E tk => PSs.imp (h ct) fun D σ H ⟨ρ, ow, S, hp, _⟩ => ⟨ρ, ow, S, hp⟩
theorem xs_one {s : Stmt} {t : SDen} (h : XS X C CS s t) : XSs X C CS [s] t := fun ct E tk => pss_one (h ct E tk)
theorem xs_cons {s : Stmt} {r : List Stmt} {t u : SDen} (h1 : SS X C s t) (h2 : XSs X C CS r u) : XSs X C CS (s :: r) (dSeq t u) := fun ct E tk =>
  PSs.imp (pss_cons (h1 ct) (h2 ct E tk)) fun D σ H ⟨ρ, ow, S, h, hx⟩ => ⟨ρ, ow, S, by
    unfold dSeq at h hx
    cases e : t ρ with
    | nx ρ' =>
      simp only [e] at h hx
      exact fun σ' H' ow' l S' => ⟨ρ', ow', S', PostS.later l h, fun d ρ2 e2 x2 σ2 H2 ow2 l2 S2 => hx d ρ2 e2 x2 σ2 H2 ow2 (l.trans l2) S2⟩
    | rt d ρ' => simp only [e] at h; exact h
    | bk ρ' => simp only [e] at h; exact h
    | ct ρ' => simp only [e] at h; exact h
    | stk => simp only [e] at h; exact h⟩
theorem xs_consX {s : Stmt} {r : List Stmt} {t u : SDen} (h1 : XS X C CS s t) (h2 : XSs X C CS r u) : XSs X C CS (s :: r) (dSeq t u) := fun ct E tk =>
  PSs.imp (pss_cons (h1 ct E tk) (h2 ct E tk)) fun D σ H ⟨ρ, ow, S, h, hx⟩ => ⟨ρ, ow, S, by
    unfold dSeq at h hx
    cases e : t ρ with
    | nx ρ' =>
      simp only [e] at h hx
      exact fun σ' H' ow' l S' => ⟨ρ', ow', S', PostS.later l h, fun d ρ2 e2 x2 σ2 H2 ow2 l2 S2 => hx d ρ2 e2 x2 σ2 H2 ow2 (l.trans l2) S2⟩
    | rt d ρ' => simp only [e] at h; exact h
    | bk ρ' => simp only [e] at h; exact h
    | ct ρ' => simp only [e] at h; exact h
    | stk => simp only [e] at h; exact h, by
    unfold dSeq at hx
    intro d ρ2 e x2
    simp only [e] at hx
    exact hx d ρ2 rfl x2⟩
theorem xs_if {c : Expr} {a b : List Stmt} {tc : DenB} {t u : SDen} {pos : Pos} (hc : ST X C c tc) (ha : XSs X C CS a t) (hb : XSs X C CS b u) : XS X C CS (.If c a b pos) (dIfS tc t u) := fun ct E tk =>
  PS.imp (ps_if (hc ct) (ha ct E tk) (hb ct E tk)) fun D σ H ⟨ρ, ow, S, h, hx⟩ => ⟨ρ, ow, S, by
    unfold dIfS at h hx
    cases e : tc ρ with
    | exc c x => rw [e] at h; exact h.elim
    | stk => rw [e] at h; exact h.elim
    | ok r =>
      obtain ⟨k, ρ1⟩ := r
      simp only [e, R.then] at h hx
      intro b H1 ow1 l1 S1 rb
      subst rb
      cases b with
      | true =>
        rw [if_pos rfl] at h hx ⊢
        exact ⟨ρ1, ow1, S1, PostS.later l1 h, fun d ρ2 e2 x2 σ2 H2 ow2 l2 S2 => hx d ρ2 e2 x2 σ2 H2 ow2 (l1.trans l2) S2⟩
      | false =>
        rw [if_neg Bool.false_ne_true] at h hx ⊢
        exact ⟨ρ1, ow1, S1, PostS.later l1 h, fun d ρ2 e2 x2 σ2 H2 ow2 l2 S2 => hx d ρ2 e2 x2 σ2 H2 ow2 (l1.trans l2) S2⟩⟩
def dRaise : SDen := fun ρ => .rt xD ρ
/-- X() makes an exception of the own class X -/
theorem pmk_none {x : Str} {p pos : Pos} (c : XC X.K X.mg x CS) (hg : Gl X x) (hdb : (x == ("__debug__" : Str)) = false := by decide) : PMk X (.Call (.Name x p) [] [] pos) (fun _ H Q => Q (.ref CS) none H) := by
  intro ps sh st Hh Qx inv hq
  refine wpAny_Call_Name_kw (ld_glob inv hg c.g ?_ hdb)
  refine PySem.W.callWith_K0 inv.kIn c.k ?_
  obtain ⟨m1, a1, n1, q1, b1, d1, s1, u1, e1, o1, f1, g0, g1, g2, g3, g5, mm, x1, x2, x3, x4⟩ := exc_obj inv.kIn c.q
  exact wpAny_call_exc_subT PySem.F.excBase_ValueError x4 x1 x2 x3 (fun h1 ex mx => mk_of inv mx (raises_own c.s c.t) hq (inv.hok.gone mx.new)) (Nat.zero_le _)
theorem xs_raise {x : Str} {p pos pos' : Pos} (c : XC X.K X.mg x CS) (hg : Gl X x) (hdb : (x == ("__debug__" : Str)) = false := by decide) : XS X C CS (.Raise (some (.Call (.Name x p) [] [] pos)) none pos') dRaise := fun ct E tk =>
  PS.imp (ps_raise ct.calm tk (pmk_none c hg hdb)) fun D σ H ⟨ρ, ow, S, h, hx⟩ => hx xD ρ rfl rfl σ H ow (.refl _ _) S
end
section
variable {P : Program} {w : World} {K : PySem.W.Frag} {mg : Str → Option Value} {base : Heap}
/-- a def that raises keeps the promise of its denotation -/
theorem fn_denX {x qual : Str} {st : Stmt} {f : Addr} {fd : FuncData} {N ps : List Str} {k : Nat} {CS : Addr} {body : SDen} (F : Fun K x qual st f fd) (S : FnScope N ps (defScope st)) (hps : ps.length ≤ N.length)
    (hb : ∀ (cdv : Value) (A : Around) (outer : List Env) (s : Shared) (H : Hp) (E : XK) (ow : Ow) (σ0 : St), Room k (A.deeper (envOfC qual (defScope st) s.heap.objs.size f cdv)) →
      XSs (cxOf (L2.CX P w) P w K mg base N qual (defScope st) f cdv A outer s H E) ⟨H, ow, σ0, noBr⟩ CS (defBody st) body) :
    FnOk P w K mg base (L2.CX P w) (k + 1) f fd ps (spX K ps.length CS (runDef N.length ps.length body)) := by
  refine F.okX S (fun vs H Q E h => ?_) (fun cdv A outer s H vs Q E hr h => ?_)
  · obtain ⟨_, _, _, _, h, _⟩ := h; exact h
  · obtain ⟨ow, sls, d, sls', hv, hl, trk, hs, hrun, hq, hx⟩ := h
    have ct : Ct (cxOf (L2.CX P w) P w K mg base N qual (defScope st) f cdv A outer s H E) := ⟨rfl, S.nd, by have := hr.un; show (A.deeper _).units + 65 < cLine; omega, hr.hd⟩
    have tk : Takes (cxOf (L2.CX P w) P w K mg base N qual (defScope st) f cdv A outer s H E) (fun cls d _ H => E cls d H) := takes_of rfl rfl rfl rfl
    refine ⟨_, hb cdv A outer s H E ow (start N vs) hr ct E tk, sls ++ List.replicate (N.length - ps.length) .u, ow, ?_, ?_, ?_⟩
    · refine ⟨?_, fun i => ?_, .refl _ _, fun a h => h, trk, fun a h => h, fun i h => rfl⟩
      · unfold start
        simp only [List.length_append, List.length_replicate, List.length_map, hl, hv]
      · rw [getD_app, getD_start]; exact hs i
    · unfold runDef at hrun
      cases e : body (sls ++ List.replicate (N.length - ps.length) .u) with
      | rt d' ρ =>
        rw [e] at hrun
        injection hrun with hrun
        injection hrun with h1 h2
        subst h1
        intro v σ' H' ow' l S' r
        exact hq v H' ow' l S'.trk S'.dom r
      | nx ρ =>
        rw [e] at hrun
        injection hrun with hrun
        injection hrun with h1 h2
        subst h1
        intro σ' H' ow' l S'
        exact hq .non H' ow' l S'.trk S'.dom .non
      | bk ρ => rw [e] at hrun; cases hrun
      | ct ρ => rw [e] at hrun; cases hrun
      | stk => rw [e] at hrun; cases hrun
    · intro d' ρ' e x2 σ' H' ow' l S'
      unfold runDef at hrun
      rw [e] at hrun
      injection hrun with hrun
      injection hrun with h1 h2
      subst h1
      exact hx x2 H' ow' l S'.trk S'.dom
end

/-! ### calls -/
section
variable {X : Cx} {C : Cy} {K : PySem.W.Frag} {σ : St} {H : Hp} {ow : Ow} {ρ : Rho} {CS : Addr}
/-- what a call of a def that may raise asks -/
theorem callX_rd {n : Nat} {sem : Sem1} {as : List PyData} {vs : List V} {Q : VK} {E : XK} {k : PyData → R PyData} (S : SR K C ρ ow σ H) (r : RpA K ow H vs as) (hn : as.length = n) (h : Post K C (Rp K) ((sem (as.map .d)).bind fun q => (k q.1).bind fun d => .ok (d, ρ)) σ ow H Q)
    (hk : ∀ d d', isXD d = false → k d = .ok d' → d' = d) (hE : ∀ d d' H' ow', isXD d = true → k d = .ok d' → SR K C ρ ow' σ H' → (∀ v, Rp K ow' H' v d' → Q v H') → E (.ref CS) none H') : spX K n CS sem vs H Q E := by
  cases e : sem (as.map .d) with
  | exc c x => rw [e] at h; exact h.elim
  | stk => rw [e] at h; exact h.elim
  | ok q =>
    obtain ⟨d, sls'⟩ := q
    rw [e] at h
    simp only [R.bind_ok] at h
    have l0 : Later0 ow H (owOut ow) H := .mk fun a o z e n => ⟨e, by unfold owOut; rw [if_pos z]⟩
    cases ek : k d with
    | exc c x => rw [ek] at h; exact h.elim
    | stk => rw [ek] at h; exact h.elim
    | ok d' =>
      rw [ek] at h
      refine ⟨owOut ow, as.map .d, d, sls', by rw [r.length, hn], by rw [List.length_map, hn], fun a z => S.trk a fun q => z (by unfold owOut; rw [if_pos q]), fun i => (RpA.later0 l0 r).slots i, e, fun v H' ow' l trk dom rv => ?_, fun x2 H' ow' l trk dom => ?_⟩
      · obtain ⟨S', l1, l2⟩ := S.called l trk dom
        have : d' = d := by
          cases ex : isXD d with
          | true => exact (xD_rp rv ex).elim
          | false => exact hk d d' ex ek
        subst this
        exact h v H' _ l1 S' (Rp.later0 l2 rv)
      · obtain ⟨S', l1, l2⟩ := S.called l trk dom
        exact hE d d' H' _ x2 ek S' fun v rv => h v H' _ l1 S' rv
/-- a call that does not raise -/
def noX (d : PyData) : R PyData := if isXD d then .stk else .ok d
def dCallX (sem : Sem1) (ds : DenA) : Den := fun ρ => (ds ρ).bind fun r => (sem (r.1.map .d)).bind fun q => (noX q.1).bind fun d => .ok (d, r.2)
theorem se_callX {k : Nat} {x : Str} {ps : List Str} {sem : Sem1} {e : Expr} {es : List Expr} {ds : DenA} {p pos : Pos} (F : FDX X.prog X.w X.K X.mg X.base k x ps CS sem) (hr : Room k X.A) (hg : Gl X x) (ha : SA X C (e :: es) ds) (hn : (e :: es).length = ps.length := by rfl)
    (hds : ∀ ρ as ρ', ds ρ = .ok (as, ρ') → as.length = (e :: es).length) (hdb : (x == ("__debug__" : Str)) = false := by decide) (he : starEach (e :: es) X.env = (false, eval e X.env) :: starEach es X.env := by rfl) (hpl : (backTo pos (starEach es X.env)).any (·.1) = false := by rfl) :
    SE X C (.Call (.Name x p) (e :: es) [] pos) (dCallX sem ds) := fun ct => by
  obtain ⟨f, fd, h1, h2, h3, h4⟩ := F.ex
  refine PE.imp (pe_call h1 hr hg h2 h3 h4 .nil passL (ha ct) hdb he hpl) fun σ H Q ⟨ρ, ow, S, h⟩ => ⟨ρ, ow, S, ?_⟩
  unfold dCallX at h
  cases e1 : ds ρ with
  | exc c x => rw [e1] at h; exact h.elim
  | stk => rw [e1] at h; exact h.elim
  | ok r =>
    obtain ⟨as, ρ1⟩ := r
    rw [e1] at h
    intro vs H1 ow1 l1 S1 r1
    rw [List.append_nil]
    refine callX_rd (k := noX) S1 r1 ((hds _ _ _ e1).trans hn) (Post.later l1 h) (fun d d' x1 x2 => ?_) fun d d' H' ow' x1 x2 _ _ => ?_
    · unfold noX at x2; rw [x1, if_neg Bool.false_ne_true] at x2; cases x2; rfl
    · unfold noX at x2; rw [x1, if_pos rfl] at x2; cases x2
end
end L2.DY

end
section
/-! DyTold2: told(lambda: g(..)), and the law that says it. -/
namespace L2.DY
open PySem PySem.Spec PyProof.Rows

/-- what the def that is told makes of the lambda -/
def TT0 (K : PySem.W.Frag) (CS : Addr) : (XK → Hp → VK → Prop) → Hp → VK → Prop := fun tl H Q => tl (fun cls _ H' => PySem.W.exmOne K cls (.ref CS) = some true ∧ Q .non H') H Q
theorem gives0 {X : Cx} {Ng : List Str} {x a e q : Str} {sg : Scope} {g CS : Addr} {cdg : Value} {j : _} {p1 p2 p3 p4 p5 p6 p7 p8 : Pos} (hge : sg.names.lookup e = some .globalImplicit) (hme : X.mg e = some (.ref CS)) (hde : (e == ("__debug__" : Str)) = false)
    (h0 : ∀ f : Addr, (L2.start Ng [V.ref f])[0]? = some (some (V.ref f))) :
    LamX.GivesTo X Ng x sg g cdg [.Try [.Return (some (.Call (.Name a p1) [] [] p2)) p3] [.ExceptHandler (some (.Name e p4)) none [.Return (some (.Constant .none j p5)) p6] p7] [] [] p8] a q (TT0 X.K CS) := fun f cc sh Hh Qx tl act hco hw => by
  have nm : Names (cxOf C8.CX0 X.prog X.w X.K X.mg X.base Ng x sg g cdg X.A X.stack sh Hh C8.E0).nox e (.ref CS) := ⟨(hge : Gl (cxOf C8.CX0 X.prog X.w X.K X.mg X.base Ng x sg g cdg X.A X.stack sh Hh C8.E0).nox e), hde, .inl hme⟩
  have inner : ∀ (W : WX) (pn : List (Addr × Obj)) (xe : Value → Shared → Prop), Takes ((cxOf C8.CX0 X.prog X.w X.K X.mg X.base Ng x sg g cdg X.A X.stack sh Hh C8.E0).nox.tr pn xe) W →
      PSs ((cxOf C8.CX0 X.prog X.w X.K X.mg X.base Ng x sg g cdg X.A X.stack sh Hh C8.E0).nox.tr pn xe) [.Return (some (.Call (.Name a p1) [] [] p2)) p3]
        (fun D σ H => ∃ Ech : XK, (∀ cls d σ' H', Ech cls d H' → W cls d σ' H') ∧ σ[0]? = some (some (.ref f)) ∧ H cc = some (LamX.CodeO cc q) ∧ tl Ech H D.rt) := fun W pn xe tk =>
    ⟨fun pins s' σ H' D I ⟨Ech, w1, w2, w3, w4⟩ => (pss_one (ps_ret (pos := p3) (act W pn xe Ech p1 p2 tk w1))).run pins s' σ H' D I ⟨w2, w3, w4⟩⟩
  refine ⟨_, pss_one (ps_try_only (X := (cxOf C8.CX0 X.prog X.w X.K X.mg X.base Ng x sg g cdg X.A X.stack sh Hh C8.E0).nox) rfl rfl nm LamX.takes0 (fun W pn xe tk _ => inner W pn xe tk) (fun _ _ _ _ _ _ _ => pss_one (ps_ret pe_non))), ?_⟩
  refine ⟨_, fun cls d σ' H' hh => ?_, h0 f, hco, hw⟩
  exact ⟨true, hh.1, fun _ _ _ => hh.2, fun z => nomatch z⟩

theorem TabIn.uniq {K : PySem.W.Frag} {P P' : Addr} (a : TabIn K P) (b : TabIn K P') : P' = P := by
  obtain ⟨f, o, fd, c, e, dd, vs, sl, h1, h2, h3, h4, h5, h6⟩ := a
  obtain ⟨f', o', fd', c', e', dd', vs', sl', i1, i2, i3, i4, i5, i6⟩ := b
  rw [h1] at i1; cases i1
  rw [h2] at i2; cases i2
  rw [h3] at i3; cases i3
  rw [h4] at i4; cases i4
  rw [h5] at i5; cases i5
  rw [h6] at i6; cases i6
  rfl
/-- the entry of a def that tells -/
structure ToldAt (K : PySem.W.Frag) (C : Cy) : Prop where
  tabs : ∀ a ps, C.H0 a = some (.tbl ps) → TabIn K a
  own : ∀ a, C.ow0 a ≤ 1 ∨ TabIn K a
/-- the def that tells has a code object with a table of its own -/
structure LawT (X : Cx) : Prop where
  ex : ∃ c P, LamX.TabB X.base X.mg c P ∧ X.env.code = .ref c ∧ TabIn X.K P
  q : X.env.qual ++ "<lambda>" = lamQ
/-- the def told -/
theorem lam_by {X : Cx} {sc scope : Scope} (h : LamX.lamSB sc scope = true) (e : X.env.scope = sc := by rfl) : LamX.lamSB X.env.scope scope = true := by rw [e]; exact h
structure ToldFn (K : PySem.W.Frag) (mg : Str → Option Value) (x a : Str) (CS : Addr) : Prop where
  ex : ∃ (st : Stmt) (g : Addr) (fd : FuncData) (N : List Str) (e : Str) (j : _) (p1 p2 p3 p4 p5 p6 p7 p8 : Pos), Fun K x x st g fd ∧ mg x = some (.ref g) ∧ FnScope N [a] (defScope st) ∧ N[0]? = some a ∧ Vis (defScope st) a ∧ Binds K fd [a] [] ∧
    defBody st = [.Try [.Return (some (.Call (.Name a p1) [] [] p2)) p3] [.ExceptHandler (some (.Name e p4)) none [.Return (some (.Constant .none j p5)) p6] p7] [] [] p8] ∧ (defScope st).names.lookup e = some .globalImplicit ∧ XC K mg e CS ∧ (e == ("__debug__" : Str)) = false
section
variable {X : Cx} {C : Cy} {K : PySem.W.Frag} {σ : St} {H H1 : Hp} {ow : Ow} {ρ : Rho} {CS : Addr}
theorem ntb_dec (o : HO) : NTb o ∨ ∃ ps, o = .tbl ps := by
  cases o with
  | tbl ps => exact .inr ⟨ps, rfl⟩
  | _ => exact .inl fun ps z => by cases z
theorem codeO_bad {c a : Addr} {q : Str} : BadO K a (LamX.CodeO c q) := .ext _
/-- the table has grown: all else stays -/
theorem SR.extN (S : SR K C ρ ow σ H) (T : ToldAt K C) (h0 : ρ.getD 0 .u = .tb) {P : Addr} (hP : TabIn K P) (e : LamX.ExtN H H1) (t : LamX.TabS H1 P lamQ) : Later ow H ow H1 ∧ SR K C ρ ow σ H1 := by
  have tb : RTb K ow H 2 := by have := S.slots 0; rw [h0] at this; exact this
  have oP : ow P = 2 := (tb P hP).1
  obtain ⟨ps, t1, t2, t3⟩ := t
  -- an owned table is the law's own
  have isP : ∀ {a : Addr} {qs : Array Value}, ow a ≠ 0 → H a = some (.tbl qs) → a = P := fun {a qs} z ea => by
    by_cases q : TabIn K a
    · exact hP.uniq q
    · exact absurd ea ((S.trk a z).2 _ (.tbl qs q))
  have l : Later ow H ow H1 := .mk fun a o z ea n => by
    rcases ntb_dec o with q | ⟨qs, rfl⟩
    · exact ⟨e a o ea q, rfl⟩
    · by_cases z0 : ow a = 0
      · exact absurd rfl (n z0 qs)
      · have := isP z0 ea
        subst this
        omega
  refine ⟨l, ⟨S.len, fun j => ?_, S.ent.trans l, S.out, fun a z => ?_, fun a z => ?_, S.par⟩⟩
  · by_cases j0 : j = 0
    · subst j0
      rw [h0]
      intro P' hP'
      have := hP.uniq hP'
      subst this
      refine ⟨oP, ps, t1, t2, fun pos cv hc => ?_⟩
      obtain ⟨c, c1, c2⟩ := t3 pos cv hc
      refine ⟨c, c1, ?_, c2⟩
      by_cases oc : ow c = 0
      · exact oc
      · cases ec : H c with
        | none => exact absurd ec (S.trk c oc).1
        | some o =>
          rcases ntb_dec o with q | ⟨qs, rfl⟩
          · have := e c o ec q
            rw [c2] at this
            cases this
            exact absurd ec ((S.trk c oc).2 _ codeO_bad)
          · have := isP oc ec
            subst this
            rw [t1] at c2
            cases c2
    · refine (S.slots j).other0 l.z fun a o z ea => ?_
      rcases ntb_dec o with q | ⟨qs, rfl⟩
      · exact ⟨e a o ea q, z⟩
      · have := isP (by omega) ea
        subst this
        omega
  · cases ea : H a with
    | none => exact absurd ea (S.trk a z).1
    | some o =>
      rcases ntb_dec o with q | ⟨qs, rfl⟩
      · rw [e a o ea q, ← ea]; exact S.trk a z
      · have := isP z ea
        subst this
        refine ⟨by rw [t1]; exact nofun, fun u b z2 => ?_⟩
        rw [t1] at z2
        cases z2
        cases b with
        | tbl _ h => exact h hP
  · cases ea : C.H0 a with
    | none => exact absurd ea z
    | some o =>
      by_cases q : TabIn K a
      · have := hP.uniq q
        subst this
        rw [t1]; exact nofun
      · have nt : NTb o := by
          rcases ntb_dec o with y | ⟨qs, rfl⟩
          · exact y
          · exact absurd (T.tabs a qs ea) q
        rcases T.own a with y | y
        · rw [e a o (S.ent.ap a o y ea (fun _ => nt)).1 nt]; exact nofun
        · exact absurd y q
/-- told(lambda: g(..)): what g gives, or None if it raises -/
def dTold (sem : Sem1) (ds : DenA) : Den := fun ρ => match ρ.getD 0 .u with
  | .tb => (ds ρ).bind fun r => (sem (r.1.map .d)).bind fun q => (R.ok (toldD q.1)).bind fun d => .ok (d, r.2)
  | _ => .stk
theorem se_told {k : Nat} {x a y : Str} {ps : List Str} {sem : Sem1} {e : Expr} {es : List Expr} {ds : DenA} {params : Arguments} {scope : Scope} {p py lpos ypos pos : Pos} (TF : ToldFn X.K X.mg x a CS) (LT : LawT X) (T : ToldAt X.K C) (F : FDX X.prog X.w X.K X.mg X.base k y ps CS sem) (hr : Room (k + 2) X.A)
    (ha : ∀ (A : Around) (outer : List Env) (s : Shared) (H : Hp) (E : XK) (f c' : Addr), SA (LamX.lamCx X A outer s H E scope f c') C (e :: es) ds)
    (hds : ∀ ρ as ρ', ds ρ = .ok (as, ρ') → as.length = (e :: es).length) (hn : (e :: es).length = ps.length) (L : LamX.lamSB X.env.scope scope = true) (hg : Gl X x) (hdef : defaultsOf params X.env = ([], []))
    (hgy : ∀ (A : Around) (outer : List Env) (s : Shared) (H : Hp) (E : XK) (f c' : Addr), Gl (LamX.lamCx X A outer s H E scope f c') y)
    (hbind : ∀ (q : Str) (cl : List (Str × Addr)) (pm cv ctv : Value), bindArgs (PySem.W.kla_fn "<lambda>" q params (.Call (.Name y py) (e :: es) [] ypos) scope cl pm cv ctv) ⟨[], []⟩ = pure [])
    (hdb : (x == ("__debug__" : Str)) = false := by decide) (hdy : (y == ("__debug__" : Str)) = false := by decide) (hda : (a == ("__debug__" : Str)) = false := by decide) (hca : (a == ("__classdict__" : Str)) = false := by decide)
    (he : ∀ env : Env, starEach (e :: es) env = (false, eval e env) :: starEach es env := by intro _; rfl) (hpl : ∀ env : Env, (backTo ypos (starEach es env)).any (·.1) = false := by intro _; rfl) :
    SE X C (.Call (.Name x p) [.Lambda params (.Call (.Name y py) (e :: es) [] ypos) scope lpos] [] pos) (dTold sem ds) := fun ct => by
  obtain ⟨st, g, fd, N, ex, j, p1, p2, p3, p4, p5, p6, p7, p8, hF, hmx, hS, hN0, hva, hB, hbody, hex, hXC, hde⟩ := TF.ex
  obtain ⟨oc, od, kV, doc, pm, an, cdv, ctv, osl, rfl, lk, hcd⟩ := hF.ex
  obtain ⟨c, P, TB, hcode, hP⟩ := LT.ex
  obtain ⟨fy, fdy, y1, y2, y3, y4⟩ := F.ex
  have h0 : ∀ f : Addr, (L2.start N [V.ref f])[0]? = some (some (V.ref f)) := fun f => by
    unfold L2.start
    rfl
  have G := gives0 (X := X) (x := x) (q := X.env.qual ++ "<lambda>") (sg := defScope st) (g := g) (cdg := cdv) (a := a) (j := j) (p1 := p1) (p2 := p2) (p3 := p3) (p4 := p4) (p5 := p5) (p6 := p6) (p7 := p7) (p8 := p8) hex hXC.g hde h0
  rw [← hbody] at G
  refine PE.imp (LamX.pe_lamcall (T := [(P, X.env.qual ++ "<lambda>")]) (TT := TT0 X.K CS) (t := fun E => tCall (spX X.K ps.length CS sem) [] E (rdA X.K C ds)) (k := k) hg hmx hF.kp lk hcd hB hS hN0 hva G TB hcode (List.mem_singleton.mpr rfl)
    (fun q hq _ => by rw [List.mem_singleton.mp hq]) hr (LamX.lamS_by L) hdef hbind (fun A outer s H E f c' hr' => ?_) hdb hda hca) fun σ H Q ⟨ρ, ow, S, h⟩ => ?_
  · have ct' : Ct (LamX.lamCx X A outer s H E scope f c') := ⟨rfl, ct.nd, by have := hr'.un; show (A.deeper _).units + 65 < cLine; omega, hr'.hd⟩
    have tk : Takes (LamX.lamCx X A outer s H E scope f c') (fun cls d _ H => E cls d H) := takes_of rfl rfl rfl rfl
    exact pe_call (X := LamX.lamCx X A outer s H E scope f c') y1 hr' (hgy A outer s H E f c') y2 y3 y4 .nil (passes_call tk fun _ _ _ _ z => z) (ha A outer s H E f c' ct') hdy (he _) (hpl _)
  · unfold dTold at h
    split at h
    case h_2 => exact h.elim
    rename_i h0t
    have tb : RTb X.K ow H 2 := by have := S.slots 0; rw [h0t] at this; exact this
    refine ⟨fun q hq => ?_, fun H1 eN tN => ?_⟩
    · rw [List.mem_singleton.mp hq]
      obtain ⟨_, qs, t1, t2, t3⟩ := tb P hP
      refine ⟨qs, t1, t2, fun pos cv hc => ?_⟩
      obtain ⟨c1, w1, _, w2⟩ := t3 pos cv hc
      exact ⟨c1, w1, by rw [LT.q]; exact w2⟩
    · have tS := tN _ (List.mem_singleton.mpr rfl)
      rw [LT.q] at tS
      obtain ⟨l, S1⟩ := S.extN T h0t hP eN tS
      refine ⟨ρ, ow, S1, ?_⟩
      have h := Post.later l h
      cases e1 : ds ρ with
      | exc c x => rw [e1] at h; exact h.elim
      | stk => rw [e1] at h; exact h.elim
      | ok r =>
        obtain ⟨as, ρ1⟩ := r
        rw [e1] at h
        intro vs H2 ow2 l2 S2 r2
        show spX X.K ps.length CS sem (vs ++ []) H2 Q _
        rw [List.append_nil]
        refine callX_rd (k := fun d => .ok (toldD d)) S2 r2 ((hds _ _ _ e1).trans hn) (Post.later l2 h) (fun d d' x1 x2 => ?_) fun d d' H' ow' x1 x2 _ hq => ?_
        · cases x2; unfold toldD; rw [x1, if_neg Bool.false_ne_true]
        · cases x2
          unfold toldD at hq
          rw [x1, if_pos rfl] at hq
          exact ⟨hXC.m, hq .non .non⟩
end
end L2.DY

/-! ### the law -/
namespace L2.DY
open PySem PySem.Spec PyProof.Rows
def spLawT (K : PySem.W.Frag) : Sp := fun vs H Q _ => ∃ (a : Addr) (ns : List Int), vs = [.ref a] ∧ SqL K H a (ns.map V.int) ∧ ns.length ≤ 63 ∧ (∀ P, TabIn K P → H P = some (.tbl #[])) ∧ ∀ H', Q (.bl true) H'
section
variable {P : Program} {w : World} {K : PySem.W.Frag} {mg : Str → Option Value} {base : Heap}
open Classical in
/-- a law that tells: its own table is its slot 0's -/
theorem law_denT {qual : Str} {st : Stmt} {f c Pt : Addr} {N : List Str} {p x : Str} {k : Nat} {body : List Int → SDen} {oc : Value} {od an : Option Addr} {osl : Array (Option Value)} {kV doc pm ct : Value}
    (lk : K.lookup f = some ⟨oc, od, .func (PySem.W.fnOf x qual (defArgs st) (defBody st) (defScope st) .none kV doc pm an (.ref c) ct), osl⟩) (hcd : PySem.W.codeIn K (.ref c) qual = true) (S : FnScope N [p] (defScope st)) (hN : 1 ≤ N.length)
    (hP : TabIn K Pt) (hnl : K.lookup Pt = none) (TB : LamX.TabB base mg c Pt) (hq : (qual ++ ".<locals>.") ++ "<lambda>" = lamQ)
    (hb : ∀ (ns : List Int) (A : Around) (outer : List Env) (s : Shared) (H : Hp) (E : XK) (H0 : Hp) (ow : Ow) (σ0 : St), Room k (A.deeper (envOfC qual (defScope st) s.heap.objs.size f (.ref c))) → ScriptAt K ⟨H0, ow, σ0, br0⟩ ns → ToldAt K ⟨H0, ow, σ0, br0⟩ →
      LawT (cxOf CX0 P w K mg base N qual (defScope st) f (.ref c) A outer s H E).nox → SSs (cxOf CX0 P w K mg base N qual (defScope st) f (.ref c) A outer s H E).nox ⟨H0, ow, σ0, br0⟩ (defBody st) (body ns))
    (ht : ∀ ns : List Int, ns.length ≤ 63 → ∃ ρ, body ns ((List.replicate N.length .u).set 0 .tb) = .rt (.bool true) ρ) :
    FnOk P w K mg base CX0 (k + 1) f (PySem.W.fnOf x qual (defArgs st) (defBody st) (defScope st) .none kV doc pm an (.ref c) ct) [p] (spLawT K) := by
  refine fn_of lk hcd S (fun vs H Q E h => ?_) (fun A outer s H vs Q E hr h => ?_)
  · obtain ⟨_, _, rfl, _⟩ := h; rfl
  · obtain ⟨a, ns, rfl, hS, hl, hT, q⟩ := h
    have cc : Ct (cxOf CX0 P w K mg base N qual (defScope st) f (.ref c) A outer s H E).nox := ⟨rfl, S.nd, by have := hr.un; show (A.deeper _).units + 65 < cLine; omega, hr.hd⟩
    -- the entry: no table but our own is seen
    let H0 : Hp := fun b => if (∃ ps, H b = some (.tbl ps)) ∧ ¬ TabIn K b then none else H b
    let ow : Ow := fun b => if TabIn K b then 2 else 0
    have k0 : ∀ {b : Addr} {o : HO}, H b = some o → NTb o → H0 b = some o := fun {b o} e n => by
      show (if _ then _ else _) = _
      rw [if_neg fun z => by obtain ⟨ps, z⟩ := z.1; rw [e] at z; cases z; exact n ps rfl]; exact e
    have k1 : ∀ {b : Addr} {o : HO}, H0 b = some o → H b = some o := fun {b o} e => by
      have e : (if (∃ ps, H b = some (.tbl ps)) ∧ ¬ TabIn K b then none else H b) = some o := e
      split at e
      · cases e
      · exact e
    have a0 : ow a = 0 := by
      refine if_neg fun z => ?_
      have := hT a z
      rcases hS with (h2 | ⟨o, h2⟩) | ⟨o, vs, n, h2, h3, h4, _⟩
      · rw [h2] at this; cases this
      · rw [h2] at this; cases this
      · have := z.uniq hP
        subst this
        rw [hnl] at h2; cases h2
    have A0 : ScriptAt K ⟨H0, ow, start N [.ref a], br0⟩ ns := ⟨⟨a, by rw [getD_start]; rfl, by
      rcases hS with (h2 | ⟨o, h2⟩) | h2
      · exact .inl (.inl (k0 h2 nofun))
      · exact .inl (.inr ⟨o, k0 h2 nofun⟩)
      · exact .inr h2, a0⟩, fun b => by
      show (if _ then _ else _) ≠ 1
      split <;> omega, hl⟩
    have T0 : ToldAt K ⟨H0, ow, start N [.ref a], br0⟩ := ⟨fun b ps e => (by
      by_cases z : TabIn K b
      · exact z
      · have e : (if (∃ ps, H b = some (.tbl ps)) ∧ ¬ TabIn K b then none else H b) = some (.tbl ps) := e
        have hb := k1 e
        rw [if_pos ⟨⟨ps, hb⟩, z⟩] at e
        cases e), fun b => by
      by_cases z : TabIn K b
      · exact .inr z
      · exact .inl (by show (if _ then _ else _) ≤ 1; rw [if_neg z]; omega)⟩
    have LT : LawT (cxOf CX0 P w K mg base N qual (defScope st) f (.ref c) A outer s H E).nox := ⟨⟨c, Pt, TB, rfl, hP⟩, hq⟩
    refine ⟨_, (hb ns A outer s H E H0 ow (start N [.ref a]) hr A0 T0 LT cc).nox, (List.replicate N.length .u).set 0 .tb, ow, ?_, ?_⟩
    · refine ⟨?_, fun i => ?_, .mk fun b o z e n => ⟨k1 e, rfl⟩, fun b h => h, fun b z => ?_, fun b z => ?_, fun i h => rfl⟩
      · unfold start
        simp only [List.length_set, List.length_append, List.length_replicate, List.length_map, List.length_cons, List.length_nil]
        omega
      · rw [getD_set]
        by_cases e : 0 = i ∧ 0 < (List.replicate N.length Sl.u).length
        · rw [if_pos e, ← e.1]
          intro P' hP'
          refine ⟨if_pos hP', #[], hT P' hP', True.intro, fun pos cv hc => ?_⟩
          have z : codeAmong pos [] = some cv := hc
          simp [codeAmong] at z
        · rw [if_neg e]
          have : (List.replicate N.length Sl.u).getD i .u = .u := by
            rw [List.getD_eq_getElem?_getD, List.getElem?_replicate]
            split <;> rfl
          rw [this]; exact True.intro
      · have hb : TabIn K b := by
          by_cases y : TabIn K b
          · exact y
          · exact absurd (if_neg y) z
        refine ⟨by rw [hT b hb]; exact nofun, fun u bad z2 => ?_⟩
        rw [hT b hb] at z2
        cases z2
        cases bad with
        | tbl _ h => exact h hb
      · cases e : H0 b with
        | none => exact absurd e z
        | some o => rw [k1 e]; exact nofun
    · obtain ⟨ρ, e⟩ := ht ns hl
      rw [e]
      intro v σ' H' ow' l S' r
      cases r
      exact q H'
end
end L2.DY

namespace L2.DY
open PySem PySem.Spec PyProof.Rows
/-- what the top has written of an own class of exceptions -/
structure XA (K : PySem.W.Frag) (x : Str) : Prop where
  ex : ∃ CS, PySem.W.nsIn K mainGlobals x = some (some (.ref CS)) ∧ PySem.W.keepIn K (.ref CS) = true ∧ PySem.W.excIn K CS [.type "ValueError", .type "Exception", .type "BaseException", .type "object"] "ValueError.__new__" = true ∧
    PySem.W.subIn K (.ref CS) (.type "BaseException") = some true ∧ PySem.W.typeIn K (.ref CS) = some (.type "type") ∧ PySem.W.exmOne K (.ref CS) (.ref CS) = some true
theorem xa_mk {K : PySem.W.Frag} {x : Str} {CS : Addr} (a : PySem.W.nsIn K mainGlobals x = some (some (.ref CS))) (k : PySem.W.keepIn K (.ref CS) = true) (q : PySem.W.excIn K CS [.type "ValueError", .type "Exception", .type "BaseException", .type "object"] "ValueError.__new__" = true)
    (s : PySem.W.subIn K (.ref CS) (.type "BaseException") = some true) (t : PySem.W.typeIn K (.ref CS) = some (.type "type")) (m : PySem.W.exmOne K (.ref CS) (.ref CS) = some true) : XA K x := ⟨CS, a, k, q, s, t, m⟩
theorem XA.xc {K : PySem.W.Frag} {x : Str} {h : Heap} {mg : Str → Option Value} (A : XA K x) (X : K.In h) (G : h.Ns mainGlobals mg) : ∃ CS, XC K mg x CS := by
  obtain ⟨CS, a, k, q, s, t, m⟩ := A.ex
  exact ⟨CS, PySem.W.mg_of X G a, k, q, s, t, m⟩
end L2.DY

end
section
/-! A def walked raw, from the point where HandS calls it: what the kit's walk (OpenK) wants of the state is made from what HandS knows. -/
namespace L2.DY
open PySem PySem.Spec PyProof.Rows PySem.Calls PySem.W

/-- a program of which nothing is told -/
def noP : Program := { main := { body := [.Import [⟨"sys", none, ⟨1, 0, 1, 1⟩⟩] ⟨1, 0, 1, 1⟩], scope := ⟨.module, [], false, false, []⟩, futureAnnotations := false, file := "", more := [] }, modules := [], parses := [], absent := [] }
theorem noP_recs : recsOf noP = [] := by rfl
theorem noP_owns : ownsOf noP = [] := by rfl
theorem noP_lits : litsOf noP = [] := by rfl
theorem noP_clss (l : List Str) : clssOf noP l = [] := by rfl
theorem noP_val (x : Str) : valOf noP x = none := by rfl
theorem noP_imp : importsNone noP = false := by rfl

/-- the names of a dict -/
def namesOf (es : Array DictEntry) : List Str := es.toList.filterMap fun e => match e.key with | .str n _ => some n | _ => none
theorem ns_names {h : Heap} {a : Addr} {m : Str → Option Value} (n : h.Ns a m) : ∃ l : List Str, ∀ x, x ∉ l → m x = none := by
  obtain ⟨o, es, ep, ho, hd, hk, hf⟩ := n
  refine ⟨namesOf es, fun x hx => ?_⟩
  rw [← hf]
  cases q : nsFind es x with
  | none => rfl
  | some v =>
    exfalso
    unfold nsFind findBy at q
    rw [← Array.find?_toList] at q
    cases q2 : es.toList.find? (fun e => e.key.isStr x) with
    | none => rw [q2] at q; cases q
    | some e =>
      have hm := List.mem_of_find?_eq_some q2
      have hp := List.find?_some q2
      obtain ⟨n, t, hn⟩ := hk e (Array.mem_toList_iff.mp hm)
      refine hx (List.mem_filterMap.mpr ⟨e, hm, ?_⟩)
      rw [hn] at hp ⊢
      have : n = x := by
        have hp' : (Value.str n t).isStr x = true := hp
        simpa [Value.isStr] using hp'
      rw [this]
/-- a dict of names of the written part -/
def strDict (K : PySem.W.Frag) (a : Addr) : Bool := match K.lookup a with
  | some ⟨_, _, .dict es _, _⟩ => es.toList.all fun e => match e.key with | .str _ _ => true | _ => false
  | _ => false
theorem ns_of_K {K : PySem.W.Frag} {h : Heap} {a : Addr} (X : K.In h) (e : strDict K a = true) : ∃ m, h.Ns a m ∧ ∀ n v, nsIn K a n = some v → m n = v := by
  unfold strDict at e
  split at e
  · rename_i c d es n sl q
    refine ⟨fun x => nsFind es x, ⟨_, es, n, X _ _ q, rfl, fun u hu => ?_, fun _ => rfl⟩, fun x v ev => ?_⟩
    · have := List.all_eq_true.mp e u (Array.mem_toList_iff.mpr hu)
      revert this
      cases u.key <;> intro this <;> first | exact ⟨_, _, rfl⟩ | cases this
    · unfold nsIn at ev
      rw [q] at ev
      show nsFind es x = v
      unfold nsFind findBy
      rw [← Array.find?_toList]
      revert ev
      show (match es.toList.find? (fun u => u.key.isStr x) with | some u => some (some u.val) | none => if es.toList.any (·.refKey) then none else some none) = some v → _
      cases es.toList.find? (fun u => u.key.isStr x) with
      | none =>
        intro ev
        dsimp only at ev
        split at ev
        · cases ev
        · cases ev; rfl
      | some u => intro ev; cases ev; rfl
  · cases e

/-- what the walk wants to be told of the top, made from HandS's -/
structure RawK (K : PySem.W.Frag) : Prop where
  st : strDict K cStatics = true
  dg : nsIn K cStatics "sys.int_max_str_digits" = some none
theorem rawK_mk {K : PySem.W.Frag} {h : Heap} (_ : K.In h) (st : strDict K cStatics = true) (dg : nsIn K cStatics "sys.int_max_str_digits" = some none) : RawK K := ⟨st, dg⟩
theorem raw_top {K : PySem.W.Frag} {h base : Heap} {mg : Str → Option Value} (R : RawK K) (M : L2.Mod K mg base) {Pt : Addr} (BT : base.BuiltinsAt mg Pt) (k : ∀ b o, base.get? b = some o → h.get? b = some o) :
    ∃ loose mb, Top noP loose (fun _ => none) mg mb h := by
  have X : K.In h := M.kin.keeps k
  have G : h.Ns mainGlobals mg := M.glob.keeps k
  obtain ⟨mb, nb, hb⟩ := M.blt
  obtain ⟨mc, nc, hc⟩ := ns_of_K X R.st
  obtain ⟨loose, hl⟩ := ns_names G
  obtain ⟨bm, ob, b1, b2, _, _, b3, b4, b5, b6⟩ := BT
  refine ⟨loose, mb, ?_⟩
  exact {
    g := G
    b := nb.keeps k
    nolimit := M.nolimit.keeps k
    nodigits := ⟨mc, nc, hc _ _ R.dg⟩
    fn := fun d hd => by rw [noP_recs] at hd; cases hd
    own := fun d hd => by rw [noP_owns] at hd; cases hd
    const := fun x d hv => by rw [noP_val] at hv; cases hv
    free := fun x _ hx _ _ _ => hl x hx
    builtins := hb
    tab := fun d hd => by rw [noP_recs] at hd; cases hd
    bmain := ⟨bm, ob, b1, b2, k _ _ b3, b4, b5, b6⟩
    seer := fun hi => by rw [noP_imp] at hi; cases hi }

theorem then_ {p G : Prop} (h : p) (f : p → G) : G := f h
/-- the ground of a raw walk: nothing but the module's names -/
def noH : Heap := {}
theorem noH_get (b : Addr) : noH.get? b = none := by
  first | rfl | simp [noH, Heap.get?]

/-- a def without parameters is entered; its cells are made -/
theorem raw_enter {P : Program} {w : World} {K : PySem.W.Frag} {mg : Str → Option Value} {base : Heap} {CX : CXT} {A : Around} {outer : List Env} {s : Shared} {H : Hp} {Q : VK} {E : XK}
    {name qual : Str} {params : Arguments} {body : List Stmt} {scope : Scope} {dV kV doc pm cdv ct oc : Value} {an od : Option Addr} {osl : Array (Option Value)} {f : Addr} {args : Args}
    (RK : RawK K) {Pt : Addr} (BT : base.BuiltinsAt mg Pt) (he : Env0 P w K mg base A outer s H) (hroom : A.depth < recursionLimit)
    (ho : K.lookup f = some ⟨oc, od, .func (fnOf name qual params body scope dV kV doc pm an cdv ct), osl⟩) (hcd : codeIn K cdv qual = true)
    (hbind : BindsTo s (fnOf name qual params body scope dV kV doc pm an cdv ct) args [])
    (hnd : ((cellsFrom 0 scope.names []).map (·.1)).Nodup)
    (h : ∀ loose mb L' h₁ tk cells, Fr s.heap L' h₁ (bindL (envOfC qual scope L' f cdv).kindOf [] fun _ => none) → News s.heap L' h₁ cells → CellsAre (bindC (envOfC qual scope L' f cdv).kindOf [] fun _ => none) (cellsFrom (L' + 1) scope.names []) cells →
      Below A base outer s.heap → K.In s.heap → Top noP loose (fun _ => none) mg mb s.heap →
      wpAny (model P w) (A.deeper (envOfC qual scope L' f cdv)) (execs body (envOfC qual scope L' f cdv))
        (fun fl s' => LeaveK noH mainGlobals mg s.heap (fun r s' => r = .ok (.ret (.bool true)) ∧ s'.os = s.os ∧ s'.gens = s.gens) (match fl with | .ret v => v | _ => .none) s')
        (fun e s' => wpAny (model P w) (A.deeper (envOfC qual scope L' f cdv)) (leaving (envOfC qual scope L' f cdv) e) (fun _ s'' => False) (fun e' s'' => False) s')
        { s with heap := h₁, toks := tk })
    (hq : Q (.bl true) H)
    (hco : scope.isCoroutine = false := by rfl) (hgen : scope.isGenerator = false := by rfl) (hk : scope.kind = .function := by rfl) :
    codeAny (model P w) A (.call (.ref f) args) (CR CX outer P w H s Q E) s := by
  have kb : ∀ b o, base.get? b = some o → s.heap.get? b = some o := fun b o e => (he.bs b o e).1
  have X : K.In s.heap := he.mod.kin.keeps kb
  obtain ⟨loose, mb, T⟩ := raw_top RK he.mod BT kb
  have B : Below A base outer s.heap := ⟨he.frames, kb, he.funs⟩
  have fin : ∀ (v : Value) (s' : Shared), LeaveK noH mainGlobals mg s.heap (fun r s' => r = .ok (.ret (.bool true)) ∧ s'.os = s.os ∧ s'.gens = s.gens) v s' → CR CX outer P w H s Q E (.ok (.ret v)) s' := fun v s' hl => by
    obtain ⟨L', m', news', F', N', k⟩ := hl
    have G' : s'.heap.Ns mainGlobals mg := T.g.keeps F'.keep
    obtain ⟨oG, eG, pG, hG, rG⟩ := T.g
    obtain ⟨e1, e2, e3⟩ := k ⟨G', fun b o e => (by rw [noH_get] at e; cases e), Nat.zero_le _⟩ fun p hp => ⟨(N' p hp).1, fun z => (by
      have := (N' p hp).2.2
      rw [z, hG] at this
      cases this), noH_get _⟩
    cases e1
    refine ⟨.bl true, H, e2, ?_, ?_, ?_, rfl, hq⟩
    · rw [e3]; exact he.bare
    · exact Un.kept F'.keep
    · exact he.hok.kept F'.keep
  refine codeAny_call_function hroom (X _ _ ho) rfl hco hgen rfl (codeRec_of X hcd) (hbind _ _ _ _ ?_)
  refine wpAny_newFunctionEnv_cells hk (fun x hx => nomatch hx) fun env' he' s' x => ?_
  subst he'
  refine ⟨T.nolimit.keeps x.toInCall.keep, codeAny_func ?_⟩
  obtain ⟨h₁, tk, rfl, _⟩ := x.done
  have hk₁ := x.toInCall.keep
  obtain ⟨cells, NC, Y⟩ := Cl.news (h₀ := s.heap) (Nat.le_refl _) fun n c hm => ⟨x.cell n c (lookup_of_mem_nodup (cellsFrom_names scope.names 0 (s.heap.objs.size + 1) [] [] rfl ▸ hnd) hm), x.above n c hm⟩
  exact wpAny_mono (h loose mb s.heap.objs.size h₁ tk cells ⟨x.toInCall.ns, hk₁, Nat.le_refl _⟩ NC Y B X T) (fun fl s' hl => fin _ s' hl) fun e s' hy => wpAny_mono hy (fun _ _ z => z.elim) fun _ _ z => z.elim

/-- a def without parameters that answers True, whatever the heap -/
def spT : Sp := fun vs H Q _ => vs = [] ∧ Q (.bl true) H
def RawOk (P : Program) (w : World) (K : PySem.W.Frag) (mg : Str → Option Value) (k : Nat) (x : Str) : Prop :=
  ∃ (f : Addr) (fd : FuncData), nsIn K mainGlobals x = some (some (.ref f)) ∧ keepIn K (.ref f) = true ∧ L2.Binds K fd [] [] ∧ ∀ (base : Heap) (Pt : Addr), base.BuiltinsAt mg Pt → FnOk P w K mg base CX0 k f fd [] spT
theorem raw_ok {P : Program} {w : World} {K : PySem.W.Frag} {mg : Str → Option Value} {k : Nat} {x : Str}
    {params : Arguments} {body : List Stmt} {scope : Scope} {dV kV doc pm cdv ct oc : Value} {an od : Option Addr} {osl : Array (Option Value)} {f : Addr}
    (RK : RawK K) (hx : nsIn K mainGlobals x = some (some (.ref f))) (hk : keepIn K (.ref f) = true)
    (ho : K.lookup f = some ⟨oc, od, .func (fnOf x x params body scope dV kV doc pm an cdv ct), osl⟩) (hcd : codeIn K cdv x = true)
    (hb : bindArgs (fnOf x x params body scope dV kV doc pm an cdv ct) ⟨[], []⟩ = pure [])
    (hnd : ((cellsFrom 0 scope.names []).map (·.1)).Nodup) (hco : scope.isCoroutine = false) (hgen : scope.isGenerator = false) (hki : scope.kind = .function)
    (h : ∀ (A : Around) (outer : List Env) (s : Shared) (H : Hp) (base : Heap) loose mb L' h₁ tk cells, Room k A → Env0 P w K mg base A outer s H → Fr s.heap L' h₁ (bindL (envOfC x scope L' f cdv).kindOf [] fun _ => none) → News s.heap L' h₁ cells →
      CellsAre (bindC (envOfC x scope L' f cdv).kindOf [] fun _ => none) (cellsFrom (L' + 1) scope.names []) cells → Below A base outer s.heap → K.In s.heap → Top noP loose (fun _ => none) mg mb s.heap →
      wpAny (model P w) (A.deeper (envOfC x scope L' f cdv)) (execs body (envOfC x scope L' f cdv))
        (fun fl s' => LeaveK noH mainGlobals mg s.heap (fun r s' => r = .ok (.ret (.bool true)) ∧ s'.os = s.os ∧ s'.gens = s.gens) (match fl with | .ret v => v | _ => .none) s')
        (fun e s' => wpAny (model P w) (A.deeper (envOfC x scope L' f cdv)) (leaving (envOfC x scope L' f cdv) e) (fun _ s'' => False) (fun e' s'' => False) s')
        { s with heap := h₁, toks := tk }) : RawOk P w K mg k x := by
  refine ⟨f, fnOf x x params body scope dV kV doc pm an cdv ct, hx, hk, Binds.all fun us hl => ?_, fun base Pt BT => ⟨fun vs H Q E q => by rw [q.1]; rfl, fun A outer s H args us vs Q E hr he hbd hv hs => ?_⟩⟩
  · obtain rfl := List.length_eq_zero_iff.mp hl
    exact hb
  · exact raw_enter RK BT he hr.depth ho hcd (by simpa using hbd) hnd (fun loose mb L' h₁ tk cells F N Y B X T => h A outer s H base loose mb L' h₁ tk cells hr he F N Y B X T) hs.2 hco hgen hki
end L2.DY

end
section
/-! Own exceptions held as values: made with an own __init__ that goes up by super(), asked by isinstance, their field read. -/
namespace L2.DY
open PySem PySem.Spec PyProof.Rows PySem.Calls PySem.W

abbrev placeD (hd : Int) (kk tk : Tok) (n : Int) : Obj := dictOf [⟨hd, .str "place" kk, .int n tk⟩] 1
/-- C(n) makes an exception object with the field place -/
def BadK (P : Program) (w : World) (base : Heap) (C : Addr) (n : Int) : Prop :=
  ∀ (A : Around) (outer : List Env) (s : Shared) (tk : Tok) (Q : Value → Shared → Prop), Room 2 A → A.frames = some outer → (∀ b o, base.get? b = some o → s.heap.get? b = some o) → s.heap.FunFrames base outer →
    (∀ h' tk' a dx t1 hd kk, (∀ b o, s.heap.get? b = some o → h'.get? b = some o) → s.heap.get? a = none → s.heap.get? dx = none → dx ≠ a → h'.get? a = some (excObj C t1 (some dx) .none) → h'.get? dx = some (placeD hd kk tk n) →
      Q (.ref a) { s with heap := h', toks := tk' }) → wpAny (model P w) A (call (.ref C) [.int n tk]) Q (fun _ _ => False) s

abbrev bindsB (a : Addr) (n : Int) (tk : Tok) : List (Str × Value) := [(("self" : Str), Value.ref a), (("place" : Str), Value.int n tk)]
/-- what the walk of the __init__ owes at its end -/
def BadEnd (s : Shared) (a : Addr) (C : Addr) (n : Int) (tk : Tok) (r : Result) (s' : Shared) : Prop :=
  r = .ok (.ret .none) ∧ s'.os = s.os ∧ s'.gens = s.gens ∧ s'.drawn = s.drawn ∧ ∃ t1 dx hd kk, s'.heap.get? a = some (excObj C t1 (some dx) .none) ∧ s'.heap.get? dx = some (placeD hd kk tk n) ∧ s.heap.get? dx = none ∧ dx ≠ a

/-- the bases of ValueError -/
abbrev bmVE : List Value := [.type "ValueError", .type "Exception", .type "BaseException", .type "object"]
theorem bad_of {P : Program} {w : World} {K : PySem.W.Frag} {mg : Str → Option Value} {base : Heap} {C fI cc : Addr} {n : Int} {name qual : Str} {params : Arguments} {body : List Stmt} {scope : Scope} {dV kV doc pm cdv ct oc : Value} {an od : Option Addr} {osl : Array (Option Value)}
    (q0 : excInitIn K C bmVE "ValueError.__new__" = true) (iC : findIn K (.ref C) "__init__" = some (some (.ref fI))) (tI : typeIn K (.ref fI) = some (.type "function"))
    (ho : K.lookup fI = some ⟨oc, od, .func (ksFn name qual params body scope dV kV doc pm an cdv ct cc), osl⟩) (hcd : codeIn K cdv qual = true)
    (hb : ∀ x tk, bindArgs (ksFn name qual params body scope dV kV doc pm an cdv ct cc) ⟨[.ref x, .int n tk], []⟩ = pure (bindsB x n tk))
    (hcell : ∀ x ∈ scope.names, x.2 ≠ .cell) (hl1 : scope.names.lookup ("self" : Str) = some .local) (hl2 : scope.names.lookup ("place" : Str) = some .local)
    (RK : RawK K) (M : L2.Mod K mg base) {Pt : Addr} (BT : base.BuiltinsAt mg Pt)
    (h : ∀ (A : Around) (outer : List Env) (s : Shared) (hp : Heap) loose mb a t1 tk L' h₁ tk', A.frames = some outer → Fr hp L' h₁ (fun y => List.lookup y (bindsB a n tk).reverse) → News hp L' h₁ [(a, excObj C t1 none .none)] → Below A base outer hp → K.In hp → Top noP loose (fun _ => none) mg mb hp → a < L' →
      _root_.PySem.wpAt (model P w) (A.deeper (ksEnv qual scope L' fI cdv cc)) (.func body (ksEnv qual scope L' fI cdv cc)) (execs body (ksEnv qual scope L' fI cdv cc))
        (fun fl s' => LeaveK noH mainGlobals mg hp (BadEnd { s with heap := hp } a C n tk) (match fl with | .ret v => v | _ => .none) s')
        (fun e s' => wpAny (model P w) (A.deeper (ksEnv qual scope L' fI cdv cc)) (leaving (ksEnv qual scope L' fI cdv cc) e) (fun _ s'' => False) (fun e' s'' => False) s')
        { s with heap := h₁, toks := tk' })
    (hco : scope.isCoroutine = false) (hgen : scope.isGenerator = false) (hk : scope.kind = .function) : BadK P w base C n := by
  intro A outer s tk Q hr hA kb hff hq
  have X : K.In s.heap := M.kin.keeps kb
  obtain ⟨nm, N', qn, bs, bm, hdct, sn, sub, ab, col, dd, k0, k1, k2, k3, k5, hC, hT⟩ := excInit_of X q0
  obtain ⟨loose, mb, Tp⟩ := raw_top RK M BT kb
  obtain ⟨hp, g, d, t, os⟩ := s
  have kk : ∀ b o, hp.get? b = some o → ((hp.push (kdv_tup [.int n tk])).push (HandSPX.excO C hp.objs.size)).get? b = some o := fun b o e => Heap.get?_push_of_some _ (Heap.get?_push_of_some _ e)
  have hget : ((hp.push (kdv_tup [.int n tk])).push (HandSPX.excO C hp.objs.size)).get? (hp.objs.size + 1) = some (HandSPX.excO C hp.objs.size) := by heap_get
  have hnone : hp.get? (hp.objs.size + 1) = none := by
    cases z : hp.get? (hp.objs.size + 1) with
    | none => rfl
    | some o => exact absurd (Nat.lt_of_succ_lt (Heap.lt_size z)) (Nat.lt_irrefl _)
  have B : Below (A.under (.builtin "type.__call__" ⟨.ref C :: [.int n tk], []⟩)) base outer hp := ⟨by first | exact hA | (simpa [Around.under, Code.envs, Code.isFrame, pushEnvs] using hA), kb, hff⟩
  refine wpAny_call (HandSPX.call_own F.excBase_ValueError hT hC (looks_findIn X iC) (fun self => bind_fn X self tI) (by show 1 ≤ sizeLine; rw [sizeLine_eq]; omega) ?_)
  have hroom : (A.under (.builtin "type.__call__" ⟨.ref C :: [.int n tk], []⟩)).depth < recursionLimit := by
    rw [make_depth]; have := hr.dp; omega
  refine ks_codeAny_call_defAt (fd := ksFn name qual params body scope dV kV doc pm an cdv ct cc) (body := body) (binds := bindsB (hp.objs.size + 1) n tk) hroom (kk _ _ (X _ _ ho)) rfl (Tp.nolimit.keeps kk) (codeRec_of (X.keeps kk) hcd) rfl (BindsTo.of_eq (hb _ _)) hcell (fun y hy => ?_) (fun h₁ hns hk₁ => ?_) hco hgen hk
  · rcases List.mem_cons.mp hy with rfl | hy
    · exact hl1
    · rcases List.mem_cons.mp hy with rfl | hy
      · exact hl2
      · cases hy
  · have hsz : hp.objs.size ≤ ((hp.push (kdv_tup [.int n tk])).push (HandSPX.excO C hp.objs.size)).objs.size := by rw [Heap.size_push, Heap.size_push]; omega
    have ha : hp.objs.size + 1 < ((hp.push (kdv_tup [.int n tk])).push (HandSPX.excO C hp.objs.size)).objs.size := by rw [Heap.size_push, Heap.size_push]; omega
    have fin : ∀ (v : Value) (s' : Shared), LeaveK noH mainGlobals mg hp (BadEnd ⟨hp, g, d, t, os⟩ (hp.objs.size + 1) C n tk) v s' → InitBack (hp.objs.size + 1) (fun r s' => match r with | .ok (.ret v) => Q v s' | .ok _ => False | .error e => False) (.ok (.ret v)) s' := fun v s' hl => by
      obtain ⟨L', m', news', F', N', k⟩ := hl
      have G' : s'.heap.Ns mainGlobals mg := Tp.g.keeps F'.keep
      obtain ⟨oG, eG, pG, hG, rG⟩ := Tp.g
      obtain ⟨e1, e2, e3, e4, t1, dx, hd, kk2, e5, e6, e7, e8⟩ := k ⟨G', fun b o e => (by rw [noH_get] at e; cases e), Nat.zero_le _⟩ fun p hp => ⟨(N' p hp).1, fun z => (by
        have := (N' p hp).2.2
        rw [z, hG] at this
        cases this), noH_get _⟩
      cases e1
      obtain ⟨h2, g2, d2, t2, os2⟩ := s'
      dsimp only at e2 e3 e4 e5 e6 e7
      subst e2 e3 e4
      exact ⟨rfl, hq h2 t2 (hp.objs.size + 1) dx t1 hd kk2 F'.keep hnone e7 e8 e5 e6⟩
    exact ks_wpAt_mono (h _ outer ⟨hp, g, d, t, os⟩ hp loose mb (hp.objs.size + 1) hp.objs.size tk _ h₁ _ B.stack ⟨hns, fun b o e => hk₁ b o (kk b o e), hsz⟩
      (fun p hp' => by
        obtain rfl := List.mem_singleton.mp hp'
        exact ⟨hk₁ _ _ hget, Nat.ne_of_lt ha, hnone⟩) B X Tp ha) (fun fl s' hl => fin _ s' hl) fun e s' hy => wpAny_mono hy (fun _ _ z => z.elim) fun _ _ z => z.elim

/-- the dict of such an object -/
def plD (dx : Addr) (n : Int) : HO := .ext fun h => ∃ hd kk tk, h.get? dx = some (placeD hd kk tk n)
theorem plD_ok {P : Program} {w : World} {H : Hp} {h : Heap} {dx : Addr} {n : Int} {hd : Int} {kk tk : Tok} (e : h.get? dx = some (placeD hd kk tk n)) : ObjOk P w H h dx (plD dx n) :=
  ⟨⟨hd, kk, tk, e⟩, ⟨_, e⟩, fun _ _ ⟨a, b, c, q⟩ k => ⟨a, b, c, k _ q⟩⟩
theorem plD_at {P : Program} {w : World} {H : Hp} {h : Heap} {dx : Addr} {n : Int} (hok : HOk P w H h) (e : H dx = some (plD dx n)) : ∃ hd kk tk, h.get? dx = some (placeD hd kk tk n) := by
  have x : ObjOk P w H h dx (.ext fun h => ∃ hd kk tk, h.get? dx = some (placeD hd kk tk n)) := hok dx _ e
  exact x.1

section
variable {X : Cx}
def tBad (C : Addr) (n : Int) : TE := fun _ H Q => ∀ a dx, H a = none → H dx = none → dx ≠ a → Q (.ref a) (upd (upd H dx (plD dx n)) a (exo a C (some dx)))
theorem pe_bad {C : Addr} {n : Int} {x : Str} {j : Nat} {p p2 pos : Pos} (B : L2.Mod X.K X.mg X.base → BadK X.prog X.w X.base C n) (hr : Room 2 X.A) (gC : X.mg x = some (.ref C)) (kC : keepIn X.K (.ref C) = true) (hg : Gl X x)
    (hs : starEach [.Constant (.int n) j p2] X.env = (false, eval (.Constant (.int n) j p2) X.env) :: starEach [] X.env := by rfl) (hdb : (x == ("__debug__" : Str)) = false := by decide) :
    PE X (.Call (.Name x p) [.Constant (.int n) j p2] [] pos) (tBad C n) := by
  refine ⟨fun pins s σ H Q I h => ?_⟩
  refine wpAny_Call_Name_kw (ld_glob I hg gC ?_ hdb)
  refine callWith_K (h₀ := X.base) I.ok.mod.kin kC ?_ hs (by rfl)
  rw [hs]
  show wpAny _ _ (spliced ((false, eval (.Constant (.int n) j p2) X.env) :: backTo pos (starEach [] X.env))) _ _ s
  refine Calls.spliced_cons (thn ((pe_int (i := n)).run pins s σ H (fun v H1 => v = .int n ∧ H1 = H) I ⟨rfl, rfl⟩) fun u s1 ⟨v, H1, I1, r1, e1, e2⟩ => ?_)
  subst e1
  subst e2
  obtain ⟨tk, rfl⟩ := r1
  refine Calls.spliced_nil ⟨I1.kIn, ?_⟩
  show wpAny _ _ (call (.ref C) [.int n tk]) _ _ _
  refine wpAny_mono (B I1.ok.mod X.A X.stack s1 tk _ hr I1.ok.frames I1.bk I1.env0.funs (fun h' tk' a dx t1 hd kk k na nd ne ea ed => ?_)) (fun _ _ z => z) fun _ _ z => z.elim
  have hna : H1 a = none := I1.hok.gone na
  have hnd : H1 dx = none := I1.hok.gone nd
  have nn : ∀ {b : Addr} {o : Obj} {c : Addr}, s1.heap.get? c = none → s1.heap.get? b = some o → b ≠ c := fun {b o c} y z e => by
    rw [e, y] at z
    cases z
  have Un1 : Un X.fs [] H1 (upd (upd H1 dx (plD dx n)) a (exo a C (some dx))) s1.heap h' := {
    keep := fun b o q _ _ _ => k b o q
    slot := fun b o q _ _ _ => ⟨o.slots, k b o q⟩
    free := fun b o q m _ => by rw [upd_ne (nn na q), upd_ne (nn nd q)]; exact m
    there := fun b o q _ => ⟨o, k b o q⟩
    tups := fun b xs q => by rw [upd_ne (ne_of_none q hna), upd_ne (ne_of_none q hnd)]; exact q
    frzs := fun b o v q => by rw [upd_ne (ne_of_none q hna), upd_ne (ne_of_none q hnd)]; exact q
    tbls := fun b ps q => ⟨#[], by rw [upd_ne (ne_of_none q hna), upd_ne (ne_of_none q hnd), q]; simp⟩ }
  refine ⟨.ref a, _, I1.un (t' := tk') Un1 (fun b o q => ?_), rfl, h a dx hna hnd ne⟩
  by_cases hb : b = a
  · subst hb
    rw [upd_same] at q
    cases q
    exact exo_ok ea
  · rw [upd_ne hb] at q
    by_cases hd : b = dx
    · subst hd
      rw [upd_same] at q
      cases q
      exact plD_ok ed
    · rw [upd_ne hd] at q
      exact (I1.hok b o q).stay (fun c v _ z => k c v z) (fun c hc => by rw [upd_ne (ne_of_none hc hna), upd_ne (ne_of_none hc hnd)]; exact hc) (fun c xs hc => by rw [upd_ne (ne_of_none hc hna), upd_ne (ne_of_none hc hnd)]; exact hc)

/-- at a an exception object of the class C -/
def ExAt (H : Hp) (a C : Addr) : Prop := H a = some (ExO (.ref C) a) ∨ ∃ dx n, H a = some (exo a C (some dx)) ∧ H dx = some (plD dx n)
theorem exAt_inst {P : Program} {w : World} {H : Hp} {h : Heap} {a C : Addr} (hok : HOk P w H h) (e : ExAt H a C) : ∃ ox od, InstAt h a ox C od := by
  rcases e with e | ⟨dx, n, e, ed⟩
  · obtain ⟨⟨oe, vs, ho, hz, hd, _, _⟩, _, _⟩ := hok a _ e
    refine ⟨oe, none, ?_⟩
    obtain ⟨oc, od, oda, osl⟩ := oe
    obtain ⟨h1, h2⟩ := hz
    dsimp only at h1 h2 hd
    subst h1 h2 hd
    exact ⟨ho, rfl, rfl, trivial⟩
  · obtain ⟨t1, ho⟩ := exo_at hok e
    obtain ⟨hd, kk, tk, hp⟩ := plD_at hok ed
    exact ⟨_, some (placeD hd kk tk n), ho, rfl, rfl, hp⟩
/-- what the classes must say, so that isinstance asks their instances rightly -/
structure ExcG (K : PySem.W.Frag) (D : Addr) : Prop where
  cl : (clsIn K D).isSome = true
  hg : findIn K (.ref D) "__getattribute__" = some (some (.builtin "BaseException.__getattribute__"))
  hk : findIn K (.ref D) "__getattr__" = some none
  hs : subIn K (.ref D) (.type "BaseException") = some true
  hd : hasDictIn K D = true
  ha : findIn K (.ref D) "__class__" = some (some (.builtin "object.__class__"))
  hn : specialIn K (.builtin "object.__class__") "__get__" = some (some (.builtin "getset_descriptor.__get__"))
  ht : takesIn K (.builtin "object.__class__") = some true
  hm : mroIn K D (.type "object") = some true
  pl : findIn K (.ref D) "place" = some none
def rIsX (K : PySem.W.Frag) : List V → Hp → VK → Prop := fun xs H Q => ∃ (a D : Addr) (c : V) (cv : Value) (b : Bool), xs = [.ref a, c] ∧ ExAt H a D ∧ ExcG K D ∧ (∀ u, RelV c u → u = cv) ∧ kitOne K (.ref D) cv = some b ∧ Q (.bl b) H
theorem call_isX : CallR X (.builtin "isinstance") (rIsX X.K) := by
  intro pins s σ H xs us Q I r h
  obtain ⟨a, D, c, cv, b, rfl, ea, C, hcv, e, q⟩ := h
  cases r with
  | cons rx rr =>
    cases rr with
    | cons rt rr =>
      cases rr
      cases rx
      have ec := hcv _ rt
      subst ec
      obtain ⟨ox, od, J⟩ := exAt_inst I.hok ea
      exact kia_one (kitx_exc (ox := ox) (od := od) C.cl C.hg C.hk C.hs C.ha C.hn C.ht C.hm) I.kIn J e (fun z => nomatch z) fun tk => ⟨.bl b, H, I.kept (t' := tk) fun _ _ z => z, rfl, q⟩
/-- e.place -/
def tPlace (K : PySem.W.Frag) (te : TE) : TE := fun σ H Q => te σ H fun x H1 => ∃ a C dx n, x = .ref a ∧ ExcG K C ∧ H1 a = some (exo a C (some dx)) ∧ H1 dx = some (plD dx n) ∧ Q (.int n) H1
theorem pe_place {e : Expr} {te : TE} {pos : Pos} (he : PE X e te) (hb : attributeBase e "place" X.env (eval e X.env) = eval e X.env := by rfl) : PE X (.Attribute e "place" pos) (tPlace X.K te) := by
  refine ⟨fun pins s σ H Q I h => ?_⟩
  refine attr_of hb (thn (he.run pins s σ H _ I h) fun u s1 hh => ?_)
  obtain ⟨x, H1, I1, rx, a, C, dx, n, ex, G, ea, ed, q⟩ := hh
  subst ex
  obtain rfl : u = Value.ref a := rx
  obtain ⟨t1, ho⟩ := exo_at I1.hok ea
  obtain ⟨hd, kk, tk, hp⟩ := plD_at I1.hok ed
  have J : InstAt s1.heap a ({ cls := .ref C, dict := some dx, data := .fields #[.ref t1, .none, .none, .none, .bool false, .none] } : Obj) C (some (placeD hd kk tk n)) := ⟨ho, rfl, rfl, hp⟩
  exact HandSPX.exc_get I1.kIn J G.hg G.hk G.hs (findObj_own G.hd G.pl rfl (by rfl)) (by rfl) ⟨.int n, H1, I1.tok _, ⟨tk, rfl⟩, q⟩
end

/-! ### a loop over a list of four exceptions, each asked for its kinds -/
/-- what isinstance says of an instance of D -/
structure KitRow (K : PySem.W.Frag) (CL C1 C2 C3 C4 D : Addr) (b1 b2 b3 b4 : Bool) : Prop where
  g : ExcG K D
  kl : kitOne K (.ref D) (.ref CL) = some true
  kv : kitOne K (.ref D) (.type "ValueError") = some true
  k1 : kitOne K (.ref D) (.ref C1) = some b1
  k2 : kitOne K (.ref D) (.ref C2) = some b2
  k3 : kitOne K (.ref D) (.ref C3) = some b3
  k4 : kitOne K (.ref D) (.ref C4) = some b4
structure ErrK (K : PySem.W.Frag) (CL C1 C2 C3 C4 : Addr) : Prop where
  r1 : KitRow K CL C1 C2 C3 C4 C1 true false false false
  r2 : KitRow K CL C1 C2 C3 C4 C2 false true false false
  r3 : KitRow K CL C1 C2 C3 C4 C3 false false true false
  r4 : KitRow K CL C1 C2 C3 C4 C4 false false false true

section
variable {K : PySem.W.Frag} {C : Cy} {ow ow' : Ow} {σ σ' : St} {H H' : Hp}
abbrev ρU : Rho := [.u, .u, .u, .u]
theorem getD_ρU (i : Nat) : (ρU : Rho).getD i .u = .u := by
  rcases i with _ | _ | _ | _ | i <;> rfl
theorem SR.u4 {ρ : Rho} (S : SR K C ρ ow σ H) (hb : ∀ i, C.br i = false) (hl : σ'.length = 4) : SR K C ρU ow σ' H :=
  ⟨by rw [hl]; rfl, fun i => by rw [getD_ρU]; exact True.intro, S.ent, S.out, S.trk, S.dom, fun i h => by rw [hb i] at h; cases h⟩
theorem SR.growU {ρ : Rho} (S : SR K C ρ ow σ H) (hb : ∀ i, C.br i = false) (hl : σ.length = 4) (s : L2.Same H H') : SR K C ρU ow σ H' :=
  ⟨by rw [hl]; rfl, fun i => by rw [getD_ρU]; exact True.intro, S.ent.trans (.same s), S.out, fun a h => OwO.stay (s a) (S.trk a h), fun a h => by
    cases q : H a with
    | none => exact absurd q (S.dom a h)
    | some o => rw [s a o q]; exact nofun, fun i h => by rw [hb i] at h; cases h⟩
theorem ntb_ext {φ : Heap → Prop} : NTb (.ext φ) := fun ps z => by cases z
theorem ntb_exo {a D : Addr} {d : Option Addr} : NTb (exo a D d) := ntb_ext
theorem ntb_ExO {a : Addr} {c : Value} : NTb (ExO c a) := ntb_ext
theorem ntb_plD {a : Addr} {n : Int} : NTb (plD a n) := ntb_ext
theorem ntb_lst {xs : List V} : NTb (.lst xs) := fun ps z => by cases z

/-- the list of the four errors, and they -/
structure EX (C1 C2 C3 C4 : Addr) (el a1 a2 a3 a4 d1 d2 : Addr) (ow : Ow) (H : Hp) : Prop where
  l : ow el = 0 ∧ H el = some (.lst [.ref a1, .ref a2, .ref a3, .ref a4])
  x1 : ow a1 = 0 ∧ H a1 = some (exo a1 C1 (some d1))
  p1 : ow d1 = 0 ∧ H d1 = some (plD d1 3)
  x2 : ow a2 = 0 ∧ H a2 = some (exo a2 C2 (some d2))
  p2 : ow d2 = 0 ∧ H d2 = some (plD d2 4)
  x3 : ow a3 = 0 ∧ H a3 = some (ExO (.ref C3) a3)
  x4 : ow a4 = 0 ∧ H a4 = some (ExO (.ref C4) a4)
variable {C1 C2 C3 C4 el a1 a2 a3 a4 d1 d2 : Addr}
theorem stay0 {a : Addr} {o : HO} (l : Later ow H ow' H') (h : ow a = 0 ∧ H a = some o) (n : NTb o) : ow' a = 0 ∧ H' a = some o := by
  obtain ⟨e1, e2⟩ := l.ap a o (by omega) h.2 (fun _ => n)
  exact ⟨e2.trans h.1, e1⟩
theorem EX.later (x : EX C1 C2 C3 C4 el a1 a2 a3 a4 d1 d2 ow H) (l : Later ow H ow' H') : EX C1 C2 C3 C4 el a1 a2 a3 a4 d1 d2 ow' H' :=
  ⟨stay0 l x.l ntb_lst, stay0 l x.x1 ntb_exo, stay0 l x.p1 ntb_plD, stay0 l x.x2 ntb_exo, stay0 l x.p2 ntb_plD, stay0 l x.x3 ntb_ExO, stay0 l x.x4 ntb_ExO⟩
theorem EX.same (x : EX C1 C2 C3 C4 el a1 a2 a3 a4 d1 d2 ow H) (s : L2.Same H H') : EX C1 C2 C3 C4 el a1 a2 a3 a4 d1 d2 ow H' := x.later (.same s)
/-- isinstance(e, c) -/
abbrev tIs (K : PySem.W.Frag) (c : V) : TE := tCB (rIsX K) (tCons (tVar 2) (tCons (tC c) tNil))
theorem rd_is {a D : Addr} {c : V} {cv : Value} {b : Bool} {Q : VK} (e : σ[2]? = some (some (.ref a))) (ea : ExAt H a D) (g : ExcG K D) (hc : ∀ u, RelV c u → u = cv) (k : kitOne K (.ref D) cv = some b) (q : Q (.bl b) H) : tIs K c σ H Q :=
  ⟨.ref a, e, a, D, c, cv, b, rfl, ea, g, hc, k, q⟩
abbrev tErrTest (K : PySem.W.Frag) (C : Cy) (CL C1 C2 C3 C4 : Addr) (r : Den) : TT :=
  tOr (tNot (tB (tIs K (.ref CL)))) (tOr (tNot (tB (tIs K (.ty "ValueError")))) (tTest (tOp (relR2 K fNe) (tLst (tCons (tIs K (.ref C1)) (tCons (tIs K (.ref C2)) (tCons (tIs K (.ref C3)) (tCons (tIs K (.ref C4)) tNil))))) (rdE K C r))))
theorem rd_errTest {CL a D : Addr} {b1 b2 b3 b4 : Bool} {i : Int} {r : Den} {Q : Bool → Hp → Prop} (R : KitRow K CL C1 C2 C3 C4 D b1 b2 b3 b4) (hb : ∀ i, C.br i = false) (e : σ[2]? = some (some (.ref a))) (ei : σ.getD 1 none = some (.int i)) (ea : ExAt H a D) (hl : σ.length = 4) (S : SR K C ρU ow σ H)
    (hr : ∃ ρ', r [.u, .d (.int i), .u, .u] = .ok (.list [.bool b1, .bool b2, .bool b3, .bool b4], ρ')) (q : ∀ ow' H', Later ow H ow' H' → SR K C ρU ow' σ H' → Q false H') : tErrTest K C CL C1 C2 C3 C4 r σ H Q := by
  have hcr : ∀ {c : Addr} (u : Value), RelV (.ref c) u → u = .ref c := fun u h => h
  refine rd_is e ea R.g hcr R.kl ⟨true, rfl, ?_⟩
  show if (!true) = true then _ else _
  rw [if_neg (by decide)]
  refine rd_is e ea R.g (fun u h => (h : u = .type "ValueError")) R.kv ⟨true, rfl, ?_⟩
  show if (!true) = true then _ else _
  rw [if_neg (by decide)]
  refine rd_is e ea R.g hcr R.k1 (rd_is e ea R.g hcr R.k2 (rd_is e ea R.g hcr R.k3 (rd_is e ea R.g hcr R.k4 ⟨by show 4 ≤ sizeLine; rw [sizeLine_eq]; omega, fun p hp => ?_⟩)))
  have s1 : L2.Same H (upd H p (.lst [.bl b1, .bl b2, .bl b3, .bl b4])) := same_upd hp
  have S1 := S.growU hb hl s1
  have S2 : SR K C [.u, .d (.int i), .u, .u] ow σ (upd H p (.lst [.bl b1, .bl b2, .bl b3, .bl b4])) := ⟨by rw [hl]; rfl, fun j => by
    rcases j with _ | _ | _ | _ | j
    · exact True.intro
    · exact ⟨.int i, ei, .int i⟩
    · exact True.intro
    · exact True.intro
    · exact True.intro, S1.ent, S1.out, S1.trk, S1.dom, S1.par⟩
  obtain ⟨ρ', hr⟩ := hr
  refine ⟨_, ow, S2, ?_⟩
  rw [hr]
  intro v H2 ow2 l2 S3 rv
  have op : ow p = 0 := by
    by_cases z : ow p = 0
    · exact z
    · exact absurd hp (S.trk p z).1
  obtain ⟨q2, q1⟩ := stay0 l2 (a := p) ⟨op, upd_same⟩ ntb_lst
  refine ⟨ow2, .list [.bool b1, .bool b2, .bool b3, .bool b4], .list [.bool b1, .bool b2, .bool b3, .bool b4], trk_nil S3.trk, (Rp.lst q2 q1 (.cons (.bl _) (.cons (.bl _) (.cons (.bl _) (.cons (.bl _) .nil))))).s, rv.s, ?_⟩
  have ef : fNe (.list [.bool b1, .bool b2, .bool b3, .bool b4]) (.list [.bool b1, .bool b2, .bool b3, .bool b4]) = .ok (.bool false) := by
    cases b1 <;> cases b2 <;> cases b3 <;> cases b4 <;> rfl
  rw [ef]
  intro v' H3 s3 r3
  cases r3
  exact ⟨false, rfl, q ow2 H3 (((Later.same s1).trans l2).trans (.same s3)) (S3.growU hb hl s3)⟩
end

section
variable {K : PySem.W.Frag} {C : Cy} {ow ow' : Ow} {σ σ' : St} {H H' : Hp} {C1 C2 C3 C4 CL el a1 a2 a3 a4 d1 d2 : Addr} {r : Den}
abbrev tErrBody (K : PySem.W.Frag) (C : Cy) (CL C1 C2 C3 C4 : Addr) (r : Den) : TS :=
  tSeq (tAsg (tOp (rIx K) (tVar 0) (tVar 1)) (gName 2)) (tIfS (tErrTest K C CL C1 C2 C3 C4 r) (tRet (tC (.bl false))) tNext)
theorem rd_turn {D : Addr} {a : Addr} {b1 b2 b3 b4 : Bool} {i : Int} {Dd : Ends} (R : KitRow K CL C1 C2 C3 C4 D b1 b2 b3 b4) (hb : ∀ i, C.br i = false) (x : EX C1 C2 C3 C4 el a1 a2 a3 a4 d1 d2 ow H) (S : SR K C ρU ow σ H) (hl : σ.length = 4)
    (e0 : σ[0]? = some (some (.ref el))) (e1 : σ[1]? = some (some (.int i))) (ha : atI [V.ref a1, V.ref a2, V.ref a3, V.ref a4] i = some (V.ref a)) (hx : ExAt H a D) (hr : ∃ ρ', r [.u, .d (.int i), .u, .u] = .ok (.list [.bool b1, .bool b2, .bool b3, .bool b4], ρ'))
    (q : ∀ σ' ow' H', σ'[0]? = some (some (.ref el)) → σ'.length = 4 → EX C1 C2 C3 C4 el a1 a2 a3 a4 d1 d2 ow' H' → SR K C ρU ow' σ' H' → Dd.nx σ' H') : tErrBody K C CL C1 C2 C3 C4 r Dd σ H := by
  refine ⟨.ref el, e0, .int i, e1, .inl ⟨el, _, i, .ref a, rfl, rfl, SqL.of x.l.2, ha, ?_⟩⟩
  match σ, hl, e0, e1, S with
  | [s0, s1, s2, s3], _, e0, e1, S =>
    obtain rfl : s1 = some (.int i) := by simpa using e1
    obtain rfl : s0 = some (.ref el) := by simpa using e0
    refine rd_errTest (σ := [some (.ref el), some (.int i), some (.ref a), s3]) R hb rfl rfl hx rfl (S.u4 hb rfl) hr fun ow' H' l S' => ?_
    show if false = true then _ else _
    rw [if_neg (by decide)]
    exact q _ ow' H' rfl rfl (x.later l) S'
abbrev tErrLoop (K : PySem.W.Frag) (C : Cy) (CL C1 C2 C3 C4 : Addr) (r : Den) : TS := tFor (iRng1 (tCons (tC (.int 4)) tNil)) (gName 1) (tErrBody K C CL C1 C2 C3 C4 r)
theorem rd_errLoop {Dd : Ends} (R : ErrK K CL C1 C2 C3 C4) (hb : ∀ i, C.br i = false) (x : EX C1 C2 C3 C4 el a1 a2 a3 a4 d1 d2 ow H) (S : SR K C ρU ow σ H) (hl : σ.length = 4) (e0 : σ[0]? = some (some (.ref el)))
    (h0 : ∃ ρ', r [.u, .d (.int 0), .u, .u] = .ok (.list [.bool true, .bool false, .bool false, .bool false], ρ')) (h1 : ∃ ρ', r [.u, .d (.int 1), .u, .u] = .ok (.list [.bool false, .bool true, .bool false, .bool false], ρ'))
    (h2 : ∃ ρ', r [.u, .d (.int 2), .u, .u] = .ok (.list [.bool false, .bool false, .bool true, .bool false], ρ')) (h3 : ∃ ρ', r [.u, .d (.int 3), .u, .u] = .ok (.list [.bool false, .bool false, .bool false, .bool true], ρ'))
    (q : ∀ σ' ow' H', σ'[0]? = some (some (.ref el)) → σ'.length = 4 → EX C1 C2 C3 C4 el a1 a2 a3 a4 d1 d2 ow' H' → SR K C ρU ow' σ' H' → Dd.nx σ' H') : tErrLoop K C CL C1 C2 C3 C4 r Dd σ H := by
  refine ⟨4, rfl, by decide, by decide, fun i m σ H => i ≤ 4 ∧ m = 4 - i ∧ σ[0]? = some (some (.ref el)) ∧ σ.length = 4 ∧ ∃ ow, EX C1 C2 C3 C4 el a1 a2 a3 a4 d1 d2 ow H ∧ SR K C ρU ow σ H, ⟨4, by omega, rfl, e0, hl, ow, x, S⟩, fun i m σ2 H2 ⟨w1, w2, w3, w4, ow2, x2, S2⟩ => ?_⟩
  by_cases hi : i = 4
  · exact .inl ⟨by show (4 : Int).toNat ≤ i; rw [hi]; decide, q σ2 ow2 H2 w3 w4 x2 S2⟩
  · refine .inr ⟨by show i < (4 : Int).toNat; have : (4 : Int).toNat = 4 := rfl; omega, fun σ' H' => σ'[0]? = some (some (.ref el)) ∧ σ'.length = 4 ∧ ∃ ow, EX C1 C2 C3 C4 el a1 a2 a3 a4 d1 d2 ow H' ∧ SR K C ρU ow σ' H', fun σ' H' ⟨n1, n2, n3⟩ => ⟨4 - (i + 1), by omega, by omega, rfl, n1, n2, n3⟩, fun y H' ⟨y1, y2⟩ => ?_⟩
    subst y1
    subst y2
    match σ2, w4, w3, S2 with
    | [s0, s1, s2, s3], _, w3, S2 =>
      obtain rfl : s0 = some (.ref el) := by simpa using w3
      have nx : ∀ σ' ow' H'', σ'[0]? = some (some (.ref el)) → σ'.length = 4 → EX C1 C2 C3 C4 el a1 a2 a3 a4 d1 d2 ow' H'' → SR K C ρU ow' σ' H'' → σ'[0]? = some (some (.ref el)) ∧ σ'.length = 4 ∧ ∃ ow, EX C1 C2 C3 C4 el a1 a2 a3 a4 d1 d2 ow H'' ∧ SR K C ρU ow σ' H'' := fun σ' ow' H'' n1 n2 n3 n4 => ⟨n1, n2, ow', n3, n4⟩
      rcases i with _ | _ | _ | _ | i
      · exact rd_turn (σ := [some (.ref el), some (.int (0 + 0)), s2, s3]) R.r1 hb x2 (S2.u4 hb rfl) rfl rfl rfl rfl (.inr ⟨d1, 3, x2.x1.2, x2.p1.2⟩) h0 nx
      · exact rd_turn (σ := [some (.ref el), some (.int (0 + 1)), s2, s3]) R.r2 hb x2 (S2.u4 hb rfl) rfl rfl rfl rfl (.inr ⟨d2, 4, x2.x2.2, x2.p2.2⟩) h1 nx
      · exact rd_turn (σ := [some (.ref el), some (.int (0 + 2)), s2, s3]) R.r3 hb x2 (S2.u4 hb rfl) rfl rfl rfl rfl (.inl x2.x3.2) h2 nx
      · exact rd_turn (σ := [some (.ref el), some (.int (0 + 3)), s2, s3]) R.r4 hb x2 (S2.u4 hb rfl) rfl rfl rfl rfl (.inl x2.x4.2) h3 nx
      · omega
end

section
variable {K : PySem.W.Frag} {C1 C2 C3 C4 CL : Addr}
abbrev tNew (D : Addr) : TE := fun σ H Q => tC (.str "a") σ H fun _ H1 => ∀ a, H1 a = none → Q (.ref a) (upd H1 a (ExO (.ref D) a))
abbrev tErrs (K : PySem.W.Frag) (C : Cy) (CL C1 C2 C3 C4 : Addr) (r : Den) (sem : Sem1) : TS :=
  tSeq (tAsg (tLst (tCons (tBad C1 3) (tCons (tBad C2 4) (tCons (tNew C3) (tCons (tNew C4) tNil))))) (gName 0)) (tSeq (tErrLoop K C CL C1 C2 C3 C4 r)
    (tRet (tCall (spOf K 2 noBr sem) [] (fun _ _ _ => False) (tCons (tTup (tCons (tPlace K (tOp (rIx K) (tVar 0) (tC (.int 0)))) (tCons (tPlace K (tOp (rIx K) (tVar 0) (tC (.int 1)))) tNil))) (tCons (tTup (tCons (tC (.int 3)) (tCons (tC (.int 4)) tNil))) tNil)))))
def semYes : Sem1 := fun _ => .ok (.bool true, [])
theorem rd_errs {r : Den} {sem : Sem1} {sls' : List Sl} {H : Hp} {Q : VK} {ow : Ow} (R : ErrK K CL C1 C2 C3 C4) (trk : ∀ a, ow a ≠ 0 → OwO K a (H a))
    (hq : ∀ v H' ow', Later ow H ow' H' → (∀ a, ow' a ≠ 0 → OwO K a (H' a)) → (∀ a, H a ≠ none → H' a ≠ none) → Rp K ow' H' v (.bool true) → Q v H')
    (h0 : ∃ ρ', r [.u, .d (.int 0), .u, .u] = .ok (.list [.bool true, .bool false, .bool false, .bool false], ρ')) (h1 : ∃ ρ', r [.u, .d (.int 1), .u, .u] = .ok (.list [.bool false, .bool true, .bool false, .bool false], ρ'))
    (h2 : ∃ ρ', r [.u, .d (.int 2), .u, .u] = .ok (.list [.bool false, .bool false, .bool true, .bool false], ρ')) (h3 : ∃ ρ', r [.u, .d (.int 3), .u, .u] = .ok (.list [.bool false, .bool false, .bool false, .bool true], ρ'))
    (hs : sem [.d (.tuple [.int 3, .int 4]), .d (.tuple [.int 3, .int 4])] = .ok (.bool true, sls')) {σ0 : St} (hl : σ0.length = 4) : tErrs K ⟨H, ow, σ0, noBr⟩ CL C1 C2 C3 C4 r sem { nx := fun _ H' => Q .non H', rt := Q } σ0 H := by
  have hb : ∀ i, (⟨H, ow, σ0, noBr⟩ : Cy).br i = false := fun _ => rfl
  have S0 : SR K ⟨H, ow, σ0, noBr⟩ ρU ow σ0 H := ⟨by rw [hl]; rfl, fun i => by rw [getD_ρU]; exact True.intro, .refl _ _, fun a h => h, trk, fun a h => h, fun i h => by cases h⟩
  intro a1 d1 ha1 hd1 n1
  have s1 : L2.Same H (upd (upd H d1 (plD d1 3)) a1 (exo a1 C1 (some d1))) := fun b o e => by rw [upd_ne (ne_of_none e ha1), upd_ne (ne_of_none e hd1)]; exact e
  have S1 := S0.growU hb hl s1
  have x1 : (upd (upd H d1 (plD d1 3)) a1 (exo a1 C1 (some d1))) a1 = some (exo a1 C1 (some d1)) := upd_same
  have p1 : (upd (upd H d1 (plD d1 3)) a1 (exo a1 C1 (some d1))) d1 = some (plD d1 3) := by rw [upd_ne n1, upd_same]
  have o1 : ow a1 = 0 := trk_nil trk a1 ha1
  have q1 : ow d1 = 0 := trk_nil trk d1 hd1
  generalize upd (upd H d1 (plD d1 3)) a1 (exo a1 C1 (some d1)) = H1 at s1 S1 x1 p1 ⊢
  intro a2 d2 ha2 hd2 n2
  have s2 : L2.Same H1 (upd (upd H1 d2 (plD d2 4)) a2 (exo a2 C2 (some d2))) := fun b o e => by rw [upd_ne (ne_of_none e ha2), upd_ne (ne_of_none e hd2)]; exact e
  have S2 := S1.growU hb hl s2
  have x2 : (upd (upd H1 d2 (plD d2 4)) a2 (exo a2 C2 (some d2))) a2 = some (exo a2 C2 (some d2)) := upd_same
  have p2 : (upd (upd H1 d2 (plD d2 4)) a2 (exo a2 C2 (some d2))) d2 = some (plD d2 4) := by rw [upd_ne n2, upd_same]
  have o2 : ow a2 = 0 := trk_nil S1.trk a2 ha2
  have q2 : ow d2 = 0 := trk_nil S1.trk d2 hd2
  generalize upd (upd H1 d2 (plD d2 4)) a2 (exo a2 C2 (some d2)) = H2 at s2 S2 x2 p2 ⊢
  intro a3 ha3
  have s3 : L2.Same H2 (upd H2 a3 (ExO (.ref C3) a3)) := same_upd ha3
  have S3 := S2.growU hb hl s3
  have x3 : (upd H2 a3 (ExO (.ref C3) a3)) a3 = some (ExO (.ref C3) a3) := upd_same
  have o3 : ow a3 = 0 := trk_nil S2.trk a3 ha3
  generalize upd H2 a3 (ExO (.ref C3) a3) = H3 at s3 S3 x3 ⊢
  intro a4 ha4
  have s4 : L2.Same H3 (upd H3 a4 (ExO (.ref C4) a4)) := same_upd ha4
  have S4 := S3.growU hb hl s4
  have x4 : (upd H3 a4 (ExO (.ref C4) a4)) a4 = some (ExO (.ref C4) a4) := upd_same
  have o4 : ow a4 = 0 := trk_nil S3.trk a4 ha4
  generalize upd H3 a4 (ExO (.ref C4) a4) = H4 at s4 S4 x4 ⊢
  refine ⟨by show 4 ≤ sizeLine; rw [sizeLine_eq]; omega, fun el hel => ?_⟩
  have s5 : L2.Same H4 (upd H4 el (.lst [.ref a1, .ref a2, .ref a3, .ref a4])) := same_upd hel
  have S5 := S4.growU hb hl s5
  have x5 : (upd H4 el (.lst [.ref a1, .ref a2, .ref a3, .ref a4])) el = some (.lst [.ref a1, .ref a2, .ref a3, .ref a4]) := upd_same
  have o5 : ow el = 0 := trk_nil S4.trk el hel
  generalize upd H4 el (.lst [.ref a1, .ref a2, .ref a3, .ref a4]) = H5 at s5 S5 x5 ⊢
  have s35 : L2.Same H3 H5 := fun b o e => s5 b o (s4 b o e)
  have s25 : L2.Same H2 H5 := fun b o e => s35 b o (s3 b o e)
  have s15 : L2.Same H1 H5 := fun b o e => s25 b o (s2 b o e)
  have x : EX C1 C2 C3 C4 el a1 a2 a3 a4 d1 d2 ow H5 := ⟨⟨o5, x5⟩, ⟨o1, s15 _ _ x1⟩, ⟨q1, s15 _ _ p1⟩, ⟨o2, s25 _ _ x2⟩, ⟨q2, s25 _ _ p2⟩, ⟨o3, s35 _ _ x3⟩, ⟨o4, s5 _ _ x4⟩⟩
  refine rd_errLoop (σ := σ0.set 0 (some (.ref el))) R hb x (S5.u4 hb (by rw [List.length_set]; exact hl)) (by rw [List.length_set]; exact hl) (by rw [List.getElem?_set_self (by omega)]) h0 h1 h2 h3 fun σ' ow' H' e0 hl' x' S' => ?_
  refine ⟨.ref el, e0, .inl ⟨el, _, 0, .ref a1, rfl, rfl, SqL.of x'.l.2, rfl, a1, C1, d1, 3, rfl, R.r1.g, x'.x1.2, x'.p1.2, ?_⟩⟩
  refine ⟨.ref el, e0, .inl ⟨el, _, 1, .ref a2, rfl, rfl, SqL.of x'.l.2, rfl, a2, C2, d2, 4, rfl, R.r2.g, x'.x2.2, x'.p2.2, ?_⟩⟩
  refine ⟨by show 2 ≤ sizeLine; rw [sizeLine_eq]; omega, fun t1 ht1 => ?_⟩
  have z1 : L2.Same H' (upd H' t1 (.tup [.int 3, .int 4])) := same_upd ht1
  have Z1 := S'.growU hb hl' z1
  have y1 : (upd H' t1 (.tup [.int 3, .int 4])) t1 = some (.tup [.int 3, .int 4]) := upd_same
  have w1 : ow' t1 = 0 := trk_nil S'.trk t1 ht1
  generalize upd H' t1 (.tup [.int 3, .int 4]) = H6 at z1 Z1 y1 ⊢
  refine ⟨by show 2 ≤ sizeLine; rw [sizeLine_eq]; omega, fun t2 ht2 => ?_⟩
  have z2 : L2.Same H6 (upd H6 t2 (.tup [.int 3, .int 4])) := same_upd ht2
  have Z2 := Z1.growU hb hl' z2
  have y2 : (upd H6 t2 (.tup [.int 3, .int 4])) t2 = some (.tup [.int 3, .int 4]) := upd_same
  have w2 : ow' t2 = 0 := trk_nil Z1.trk t2 ht2
  generalize upd H6 t2 (.tup [.int 3, .int 4]) = H7 at z2 Z2 y2 ⊢
  have rp : ∀ {t : Addr}, ow' t = 0 → H7 t = some (.tup [.int 3, .int 4]) → Rp K ow' H7 (.ref t) (.tuple [.int 3, .int 4]) := fun a b => .tup ⟨a, b⟩ (.cons (.int 3) (.cons (.int 4) .nil))
  refine ⟨ow', [.d (.tuple [.int 3, .int 4]), .d (.tuple [.int 3, .int 4])], .bool true, sls', rfl, rfl, Z2.trk, fun i => ?_, hs, fun v H8 ow8 l8 t8 dm8 _ r8 => hq v H8 ow8 (Z2.ent.trans l8) t8 (fun a h => dm8 a (Z2.dom a h)) r8⟩
  rcases i with _ | _ | i
  · exact ⟨.ref t1, rfl, rp w1 (z2 _ _ y1)⟩
  · exact ⟨.ref t2, rfl, rp w2 y2⟩
  · exact True.intro
end

/-! ### calls without arguments; what the head tells -/
theorem se_call0 {X : Cx} {C : Cy} {k : Nat} {x : Str} {sem : Sem1} {p pos : Pos} (F : FD X.prog X.w X.K X.mg X.base k x [] noBr sem) (hr : Room k X.A) (hg : Gl X x) (hdb : (x == ("__debug__" : Str)) = false := by decide) :
    SE X C (.Call (.Name x p) [] [] pos) (dCall sem dNil) := fun ct => by
  obtain ⟨f, fd, h1, h2, h3, h4⟩ := F.ex
  refine PE.imp (pe_call0 (E := fun _ _ _ => False) h1 hr hg h2 h3 h4 .nil pass0 hdb) fun σ H Q ⟨ρ, ow, S, h⟩ => ?_
  unfold dCall dNil at h
  exact call_rd (E := fun _ _ _ => False) S .nil rfl h
def ap0 (f : R PyData) : List PyData → R PyData
  | [] => f
  | _ => .stk
theorem semYes_ok : SemP semYes (ap0 (.ok (.bool true))) := fun as d e => by
  match as, e with
  | [], e => cases e; exact ⟨[], rfl⟩

/-- C(n) makes an exception object with the field place, over any base of the law -/
def BadA (P : Program) (w : World) (K : PySem.W.Frag) (mg : Str → Option Value) (C : Addr) (n : Int) : Prop := ∀ (base : Heap) (Pt : Addr), base.BuiltinsAt mg Pt → L2.Mod K mg base → BadK P w base C n
theorem badA_of {P : Program} {w : World} {K : PySem.W.Frag} {mg : Str → Option Value} {h0 : Heap} {C fI cc : Addr} {n : Int} {name qual : Str} {params : Arguments} {body : List Stmt} {scope : Scope} {dV kV doc pm cdv ct oc : Value} {an od : Option Addr} {osl : Array (Option Value)}
    {x : Str} (_ : K.In h0) (RK : RawK K) (_ : nsIn K mainGlobals x = some (some (.ref C))) (q0 : excInitIn K C bmVE "ValueError.__new__" = true) (iC : findIn K (.ref C) "__init__" = some (some (.ref fI))) (tI : typeIn K (.ref fI) = some (.type "function"))
    (ho : K.lookup fI = some ⟨oc, od, .func (ksFn name qual params body scope dV kV doc pm an cdv ct cc), osl⟩) (hcd : codeIn K cdv qual = true)
    (hb : ∀ x tk, bindArgs (ksFn name qual params body scope dV kV doc pm an cdv ct cc) ⟨[.ref x, .int n tk], []⟩ = pure (bindsB x n tk))
    (hcell : ∀ x ∈ scope.names, x.2 ≠ .cell) (hl1 : scope.names.lookup ("self" : Str) = some .local) (hl2 : scope.names.lookup ("place" : Str) = some .local) (hco : scope.isCoroutine = false) (hgen : scope.isGenerator = false) (hk : scope.kind = .function)
    (h : ∀ (base : Heap) (A : Around) (outer : List Env) (s : Shared) (hp : Heap) loose mb a t1 tk L' h₁ tk', A.frames = some outer → Fr hp L' h₁ (fun y => List.lookup y (bindsB a n tk).reverse) → News hp L' h₁ [(a, excObj C t1 none .none)] → Below A base outer hp → K.In hp → Top noP loose (fun _ => none) mg mb hp → a < L' →
      _root_.PySem.wpAt (model P w) (A.deeper (ksEnv qual scope L' fI cdv cc)) (.func body (ksEnv qual scope L' fI cdv cc)) (execs body (ksEnv qual scope L' fI cdv cc))
        (fun fl s' => LeaveK noH mainGlobals mg hp (BadEnd { s with heap := hp } a C n tk) (match fl with | .ret v => v | _ => .none) s')
        (fun e s' => wpAny (model P w) (A.deeper (ksEnv qual scope L' fI cdv cc)) (leaving (ksEnv qual scope L' fI cdv cc) e) (fun _ s'' => False) (fun e' s'' => False) s')
        { s with heap := h₁, toks := tk' }) : BadA P w K mg C n :=
  fun base _ BT M => bad_of q0 iC tI ho hcd hb hcell hl1 hl2 RK M BT (h base) hco hgen hk
/-- the four kinds of errors and their base -/
structure ErrA (P : Program) (w : World) (K : PySem.W.Frag) (mg : Str → Option Value) (CL C1 C2 C3 C4 : Addr) : Prop where
  gL : nsIn K mainGlobals "LaidError" = some (some (.ref CL))
  g1 : nsIn K mainGlobals "BadText" = some (some (.ref C1))
  g2 : nsIn K mainGlobals "BadBytes" = some (some (.ref C2))
  g3 : nsIn K mainGlobals "NoLayout" = some (some (.ref C3))
  g4 : nsIn K mainGlobals "NotAllowed" = some (some (.ref C4))
  k1 : keepIn K (.ref C1) = true
  k2 : keepIn K (.ref C2) = true
  k3 : keepIn K (.ref C3) = true
  k4 : keepIn K (.ref C4) = true
  q3 : excIn K C3 bmVE "ValueError.__new__" = true
  q4 : excIn K C4 bmVE "ValueError.__new__" = true
  r : ErrK K CL C1 C2 C3 C4
  b1 : BadA P w K mg C1 3
  b2 : BadA P w K mg C2 4
theorem errA_mk {P : Program} {w : World} {K : PySem.W.Frag} {mg : Str → Option Value} {h0 : Heap} {CL C1 C2 C3 C4 : Addr} (_ : K.In h0)
  (gL : nsIn K mainGlobals "LaidError" = some (some (.ref CL))) (g1 : nsIn K mainGlobals "BadText" = some (some (.ref C1))) (g2 : nsIn K mainGlobals "BadBytes" = some (some (.ref C2))) (g3 : nsIn K mainGlobals "NoLayout" = some (some (.ref C3))) (g4 : nsIn K mainGlobals "NotAllowed" = some (some (.ref C4)))
  (k1 : keepIn K (.ref C1) = true) (k2 : keepIn K (.ref C2) = true) (k3 : keepIn K (.ref C3) = true) (k4 : keepIn K (.ref C4) = true) (q3 : excIn K C3 bmVE "ValueError.__new__" = true) (q4 : excIn K C4 bmVE "ValueError.__new__" = true)
  (r1 : KitRow K CL C1 C2 C3 C4 C1 true false false false) (r2 : KitRow K CL C1 C2 C3 C4 C2 false true false false) (r3 : KitRow K CL C1 C2 C3 C4 C3 false false true false) (r4 : KitRow K CL C1 C2 C3 C4 C4 false false false true)
  (b1 : BadA P w K mg C1 3) (b2 : BadA P w K mg C2 4) : ErrA P w K mg CL C1 C2 C3 C4 := ⟨gL, g1, g2, g3, g4, k1, k2, k3, k4, q3, q4, ⟨r1, r2, r3, r4⟩, b1, b2⟩
/-- the end of the walk of such an __init__ -/
theorem leave_bad {mg : Str → Option Value} {m : Str → Option Value} {s : Shared} {hp h' : Heap} {a dx t1 C L' : Addr} {n : Int} {tk : Tok} {tk2 : Nat} {hd : Int} {kk : Tok} {news : List (Addr × Obj)} (F : Fr hp L' h' m) (N : News hp L' h' news)
    (m1 : (dx, placeD hd kk tk n) ∈ news) (m2 : (a, excObj C t1 (some dx) .none) ∈ news) (ne : dx ≠ a) : LeaveK noH mainGlobals mg hp (BadEnd { s with heap := hp } a C n tk) .none { s with heap := h', toks := tk2 } :=
  leaveK_ F N fun _ _ => ⟨rfl, rfl, rfl, rfl, t1, dx, hd, kk, (N _ m2).1, (N _ m1).1, (N _ m1).2.2, ne⟩
end L2.DY

end
section
/-! DyFn5: raise, told, a locked dict, as plain functions. -/
namespace L2.DY
open PySem PySem.Spec PyProof.Rows
section
variable {α β : Type} {ρ ρ1 ρ2 : Rho} {Out : β → RS → Prop} {u : SDen}
theorem p_stk : Pg dStk ρ ρ (.stk : R PyData) := fun a e => by cases e
theorem p_told {sem : Sem1} {F : List PyData → R PyData} {ds : DenA} {rs : R (List PyData)} (h : SemP sem F) (hs : Pg ds ρ ρ1 rs) (h0 : ρ.getD 0 .u = .tb := by rfl) : Pg (dTold sem ds) ρ ρ1 (rs.bind fun as => (F as).bind fun d => .ok (toldD d)) := fun z hz => by
  obtain ⟨as, h1, hz⟩ := R.bind_eq_ok.mp hz
  obtain ⟨d, h3, hz⟩ := R.bind_eq_ok.mp hz
  cases hz
  obtain ⟨s, h2⟩ := h as _ h3
  unfold dTold; rw [h0]; dsimp only; rw [hs as h1]; simp only [R.bind_ok]; rw [h2]; rfl
theorem p_callX {sem : Sem1} {F : List PyData → R PyData} {ds : DenA} {rs : R (List PyData)} (h : SemP sem F) (hs : Pg ds ρ ρ1 rs) : Pg (dCallX sem ds) ρ ρ1 (rs.bind fun as => (F as).bind noX) := fun z hz => by
  obtain ⟨as, h1, hz⟩ := R.bind_eq_ok.mp hz
  obtain ⟨d, h3, hz⟩ := R.bind_eq_ok.mp hz
  obtain ⟨s, h2⟩ := h as _ h3
  unfold dCallX; rw [hs as h1]; simp only [R.bind_ok]; rw [h2]; simp only [R.bind_ok]; rw [hz]; rfl
theorem sg_raiseS {r : R β} (h : Sg dRaise ρ Out r) : Sg (dSeq dRaise u) ρ Out r := h
def onTD {γ : Type} (d : PyData) (k : List (PyData × PyData) → R γ) : R γ := match d with
  | .dict ((.none, .none) :: ds) => k ds
  | _ => .stk
theorem onTD_eq_ok {γ : Type} {d : PyData} {k : List (PyData × PyData) → R γ} {z : γ} (h : onTD d k = .ok z) : ∃ ds, d = .dict ((.none, .none) :: ds) ∧ k ds = .ok z := by
  unfold onTD at h
  split at h
  · exact ⟨_, rfl, h⟩
  · cases h
theorem sg_lock {i j : Nat} {vs : List Nat} {d : PyData} {dn : Den} {C : List (PyData × PyData) → Bool} {F : List (PyData × PyData) → R PyData} {k : List (PyData × PyData) → PyData → R β} {φ : List (PyData × PyData) → Rho}
    (hC : ∀ ds, C ds = true → (noDv ds && ((wipeR ρ vs).set i .u).all okL) = true) (hn : ∀ ds, Pg dn ((wipeR ρ vs).set i (.dl ds)) (φ ds) (F ds)) (hk : ∀ ds y, Sg u ((((φ ds).set j (.d y))).map backSl) Out (k ds y)) (hx : ρ.getD i .u = .d d := by rfl) :
    Sg (dSeq (dLockS i vs (dSet j dn)) u) ρ Out (onTD d fun ds => if C ds then (F ds).bind fun y => k ds y else .stk) := fun z h => by
  obtain ⟨ds, rfl, h'⟩ := onTD_eq_ok h
  clear h
  have h := h'
  split at h
  · rename_i hc
    obtain ⟨y, h1, h⟩ := R.bind_eq_ok.mp h
    unfold dSeq dLockS
    rw [hx]
    dsimp only
    rw [if_pos (hC ds hc)]
    unfold dSet
    rw [hn ds y h1]
    exact hk ds y z h
  · cases h
theorem p_dlI (i : Nat) {ds : List (PyData × PyData)} (h : ρ.getD i .u = .dl ds := by rfl) : Pg (dlI i) ρ ρ (.ok (ds.map (·.1))) := fun z hz => by
  cases hz; unfold dlI; rw [h]
theorem p_ixDl (i : Nat) {db : Den} {rb : R PyData} {ds : List (PyData × PyData)} (hb : Pg db ρ ρ1 rb) (h : ρ.getD i .u = .dl ds := by rfl) : Pg (dIxDl i db) ρ ρ1 (rb.bind fun x => (atD ((.none, .none) :: ds) x).bind fun o => R.ofO o) := fun z hz => by
  obtain ⟨a, h1, hz⟩ := R.bind_eq_ok.mp hz
  obtain ⟨o, h2, hz⟩ := R.bind_eq_ok.mp hz
  unfold dIxDl; rw [h]; dsimp only; rw [hb a h1]; simp only [R.bind_ok]; rw [h2]; simp only [R.bind_ok]; rw [hz]; rfl
end
end L2.DY

end
section
/-! DyLib: facts of the operations, for the mathematics of a law. -/
namespace L2.DY
open PySem PySem.Spec PyProof.Rows
/-- a plain equation, so that it is used as one (not by unfolding) -/
theorem nrfl {α : Sort _} {a b : α} (h : a = b) : a = b := h
theorem bO {α β : Type} (a : α) (k : α → R β) : (R.ok a).bind k = k a := nrfl rfl
theorem bT {α β : Type} (a : α) (t : Tp) (k : α → Tp → R β) : (R.ok (a, t)).bindT k = k a t := nrfl rfl
theorem bA {α β γ : Type} (x : R α) (k : α → R β) (l : β → R γ) : (x.bind k).bind l = x.bind fun a => (k a).bind l := R.bind_assoc x k l
theorem bAT {α β γ : Type} (x : R (α × Tp)) (k : α → Tp → R β) (l : β → R γ) : (x.bindT k).bind l = x.bindT fun a t => (k a t).bind l := nrfl (R.bind_assoc _ _ _)
theorem bTA {α β γ : Type} (x : R α) (k : α → R (β × Tp)) (l : β → Tp → R γ) : (x.bind k).bindT l = x.bind fun a => (k a).bindT l := nrfl (R.bind_assoc _ _ _)
theorem bTT {α β γ : Type} (x : R (α × Tp)) (k : α → Tp → R (β × Tp)) (l : β → Tp → R γ) : (x.bindT k).bindT l = x.bindT fun a t => (k a t).bindT l := nrfl (R.bind_assoc _ _ _)
theorem ifB {α β : Type} (c : Prop) [Decidable c] (x y : R α) (k : α → R β) : (if c then x else y).bind k = if c then x.bind k else y.bind k := by by_cases h : c <;> simp [h]
theorem ifBT {α β : Type} (c : Prop) [Decidable c] (x y : R (α × Tp)) (k : α → Tp → R β) : (if c then x else y).bindT k = if c then x.bindT k else y.bindT k := by by_cases h : c <;> simp [h]
theorem eLen_tup (xs : List PyData) : fLen [.tuple xs] = .ok (.int xs.length) := nrfl rfl
theorem eLen_lst (xs : List PyData) : fLen [.list xs] = .ok (.int xs.length) := nrfl rfl
theorem eLen_str (x : Str) : fLen [.str x] = .ok (.int x.length) := nrfl rfl
theorem eTuple_tup (xs : List PyData) : fTuple [.tuple xs] = .ok (.tuple xs) := nrfl rfl
theorem eTuple_lst (xs : List PyData) : fTuple [.list xs] = .ok (.tuple xs) := nrfl rfl
theorem eBl (b : Bool) : isBl (.bool b) = .ok b := nrfl rfl
theorem eTru_b (b : Bool) : tru (.bool b) = .ok b := nrfl rfl
theorem eTru_i (i : Int) : tru (.int i) = .ok (i != 0) := nrfl rfl
theorem eLe (i j : Int) : fLe (.int i) (.int j) = .ok (.bool (decide (i ≤ j))) := nrfl rfl
theorem eLt (i j : Int) : fLt (.int i) (.int j) = .ok (.bool (decide (i < j))) := nrfl rfl
theorem eGt (i j : Int) : fGt (.int i) (.int j) = .ok (.bool (decide (j < i))) := nrfl rfl
theorem eGe (i j : Int) : fGe (.int i) (.int j) = .ok (.bool (decide (j ≤ i))) := nrfl rfl
theorem eAdd (i j : Int) : fAdd (.int i) (.int j) = .ok (.int (i + j)) := nrfl rfl
theorem eSub (i j : Int) : fSub (.int i) (.int j) = .ok (.int (i - j)) := nrfl rfl
theorem eIs_none (x : PyData) : fIs x .none = .ok (.bool (isNone x)) := nrfl (by cases x <;> rfl)
theorem eIsN_none (x : PyData) : fIsN x .none = .ok (.bool (!isNone x)) := nrfl (by cases x <;> rfl)
theorem eIt_tup (xs : List PyData) : itemsOf (.tuple xs) = .ok xs := nrfl rfl
theorem eIt_lst (xs : List PyData) : itemsOf (.list xs) = .ok xs := nrfl rfl
theorem eIt_str (x : Str) : itemsOf (.str x) = .ok (x.cps.toList.map fun c => .str ⟨#[c]⟩) := nrfl rfl
theorem eAp1 (f : PyData → R PyData) (a : PyData) : ap1 f [a] = f a := nrfl rfl
theorem eAp2 (f : PyData → PyData → R PyData) (a b : PyData) : ap2 f [a, b] = f a b := nrfl rfl
theorem eAp3 (f : PyData → PyData → PyData → R PyData) (a b c : PyData) : ap3 f [a, b, c] = f a b c := nrfl rfl
theorem eApT0 (f : Tp → R (PyData × Tp)) (t : Tp) : apT0 f t [] = f t := nrfl rfl
theorem eApT1 (f : Tp → PyData → R (PyData × Tp)) (t : Tp) (a : PyData) : apT1 f t [a] = f t a := nrfl rfl
theorem eApT2 (f : Tp → PyData → PyData → R (PyData × Tp)) (t : Tp) (a b : PyData) : apT2 f t [a, b] = f t a b := nrfl rfl
theorem eUn2 {β : Type} (a b : PyData) (k : PyData → PyData → R β) : un2 (.tuple [a, b]) k = k a b := nrfl rfl
theorem eL2 {β : Type} (a b : PyData) (k : PyData → PyData → R β) : l2 k [a, b] = k a b := nrfl rfl
theorem eChk {xs : List PyData} (d : PyData) (h : xs.length ≤ lineN) : chkL xs d = .ok d := if_pos h
theorem eChk0 (d : PyData) : chkL [] d = .ok d := if_pos (Nat.zero_le _)
theorem eChk1 (a d : PyData) : chkL [a] d = .ok d := if_pos (by show 1 ≤ 16777216; omega)
theorem eChk2 (a b d : PyData) : chkL [a, b] d = .ok d := if_pos (by show 2 ≤ 16777216; omega)
theorem eChk3 (a b c d : PyData) : chkL [a, b, c] d = .ok d := if_pos (by show 3 ≤ 16777216; omega)
theorem fEq_int (i j : Int) : fEq (.int i) (.int j) = .ok (.bool (decide (i = j))) := by
  simp only [fEq, PyData.depth, noD, PyData.eqv]
  by_cases h : i = j <;> simp [h]
theorem fNe_int (i j : Int) : fNe (.int i) (.int j) = .ok (.bool (decide (i ≠ j))) := by
  simp only [fNe, PyData.depth, noD, PyData.eqv]
  by_cases h : i = j <;> simp [h]
theorem fEq_str (a b : Str) : fEq (.str a) (.str b) = .ok (.bool (decide (a = b))) := by
  simp only [fEq, PyData.depth, noD, PyData.eqv]
  by_cases h : a = b <;> simp [h]
theorem fEq_bool (a b : Bool) : fEq (.bool a) (.bool b) = .ok (.bool (decide (a = b))) := by
  simp only [fEq, PyData.depth, noD, PyData.eqv]
  cases a <;> cases b <;> simp
/-! ### mapR -/
theorem mapR_ok {F : PyData → R PyData} (f : PyData → PyData) : ∀ {xs : List PyData}, (∀ x ∈ xs, F x = .ok (f x)) → mapR F xs = .ok (xs.map f)
  | [], _ => rfl
  | x :: xs, h => by
    simp only [mapR, h x List.mem_cons_self, R.bind_ok, mapR_ok f fun y hy => h y (List.mem_cons_of_mem _ hy)]
    rfl
theorem rngD_mem {lo : Int} {n : Nat} {x : PyData} (h : x ∈ rngD lo n) : ∃ i : Nat, i < n ∧ x = .int (lo + (i : Int)) := by
  unfold rngD at h
  obtain ⟨i, h1, h2⟩ := List.mem_map.mp h
  exact ⟨i, List.mem_range.mp h1, h2.symm⟩
theorem rngD_length (lo : Int) (n : Nat) : (rngD lo n).length = n := by simp [rngD]
theorem atI_nat' {α : Type} {xs : List α} {i : Nat} (h : i < xs.length) : L2.atI xs (i : Int) = some xs[i] := by
  unfold L2.atI L2.ixN
  rw [if_pos (by omega), if_pos (by omega)]
  simp [h]
theorem fIx_tup {xs : List PyData} {i : Nat} (h : i < xs.length) : fIx (.tuple xs) (.int (i : Int)) = .ok xs[i] := by
  show R.ofO (L2.atI xs (i : Int)) = _
  rw [atI_nat' h]; rfl
theorem fIx_lst {xs : List PyData} {i : Nat} (h : i < xs.length) : fIx (.list xs) (.int (i : Int)) = .ok xs[i] := by
  show R.ofO (L2.atI xs (i : Int)) = _
  rw [atI_nat' h]; rfl
theorem boolsOf_map (f : PyData → Bool) : ∀ xs : List PyData, boolsOf (xs.map fun x => .bool (f x)) = some (xs.map f)
  | [] => rfl
  | x :: xs => by
    show (boolsOf (xs.map fun x => .bool (f x))).map (f x :: ·) = _
    rw [boolsOf_map f xs]; rfl
theorem fAll_map (f : PyData → Bool) (xs : List PyData) : fAll [.list (xs.map fun x => .bool (f x))] = .ok (.bool (xs.all f)) := by
  show (R.ofO (boolsOf _)).bind _ = _
  rw [boolsOf_map]
  show R.ok (PyData.bool ((xs.map f).all id)) = _
  rw [List.all_map]; rfl
theorem inR_nat {n : Nat} (h : n ≤ 16777216) : inR (n : Int) = true := by
  have e : (2 : Int) ^ 62 = 4611686018427387904 := by simp
  unfold inR
  rw [Bool.and_eq_true, e]
  exact ⟨decide_eq_true (by omega), decide_eq_true (by omega)⟩
theorem rng1F_nat {n : Nat} (h : n ≤ 16777216) : rng1F [.int (n : Int)] = .ok (rngD 0 n) := by
  simp only [rng1F, inR_nat h, if_true, Int.toNat_natCast]
/-! ### data of some depth, no dict, of no great length -/
def okD : Nat → PyData → Bool
  | 0, _ => false
  | n + 1, .list xs => decide (xs.length ≤ 100000) && xs.all (okD n)
  | n + 1, .tuple xs => decide (xs.length ≤ 100000) && xs.all (okD n)
  | _ + 1, .dict _ => false
  | _ + 1, .none => true
  | _ + 1, .bool _ => true
  | _ + 1, .int _ => true
  | _ + 1, .str _ => true
theorem okD_mono : ∀ {n m : Nat} {d : PyData}, n ≤ m → okD n d = true → okD m d = true
  | 0, _, _, _, h => by simp [okD] at h
  | n + 1, 0, _, hm, _ => by omega
  | n + 1, m + 1, d, hm, h => by
    cases d with
    | list xs =>
      simp only [okD, Bool.and_eq_true, List.all_eq_true] at h ⊢
      exact ⟨h.1, fun x hx => okD_mono (by omega) (h.2 x hx)⟩
    | tuple xs =>
      simp only [okD, Bool.and_eq_true, List.all_eq_true] at h ⊢
      exact ⟨h.1, fun x hx => okD_mono (by omega) (h.2 x hx)⟩
    | dict _ => simp [okD] at h
    | none => rfl
    | bool _ => rfl
    | int _ => rfl
    | str _ => rfl
theorem noDs_of {xs : List PyData} (h : ∀ x ∈ xs, noD x = true) : noDs xs = true := by
  induction xs with
  | nil => rfl
  | cons x xs ih => simp only [noDs, Bool.and_eq_true]; exact ⟨h x List.mem_cons_self, ih fun y hy => h y (List.mem_cons_of_mem _ hy)⟩
theorem okD_noD : ∀ {n : Nat} {d : PyData}, okD n d = true → noD d = true
  | 0, _, h => by simp [okD] at h
  | n + 1, d, h => by
    cases d with
    | list xs =>
      simp only [okD, Bool.and_eq_true, List.all_eq_true] at h
      simp only [noD]
      exact noDs_of fun x hx => okD_noD (h.2 x hx)
    | tuple xs =>
      simp only [okD, Bool.and_eq_true, List.all_eq_true] at h
      simp only [noD]
      exact noDs_of fun x hx => okD_noD (h.2 x hx)
    | dict _ => simp [okD] at h
    | none => rfl
    | bool _ => rfl
    | int _ => rfl
    | str _ => rfl

/-! ### in -/
theorem eIn_str (a b : Str) : fIn (.str a) (.str b) = .ok (.bool (inStr a b)) := nrfl rfl
theorem eNotIn_str (a b : Str) : fNotIn (.str a) (.str b) = .ok (.bool (!inStr a b)) := nrfl rfl
theorem depthAll_strs : ∀ ts : List Str, PyData.depthAll (ts.map PyData.str) = 0
  | [] => rfl
  | t :: ts => by rw [List.map_cons, PyData.depthAll, depthAll_strs ts]; rfl
theorem noDs_strs : ∀ ts : List Str, noDs (ts.map PyData.str) = true
  | [] => rfl
  | t :: ts => by rw [List.map_cons, noDs, noDs_strs ts]; rfl
theorem any_strs (s : Str) : ∀ ts : List Str, ((ts.map PyData.str).any fun y => y.eqv (.str s)) = ts.any (· == s)
  | [] => rfl
  | t :: ts => by rw [List.map_cons, List.any_cons, List.any_cons, any_strs s ts]; rfl
theorem eIn_strs (s : Str) (ts : List Str) : fIn (.str s) (.tuple (ts.map PyData.str)) = .ok (.bool (ts.any (· == s))) := by
  show (if min (PyData.depthAll (ts.map PyData.str)) (PyData.str s).depth ≤ 63 && noD (.str s) && noDs (ts.map PyData.str) then _ else _ : R Bool).bind _ = _
  rw [depthAll_strs, noDs_strs, any_strs]
  rfl
theorem eNotIn_strs (s : Str) (ts : List Str) : fNotIn (.str s) (.tuple (ts.map PyData.str)) = .ok (.bool (!ts.any (· == s))) := by
  show (if min (PyData.depthAll (ts.map PyData.str)) (PyData.str s).depth ≤ 63 && noD (.str s) && noDs (ts.map PyData.str) then _ else _ : R Bool).bind _ = _
  rw [depthAll_strs, noDs_strs, any_strs]
  rfl
theorem lcR_ok {xs : List PyData} {F : PyData → R PyData} (f : PyData → PyData) (hl : xs.length ≤ 100000) (h : ∀ x ∈ xs, F x = .ok (f x)) : lcR xs (mapR F xs) = .ok (.list (xs.map f)) := by
  unfold lcR
  rw [if_pos (Nat.le_trans hl (by decide)), mapR_ok f h, bO]
/-- all([.. for sign in text]) -/
theorem all_signs {s : Str} {F : PyData → R PyData} (p : Nat → Bool) (hl : s.length ≤ 100000) (h : ∀ c ∈ s.cps.toList, F (.str ⟨#[c]⟩) = .ok (.bool (p c))) :
    (lcR (s.cps.toList.map fun c => PyData.str ⟨#[c]⟩) (mapR F (s.cps.toList.map fun c => PyData.str ⟨#[c]⟩))).bind (fun a => fAll [a]) = .ok (.bool (s.cps.toList.all p)) := by
  rw [lcR_ok (fun x => match x with | .str z => .bool (p (z.cps.getD 0 0)) | _ => .none) (by rw [List.length_map, Array.length_toList]; exact hl) fun x hx => ?_, bO, List.map_map]
  · show fAll [.list (s.cps.toList.map fun c => .bool (p c))] = _
    have : (s.cps.toList.map fun c => PyData.bool (p c)) = ((s.cps.toList.map fun c => PyData.int (c : Nat)).map fun x => PyData.bool (match x with | .int i => p i.toNat | _ => false)) := by
      rw [List.map_map]; rfl
    rw [this, fAll_map, List.all_map]
    rfl
  · obtain ⟨c, hc, rfl⟩ := List.mem_map.mp hx
    exact h c hc
theorem bind_id {α : Type} (x : R α) : (x.bind fun a => R.ok a) = x := by cases x <;> rfl
theorem eIx_str0 (s : Str) (c : Nat) (h : s.cps.toList[0]? = some c) : fIx (.str s) (.int 0) = .ok (.str ⟨#[c]⟩) := by
  have h1 : 0 < s.cps.toList.length := by
    cases e : s.cps.toList with
    | nil => rw [e] at h; cases h
    | cons a r => rw [List.length_cons]; omega
  show (R.ofO (L2.atI s.cps.toList 0)).bind _ = _
  rw [show L2.atI s.cps.toList (0 : Int) = some s.cps.toList[0] from atI_nat' h1]
  have : s.cps.toList[0] = c := by rw [List.getElem?_eq_getElem h1] at h; cases h; rfl
  rw [this]; rfl

/-! ### isinstance, places of short tuples -/
theorem eTn (T : String) : isT T .none = (T == "NoneType") := nrfl rfl
theorem eTb (T : String) (b : Bool) : isT T (.bool b) = (T == "bool" || T == "int") := nrfl rfl
theorem eTi (T : String) (i : Int) : isT T (.int i) = (T == "int") := nrfl rfl
theorem eTs (T : String) (s : Str) : isT T (.str s) = (T == "str") := nrfl rfl
theorem eTl (T : String) (xs : List PyData) : isT T (.list xs) = (T == "list") := nrfl rfl
theorem eTt (T : String) (xs : List PyData) : isT T (.tuple xs) = (T == "tuple") := nrfl rfl
theorem eTd (T : String) (xs : List (PyData × PyData)) : isT T (.dict xs) = (T == "dict") := nrfl rfl
theorem eIx0 (a : PyData) (r : List PyData) : fIx (.tuple (a :: r)) (.int 0) = .ok a := fIx_tup (i := 0) (by rw [List.length_cons]; omega)
theorem eIx1 (a b : PyData) (r : List PyData) : fIx (.tuple (a :: b :: r)) (.int 1) = .ok b := fIx_tup (i := 1) (by rw [List.length_cons, List.length_cons]; omega)
theorem eIx2 (a b c : PyData) (r : List PyData) : fIx (.tuple (a :: b :: c :: r)) (.int 2) = .ok c := fIx_tup (i := 2) (by simp)

/-! ### tails, the empty tuple -/
theorem cut_tail {α : Type} (a : α) (r : List α) : cutG (a :: r) (some 1) none = r := by
  unfold cutG
  rw [show HT.sIx (a :: r).length 0 (some 1) = min 1 (a :: r).length from HT.sIx_nat (a :: r).length 0 1, HT.sIx_none]
  have : min 1 (a :: r).length = 1 := by rw [List.length_cons]; omega
  rw [this, List.length_cons, Nat.add_sub_cancel]
  exact List.take_length
theorem eSl1 (a : PyData) (r : List PyData) : fSl (.tuple (a :: r)) (some 1) none = .ok (.tuple r) := by
  show R.ok (PyData.tuple (cutG (a :: r) (some 1) none)) = _
  rw [cut_tail]
theorem eqv_nil (xs : List PyData) : (PyData.tuple xs).eqv (.tuple []) = xs.isEmpty := by
  cases xs <;> simp [PyData.eqv, PyData.eqvAll]
theorem eEq_nil {xs : List PyData} (h : noDs xs = true) : fEq (.tuple xs) (.tuple []) = .ok (.bool xs.isEmpty) := by
  unfold fEq
  rw [eqv_nil, if_pos]
  simp only [noD, h, noDs, Bool.and_true, decide_eq_true_eq]
  exact Nat.le_trans (Nat.min_le_right _ _) (by simp [PyData.depth, PyData.depthAll])
theorem eNe_nil {xs : List PyData} (h : noDs xs = true) : fNe (.tuple xs) (.tuple []) = .ok (.bool (!xs.isEmpty)) := by
  unfold fNe
  rw [eqv_nil, if_pos]
  simp only [noD, h, noDs, Bool.and_true, decide_eq_true_eq]
  exact Nat.le_trans (Nat.min_le_right _ _) (by simp [PyData.depth, PyData.depthAll])
end L2.DY

end
section
/-! DyLib2: more facts of the operations; runs with the tape. -/
namespace L2.DY
open PySem PySem.Spec PyProof.Rows
/-! ### the weight of data -/
mutual
def wt : PyData → Nat
  | .list xs => 1 + wts xs
  | .tuple xs => 1 + wts xs
  | _ => 1
def wts : List PyData → Nat
  | [] => 0
  | x :: xs => wt x + wts xs
end
theorem wt_pos (x : PyData) : 1 ≤ wt x := by cases x <;> simp [wt]
theorem wts_append : ∀ xs ys : List PyData, wts (xs ++ ys) = wts xs + wts ys
  | [], ys => by simp [wts]
  | x :: xs, ys => by simp only [List.cons_append, wts, wts_append xs ys]; omega
theorem wts_reverse : ∀ xs : List PyData, wts xs.reverse = wts xs
  | [] => rfl
  | x :: xs => by rw [List.reverse_cons, wts_append, wts_reverse xs]; simp only [wts]; omega
theorem wts_length : ∀ xs : List PyData, xs.length ≤ wts xs
  | [] => Nat.le_refl _
  | x :: xs => by have := wts_length xs; have := wt_pos x; simp only [List.length_cons, wts]; omega
theorem wt_mem : ∀ {xs : List PyData} {x : PyData}, x ∈ xs → wt x ≤ wts xs
  | [], _, h => nomatch h
  | y :: ys, x, h => by
    simp only [wts]
    rcases List.mem_cons.mp h with rfl | h
    · omega
    · have := wt_mem h; omega
theorem wts_take (n : Nat) : ∀ xs : List PyData, wts (xs.take n) ≤ wts xs := fun xs => by
  conv => rhs; rw [← List.take_append_drop n xs]
  rw [wts_append]; omega
theorem wts_drop (n : Nat) : ∀ xs : List PyData, wts (xs.drop n) ≤ wts xs := fun xs => by
  conv => rhs; rw [← List.take_append_drop n xs]
  rw [wts_append]; omega
mutual
theorem depth_le_wt : ∀ x : PyData, noD x = true → x.depth ≤ wt x
  | .none, _ => by simp [PyData.depth, wt]
  | .bool _, _ => by simp [PyData.depth, wt]
  | .int _, _ => by simp [PyData.depth, wt]
  | .str _, _ => by simp [PyData.depth, wt]
  | .list xs, h => by have := depthAll_le_wts xs (by simpa [noD] using h); simp only [PyData.depth, wt]; omega
  | .tuple xs, h => by have := depthAll_le_wts xs (by simpa [noD] using h); simp only [PyData.depth, wt]; omega
  | .dict _, h => by simp [noD] at h
theorem depthAll_le_wts : ∀ xs : List PyData, noDs xs = true → PyData.depthAll xs ≤ wts xs
  | [], _ => by simp [PyData.depthAll]
  | x :: xs, h => by
    simp only [noDs, Bool.and_eq_true] at h
    have := depth_le_wt x h.1
    have := depthAll_le_wts xs h.2
    simp only [PyData.depthAll, wts]; omega
end
theorem noDs_all {xs : List PyData} (h : noDs xs = true) : ∀ x ∈ xs, noD x = true := by
  induction xs with
  | nil => exact fun x hx => nomatch hx
  | cons a r ih =>
    simp only [noDs, Bool.and_eq_true] at h
    intro x hx
    rcases List.mem_cons.mp hx with rfl | hx
    · exact h.1
    · exact ih h.2 x hx
theorem noDs_iff {xs : List PyData} : noDs xs = true ↔ ∀ x ∈ xs, noD x = true := ⟨noDs_all, noDs_of⟩
theorem okD_of_wt : ∀ {n : Nat} {d : PyData}, wt d ≤ n → n ≤ 100000 → noD d = true → okD n d = true
  | 0, d, h, _, _ => by have := wt_pos d; omega
  | n + 1, d, h, hn, hd => by
    cases d with
    | list xs =>
      simp only [wt] at h
      have := wts_length xs
      simp only [okD, Bool.and_eq_true, List.all_eq_true, decide_eq_true_eq]
      exact ⟨by omega, fun x hx => okD_of_wt (by have := wt_mem hx; omega) (by omega) (noDs_all (by simpa [noD] using hd) x hx)⟩
    | tuple xs =>
      simp only [wt] at h
      have := wts_length xs
      simp only [okD, Bool.and_eq_true, List.all_eq_true, decide_eq_true_eq]
      exact ⟨by omega, fun x hx => okD_of_wt (by have := wt_mem hx; omega) (by omega) (noDs_all (by simpa [noD] using hd) x hx)⟩
    | dict _ => simp [noD] at hd
    | none => rfl
    | bool _ => rfl
    | int _ => rfl
    | str _ => rfl
/-- data without a dict, of so little weight -/
def Gd (n : Nat) (d : PyData) : Prop := noD d = true ∧ wt d ≤ n
theorem Gd.mono {n m : Nat} {d : PyData} (h : Gd n d) (hm : n ≤ m) : Gd m d := ⟨h.1, Nat.le_trans h.2 hm⟩
theorem Gd.okD {n m : Nat} {d : PyData} (h : Gd n d) (hm : n ≤ m) (h2 : m ≤ 100000 := by omega) : okD m d = true := okD_of_wt (Nat.le_trans h.2 hm) h2 h.1
def Gds (n : Nat) (xs : List PyData) : Prop := noDs xs = true ∧ wts xs ≤ n
theorem Gds.tup {n : Nat} {xs : List PyData} (h : Gds n xs) : Gd (n + 1) (.tuple xs) := ⟨by simpa [noD] using h.1, by have := h.2; simp only [wt]; omega⟩
theorem Gds.lst {n : Nat} {xs : List PyData} (h : Gds n xs) : Gd (n + 1) (.list xs) := ⟨by simpa [noD] using h.1, by have := h.2; simp only [wt]; omega⟩
theorem Gd.untup {n : Nat} {xs : List PyData} (h : Gd (n + 1) (.tuple xs)) : Gds n xs := ⟨by simpa [noD] using h.1, by have := h.2; simp only [wt] at this; omega⟩
theorem Gds.nil (n : Nat) : Gds n [] := ⟨rfl, Nat.zero_le _⟩
theorem Gds.cons {n m : Nat} {x : PyData} {xs : List PyData} (h : Gd n x) (hs : Gds m xs) : Gds (n + m) (x :: xs) := ⟨by simp only [noDs, h.1, hs.1, Bool.and_self], by have := h.2; have := hs.2; simp only [wts]; omega⟩
theorem noDs_append {xs ys : List PyData} (h : noDs xs = true) (h2 : noDs ys = true) : noDs (xs ++ ys) = true := noDs_of fun x hx => by
  rcases List.mem_append.mp hx with hx | hx
  · exact noDs_all h x hx
  · exact noDs_all h2 x hx
theorem Gds.append {n m : Nat} {xs ys : List PyData} (h : Gds n xs) (hs : Gds m ys) : Gds (n + m) (xs ++ ys) := ⟨noDs_append h.1 hs.1, by have := h.2; have := hs.2; rw [wts_append]; omega⟩
theorem Gds.mono {n m : Nat} {xs : List PyData} (h : Gds n xs) (hm : n ≤ m) : Gds m xs := ⟨h.1, Nat.le_trans h.2 hm⟩
theorem Gds.sub {n : Nat} {xs ys : List PyData} (h : Gds n xs) (hs : ys.Sublist xs) : Gds n ys := by
  refine ⟨noDs_of fun x hx => noDs_all h.1 x (hs.subset hx), ?_⟩
  have : ∀ {a b : List PyData}, a.Sublist b → wts a ≤ wts b := fun s => by
    induction s with
    | slnil => exact Nat.le_refl _
    | cons _ _ ih => simp only [wts]; omega
    | cons_cons _ _ ih => simp only [wts]; omega
  exact Nat.le_trans (this hs) h.2
theorem Gds.mem {n : Nat} {xs : List PyData} (h : Gds n xs) {x : PyData} (hx : x ∈ xs) : Gd n x := ⟨noDs_all h.1 x hx, Nat.le_trans (wt_mem hx) h.2⟩
theorem Gds.rev {n : Nat} {xs : List PyData} (h : Gds n xs) : Gds n xs.reverse := ⟨noDs_of fun x hx => noDs_all h.1 x (List.mem_reverse.mp hx), by rw [wts_reverse]; exact h.2⟩
theorem Gd.str (s : Str) : Gd 1 (.str s) := ⟨rfl, Nat.le_refl _⟩
theorem Gd.int (i : Int) : Gd 1 (.int i) := ⟨rfl, Nat.le_refl _⟩
theorem Gd.none : Gd 1 .none := ⟨rfl, Nat.le_refl _⟩
theorem Gd.bool (b : Bool) : Gd 1 (.bool b) := ⟨rfl, Nat.le_refl _⟩
/-! ### equal -/
theorem eEq {a b : PyData} (ha : noD a = true) (hb : noD b = true) (h : a.depth ≤ 64 ∨ b.depth ≤ 64) : fEq a b = .ok (.bool (a.eqv b)) := by
  unfold fEq
  rw [if_pos]
  simp only [ha, hb, Bool.and_true, decide_eq_true_eq]
  omega
theorem eNe {a b : PyData} (ha : noD a = true) (hb : noD b = true) (h : a.depth ≤ 64 ∨ b.depth ≤ 64) : fNe a b = .ok (.bool (!a.eqv b)) := by
  unfold fNe
  rw [if_pos]
  simp only [ha, hb, Bool.and_true, decide_eq_true_eq]
  omega
/-! ### adding, cutting -/
theorem eAddT {a b : List PyData} (h : a.length + b.length ≤ 100000) : fAdd (.tuple a) (.tuple b) = .ok (.tuple (a ++ b)) := if_pos (Nat.le_trans h (by decide))
theorem eAddL {a b : List PyData} (h : a.length + b.length ≤ 100000) : fAdd (.list a) (.list b) = .ok (.list (a ++ b)) := if_pos (Nat.le_trans h (by decide))
theorem eNeg (i : Int) : fNeg (.int i) = .ok (.int (-i)) := nrfl rfl
theorem cut_from {α : Type} (xs : List α) (n : Nat) : cutG xs (some (n : Int)) none = xs.drop n := by
  unfold cutG
  rw [HT.sIx_nat, HT.sIx_none]
  rcases Nat.le_total n xs.length with h | h
  · rw [Nat.min_eq_left h, List.take_of_length_le (by rw [List.length_drop]; omega)]
  · rw [Nat.min_eq_right h, List.drop_of_length_le h, List.drop_of_length_le (Nat.le_refl _), List.take_nil]
theorem cut_to {α : Type} (xs : List α) (n : Nat) : cutG xs none (some (n : Int)) = xs.take n := by
  unfold cutG
  rw [HT.sIx_nat, HT.sIx_none]
  rcases Nat.le_total n xs.length with h | h
  · rw [Nat.min_eq_left h, List.drop_zero, Nat.sub_zero]
  · rw [Nat.min_eq_right h, List.drop_zero, Nat.sub_zero, List.take_of_length_le (Nat.le_refl _), List.take_of_length_le h]
theorem eSlFrom (xs : List PyData) (n : Nat) : fSl (.tuple xs) (some (n : Int)) none = .ok (.tuple (xs.drop n)) := by
  show R.ok (PyData.tuple (cutG xs _ none)) = _
  rw [cut_from]
theorem eSlTo (xs : List PyData) (n : Nat) : fSl (.tuple xs) none (some (n : Int)) = .ok (.tuple (xs.take n)) := by
  show R.ok (PyData.tuple (cutG xs none _)) = _
  rw [cut_to]
theorem eSlToL (xs : List PyData) (n : Nat) : fSl (.list xs) none (some (n : Int)) = .ok (.list (xs.take n)) := by
  show R.ok (PyData.list (cutG xs none _)) = _
  rw [cut_to]
theorem eSlFromL (xs : List PyData) (n : Nat) : fSl (.list xs) (some (n : Int)) none = .ok (.list (xs.drop n)) := by
  show R.ok (PyData.list (cutG xs _ none)) = _
  rw [cut_from]
theorem eSlNo (xs : List PyData) : fSl (.tuple xs) none none = .ok (.tuple xs) := by
  show R.ok (PyData.tuple (cutG xs none none)) = _
  unfold cutG
  rw [HT.sIx_none, HT.sIx_none, List.drop_zero, Nat.sub_zero, List.take_length]
theorem eEnum_t (xs : List PyData) : enumF (.tuple xs) = .ok (enumD 0 xs) := nrfl rfl
theorem eEnum_l (xs : List PyData) : enumF (.list xs) = .ok (enumD 0 xs) := nrfl rfl
theorem eBool_t (xs : List PyData) : fBool [.tuple xs] = .ok (.bool (!xs.isEmpty)) := nrfl rfl
theorem eBool_l (xs : List PyData) : fBool [.list xs] = .ok (.bool (!xs.isEmpty)) := nrfl rfl
theorem eIsI (i : Int) : isI (.int i) = .ok i := nrfl rfl
theorem eTru_t (xs : List PyData) : tru (.tuple xs) = .ok (!xs.isEmpty) := nrfl rfl
theorem eTru_l (xs : List PyData) : tru (.list xs) = .ok (!xs.isEmpty) := nrfl rfl
theorem eUnT {β : Type} (a b : PyData) (k : PyData → PyData → R β) : un2 (.tuple [a, b]) k = k a b := nrfl rfl
theorem nn_none : isNone .none = true := nrfl rfl
theorem nn_tup (xs : List PyData) : isNone (.tuple xs) = false := nrfl rfl
theorem nn_lst (xs : List PyData) : isNone (.list xs) = false := nrfl rfl
theorem nn_str (s : Str) : isNone (.str s) = false := nrfl rfl
theorem nn_int (i : Int) : isNone (.int i) = false := nrfl rfl
theorem nn_bool (i : Bool) : isNone (.bool i) = false := nrfl rfl
theorem eChk4 (a b c e d : PyData) : chkL [a, b, c, e] d = .ok d := if_pos (by show 4 ≤ 16777216; omega)
theorem eChk5 (a b c e f d : PyData) : chkL [a, b, c, e, f] d = .ok d := if_pos (by show 5 ≤ 16777216; omega)
theorem eChk6 (a b c e f g d : PyData) : chkL [a, b, c, e, f, g] d = .ok d := if_pos (by show 6 ≤ 16777216; omega)
theorem eChkN {xs : List PyData} (d : PyData) (h : xs.length ≤ 100000) : chkL xs d = .ok d := if_pos (Nat.le_trans h (by decide))
theorem eIx0L (a : PyData) (r : List PyData) : fIx (.list (a :: r)) (.int 0) = .ok a := fIx_lst (i := 0) (by rw [List.length_cons]; omega)
theorem eIx1L (a b : PyData) (r : List PyData) : fIx (.list (a :: b :: r)) (.int 1) = .ok b := fIx_lst (i := 1) (by rw [List.length_cons, List.length_cons]; omega)
/-! ### walks -/
theorem mapO_ok {F : PyData → R (Option PyData)} (f : PyData → Option PyData) : ∀ {xs : List PyData}, (∀ x ∈ xs, F x = .ok (f x)) → mapO F xs = .ok (xs.filterMap f)
  | [], _ => rfl
  | x :: xs, h => by
    rw [mapO, h x List.mem_cons_self, R.bind_ok, mapO_ok f fun y hy => h y (List.mem_cons_of_mem _ hy), R.bind_ok, List.filterMap_cons]
    cases f x <;> rfl
theorem lcO_ok {xs : List PyData} {F : PyData → R (Option PyData)} (f : PyData → Option PyData) (hl : xs.length ≤ 100000) (h : ∀ x ∈ xs, F x = .ok (f x)) : lcR xs (mapO F xs) = .ok (.list (xs.filterMap f)) := by
  unfold lcR
  rw [if_pos (Nat.le_trans hl (by decide)), mapO_ok f h, bO]
theorem mapJ_ok {F : PyData → R (List PyData)} (f : PyData → List PyData) : ∀ {xs : List PyData}, (∀ x ∈ xs, F x = .ok (f x)) → mapJ F xs = .ok (xs.flatMap f)
  | [], _ => rfl
  | x :: xs, h => by
    rw [mapJ, h x List.mem_cons_self, R.bind_ok, mapJ_ok f fun y hy => h y (List.mem_cons_of_mem _ hy), R.bind_ok]; rfl
theorem forR_nx {S D : Type} {B : PyData → S → R (LR S D)} (f : S → PyData → S) : ∀ (xs : List PyData) (s : S), (∀ x ∈ xs, ∀ s, B x s = .ok (.nx (f s x))) → forR B xs s = .ok (.nx (xs.foldl f s))
  | [], s, _ => rfl
  | x :: xs, s, h => by
    rw [forR, h x List.mem_cons_self s]
    exact forR_nx f xs (f s x) fun y hy => h y (List.mem_cons_of_mem _ hy)
/-- .. by what holds between the turns -/
theorem forR_inv {S D : Type} {B : PyData → S → R (LR S D)} (I : S → Prop) : ∀ (xs : List PyData) (s : S), I s → (∀ x ∈ xs, ∀ s, I s → ∃ s', B x s = .ok (.nx s') ∧ I s') → ∃ s', forR B xs s = .ok (.nx s') ∧ I s'
  | [], s, h, _ => ⟨s, rfl, h⟩
  | x :: xs, s, h, hs => by
    obtain ⟨s1, h1, h2⟩ := hs x List.mem_cons_self s h
    obtain ⟨s2, h3, h4⟩ := forR_inv I xs s1 h2 fun y hy => hs y (List.mem_cons_of_mem _ hy)
    exact ⟨s2, by rw [forR, h1]; exact h3, h4⟩
/-! ### runs with the tape -/
def RT {α : Type} (P : α → Prop) (r : R (α × Tp)) : Prop := ∃ a t, r = .ok (a, t) ∧ t.Ok ∧ P a
theorem RT.ret {α : Type} {P : α → Prop} {a : α} {t : Tp} (ht : t.Ok) (h : P a) : RT P (.ok (a, t)) := ⟨a, t, rfl, ht, h⟩
theorem RT.bind {α β : Type} {P : α → Prop} {Q : β → Prop} {r : R (α × Tp)} {k : α → Tp → R (β × Tp)} (h : RT P r) (hk : ∀ a t, t.Ok → P a → RT Q (k a t)) : RT Q (r.bindT k) := by
  obtain ⟨a, t, rfl, ht, ha⟩ := h
  exact hk a t ht ha
theorem RT.mono {α : Type} {P Q : α → Prop} {r : R (α × Tp)} (h : RT P r) (hk : ∀ a, P a → Q a) : RT Q r := by
  obtain ⟨a, t, h, ht, ha⟩ := h
  exact ⟨a, t, h, ht, hk a ha⟩
def RX {α : Type} (P : α → Prop) (r : R α) : Prop := ∃ a, r = .ok a ∧ P a
theorem RX.ret {α : Type} {P : α → Prop} {a : α} (h : P a) : RX P (.ok a) := ⟨a, rfl, h⟩
theorem RX.bind {α β : Type} {P : α → Prop} {Q : β → Prop} {r : R α} {k : α → R β} (h : RX P r) (hk : ∀ a, P a → RX Q (k a)) : RX Q (r.bind k) := by
  obtain ⟨a, rfl, ha⟩ := h
  exact hk a ha
theorem RT.bindX {α β : Type} {P : α → Prop} {Q : β → Prop} {r : R (α × Tp)} {k : α → Tp → R β} (h : RT P r) (hk : ∀ a t, t.Ok → P a → RX Q (k a t)) : RX Q (r.bindT k) := by
  obtain ⟨a, t, rfl, ht, ha⟩ := h
  exact hk a t ht ha
theorem RT.bindP {α β : Type} {P : α → Prop} {Q : β → Prop} {r : R (α × Tp)} {k : α × Tp → R (β × Tp)} (h : RT P r) (hk : ∀ a t, t.Ok → P a → RT Q (k (a, t))) : RT Q (r.bind k) := by
  obtain ⟨a, t, rfl, ht, ha⟩ := h
  exact hk a t ht ha
theorem RX.eq {α : Type} {z : α} {r : R α} (h : RX (fun a => a = z) r) : r = .ok z := by
  obtain ⟨a, rfl, rfl⟩ := h; rfl
/-- at the end no tape -/
theorem RT.fin {α β : Type} {P : α → Prop} {r : R (α × Tp)} {k : α → Tp → R β} {z : R β} (h : RT P r) (hk : ∀ a t, t.Ok → P a → k a t = z) : r.bindT k = z := by
  obtain ⟨a, t, rfl, ht, ha⟩ := h
  exact hk a t ht ha
theorem rt_draw {t : Tp} (ht : t.Ok) {many : Int} (h0 : 0 < many) (h1 : many < 1073741824) : RT (fun d => ∃ i : Nat, (i : Int) < many ∧ d = .int i) (drawG t (.int many)) := by
  have hr := draw_range t h0
  refine ⟨.int (drawF t many).1, (drawF t many).2, ?_, draw_ok ht many, (drawF t many).1.toNat, by omega, by rw [Int.toNat_of_nonneg hr.1]⟩
  refine if_pos ?_
  have h2 := ht.1
  have h3 := ht.2
  simp only [Bool.and_eq_true, decide_eq_true_eq]
  exact ⟨⟨⟨h2, h3⟩, h0⟩, h1⟩
theorem rt_mapT {P : PyData → Prop} {F : PyData → Tp → R (PyData × Tp)} : ∀ {xs : List PyData} {t : Tp}, t.Ok → (∀ x ∈ xs, ∀ t, t.Ok → RT P (F x t)) → RT (fun ys => ys.length = xs.length ∧ ∀ y ∈ ys, P y) (mapT F xs t)
  | [], t, ht, _ => .ret ht ⟨rfl, fun y hy => nomatch hy⟩
  | x :: xs, t, ht, h => by
    rw [mapT]
    refine (h x List.mem_cons_self t ht).bind fun y t1 ht1 hy => ?_
    refine (rt_mapT ht1 fun z hz => h z (List.mem_cons_of_mem _ hz)).bind fun ys t2 ht2 hys => ?_
    refine .ret ht2 ⟨by rw [List.length_cons, List.length_cons, hys.1], fun z hz => ?_⟩
    rcases List.mem_cons.mp hz with rfl | hz
    · exact hy
    · exact hys.2 z hz
theorem rt_lcT {P : PyData → Prop} {F : PyData → Tp → R (PyData × Tp)} {xs : List PyData} {t : Tp} (hl : xs.length ≤ 100000) (ht : t.Ok) (h : ∀ x ∈ xs, ∀ t, t.Ok → RT P (F x t)) : RT (fun d => ∃ ys, d = .list ys ∧ ys.length = xs.length ∧ ∀ y ∈ ys, P y) (lcT xs (mapT F xs t)) := by
  unfold lcT
  rw [if_pos (Nat.le_trans hl (by decide))]
  exact (rt_mapT ht h).bind fun ys t ht hy => .ret ht ⟨ys, rfl, hy⟩
theorem wts_le {k : Nat} : ∀ {xs : List PyData}, (∀ x ∈ xs, wt x ≤ k) → wts xs ≤ xs.length * k
  | [], _ => by simp [wts]
  | x :: xs, h => by
    have := wts_le fun y hy => h y (List.mem_cons_of_mem _ hy)
    have := h x List.mem_cons_self
    rw [wts, List.length_cons, Nat.succ_mul]; omega
theorem gds_all {k : Nat} {xs : List PyData} (h : ∀ x ∈ xs, Gd k x) : Gds (xs.length * k) xs := ⟨noDs_of fun x hx => (h x hx).1, wts_le fun x hx => (h x hx).2⟩
/-! ### words -/
theorem ofS_inj {a b : String} (h : Str.ofString a = Str.ofString b) : a = b := by
  rw [Str.ofString_eq_toList, Str.ofString_eq_toList] at h
  injection h with h
  have h2 : a.toList.map Char.toNat = b.toList.map Char.toNat := by simpa using h
  have h3 : a.toList = b.toList := (List.map_inj_right fun x y h => Char.ext (UInt32.toNat_inj.mp h)).mp h2
  exact String.toList_inj.mp h3
theorem ofS_eq (a b : String) : (Str.ofString a = Str.ofString b) = (a = b) := propext ⟨ofS_inj, fun h => by rw [h]⟩
theorem eIn1 (s a : Str) : fIn (.str s) (.tuple [.str a]) = .ok (.bool (decide (a = s))) := by
  rw [show fIn (.str s) (.tuple [.str a]) = _ from eIn_strs s [a]]
  simp only [List.any_cons, List.any_nil, Bool.or_false]
  by_cases h : a = s <;> simp [h]
theorem eIn2 (s a b : Str) : fIn (.str s) (.tuple [.str a, .str b]) = .ok (.bool (decide (a = s) || decide (b = s))) := by
  rw [show fIn (.str s) (.tuple [.str a, .str b]) = _ from eIn_strs s [a, b]]
  simp only [List.any_cons, List.any_nil, Bool.or_false]
  by_cases h : a = s <;> by_cases h2 : b = s <;> simp [h, h2]
theorem eIn3 (s a b c : Str) : fIn (.str s) (.tuple [.str a, .str b, .str c]) = .ok (.bool (decide (a = s) || (decide (b = s) || decide (c = s)))) := by
  rw [show fIn (.str s) (.tuple [.str a, .str b, .str c]) = _ from eIn_strs s [a, b, c]]
  simp only [List.any_cons, List.any_nil, Bool.or_false]
  by_cases h : a = s <;> by_cases h2 : b = s <;> by_cases h3 : c = s <;> simp [h, h2, h3]
theorem eIn4 (s a b c d : Str) : fIn (.str s) (.tuple [.str a, .str b, .str c, .str d]) = .ok (.bool (decide (a = s) || (decide (b = s) || (decide (c = s) || decide (d = s))))) := by
  rw [show fIn (.str s) (.tuple [.str a, .str b, .str c, .str d]) = _ from eIn_strs s [a, b, c, d]]
  simp only [List.any_cons, List.any_nil, Bool.or_false]
  by_cases h : a = s <;> by_cases h2 : b = s <;> by_cases h3 : c = s <;> by_cases h4 : d = s <;> simp [h, h2, h3, h4]
theorem fNe_str (a b : Str) : fNe (.str a) (.str b) = .ok (.bool (!decide (a = b))) := by
  simp only [fNe, PyData.depth, noD, PyData.eqv]
  by_cases h : a = b <;> simp [h]
theorem eAp4 (f : PyData → PyData → PyData → PyData → R PyData) (a b c d : PyData) : ap4 f [a, b, c, d] = f a b c d := nrfl rfl
theorem eL3 {β : Type} (a b c : PyData) (k : PyData → PyData → PyData → R β) : l3 k [a, b, c] = k a b c := nrfl rfl
theorem eUn4 {β : Type} (a b c d : PyData) (k : PyData → PyData → PyData → PyData → R β) : un4 (.tuple [a, b, c, d]) k = k a b c d := nrfl rfl
end L2.DY

end
section
/-! DyLib3: runs with a tape of either kind; picks. -/
namespace L2.DY
open PySem PySem.Spec PyProof.Rows
section
variable {OK : Tp → Prop}
def RTg {α : Type} (OK : Tp → Prop) (P : α → Prop) (r : R (α × Tp)) : Prop := ∃ a t, r = .ok (a, t) ∧ OK t ∧ P a
theorem RTg.ret {α : Type} {P : α → Prop} {a : α} {t : Tp} (ht : OK t) (h : P a) : RTg OK P (.ok (a, t)) := ⟨a, t, rfl, ht, h⟩
theorem RTg.bind {α β : Type} {P : α → Prop} {Q : β → Prop} {r : R (α × Tp)} {k : α → Tp → R (β × Tp)} (h : RTg OK P r) (hk : ∀ a t, OK t → P a → RTg OK Q (k a t)) : RTg OK Q (r.bindT k) := by
  obtain ⟨a, t, rfl, ht, ha⟩ := h
  exact hk a t ht ha
theorem RTg.mono {α : Type} {P Q : α → Prop} {r : R (α × Tp)} (h : RTg OK P r) (hk : ∀ a, P a → Q a) : RTg OK Q r := by
  obtain ⟨a, t, h, ht, ha⟩ := h
  exact ⟨a, t, h, ht, hk a ha⟩
theorem RTg.bindX {α β : Type} {P : α → Prop} {Q : β → Prop} {r : R (α × Tp)} {k : α → Tp → R β} (h : RTg OK P r) (hk : ∀ a t, OK t → P a → RX Q (k a t)) : RX Q (r.bindT k) := by
  obtain ⟨a, t, rfl, ht, ha⟩ := h
  exact hk a t ht ha
theorem RTg.bindP {α β : Type} {P : α → Prop} {Q : β → Prop} {r : R (α × Tp)} {k : α × Tp → R (β × Tp)} (h : RTg OK P r) (hk : ∀ a t, OK t → P a → RTg OK Q (k (a, t))) : RTg OK Q (r.bind k) := by
  obtain ⟨a, t, rfl, ht, ha⟩ := h
  exact hk a t ht ha
theorem RTg.fin {α β : Type} {P : α → Prop} {r : R (α × Tp)} {k : α → Tp → R β} {z : R β} (h : RTg OK P r) (hk : ∀ a t, OK t → P a → k a t = z) : r.bindT k = z := by
  obtain ⟨a, t, rfl, ht, ha⟩ := h
  exact hk a t ht ha
theorem rtg_mapT {P : PyData → Prop} {F : PyData → Tp → R (PyData × Tp)} : ∀ {xs : List PyData} {t : Tp}, OK t → (∀ x ∈ xs, ∀ t, OK t → RTg OK P (F x t)) → RTg OK (fun ys => ys.length = xs.length ∧ ∀ y ∈ ys, P y) (mapT F xs t)
  | [], t, ht, _ => .ret ht ⟨rfl, fun y hy => nomatch hy⟩
  | x :: xs, t, ht, h => by
    rw [mapT]
    refine (h x List.mem_cons_self t ht).bind fun y t1 ht1 hy => ?_
    refine (rtg_mapT ht1 fun z hz => h z (List.mem_cons_of_mem _ hz)).bind fun ys t2 ht2 hys => ?_
    refine .ret ht2 ⟨by rw [List.length_cons, List.length_cons, hys.1], fun z hz => ?_⟩
    rcases List.mem_cons.mp hz with rfl | hz
    · exact hy
    · exact hys.2 z hz
theorem rtg_lcT {P : PyData → Prop} {F : PyData → Tp → R (PyData × Tp)} {xs : List PyData} {t : Tp} (hl : xs.length ≤ 100000) (ht : OK t) (h : ∀ x ∈ xs, ∀ t, OK t → RTg OK P (F x t)) : RTg OK (fun d => ∃ ys, d = .list ys ∧ ys.length = xs.length ∧ ∀ y ∈ ys, P y) (lcT xs (mapT F xs t)) := by
  unfold lcT
  rw [if_pos (Nat.le_trans hl (by decide))]
  exact (rtg_mapT ht h).bind fun ys t ht hy => .ret ht ⟨ys, rfl, hy⟩
theorem ix_mem {xs : List PyData} {i : Nat} (h : i < xs.length) : ∃ x ∈ xs, fIx (.list xs) (.int (i : Int)) = .ok x := ⟨xs[i], List.getElem_mem h, fIx_lst h⟩
theorem ix_memT {xs : List PyData} {i : Nat} (h : i < xs.length) : ∃ x ∈ xs, fIx (.tuple xs) (.int (i : Int)) = .ok x := ⟨xs[i], List.getElem_mem h, fIx_tup h⟩
theorem rtg_pick {P : PyData → Prop} {xs : List PyData} {i : Nat} {t : Tp} (ht : OK t) (hx : ∀ x ∈ xs, P x) (h : i < xs.length) : RTg OK P ((fIx (.list xs) (.int (i : Int))).bind fun x => R.ok (x, t)) := by
  obtain ⟨x, h1, h2⟩ := ix_mem h
  rw [h2, bO]
  exact .ret ht (hx x h1)
end
theorem pickB {OK : Tp → Prop} {β : Type} {P : PyData → Prop} {Q : β → Prop} {xs : List PyData} {i : Nat} {k : PyData → R (β × Tp)} (hi : i < xs.length) (hx : ∀ x ∈ xs, P x) (hk : ∀ x, P x → RTg OK Q (k x)) : RTg OK Q ((fIx (.list xs) (.int (i : Int))).bind k) := by
  obtain ⟨x, h1, h2⟩ := ix_mem hi
  rw [h2, bO]
  exact hk x (hx x h1)
theorem all_cons {P : PyData → Prop} {x : PyData} {xs : List PyData} (h : P x) (hs : ∀ y ∈ xs, P y) : ∀ y ∈ x :: xs, P y := fun y hy => by
  rcases List.mem_cons.mp hy with rfl | hy
  · exact h
  · exact hs y hy
theorem all_nil {P : PyData → Prop} : ∀ y ∈ ([] : List PyData), P y := fun y hy => nomatch hy
theorem rt_take {t : Tp} (ht : t.Ok2) {many : Int} (h0 : 0 < many) (h1 : many < 1073741824) : RTg Tp.Ok2 (fun d => ∃ i : Nat, (i : Int) < many ∧ d = .int i) (takeG t (.int many)) := by
  obtain ⟨k, hk, h⟩ := ht
  have hr := take_range t k h0
  refine ⟨.int (takeF t k many).1, (takeF t k many).2, ?_, take_ok hk h many, (takeF t k many).1.toNat, by omega, by rw [Int.toNat_of_nonneg hr.1]⟩
  unfold takeG
  rw [hk]
  refine if_pos ?_
  simp only [Bool.and_eq_true, decide_eq_true_eq]
  exact ⟨⟨h, h0⟩, h1⟩
theorem newTp2_ok (ns : List Int) : (newTp2 ns).Ok2 := ⟨0, rfl, Int.le_refl _⟩
end L2.DY

end
section
namespace K00
open PySem PySem.Spec PyProof.Rows L2 L2.DY
def topS (i : Nat) : Stmt := PySem.Challenge.pw_lineslaid_k00_whole_documents.main.body.getD i (.Pass ⟨0, 0, 0, 0⟩)
abbrev k_RESERVED : PyData := .tuple [.str "all", .str "any", .str "none"]
abbrev k_SMALL : PyData := .str "abcdefghijklmnopqrstuvwxyz"
abbrev k_DIGITS : PyData := .str "0123456789"
abbrev k_MARKS : PyData := .str "+-*/=<>(),.;:[]{}!?_ "
abbrev k_LONGEST : PyData := .int 40
abbrev k_BREAKS : PyData := .tuple [.str "line", .str "soft", .str "hard"]
abbrev k_MOST_PARTS : PyData := .int 8
abbrev k_WITHIN : PyData := .tuple [.str "align", .str "group", .str "flat"]
abbrev k_NUMBERED : PyData := .tuple [.str "nest", .str "dear"]
abbrev k_GREATEST : PyData := .int 100
abbrev k_MOST_DEEP : PyData := .int 12
structure Txt (K : PySem.W.Frag) (mg : Str → Option Value) : Prop where
  n_isinstance : mg "isinstance" = none
  n_str : mg "str" = none
  n_len : mg "len" = none
  n_all : mg "all" = none
  n_int : mg "int" = none
  n_bool : mg "bool" = none
  n_tuple : mg "tuple" = none
  n_sum : mg "sum" = none
  n_list : mg "list" = none
  n_range : mg "range" = none
  n_ValueError : mg "ValueError" = none
  g_RESERVED : GT K mg "RESERVED" k_RESERVED
  g_SMALL : GC K mg "SMALL" k_SMALL
  g_DIGITS : GC K mg "DIGITS" k_DIGITS
  g_MARKS : GC K mg "MARKS" k_MARKS
  g_LONGEST : GC K mg "LONGEST" k_LONGEST
  g_BREAKS : GT K mg "BREAKS" k_BREAKS
  g_MOST_PARTS : GC K mg "MOST_PARTS" k_MOST_PARTS
  g_WITHIN : GT K mg "WITHIN" k_WITHIN
  g_NUMBERED : GT K mg "NUMBERED" k_NUMBERED
  g_GREATEST : GC K mg "GREATEST" k_GREATEST
  g_MOST_DEEP : GC K mg "MOST_DEEP" k_MOST_DEEP
section
variable {P : Program} {w : World} {K : PySem.W.Frag} {mg : Str → Option Value} {base : Heap}
abbrev s_is_name : Stmt := topS 4
abbrev N_is_name : List Str := ["value", "sign"]
theorem sc_is_name : FnScope N_is_name ["value"] (defScope s_is_name) := ⟨rfl, rfl, rfl, by decide +kernel, rfl, by decide +kernel, by decide +kernel⟩
def den_is_name : SDen :=
  dSeq (dIfS (dOrB (dNotB (dTest (dIsi "str" (dVar 0)))) (dOrB (dNotB (dTestB (dChain fLe fLe (dC (.int 1)) (dOpA fLen (dCons (dVar 0) (dNil))) (dC (.int 8))))) (dTestB (dOp1 (fun z => fIn z k_RESERVED) (dVar 0))))) (dRet (dC (.bool false))) (dNext))
    (dRet (dAnd (dOp2 fIn (dOp2 fIx (dVar 0) (dC (.int 0))) (dC k_SMALL)) (dOpA fAll (dCons (dLc [1] (dSeqI (dVar 0)) (gdName 1) (dYes) (dOr (dOp2 fIn (dVar 1) (dC k_SMALL)) (dOp2 fIn (dVar 1) (dC k_DIGITS)))) (dNil)))))
theorem ok_is_name {j : Nat} {f : Addr} {fd : FuncData} (T : Txt K mg) (F : Fun K "is_name" "is_name" s_is_name f fd) : FnOk P w K mg base CX0 (j + 1) f fd ["value"] (spOf K 1 noBr (runDef 2 1 (den_is_name))) :=
  fn_den F sc_is_name (by decide) noBr_lt fun cdv A outer s H E ow σ0 hr =>
  ss_cons (ss_if (st_w (sw_or (st_not (st_val (se_isi (T := "str") (se_var 0 rfl (Or.inl rfl)) rfl rfl T.n_isinstance (by decide) rfl T.n_str (by decide +kernel)))) (sw_or (st_not (st_chain o_le o_le (se_int) (se_callB o_len rfl T.n_len (by decide +kernel) (sa_cons (se_var 0 rfl (Or.inl rfl)) (sa_nil))) (se_int))) (sw_or1 (st_inG (se_var 0 rfl (Or.inl rfl)) T.g_RESERVED rfl))))) (ss_one (ss_ret (se_bl))) (ss_nil))
    (ss_one (ss_ret (se_and (se_cmp o_in (se_ix (se_var 0 rfl (Or.inl rfl)) (se_int)) (se_glob T.g_SMALL rfl)) (se_one (se_callB (fun ct => o_all ct ct) rfl T.n_all (by decide +kernel) (sa_cons (se_lc [1] (blkOk_by (own := [("sign", 1)]) (N := N_is_name) (sc := defScope s_is_name) (by decide +kernel)) rfl (fun _ _ => rfl) (si_seq (se_var 0 rfl (Or.inl rfl))) (fun _ _ _ _ _ => sg_name 1 (by decide) rfl (Or.inl rfl) rfl (Or.inr rfl)) (fun _ _ _ _ _ => sf_nil) (fun _ _ _ _ _ => se_or (se_cmp o_in (se_var 1 rfl (Or.inl rfl)) (se_glob T.g_SMALL rfl)) (se_one (se_cmp o_in (se_var 1 rfl (Or.inl rfl)) (se_glob T.g_DIGITS rfl))))) (sa_nil)))))))
abbrev s_is_number : Stmt := topS 5
abbrev N_is_number : List Str := ["value", "least", "most"]
theorem sc_is_number : FnScope N_is_number ["value", "least", "most"] (defScope s_is_number) := ⟨rfl, rfl, rfl, by decide +kernel, rfl, by decide +kernel, by decide +kernel⟩
def den_is_number : SDen :=
  dRet (dAnd (dIsi "int" (dVar 0)) (dAnd (dNot (dIsi "bool" (dVar 0))) (dChain fLe fLe (dVar 1) (dVar 0) (dVar 2))))
theorem ok_is_number {j : Nat} {f : Addr} {fd : FuncData} (T : Txt K mg) (F : Fun K "is_number" "is_number" s_is_number f fd) : FnOk P w K mg base CX0 (j + 1) f fd ["value", "least", "most"] (spOf K 3 noBr (runDef 3 3 (den_is_number))) :=
  fn_den F sc_is_number (by decide) noBr_lt fun cdv A outer s H E ow σ0 hr =>
  ss_one (ss_ret (se_and (se_isi (T := "int") (se_var 0 rfl (Or.inl rfl)) rfl rfl T.n_isinstance (by decide) rfl T.n_int (by decide +kernel)) (se_and (se_not (se_isi (T := "bool") (se_var 0 rfl (Or.inl rfl)) rfl rfl T.n_isinstance (by decide) rfl T.n_bool (by decide +kernel))) (se_one (se_chain o_le o_le (se_var 1 rfl (Or.inl rfl)) (se_var 0 rfl (Or.inl rfl)) (se_var 2 rfl (Or.inl rfl)))))))
abbrev s_is_sign : Stmt := topS 15
abbrev N_is_sign : List Str := ["value"]
theorem sc_is_sign : FnScope N_is_sign ["value"] (defScope s_is_sign) := ⟨rfl, rfl, rfl, by decide +kernel, rfl, by decide +kernel, by decide +kernel⟩
def den_is_sign : SDen :=
  dRet (dAnd (dIsi "str" (dVar 0)) (dAnd (dOp2 fEq (dOpA fLen (dCons (dVar 0) (dNil))) (dC (.int 1))) (dOr (dOp2 fIn (dVar 0) (dC k_SMALL)) (dOr (dOp2 fIn (dVar 0) (dC k_DIGITS)) (dOp2 fIn (dVar 0) (dC k_MARKS))))))
theorem ok_is_sign {j : Nat} {f : Addr} {fd : FuncData} (T : Txt K mg) (F : Fun K "is_sign" "is_sign" s_is_sign f fd) : FnOk P w K mg base CX0 (j + 1) f fd ["value"] (spOf K 1 noBr (runDef 1 1 (den_is_sign))) :=
  fn_den F sc_is_sign (by decide) noBr_lt fun cdv A outer s H E ow σ0 hr =>
  ss_one (ss_ret (se_and (se_isi (T := "str") (se_var 0 rfl (Or.inl rfl)) rfl rfl T.n_isinstance (by decide) rfl T.n_str (by decide +kernel)) (se_and (se_cmp o_eq (se_callB o_len rfl T.n_len (by decide +kernel) (sa_cons (se_var 0 rfl (Or.inl rfl)) (sa_nil))) (se_int)) (se_one (se_or (se_cmp o_in (se_var 0 rfl (Or.inl rfl)) (se_glob T.g_SMALL rfl)) (se_or (se_cmp o_in (se_var 0 rfl (Or.inl rfl)) (se_glob T.g_DIGITS rfl)) (se_one (se_cmp o_in (se_var 0 rfl (Or.inl rfl)) (se_glob T.g_MARKS rfl)))))))))
abbrev s_is_text : Stmt := topS 16
abbrev N_is_text : List Str := ["value", "sign"]
theorem sc_is_text : FnScope N_is_text ["value"] (defScope s_is_text) := ⟨rfl, rfl, rfl, by decide +kernel, rfl, by decide +kernel, by decide +kernel⟩
def den_is_text (c_is_sign : Sem1) : SDen :=
  dRet (dAnd (dIsi "str" (dVar 0)) (dAnd (dOp2 fLe (dOpA fLen (dCons (dVar 0) (dNil))) (dC k_LONGEST)) (dOpA fAll (dCons (dLc [1] (dSeqI (dVar 0)) (gdName 1) (dYes) (dCall c_is_sign (dCons (dVar 1) (dNil)))) (dNil)))))
theorem ok_is_text {j : Nat} {c_is_sign : Sem1} (F_is_sign : FD P w K mg base j "is_sign" ["value"] noBr c_is_sign) {f : Addr} {fd : FuncData} (T : Txt K mg) (F : Fun K "is_text" "is_text" s_is_text f fd) : FnOk P w K mg base CX0 (j + 1) f fd ["value"] (spOf K 1 noBr (runDef 2 1 (den_is_text c_is_sign))) :=
  fn_den F sc_is_text (by decide) noBr_lt fun cdv A outer s H E ow σ0 hr =>
  ss_one (ss_ret (se_and (se_isi (T := "str") (se_var 0 rfl (Or.inl rfl)) rfl rfl T.n_isinstance (by decide) rfl T.n_str (by decide +kernel)) (se_and (se_cmp o_le (se_callB o_len rfl T.n_len (by decide +kernel) (sa_cons (se_var 0 rfl (Or.inl rfl)) (sa_nil))) (se_glob T.g_LONGEST rfl)) (se_one (se_callB (fun ct => o_all ct ct) rfl T.n_all (by decide +kernel) (sa_cons (se_lc [1] (blkOk_by (own := [("sign", 1)]) (N := N_is_text) (sc := defScope s_is_text) (by decide +kernel)) rfl (fun _ _ => rfl) (si_seq (se_var 0 rfl (Or.inl rfl))) (fun _ _ _ _ _ => sg_name 1 (by decide) rfl (Or.inl rfl) rfl (Or.inr rfl)) (fun _ _ _ _ _ => sf_nil) (fun _ _ _ _ _ => se_call F_is_sign hr rfl (sa_cons (se_var 1 rfl (Or.inl rfl)) (sa_nil)) rfl (dCons_len dNil_len'))) (sa_nil)))))))
abbrev s_is_document_within : Stmt := topS 17
abbrev N_is_document_within : List Str := ["value", "deep", "word", "parts", "part"]
theorem sc_is_document_within : FnScope N_is_document_within ["value", "deep"] (defScope s_is_document_within) := ⟨rfl, rfl, rfl, by decide +kernel, rfl, by decide +kernel, by decide +kernel⟩
def den_is_document_within (c_is_text : Sem1) (c_is_document_within : Sem1) (c_is_number : Sem1) : SDen :=
  dSeq (dIfS (dOrB (dTestB (dOp2 fEq (dVar 1) (dC (.int 0)))) (dOrB (dNotB (dTest (dIsi "tuple" (dVar 0)))) (dOrB (dTestB (dOp2 fEq (dVar 0) (dTup (dNil)))) (dNotB (dTest (dIsi "str" (dOp2 fIx (dVar 0) (dC (.int 0))))))))) (dRet (dC (.bool false))) (dNext))
    (dSeq (dPar 2 3 (dCons (dOp2 fIx (dVar 0) (dC (.int 0))) (dCons (dSl (dVar 0) (dSome (dC (.int 1))) (dNo)) (dNil))))
    (dSeq (dIfS (dTestB (dOp1 (fun z => fIn z k_BREAKS) (dVar 2))) (dRet (dOp2 fEq (dVar 3) (dTup (dNil)))) (dNext))
    (dSeq (dIfS (dTestB (dOp2 fEq (dVar 2) (dC (.str "text")))) (dRet (dAnd (dOp2 fEq (dOpA fLen (dCons (dVar 3) (dNil))) (dC (.int 1))) (dCall c_is_text (dCons (dOp2 fIx (dVar 3) (dC (.int 0))) (dNil))))) (dNext))
    (dSeq (dIfS (dTestB (dOp2 fEq (dVar 2) (dC (.str "join")))) (dRet (dAnd (dOp2 fLe (dOpA fLen (dCons (dVar 3) (dNil))) (dC k_MOST_PARTS)) (dOpA fAll (dCons (dLc [4] (dSeqI (dVar 3)) (gdName 4) (dYes) (dCall c_is_document_within (dCons (dVar 4) (dCons (dOp2 fSub (dVar 1) (dC (.int 1))) (dNil))))) (dNil))))) (dNext))
    (dSeq (dIfS (dTestB (dOp1 (fun z => fIn z k_WITHIN) (dVar 2))) (dRet (dAnd (dOp2 fEq (dOpA fLen (dCons (dVar 3) (dNil))) (dC (.int 1))) (dCall c_is_document_within (dCons (dOp2 fIx (dVar 3) (dC (.int 0))) (dCons (dOp2 fSub (dVar 1) (dC (.int 1))) (dNil)))))) (dNext))
    (dSeq (dIfS (dTestB (dOp1 (fun z => fIn z k_NUMBERED) (dVar 2))) (dRet (dAnd (dOp2 fEq (dOpA fLen (dCons (dVar 3) (dNil))) (dC (.int 2))) (dAnd (dCall c_is_number (dCons (dOp2 fIx (dVar 3) (dC (.int 0))) (dCons (dC (.int 0)) (dCons (dC k_GREATEST) (dNil))))) (dCall c_is_document_within (dCons (dOp2 fIx (dVar 3) (dC (.int 1))) (dCons (dOp2 fSub (dVar 1) (dC (.int 1))) (dNil))))))) (dNext))
    (dRet (dAnd (dOp2 fEq (dVar 2) (dC (.str "either"))) (dAnd (dOp2 fEq (dOpA fLen (dCons (dVar 3) (dNil))) (dC (.int 2))) (dOpA fAll (dCons (dLc [4] (dSeqI (dVar 3)) (gdName 4) (dYes) (dCall c_is_document_within (dCons (dVar 4) (dCons (dOp2 fSub (dVar 1) (dC (.int 1))) (dNil))))) (dNil))))))))))))
theorem ok_is_document_within {j : Nat} {c_is_text : Sem1} {c_is_document_within : Sem1} {c_is_number : Sem1} (F_is_text : FD P w K mg base j "is_text" ["value"] noBr c_is_text) (F_is_document_within : FD P w K mg base j "is_document_within" ["value", "deep"] noBr c_is_document_within) (F_is_number : FD P w K mg base j "is_number" ["value", "least", "most"] noBr c_is_number) {f : Addr} {fd : FuncData} (T : Txt K mg) (F : Fun K "is_document_within" "is_document_within" s_is_document_within f fd) : FnOk P w K mg base CX0 (j + 1) f fd ["value", "deep"] (spOf K 2 noBr (runDef 5 2 (den_is_document_within c_is_text c_is_document_within c_is_number))) :=
  fn_den F sc_is_document_within (by decide) noBr_lt fun cdv A outer s H E ow σ0 hr =>
  ss_cons (ss_if (st_w (sw_or (st_cmp o_eq (se_var 1 rfl (Or.inr (Or.inl rfl))) (se_int)) (sw_or (st_not (st_val (se_isi (T := "tuple") (se_var 0 rfl (Or.inl rfl)) rfl rfl T.n_isinstance (by decide) rfl T.n_tuple (by decide +kernel)))) (sw_or (st_cmp o_eq (se_var 0 rfl (Or.inl rfl)) (se_tup (sa_nil))) (sw_or1 (st_not (st_val (se_isi (T := "str") (se_ix (se_var 0 rfl (Or.inl rfl)) (se_int)) rfl rfl T.n_isinstance (by decide) rfl T.n_str (by decide +kernel))))))))) (ss_one (ss_ret (se_bl))) (ss_nil))
    (ss_cons (ss_par 2 3 (sa_cons (se_ix (se_var 0 rfl (Or.inl rfl)) (se_int)) (sa_cons (se_sl (se_var 0 rfl (Or.inl rfl)) (so_some (se_int)) (so_none)) (sa_nil))))
    (ss_cons (ss_if (st_inG (se_var 2 rfl (Or.inl rfl)) T.g_BREAKS rfl) (ss_one (ss_ret (se_cmp o_eq (se_var 3 rfl (Or.inl rfl)) (se_tup (sa_nil))))) (ss_nil))
    (ss_cons (ss_if (st_cmp o_eq (se_var 2 rfl (Or.inl rfl)) (se_str)) (ss_one (ss_ret (se_and (se_cmp o_eq (se_callB o_len rfl T.n_len (by decide +kernel) (sa_cons (se_var 3 rfl (Or.inl rfl)) (sa_nil))) (se_int)) (se_one (se_call F_is_text hr rfl (sa_cons (se_ix (se_var 3 rfl (Or.inl rfl)) (se_int)) (sa_nil)) rfl (dCons_len dNil_len')))))) (ss_nil))
    (ss_cons (ss_if (st_cmp o_eq (se_var 2 rfl (Or.inl rfl)) (se_str)) (ss_one (ss_ret (se_and (se_cmp o_le (se_callB o_len rfl T.n_len (by decide +kernel) (sa_cons (se_var 3 rfl (Or.inl rfl)) (sa_nil))) (se_glob T.g_MOST_PARTS rfl)) (se_one (se_callB (fun ct => o_all ct ct) rfl T.n_all (by decide +kernel) (sa_cons (se_lc [4] (blkOk_by (own := [("part", 4)]) (N := N_is_document_within) (sc := defScope s_is_document_within) (by decide +kernel)) rfl (fun _ _ => rfl) (si_seq (se_var 3 rfl (Or.inl rfl))) (fun _ _ _ _ _ => sg_name 4 (by decide) rfl (Or.inl rfl) rfl (Or.inr rfl)) (fun _ _ _ _ _ => sf_nil) (fun _ _ _ _ _ => se_call F_is_document_within hr rfl (sa_cons (se_var 4 rfl (Or.inl rfl)) (sa_cons (se_bin o_sub (se_var 1 rfl (Or.inr (Or.inl rfl))) (se_int)) (sa_nil))) rfl (dCons_len (dCons_len dNil_len')))) (sa_nil))))))) (ss_nil))
    (ss_cons (ss_if (st_inG (se_var 2 rfl (Or.inl rfl)) T.g_WITHIN rfl) (ss_one (ss_ret (se_and (se_cmp o_eq (se_callB o_len rfl T.n_len (by decide +kernel) (sa_cons (se_var 3 rfl (Or.inl rfl)) (sa_nil))) (se_int)) (se_one (se_call F_is_document_within hr rfl (sa_cons (se_ix (se_var 3 rfl (Or.inl rfl)) (se_int)) (sa_cons (se_bin o_sub (se_var 1 rfl (Or.inr (Or.inl rfl))) (se_int)) (sa_nil))) rfl (dCons_len (dCons_len dNil_len'))))))) (ss_nil))
    (ss_cons (ss_if (st_inG (se_var 2 rfl (Or.inl rfl)) T.g_NUMBERED rfl) (ss_one (ss_ret (se_and (se_cmp o_eq (se_callB o_len rfl T.n_len (by decide +kernel) (sa_cons (se_var 3 rfl (Or.inl rfl)) (sa_nil))) (se_int)) (se_and (se_call F_is_number hr rfl (sa_cons (se_ix (se_var 3 rfl (Or.inl rfl)) (se_int)) (sa_cons (se_int) (sa_cons (se_glob T.g_GREATEST rfl) (sa_nil)))) rfl (dCons_len (dCons_len (dCons_len dNil_len')))) (se_one (se_call F_is_document_within hr rfl (sa_cons (se_ix (se_var 3 rfl (Or.inl rfl)) (se_int)) (sa_cons (se_bin o_sub (se_var 1 rfl (Or.inr (Or.inl rfl))) (se_int)) (sa_nil))) rfl (dCons_len (dCons_len dNil_len')))))))) (ss_nil))
    (ss_one (ss_ret (se_and (se_cmp o_eq (se_var 2 rfl (Or.inl rfl)) (se_str)) (se_and (se_cmp o_eq (se_callB o_len rfl T.n_len (by decide +kernel) (sa_cons (se_var 3 rfl (Or.inl rfl)) (sa_nil))) (se_int)) (se_one (se_callB (fun ct => o_all ct ct) rfl T.n_all (by decide +kernel) (sa_cons (se_lc [4] (blkOk_by (own := [("part", 4)]) (N := N_is_document_within) (sc := defScope s_is_document_within) (by decide +kernel)) rfl (fun _ _ => rfl) (si_seq (se_var 3 rfl (Or.inl rfl))) (fun _ _ _ _ _ => sg_name 4 (by decide) rfl (Or.inl rfl) rfl (Or.inr rfl)) (fun _ _ _ _ _ => sf_nil) (fun _ _ _ _ _ => se_call F_is_document_within hr rfl (sa_cons (se_var 4 rfl (Or.inl rfl)) (sa_cons (se_bin o_sub (se_var 1 rfl (Or.inr (Or.inl rfl))) (se_int)) (sa_nil))) rfl (dCons_len (dCons_len dNil_len')))) (sa_nil))))))))))))))
abbrev s_is_document : Stmt := topS 18
abbrev N_is_document : List Str := ["value"]
theorem sc_is_document : FnScope N_is_document ["value"] (defScope s_is_document) := ⟨rfl, rfl, rfl, by decide +kernel, rfl, by decide +kernel, by decide +kernel⟩
def den_is_document (c_is_document_within : Sem1) : SDen :=
  dRet (dCall c_is_document_within (dCons (dVar 0) (dCons (dC k_MOST_DEEP) (dNil))))
theorem ok_is_document {j : Nat} {c_is_document_within : Sem1} (F_is_document_within : FD P w K mg base j "is_document_within" ["value", "deep"] noBr c_is_document_within) {f : Addr} {fd : FuncData} (T : Txt K mg) (F : Fun K "is_document" "is_document" s_is_document f fd) : FnOk P w K mg base CX0 (j + 1) f fd ["value"] (spOf K 1 noBr (runDef 1 1 (den_is_document c_is_document_within))) :=
  fn_den F sc_is_document (by decide) noBr_lt fun cdv A outer s H E ow σ0 hr =>
  ss_one (ss_ret (se_call F_is_document_within hr rfl (sa_cons (se_var 0 rfl (Or.inl rfl)) (sa_cons (se_glob T.g_MOST_DEEP rfl) (sa_nil))) rfl (dCons_len (dCons_len dNil_len'))))
abbrev s_parts_of : Stmt := topS 19
abbrev N_parts_of : List Str := ["document", "word", "parts"]
theorem sc_parts_of : FnScope N_parts_of ["document"] (defScope s_parts_of) := ⟨rfl, rfl, rfl, by decide +kernel, rfl, by decide +kernel, by decide +kernel⟩
def den_parts_of : SDen :=
  dSeq (dPar 1 2 (dCons (dOp2 fIx (dVar 0) (dC (.int 0))) (dCons (dSl (dVar 0) (dSome (dC (.int 1))) (dNo)) (dNil))))
    (dSeq (dIfS (dTestB (dOp1 (fun z => fIn z k_NUMBERED) (dVar 1))) (dRet (dSl (dVar 2) (dSome (dC (.int 1))) (dNo))) (dNext))
    (dRet (dIf (dOrB (dTestB (dOp1 (fun z => fIn z k_BREAKS) (dVar 1))) (dTestB (dOp2 fEq (dVar 1) (dC (.str "text"))))) (dTup (dNil)) (dVar 2))))
theorem ok_parts_of {j : Nat} {f : Addr} {fd : FuncData} (T : Txt K mg) (F : Fun K "parts_of" "parts_of" s_parts_of f fd) : FnOk P w K mg base CX0 (j + 1) f fd ["document"] (spOf K 1 noBr (runDef 3 1 (den_parts_of))) :=
  fn_den F sc_parts_of (by decide) noBr_lt fun cdv A outer s H E ow σ0 hr =>
  ss_cons (ss_par 1 2 (sa_cons (se_ix (se_var 0 rfl (Or.inl rfl)) (se_int)) (sa_cons (se_sl (se_var 0 rfl (Or.inl rfl)) (so_some (se_int)) (so_none)) (sa_nil))))
    (ss_cons (ss_if (st_inG (se_var 1 rfl (Or.inl rfl)) T.g_NUMBERED rfl) (ss_one (ss_ret (se_sl (se_var 2 rfl (Or.inl rfl)) (so_some (se_int)) (so_none)))) (ss_nil))
    (ss_one (ss_ret (se_if (st_w (sw_or (st_inG (se_var 1 rfl (Or.inl rfl)) T.g_BREAKS rfl) (sw_or1 (st_cmp o_eq (se_var 1 rfl (Or.inl rfl)) (se_str))))) (se_tup (sa_nil)) (se_var 2 rfl (Or.inl rfl))))))
abbrev s_size_of : Stmt := topS 20
abbrev N_size_of : List Str := ["document", "part"]
theorem sc_size_of : FnScope N_size_of ["document"] (defScope s_size_of) := ⟨rfl, rfl, rfl, by decide +kernel, rfl, by decide +kernel, by decide +kernel⟩
def den_size_of (c_parts_of : Sem1) (c_size_of : Sem1) : SDen :=
  dRet (dOp2 fAdd (dC (.int 1)) (dOpA fSum (dCons (dLc [1] (dSeqI (dCall c_parts_of (dCons (dVar 0) (dNil)))) (gdName 1) (dYes) (dCall c_size_of (dCons (dVar 1) (dNil)))) (dNil))))
theorem ok_size_of {j : Nat} {c_parts_of : Sem1} {c_size_of : Sem1} (F_parts_of : FD P w K mg base j "parts_of" ["document"] noBr c_parts_of) (F_size_of : FD P w K mg base j "size_of" ["document"] noBr c_size_of) {f : Addr} {fd : FuncData} (T : Txt K mg) (F : Fun K "size_of" "size_of" s_size_of f fd) : FnOk P w K mg base CX0 (j + 1) f fd ["document"] (spOf K 1 noBr (runDef 2 1 (den_size_of c_parts_of c_size_of))) :=
  fn_den F sc_size_of (by decide) noBr_lt fun cdv A outer s H E ow σ0 hr =>
  ss_one (ss_ret (se_bin o_add (se_int) (se_callB (fun ct => o_sum ct ct) rfl T.n_sum (by decide +kernel) (sa_cons (se_lc [1] (blkOk_by (own := [("part", 1)]) (N := N_size_of) (sc := defScope s_size_of) (by decide +kernel)) rfl (fun _ _ => rfl) (si_seq (se_call F_parts_of hr rfl (sa_cons (se_var 0 rfl (Or.inl rfl)) (sa_nil)) rfl (dCons_len dNil_len'))) (fun _ _ _ _ _ => sg_name 1 (by decide) rfl (Or.inl rfl) rfl (Or.inr rfl)) (fun _ _ _ _ _ => sf_nil) (fun _ _ _ _ _ => se_call F_size_of hr rfl (sa_cons (se_var 1 rfl (Or.inl rfl)) (sa_nil)) rfl (dCons_len dNil_len'))) (sa_nil)))))
abbrev s__law_box : Stmt := topS 28
theorem sc__law_box : FnScope ["script"] ["script"] (defScope s__law_box) := ⟨rfl, rfl, rfl, by decide +kernel, rfl, by decide +kernel, by decide +kernel⟩
theorem ok__law_box {j : Nat} {f : Addr} {fd : FuncData} (T : Txt K mg) (F : Fun K "_law_box" "_law_box" s__law_box f fd) : FnOk P w K mg base CX0 (j + 1) f fd ["script"] (spBox K) :=
  fn_box F sc__law_box fun cdv A outer s H E ct => pss_one (ps_ret (pe_lst (pa_cons (pe_callTy call_list_of rfl T.n_list (by decide +kernel) (pa_cons (pe_slice sl_list (pe_var rfl (Or.inl rfl)) po_none (po_some pe_int)) pa_nil)) (pa_cons pe_int (pa_cons (pe_op op_add pe_int (pe_callB call_len rfl T.n_len (by decide +kernel) (pa_cons (pe_var rfl (Or.inl rfl)) pa_nil))) pa_nil)))))
abbrev s__law_load : Stmt := topS 29
abbrev N__law_load : List Str := ["box", "cells", "cell", "size", "first", "second"]
theorem sc__law_load : FnScope N__law_load ["box"] (defScope s__law_load) := ⟨rfl, rfl, rfl, by decide +kernel, rfl, by decide +kernel, by decide +kernel⟩
def den__law_load : SDen :=
  dLoad
    (dSeq (dSet 3 (dIf (dTestB (dOp2 fGe (dVar 2) (dC (.int 0)))) (dOp2 fMul (dC (.int 2)) (dVar 2)) (dOp2 fSub (dOp2 fMul (dOp1 fNeg (dC (.int 2))) (dVar 2)) (dC (.int 1)))))
    (dSeq (dIfS (dTestB (dOp2 fGe (dVar 3) (dC (.int 1000000000000000000)))) (dRet (dVar 3)) (dNext))
    (dTpSet 0 2 (dOp2 fMod (dOpA fInt (dCons (dOp2 fAdd (dOp2 fAdd (dOp2 fMul (dTpGet 0 2) (dC (.int 69621))) (dOp2 fMul (dVar 3) (dC (.int 48271)))) (dC (.int 11))) (dNil))) (dC (.int 2147483647))))))
    (dSeq (dSet 4 (dOp2 fMod (dOpA fInt (dCons (dOp2 fAdd (dOp2 fMul (dTpGet 0 2) (dC (.int 48271))) (dC (.int 17))) (dNil))) (dC (.int 2147483629))))
    (dSeq (dSet 5 (dOp2 fMod (dOpA fInt (dCons (dOp2 fAdd (dOp2 fMul (dVar 4) (dC (.int 69621))) (dC (.int 5))) (dNil))) (dC (.int 2147483587))))
    (dSeq (dTpSet 0 2 (dOp2 fMod (dOpA fInt (dCons (dOp2 fAdd (dOp2 fMul (dVar 5) (dC (.int 40692))) (dC (.int 3))) (dNil))) (dC (.int 2147483563))))
    (dRet (dOp2 fAdd (dOp2 fAdd (dOp2 fMul (dVar 4) (dC (.int 4611686014132420609))) (dOp2 fMul (dVar 5) (dC (.int 2147483647)))) (dTpGet 0 2))))))
theorem ok__law_load {j : Nat} {f : Addr} {fd : FuncData} (T : Txt K mg) (F : Fun K "_law_load" "_law_load" s__law_load f fd) : FnOk P w K mg base CX0 (j + 1) f fd ["box"] (spOf K 1 br0 (runDef 6 1 (den__law_load))) :=
  fn_den F sc__law_load (by decide) (br0_lt (by decide)) fun cdv A outer s H E ow σ0 hr =>
  ss_load rfl rfl (fun ct => ps_set ct.nd rfl (Or.inl rfl) (pe_ix ix_list (pe_var rfl (Or.inl rfl)) pe_int (fun _ _ => rfl)) rfl (Or.inr rfl))
    (fun ct => pt_cmpR op_gt (pe_callB call_len rfl T.n_len (by decide +kernel) (pa_cons (pe_var rfl (Or.inl rfl)) pa_nil)) pe_int rfl)
    (fun ct => ps_set ct.nd rfl (Or.inl rfl) (pe_callTy call_int1 rfl T.n_int (by decide +kernel) (pa_cons (pe_bm PySem.F.plainAttrs_list PySem.F.slot_list_pop PySem.F.type_list_pop mt_popAt (pe_var rfl (Or.inl rfl)) (pa_cons pe_int pa_nil)) pa_nil)) rfl (Or.inr rfl))
    (ss_cons (ss_set 3 (se_if (st_cmp o_ge (se_var 2 rfl (Or.inl rfl)) (se_int)) (se_bin o_mul (se_int) (se_var 2 rfl (Or.inl rfl))) (se_bin o_sub (se_bin o_mul (se_un o_neg (se_int)) (se_var 2 rfl (Or.inl rfl))) (se_int))) rfl (Or.inl rfl) rfl rfl (Or.inr rfl))
    (ss_cons (ss_if (st_cmp o_ge (se_var 3 rfl (Or.inl rfl)) (se_int)) (ss_one (ss_ret (se_var 3 rfl (Or.inl rfl)))) (ss_nil))
    (ss_one (ss_tpset 0 (se_bin o_mod (se_callT o_int rfl T.n_int (by decide +kernel) (sa_cons (se_bin o_add (se_bin o_add (se_bin o_mul (se_tpget 0 rfl (Or.inl rfl)) (se_int)) (se_bin o_mul (se_var 3 rfl (Or.inl rfl)) (se_int))) (se_int)) (sa_nil))) (se_int)) rfl (Or.inl rfl)))))
    (ss_cons (ss_set 4 (se_bin o_mod (se_callT o_int rfl T.n_int (by decide +kernel) (sa_cons (se_bin o_add (se_bin o_mul (se_tpget 0 rfl (Or.inl rfl)) (se_int)) (se_int)) (sa_nil))) (se_int)) rfl (Or.inl rfl) rfl rfl (Or.inr rfl))
    (ss_cons (ss_set 5 (se_bin o_mod (se_callT o_int rfl T.n_int (by decide +kernel) (sa_cons (se_bin o_add (se_bin o_mul (se_var 4 rfl (Or.inl rfl)) (se_int)) (se_int)) (sa_nil))) (se_int)) rfl (Or.inl rfl) rfl rfl (Or.inr rfl))
    (ss_cons (ss_tpset 0 (se_bin o_mod (se_callT o_int rfl T.n_int (by decide +kernel) (sa_cons (se_bin o_add (se_bin o_mul (se_var 5 rfl (Or.inl rfl)) (se_int)) (se_int)) (sa_nil))) (se_int)) rfl (Or.inl rfl))
    (ss_one (ss_ret (se_bin o_add (se_bin o_add (se_bin o_mul (se_var 4 rfl (Or.inl rfl)) (se_int)) (se_bin o_mul (se_var 5 rfl (Or.inl rfl)) (se_int))) (se_tpget 0 rfl (Or.inl rfl))))))))
abbrev s__law_draw : Stmt := topS 30
abbrev N__law_draw : List Str := ["box", "many", "digit"]
theorem sc__law_draw : FnScope N__law_draw ["box", "many"] (defScope s__law_draw) := ⟨rfl, rfl, rfl, by decide +kernel, rfl, by decide +kernel, by decide +kernel⟩
def den__law_draw (c__law_load : Sem1) : SDen :=
  dSeq (dIfS (dTestB (dOp2 fLt (dTpGet 0 1) (dVar 1))) (dTpSet 0 1 (dCallR c__law_load 0 (dNil))) (dNext))
    (dSeq (dSet 2 (dOp2 fMod (dOpA fInt (dCons (dTpGet 0 1) (dNil))) (dVar 1)))
    (dSeq (dTpSet 0 1 (dOp2 fDiv (dTpGet 0 1) (dVar 1)))
    (dRet (dVar 2))))
theorem ok__law_draw {j : Nat} {c__law_load : Sem1} (F__law_load : FD P w K mg base j "_law_load" ["box"] br0 c__law_load) {f : Addr} {fd : FuncData} (T : Txt K mg) (F : Fun K "_law_draw" "_law_draw" s__law_draw f fd) : FnOk P w K mg base CX0 (j + 1) f fd ["box", "many"] (spOf K 2 br0 (runDef 3 2 (den__law_draw c__law_load))) :=
  fn_den F sc__law_draw (by decide) (br0_lt (by decide)) fun cdv A outer s H E ow σ0 hr =>
  ss_cons (ss_if (st_cmp o_lt (se_tpget 0 rfl (Or.inl rfl)) (se_var 1 rfl (Or.inl rfl))) (ss_one (ss_tpset 0 (se_callR 0 F__law_load hr rfl (sa_nil) rfl dNil_len' rfl (Or.inl rfl)) rfl (Or.inl rfl))) (ss_nil))
    (ss_cons (ss_set 2 (se_bin o_mod (se_callT o_int rfl T.n_int (by decide +kernel) (sa_cons (se_tpget 0 rfl (Or.inl rfl)) (sa_nil))) (se_var 1 rfl (Or.inl rfl))) rfl (Or.inl rfl) rfl rfl (Or.inr rfl))
    (ss_cons (ss_tpset 0 (se_bin o_div (se_tpget 0 rfl (Or.inl rfl)) (se_var 1 rfl (Or.inl rfl))) rfl (Or.inl rfl))
    (ss_one (ss_ret (se_var 2 rfl (Or.inl rfl))))))
abbrev s__law_same : Stmt := topS 31
abbrev N__law_same : List Str := ["a", "b", "k"]
theorem sc__law_same : FnScope N__law_same ["a", "b"] (defScope s__law_same) := ⟨rfl, rfl, rfl, by decide +kernel, rfl, by decide +kernel, by decide +kernel⟩
def den__law_same (c__law_same : Sem1) : SDen :=
  dSeq (dIfS (dOrB (dAndB (dTest (dIsi "tuple" (dVar 0))) (dTest (dIsi "tuple" (dVar 1)))) (dAndB (dTest (dIsi "list" (dVar 0))) (dTest (dIsi "list" (dVar 1))))) (dRet (dAnd (dOp2 fEq (dOpA fLen (dCons (dVar 0) (dNil))) (dOpA fLen (dCons (dVar 1) (dNil)))) (dOpA fAll (dCons (dLc [2] (dRng1 (dCons (dOpA fLen (dCons (dVar 0) (dNil))) (dNil))) (gdName 2) (dYes) (dCall c__law_same (dCons (dOp2 fIx (dVar 0) (dVar 2)) (dCons (dOp2 fIx (dVar 1) (dVar 2)) (dNil))))) (dNil))))) (dNext))
    (dSeq (dIfS (dOrB (dTest (dIsi "bool" (dVar 0))) (dTest (dIsi "bool" (dVar 1)))) (dRet (dAnd (dIsi "bool" (dVar 0)) (dAnd (dIsi "bool" (dVar 1)) (dOp2 fEq (dVar 0) (dVar 1))))) (dNext))
    (dSeq (dIfS (dOrB (dAndB (dTest (dIsi "int" (dVar 0))) (dTest (dIsi "int" (dVar 1)))) (dAndB (dTest (dIsi "str" (dVar 0))) (dTest (dIsi "str" (dVar 1))))) (dRet (dOp2 fEq (dVar 0) (dVar 1))) (dNext))
    (dRet (dAnd (dOp2 fIs (dVar 0) (dC .none)) (dOp2 fIs (dVar 1) (dC .none))))))
theorem ok__law_same {j : Nat} {c__law_same : Sem1} (F__law_same : FD P w K mg base j "_law_same" ["a", "b"] noBr c__law_same) {f : Addr} {fd : FuncData} (T : Txt K mg) (F : Fun K "_law_same" "_law_same" s__law_same f fd) : FnOk P w K mg base CX0 (j + 1) f fd ["a", "b"] (spOf K 2 noBr (runDef 3 2 (den__law_same c__law_same))) :=
  fn_den F sc__law_same (by decide) noBr_lt fun cdv A outer s H E ow σ0 hr =>
  ss_cons (ss_if (st_w (sw_or (st_w (sw_and (st_val (se_isi (T := "tuple") (se_var 0 rfl (Or.inr (Or.inl rfl))) rfl rfl T.n_isinstance (by decide) rfl T.n_tuple (by decide +kernel))) (sw_and1 (st_val (se_isi (T := "tuple") (se_var 1 rfl (Or.inr (Or.inl rfl))) rfl rfl T.n_isinstance (by decide) rfl T.n_tuple (by decide +kernel)))))) (sw_or1 (st_w (sw_and (st_val (se_isi (T := "list") (se_var 0 rfl (Or.inr (Or.inl rfl))) rfl rfl T.n_isinstance (by decide) rfl T.n_list (by decide +kernel))) (sw_and1 (st_val (se_isi (T := "list") (se_var 1 rfl (Or.inr (Or.inl rfl))) rfl rfl T.n_isinstance (by decide) rfl T.n_list (by decide +kernel))))))))) (ss_one (ss_ret (se_and (se_cmp o_eq (se_callB o_len rfl T.n_len (by decide +kernel) (sa_cons (se_var 0 rfl (Or.inr (Or.inl rfl))) (sa_nil))) (se_callB o_len rfl T.n_len (by decide +kernel) (sa_cons (se_var 1 rfl (Or.inr (Or.inl rfl))) (sa_nil)))) (se_one (se_callB (fun ct => o_all ct ct) rfl T.n_all (by decide +kernel) (sa_cons (se_lc [2] (blkOk_by (own := [("k", 2)]) (N := N__law_same) (sc := defScope s__law_same) (by decide +kernel)) rfl (fun _ _ => rfl) (si_rng1 (sa_cons (se_callB o_len rfl T.n_len (by decide +kernel) (sa_cons (se_var 0 rfl (Or.inr (Or.inl rfl))) (sa_nil))) (sa_nil)) rfl rfl T.n_range) (fun _ _ _ _ _ => sg_name 2 (by decide) rfl (Or.inl rfl) rfl (Or.inr rfl)) (fun _ _ _ _ _ => sf_nil) (fun _ _ _ _ _ => se_call F__law_same hr rfl (sa_cons (se_ix (se_var 0 rfl (Or.inr (Or.inl rfl))) (se_var 2 rfl (Or.inl rfl))) (sa_cons (se_ix (se_var 1 rfl (Or.inr (Or.inl rfl))) (se_var 2 rfl (Or.inl rfl))) (sa_nil))) rfl (dCons_len (dCons_len dNil_len')))) (sa_nil))))))) (ss_nil))
    (ss_cons (ss_if (st_w (sw_or (st_val (se_isi (T := "bool") (se_var 0 rfl (Or.inr (Or.inl rfl))) rfl rfl T.n_isinstance (by decide) rfl T.n_bool (by decide +kernel))) (sw_or1 (st_val (se_isi (T := "bool") (se_var 1 rfl (Or.inr (Or.inl rfl))) rfl rfl T.n_isinstance (by decide) rfl T.n_bool (by decide +kernel)))))) (ss_one (ss_ret (se_and (se_isi (T := "bool") (se_var 0 rfl (Or.inr (Or.inl rfl))) rfl rfl T.n_isinstance (by decide) rfl T.n_bool (by decide +kernel)) (se_and (se_isi (T := "bool") (se_var 1 rfl (Or.inr (Or.inl rfl))) rfl rfl T.n_isinstance (by decide) rfl T.n_bool (by decide +kernel)) (se_one (se_cmp o_eq (se_var 0 rfl (Or.inr (Or.inl rfl))) (se_var 1 rfl (Or.inr (Or.inl rfl))))))))) (ss_nil))
    (ss_cons (ss_if (st_w (sw_or (st_w (sw_and (st_val (se_isi (T := "int") (se_var 0 rfl (Or.inr (Or.inl rfl))) rfl rfl T.n_isinstance (by decide) rfl T.n_int (by decide +kernel))) (sw_and1 (st_val (se_isi (T := "int") (se_var 1 rfl (Or.inr (Or.inl rfl))) rfl rfl T.n_isinstance (by decide) rfl T.n_int (by decide +kernel)))))) (sw_or1 (st_w (sw_and (st_val (se_isi (T := "str") (se_var 0 rfl (Or.inr (Or.inl rfl))) rfl rfl T.n_isinstance (by decide) rfl T.n_str (by decide +kernel))) (sw_and1 (st_val (se_isi (T := "str") (se_var 1 rfl (Or.inr (Or.inl rfl))) rfl rfl T.n_isinstance (by decide) rfl T.n_str (by decide +kernel))))))))) (ss_one (ss_ret (se_cmp o_eq (se_var 0 rfl (Or.inr (Or.inl rfl))) (se_var 1 rfl (Or.inr (Or.inl rfl)))))) (ss_nil))
    (ss_one (ss_ret (se_and (se_cmp o_is (se_var 0 rfl (Or.inr (Or.inl rfl))) (se_non)) (se_one (se_cmp o_is (se_var 1 rfl (Or.inr (Or.inl rfl))) (se_non))))))))
abbrev s__law_document : Stmt := topS 32
abbrev N__law_document : List Str := ["box", "deep", "pick", "inner", "turn"]
theorem sc__law_document : FnScope N__law_document ["box", "deep"] (defScope s__law_document) := ⟨rfl, rfl, rfl, by decide +kernel, rfl, by decide +kernel, by decide +kernel⟩
def den__law_document (c__law_draw : Sem1) (c__law_document : Sem1) : SDen :=
  dSeq (dSet 2 (dCallR c__law_draw 0 (dCons (dC (.int 14)) (dNil))))
    (dSeq (dIfS (dAndB (dTestB (dOp2 fGt (dVar 1) (dC (.int 1)))) (dTestB (dOp2 fLt (dVar 2) (dC (.int 5))))) (dRet (dOp2 fAdd (dTup (dCons (dC (.str "join")) (dNil))) (dOpA fTuple (dCons (dLc [4] (dRng1 (dCons (dCallR c__law_draw 0 (dCons (dC (.int 4)) (dNil))) (dNil))) (gdName 4) (dYes) (dCallR c__law_document 0 (dCons (dOp2 fSub (dVar 1) (dC (.int 1))) (dNil)))) (dNil))))) (dNext))
    (dSeq (dIfS (dAndB (dTestB (dOp2 fGt (dVar 1) (dC (.int 1)))) (dTestB (dOp2 fLt (dVar 2) (dC (.int 11))))) (dSeq (dSet 3 (dCallR c__law_document 0 (dCons (dOp2 fSub (dVar 1) (dC (.int 1))) (dNil))))
    (dRet (dOp2 fIx (dLst (dCons (dTup (dCons (dC (.str "nest")) (dCons (dCallR c__law_draw 0 (dCons (dC (.int 4)) (dNil))) (dCons (dVar 3) (dNil))))) (dCons (dTup (dCons (dC (.str "align")) (dCons (dVar 3) (dNil)))) (dCons (dTup (dCons (dC (.str "group")) (dCons (dVar 3) (dNil)))) (dCons (dTup (dCons (dC (.str "group")) (dCons (dVar 3) (dNil)))) (dCons (dTup (dCons (dC (.str "dear")) (dCons (dCallR c__law_draw 0 (dCons (dC (.int 3)) (dNil))) (dCons (dVar 3) (dNil))))) (dCons (dTup (dCons (dC (.str "flat")) (dCons (dVar 3) (dNil)))) (dNil)))))))) (dOp2 fSub (dVar 2) (dC (.int 5)))))) (dNext))
    (dSeq (dIfS (dAndB (dTestB (dOp2 fGt (dVar 1) (dC (.int 1)))) (dTestB (dOp2 fEq (dVar 2) (dC (.int 11))))) (dRet (dTup (dCons (dC (.str "either")) (dCons (dCallR c__law_document 0 (dCons (dOp2 fSub (dVar 1) (dC (.int 1))) (dNil))) (dCons (dCallR c__law_document 0 (dCons (dOp2 fSub (dVar 1) (dC (.int 1))) (dNil))) (dNil)))))) (dNext))
    (dRet (dOp2 fIx (dLst (dCons (dTup (dCons (dC (.str "text")) (dCons (dOp2 fIx (dLst (dCons (dC (.str "")) (dCons (dC (.str "a")) (dCons (dC (.str "bc")) (dCons (dC (.str "a b")) (dCons (dC (.str "abcd")) (dNil))))))) (dCallR c__law_draw 0 (dCons (dC (.int 5)) (dNil)))) (dNil)))) (dCons (dTup (dCons (dC (.str "text")) (dCons (dC (.str "x")) (dNil)))) (dCons (dTup (dCons (dC (.str "line")) (dNil))) (dCons (dTup (dCons (dC (.str "soft")) (dNil))) (dCons (dTup (dCons (dC (.str "hard")) (dNil))) (dCons (dTup (dCons (dC (.str "line")) (dNil))) (dNil)))))))) (dCallR c__law_draw 0 (dCons (dC (.int 6)) (dNil))))))))
theorem ok__law_document {j : Nat} {c__law_draw : Sem1} {c__law_document : Sem1} (F__law_draw : FD P w K mg base j "_law_draw" ["box", "many"] br0 c__law_draw) (F__law_document : FD P w K mg base j "_law_document" ["box", "deep"] br0 c__law_document) {f : Addr} {fd : FuncData} (T : Txt K mg) (F : Fun K "_law_document" "_law_document" s__law_document f fd) : FnOk P w K mg base CX0 (j + 1) f fd ["box", "deep"] (spOf K 2 br0 (runDef 5 2 (den__law_document c__law_draw c__law_document))) :=
  fn_den F sc__law_document (by decide) (br0_lt (by decide)) fun cdv A outer s H E ow σ0 hr =>
  ss_cons (ss_set 2 (se_callR 0 F__law_draw hr rfl (sa_cons (se_int) (sa_nil)) rfl (dCons_len dNil_len') rfl (Or.inr (Or.inl rfl))) rfl (Or.inl rfl) rfl rfl (Or.inr rfl))
    (ss_cons (ss_if (st_w (sw_and (st_cmp o_gt (se_var 1 rfl (Or.inr (Or.inl rfl))) (se_int)) (sw_and1 (st_cmp o_lt (se_var 2 rfl (Or.inl rfl)) (se_int))))) (ss_one (ss_ret (se_bin o_add (se_tup (sa_cons (se_str) (sa_nil))) (se_callT o_tuple rfl T.n_tuple (by decide +kernel) (sa_cons (se_lc [4] (blkOk_by (own := [("turn", 4)]) (N := N__law_document) (sc := defScope s__law_document) (by decide +kernel)) rfl (br0_out (by decide)) (si_rng1 (sa_cons (se_callR 0 F__law_draw hr rfl (sa_cons (se_int) (sa_nil)) rfl (dCons_len dNil_len') rfl (Or.inr (Or.inl rfl))) (sa_nil)) rfl rfl T.n_range) (fun _ _ _ _ _ => sg_name 4 (by decide) rfl (Or.inl rfl) rfl (Or.inr rfl)) (fun _ _ _ _ _ => sf_nil) (fun _ _ _ _ _ => se_callR 0 F__law_document hr rfl (sa_cons (se_bin o_sub (se_var 1 rfl (Or.inr (Or.inl rfl))) (se_int)) (sa_nil)) rfl (dCons_len dNil_len') rfl (Or.inr (Or.inl rfl)))) (sa_nil)))))) (ss_nil))
    (ss_cons (ss_if (st_w (sw_and (st_cmp o_gt (se_var 1 rfl (Or.inr (Or.inl rfl))) (se_int)) (sw_and1 (st_cmp o_lt (se_var 2 rfl (Or.inl rfl)) (se_int))))) (ss_cons (ss_set 3 (se_callR 0 F__law_document hr rfl (sa_cons (se_bin o_sub (se_var 1 rfl (Or.inr (Or.inl rfl))) (se_int)) (sa_nil)) rfl (dCons_len dNil_len') rfl (Or.inr (Or.inl rfl))) rfl (Or.inl rfl) rfl rfl (Or.inr rfl))
    (ss_one (ss_ret (se_ix (se_lst (sa_cons (se_tup (sa_cons (se_str) (sa_cons (se_callR 0 F__law_draw hr rfl (sa_cons (se_int) (sa_nil)) rfl (dCons_len dNil_len') rfl (Or.inr (Or.inl rfl))) (sa_cons (se_var 3 rfl (Or.inl rfl)) (sa_nil))))) (sa_cons (se_tup (sa_cons (se_str) (sa_cons (se_var 3 rfl (Or.inl rfl)) (sa_nil)))) (sa_cons (se_tup (sa_cons (se_str) (sa_cons (se_var 3 rfl (Or.inl rfl)) (sa_nil)))) (sa_cons (se_tup (sa_cons (se_str) (sa_cons (se_var 3 rfl (Or.inl rfl)) (sa_nil)))) (sa_cons (se_tup (sa_cons (se_str) (sa_cons (se_callR 0 F__law_draw hr rfl (sa_cons (se_int) (sa_nil)) rfl (dCons_len dNil_len') rfl (Or.inr (Or.inl rfl))) (sa_cons (se_var 3 rfl (Or.inl rfl)) (sa_nil))))) (sa_cons (se_tup (sa_cons (se_str) (sa_cons (se_var 3 rfl (Or.inl rfl)) (sa_nil)))) (sa_nil)))))))) (se_bin o_sub (se_var 2 rfl (Or.inl rfl)) (se_int)))))) (ss_nil))
    (ss_cons (ss_if (st_w (sw_and (st_cmp o_gt (se_var 1 rfl (Or.inr (Or.inl rfl))) (se_int)) (sw_and1 (st_cmp o_eq (se_var 2 rfl (Or.inl rfl)) (se_int))))) (ss_one (ss_ret (se_tup (sa_cons (se_str) (sa_cons (se_callR 0 F__law_document hr rfl (sa_cons (se_bin o_sub (se_var 1 rfl (Or.inr (Or.inl rfl))) (se_int)) (sa_nil)) rfl (dCons_len dNil_len') rfl (Or.inr (Or.inl rfl))) (sa_cons (se_callR 0 F__law_document hr rfl (sa_cons (se_bin o_sub (se_var 1 rfl (Or.inr (Or.inl rfl))) (se_int)) (sa_nil)) rfl (dCons_len dNil_len') rfl (Or.inr (Or.inl rfl))) (sa_nil))))))) (ss_nil))
    (ss_one (ss_ret (se_ix (se_lst (sa_cons (se_tup (sa_cons (se_str) (sa_cons (se_ix (se_lst (sa_cons (se_str) (sa_cons (se_str) (sa_cons (se_str) (sa_cons (se_str) (sa_cons (se_str) (sa_nil))))))) (se_callR 0 F__law_draw hr rfl (sa_cons (se_int) (sa_nil)) rfl (dCons_len dNil_len') rfl (Or.inr (Or.inl rfl)))) (sa_nil)))) (sa_cons (se_tup (sa_cons (se_str) (sa_cons (se_str) (sa_nil)))) (sa_cons (se_tup (sa_cons (se_str) (sa_nil))) (sa_cons (se_tup (sa_cons (se_str) (sa_nil))) (sa_cons (se_tup (sa_cons (se_str) (sa_nil))) (sa_cons (se_tup (sa_cons (se_str) (sa_nil))) (sa_nil)))))))) (se_callR 0 F__law_draw hr rfl (sa_cons (se_int) (sa_nil)) rfl (dCons_len dNil_len') rfl (Or.inr (Or.inl rfl)))))))))
abbrev s__law_is_name : Stmt := topS 33
abbrev N__law_is_name : List Str := ["text", "small", "sign"]
theorem sc__law_is_name : FnScope N__law_is_name ["text"] (defScope s__law_is_name) := ⟨rfl, rfl, rfl, by decide +kernel, rfl, by decide +kernel, by decide +kernel⟩
def den__law_is_name : SDen :=
  dSeq (dIfS (dOrB (dNotB (dTest (dIsi "str" (dVar 0)))) (dOrB (dTestB (dOp2 fLt (dOpA fLen (dCons (dVar 0) (dNil))) (dC (.int 1)))) (dOrB (dTestB (dOp2 fGt (dOpA fLen (dCons (dVar 0) (dNil))) (dC (.int 8)))) (dTestB (dOp2 fIn (dVar 0) (dTup (dCons (dC (.str "all")) (dCons (dC (.str "any")) (dCons (dC (.str "none")) (dNil)))))))))) (dRet (dC (.bool false))) (dNext))
    (dSeq (dSet 1 (dC (.str "abcdefghijklmnopqrstuvwxyz")))
    (dRet (dAnd (dOp2 fIn (dOp2 fIx (dVar 0) (dC (.int 0))) (dVar 1)) (dOpA fAll (dCons (dLc [2] (dSeqI (dVar 0)) (gdName 2) (dYes) (dOr (dOp2 fIn (dVar 2) (dVar 1)) (dOp2 fIn (dVar 2) (dC (.str "0123456789"))))) (dNil))))))
theorem ok__law_is_name {j : Nat} {f : Addr} {fd : FuncData} (T : Txt K mg) (F : Fun K "_law_is_name" "_law_is_name" s__law_is_name f fd) : FnOk P w K mg base CX0 (j + 1) f fd ["text"] (spOf K 1 noBr (runDef 3 1 (den__law_is_name))) :=
  fn_den F sc__law_is_name (by decide) noBr_lt fun cdv A outer s H E ow σ0 hr =>
  ss_cons (ss_if (st_w (sw_or (st_not (st_val (se_isi (T := "str") (se_var 0 rfl (Or.inl rfl)) rfl rfl T.n_isinstance (by decide) rfl T.n_str (by decide +kernel)))) (sw_or (st_cmp o_lt (se_callB o_len rfl T.n_len (by decide +kernel) (sa_cons (se_var 0 rfl (Or.inl rfl)) (sa_nil))) (se_int)) (sw_or (st_cmp o_gt (se_callB o_len rfl T.n_len (by decide +kernel) (sa_cons (se_var 0 rfl (Or.inl rfl)) (sa_nil))) (se_int)) (sw_or1 (st_cmp o_in (se_var 0 rfl (Or.inl rfl)) (se_tup (sa_cons (se_str) (sa_cons (se_str) (sa_cons (se_str) (sa_nil))))))))))) (ss_one (ss_ret (se_bl))) (ss_nil))
    (ss_cons (ss_set 1 (se_str) rfl (Or.inr rfl) rfl rfl (Or.inl rfl))
    (ss_one (ss_ret (se_and (se_cmp o_in (se_ix (se_var 0 rfl (Or.inl rfl)) (se_int)) (se_var 1 rfl (Or.inr (Or.inl rfl)))) (se_one (se_callB (fun ct => o_all ct ct) rfl T.n_all (by decide +kernel) (sa_cons (se_lc [2] (blkOk_by (own := [("sign", 2)]) (N := N__law_is_name) (sc := defScope s__law_is_name) (by decide +kernel)) rfl (fun _ _ => rfl) (si_seq (se_var 0 rfl (Or.inl rfl))) (fun _ _ _ _ _ => sg_name 2 (by decide) rfl (Or.inl rfl) rfl (Or.inr rfl)) (fun _ _ _ _ _ => sf_nil) (fun _ _ _ _ _ => se_or (se_cmp o_in (se_var 2 rfl (Or.inl rfl)) (se_var 1 rfl (Or.inr (Or.inl rfl)))) (se_one (se_cmp o_in (se_var 2 rfl (Or.inl rfl)) (se_str))))) (sa_nil))))))))
abbrev s__law_is_sign : Stmt := topS 34
abbrev N__law_is_sign : List Str := ["value"]
theorem sc__law_is_sign : FnScope N__law_is_sign ["value"] (defScope s__law_is_sign) := ⟨rfl, rfl, rfl, by decide +kernel, rfl, by decide +kernel, by decide +kernel⟩
def den__law_is_sign : SDen :=
  dRet (dAnd (dIsi "str" (dVar 0)) (dAnd (dOp2 fEq (dOpA fLen (dCons (dVar 0) (dNil))) (dC (.int 1))) (dOp2 fIn (dVar 0) (dC (.str "abcdefghijklmnopqrstuvwxyz0123456789+-*/=<>(),.;:[]{}!?_ ")))))
theorem ok__law_is_sign {j : Nat} {f : Addr} {fd : FuncData} (T : Txt K mg) (F : Fun K "_law_is_sign" "_law_is_sign" s__law_is_sign f fd) : FnOk P w K mg base CX0 (j + 1) f fd ["value"] (spOf K 1 noBr (runDef 1 1 (den__law_is_sign))) :=
  fn_den F sc__law_is_sign (by decide) noBr_lt fun cdv A outer s H E ow σ0 hr =>
  ss_one (ss_ret (se_and (se_isi (T := "str") (se_var 0 rfl (Or.inl rfl)) rfl rfl T.n_isinstance (by decide) rfl T.n_str (by decide +kernel)) (se_and (se_cmp o_eq (se_callB o_len rfl T.n_len (by decide +kernel) (sa_cons (se_var 0 rfl (Or.inl rfl)) (sa_nil))) (se_int)) (se_one (se_cmp o_in (se_var 0 rfl (Or.inl rfl)) (se_str))))))
abbrev s__law_is_text : Stmt := topS 35
abbrev N__law_is_text : List Str := ["value", "sign"]
theorem sc__law_is_text : FnScope N__law_is_text ["value"] (defScope s__law_is_text) := ⟨rfl, rfl, rfl, by decide +kernel, rfl, by decide +kernel, by decide +kernel⟩
def den__law_is_text (c__law_is_sign : Sem1) : SDen :=
  dRet (dAnd (dIsi "str" (dVar 0)) (dAnd (dOp2 fLe (dOpA fLen (dCons (dVar 0) (dNil))) (dC (.int 40))) (dOpA fAll (dCons (dLc [1] (dSeqI (dVar 0)) (gdName 1) (dYes) (dCall c__law_is_sign (dCons (dVar 1) (dNil)))) (dNil)))))
theorem ok__law_is_text {j : Nat} {c__law_is_sign : Sem1} (F__law_is_sign : FD P w K mg base j "_law_is_sign" ["value"] noBr c__law_is_sign) {f : Addr} {fd : FuncData} (T : Txt K mg) (F : Fun K "_law_is_text" "_law_is_text" s__law_is_text f fd) : FnOk P w K mg base CX0 (j + 1) f fd ["value"] (spOf K 1 noBr (runDef 2 1 (den__law_is_text c__law_is_sign))) :=
  fn_den F sc__law_is_text (by decide) noBr_lt fun cdv A outer s H E ow σ0 hr =>
  ss_one (ss_ret (se_and (se_isi (T := "str") (se_var 0 rfl (Or.inl rfl)) rfl rfl T.n_isinstance (by decide) rfl T.n_str (by decide +kernel)) (se_and (se_cmp o_le (se_callB o_len rfl T.n_len (by decide +kernel) (sa_cons (se_var 0 rfl (Or.inl rfl)) (sa_nil))) (se_int)) (se_one (se_callB (fun ct => o_all ct ct) rfl T.n_all (by decide +kernel) (sa_cons (se_lc [1] (blkOk_by (own := [("sign", 1)]) (N := N__law_is_text) (sc := defScope s__law_is_text) (by decide +kernel)) rfl (fun _ _ => rfl) (si_seq (se_var 0 rfl (Or.inl rfl))) (fun _ _ _ _ _ => sg_name 1 (by decide) rfl (Or.inl rfl) rfl (Or.inr rfl)) (fun _ _ _ _ _ => sf_nil) (fun _ _ _ _ _ => se_call F__law_is_sign hr rfl (sa_cons (se_var 1 rfl (Or.inl rfl)) (sa_nil)) rfl (dCons_len dNil_len'))) (sa_nil)))))))
abbrev s__law_is_document : Stmt := topS 36
abbrev N__law_is_document : List Str := ["value", "deep", "word", "parts", "sizes", "part"]
theorem sc__law_is_document : FnScope N__law_is_document ["value", "deep"] (defScope s__law_is_document) := ⟨rfl, rfl, rfl, by decide +kernel, rfl, by decide +kernel, by decide +kernel⟩
def den__law_is_document (c__law_is_text : Sem1) (c__law_is_document : Sem1) : SDen :=
  dSeq (dIfS (dOrB (dTestB (dOp2 fEq (dVar 1) (dC (.int 0)))) (dOrB (dNotB (dTest (dIsi "tuple" (dVar 0)))) (dOrB (dTestB (dOp2 fEq (dVar 0) (dTup (dNil)))) (dNotB (dTest (dIsi "str" (dOp2 fIx (dVar 0) (dC (.int 0))))))))) (dRet (dC (.bool false))) (dNext))
    (dSeq (dPar 2 3 (dCons (dOp2 fIx (dVar 0) (dC (.int 0))) (dCons (dSl (dVar 0) (dSome (dC (.int 1))) (dNo)) (dNil))))
    (dSeq (dIfS (dTestB (dOp2 fIn (dVar 2) (dTup (dCons (dC (.str "line")) (dCons (dC (.str "soft")) (dCons (dC (.str "hard")) (dNil))))))) (dRet (dOp2 fEq (dVar 3) (dTup (dNil)))) (dNext))
    (dSeq (dIfS (dTestB (dOp2 fEq (dVar 2) (dC (.str "text")))) (dRet (dAnd (dOp2 fEq (dOpA fLen (dCons (dVar 3) (dNil))) (dC (.int 1))) (dCall c__law_is_text (dCons (dOp2 fIx (dVar 3) (dC (.int 0))) (dNil))))) (dNext))
    (dSeq (dIfS (dTestB (dOp2 fIn (dVar 2) (dTup (dCons (dC (.str "nest")) (dCons (dC (.str "dear")) (dNil)))))) (dRet (dAnd (dOp2 fEq (dOpA fLen (dCons (dVar 3) (dNil))) (dC (.int 2))) (dAnd (dIsi "int" (dOp2 fIx (dVar 3) (dC (.int 0)))) (dAnd (dNot (dIsi "bool" (dOp2 fIx (dVar 3) (dC (.int 0))))) (dAnd (dChain fLe fLe (dC (.int 0)) (dOp2 fIx (dVar 3) (dC (.int 0))) (dC (.int 100))) (dCall c__law_is_document (dCons (dOp2 fIx (dVar 3) (dC (.int 1))) (dCons (dOp2 fSub (dVar 1) (dC (.int 1))) (dNil))))))))) (dNext))
    (dSeq (dSet 4 (dFrz (dDisp (dPs1 (dC (.str "join")) (dTup (dCons (dC (.int 0)) (dCons (dC (.int 8)) (dNil)))) (dPs1 (dC (.str "align")) (dTup (dCons (dC (.int 1)) (dCons (dC (.int 1)) (dNil)))) (dPs1 (dC (.str "group")) (dTup (dCons (dC (.int 1)) (dCons (dC (.int 1)) (dNil)))) (dPs1 (dC (.str "flat")) (dTup (dCons (dC (.int 1)) (dCons (dC (.int 1)) (dNil)))) (dPs1 (dC (.str "either")) (dTup (dCons (dC (.int 2)) (dCons (dC (.int 2)) (dNil)))) (dPs0)))))))))
    (dRet (dAnd (dOp2 fIn (dVar 2) (dVar 4)) (dAnd (dChain fLe fLe (dOp2 fIx (dOp2 fIx (dVar 4) (dVar 2)) (dC (.int 0))) (dOpA fLen (dCons (dVar 3) (dNil))) (dOp2 fIx (dOp2 fIx (dVar 4) (dVar 2)) (dC (.int 1)))) (dOpA fAll (dCons (dLc [5] (dSeqI (dVar 3)) (gdName 5) (dYes) (dCall c__law_is_document (dCons (dVar 5) (dCons (dOp2 fSub (dVar 1) (dC (.int 1))) (dNil))))) (dNil)))))))))))
theorem ok__law_is_document {j : Nat} {c__law_is_text : Sem1} {c__law_is_document : Sem1} (F__law_is_text : FD P w K mg base j "_law_is_text" ["value"] noBr c__law_is_text) (F__law_is_document : FD P w K mg base j "_law_is_document" ["value", "deep"] noBr c__law_is_document) {f : Addr} {fd : FuncData} (T : Txt K mg) (F : Fun K "_law_is_document" "_law_is_document" s__law_is_document f fd) : FnOk P w K mg base CX0 (j + 1) f fd ["value", "deep"] (spOf K 2 noBr (runDef 6 2 (den__law_is_document c__law_is_text c__law_is_document))) :=
  fn_den F sc__law_is_document (by decide) noBr_lt fun cdv A outer s H E ow σ0 hr =>
  ss_cons (ss_if (st_w (sw_or (st_cmp o_eq (se_var 1 rfl (Or.inr (Or.inl rfl))) (se_int)) (sw_or (st_not (st_val (se_isi (T := "tuple") (se_var 0 rfl (Or.inl rfl)) rfl rfl T.n_isinstance (by decide) rfl T.n_tuple (by decide +kernel)))) (sw_or (st_cmp o_eq (se_var 0 rfl (Or.inl rfl)) (se_tup (sa_nil))) (sw_or1 (st_not (st_val (se_isi (T := "str") (se_ix (se_var 0 rfl (Or.inl rfl)) (se_int)) rfl rfl T.n_isinstance (by decide) rfl T.n_str (by decide +kernel))))))))) (ss_one (ss_ret (se_bl))) (ss_nil))
    (ss_cons (ss_par 2 3 (sa_cons (se_ix (se_var 0 rfl (Or.inl rfl)) (se_int)) (sa_cons (se_sl (se_var 0 rfl (Or.inl rfl)) (so_some (se_int)) (so_none)) (sa_nil))))
    (ss_cons (ss_if (st_cmp o_in (se_var 2 rfl (Or.inl rfl)) (se_tup (sa_cons (se_str) (sa_cons (se_str) (sa_cons (se_str) (sa_nil)))))) (ss_one (ss_ret (se_cmp o_eq (se_var 3 rfl (Or.inl rfl)) (se_tup (sa_nil))))) (ss_nil))
    (ss_cons (ss_if (st_cmp o_eq (se_var 2 rfl (Or.inl rfl)) (se_str)) (ss_one (ss_ret (se_and (se_cmp o_eq (se_callB o_len rfl T.n_len (by decide +kernel) (sa_cons (se_var 3 rfl (Or.inl rfl)) (sa_nil))) (se_int)) (se_one (se_call F__law_is_text hr rfl (sa_cons (se_ix (se_var 3 rfl (Or.inl rfl)) (se_int)) (sa_nil)) rfl (dCons_len dNil_len')))))) (ss_nil))
    (ss_cons (ss_if (st_cmp o_in (se_var 2 rfl (Or.inl rfl)) (se_tup (sa_cons (se_str) (sa_cons (se_str) (sa_nil))))) (ss_one (ss_ret (se_and (se_cmp o_eq (se_callB o_len rfl T.n_len (by decide +kernel) (sa_cons (se_var 3 rfl (Or.inl rfl)) (sa_nil))) (se_int)) (se_and (se_isi (T := "int") (se_ix (se_var 3 rfl (Or.inl rfl)) (se_int)) rfl rfl T.n_isinstance (by decide) rfl T.n_int (by decide +kernel)) (se_and (se_not (se_isi (T := "bool") (se_ix (se_var 3 rfl (Or.inl rfl)) (se_int)) rfl rfl T.n_isinstance (by decide) rfl T.n_bool (by decide +kernel))) (se_and (se_chain o_le o_le (se_int) (se_ix (se_var 3 rfl (Or.inl rfl)) (se_int)) (se_int)) (se_one (se_call F__law_is_document hr rfl (sa_cons (se_ix (se_var 3 rfl (Or.inl rfl)) (se_int)) (sa_cons (se_bin o_sub (se_var 1 rfl (Or.inr (Or.inl rfl))) (se_int)) (sa_nil))) rfl (dCons_len (dCons_len dNil_len')))))))))) (ss_nil))
    (ss_cons (ss_set 4 (se_frz (sn_disp (sps_cons (se_str) (se_tup (sa_cons (se_int) (sa_cons (se_int) (sa_nil)))) (sps_cons (se_str) (se_tup (sa_cons (se_int) (sa_cons (se_int) (sa_nil)))) (sps_cons (se_str) (se_tup (sa_cons (se_int) (sa_cons (se_int) (sa_nil)))) (sps_cons (se_str) (se_tup (sa_cons (se_int) (sa_cons (se_int) (sa_nil)))) (sps_cons (se_str) (se_tup (sa_cons (se_int) (sa_cons (se_int) (sa_nil)))) (sps_nil)))))))) rfl (Or.inl rfl) rfl rfl (Or.inr rfl))
    (ss_one (ss_ret (se_and (se_cmp o_in (se_var 2 rfl (Or.inl rfl)) (se_var 4 rfl (Or.inl rfl))) (se_and (se_chain o_le o_le (se_ix (se_ix (se_var 4 rfl (Or.inl rfl)) (se_var 2 rfl (Or.inl rfl))) (se_int)) (se_callB o_len rfl T.n_len (by decide +kernel) (sa_cons (se_var 3 rfl (Or.inl rfl)) (sa_nil))) (se_ix (se_ix (se_var 4 rfl (Or.inl rfl)) (se_var 2 rfl (Or.inl rfl))) (se_int))) (se_one (se_callB (fun ct => o_all ct ct) rfl T.n_all (by decide +kernel) (sa_cons (se_lc [5] (blkOk_by (own := [("part", 5)]) (N := N__law_is_document) (sc := defScope s__law_is_document) (by decide +kernel)) rfl (fun _ _ => rfl) (si_seq (se_var 3 rfl (Or.inl rfl))) (fun _ _ _ _ _ => sg_name 5 (by decide) rfl (Or.inl rfl) rfl (Or.inr rfl)) (fun _ _ _ _ _ => sf_nil) (fun _ _ _ _ _ => se_call F__law_is_document hr rfl (sa_cons (se_var 5 rfl (Or.inl rfl)) (sa_cons (se_bin o_sub (se_var 1 rfl (Or.inr (Or.inl rfl))) (se_int)) (sa_nil))) rfl (dCons_len (dCons_len dNil_len')))) (sa_nil)))))))))))))
abbrev s__law_bent : Stmt := topS 37
abbrev N__law_bent : List Str := ["box", "value", "at", "pick"]
theorem sc__law_bent : FnScope N__law_bent ["box", "value"] (defScope s__law_bent) := ⟨rfl, rfl, rfl, by decide +kernel, rfl, by decide +kernel, by decide +kernel⟩
def den__law_bent (c__law_draw : Sem1) (c__law_bent : Sem1) : SDen :=
  dSeq (dIfS (dAndB (dTest (dIsi "tuple" (dVar 1))) (dAndB (dTestB (dOp2 fNe (dVar 1) (dTup (dNil)))) (dTestB (dOp2 fGt (dCallR c__law_draw 0 (dCons (dC (.int 6)) (dNil))) (dC (.int 0)))))) (dSeq (dSet 2 (dCallR c__law_draw 0 (dCons (dOpA fLen (dCons (dVar 1) (dNil))) (dNil))))
    (dRet (dOp2 fAdd (dOp2 fAdd (dSl (dVar 1) (dNo) (dSome (dVar 2))) (dTup (dCons (dCallR c__law_bent 0 (dCons (dOp2 fIx (dVar 1) (dVar 2)) (dNil))) (dNil)))) (dSl (dVar 1) (dSome (dOp2 fAdd (dVar 2) (dC (.int 1)))) (dNo))))) (dNext))
    (dSeq (dSet 3 (dCallR c__law_draw 0 (dCons (dC (.int 9)) (dNil))))
    (dSeq (dIfS (dTest (dIsi "tuple" (dVar 1))) (dRet (dOp2 fIx (dLst (dCons (dTup (dNil)) (dCons (dOp2 fAdd (dVar 1) (dSl (dVar 1) (dNo) (dSome (dC (.int 1))))) (dCons (dSl (dVar 1) (dSome (dC (.int 1))) (dNo)) (dCons (dOp1 fRev (dVar 1)) (dCons (dTup (dCons (dC (.str "group")) (dCons (dVar 1) (dNil)))) (dCons (dOp2 fAdd (dVar 1) (dTup (dCons (dC (.int 3)) (dNil)))) (dCons (dC .none) (dCons (dTup (dCons (dC (.str "text")) (dCons (dC (.str "a")) (dNil)))) (dCons (dTup (dCons (dC (.str "line")) (dCons (dC (.int 1)) (dNil)))) (dNil))))))))))) (dVar 3))) (dNext))
    (dSeq (dIfS (dTest (dIsi "str" (dVar 1))) (dRet (dOp2 fIx (dLst (dCons (dC (.str "")) (dCons (dC (.str "line")) (dCons (dC (.str "A")) (dCons (dC .none) (dCons (dC (.int 0)) (dCons (dC (.str "join")) (dCons (dC (.str "nest")) (dCons (dC (.str "text")) (dCons (dC (.str "either")) (dNil))))))))))) (dVar 3))) (dNext))
    (dRet (dOp2 fIx (dLst (dCons (dC (.int 0)) (dCons (dC (.int 101)) (dCons (dOp1 fNeg (dC (.int 1))) (dCons (dC (.bool true)) (dCons (dC .none) (dCons (dC (.str "3")) (dCons (dC (.int 100)) (dCons (dC (.bool false)) (dCons (dC (.int 9)) (dNil))))))))))) (dVar 3))))))
theorem ok__law_bent {j : Nat} {c__law_draw : Sem1} {c__law_bent : Sem1} (F__law_draw : FD P w K mg base j "_law_draw" ["box", "many"] br0 c__law_draw) (F__law_bent : FD P w K mg base j "_law_bent" ["box", "value"] br0 c__law_bent) {f : Addr} {fd : FuncData} (T : Txt K mg) (F : Fun K "_law_bent" "_law_bent" s__law_bent f fd) : FnOk P w K mg base CX0 (j + 1) f fd ["box", "value"] (spOf K 2 br0 (runDef 4 2 (den__law_bent c__law_draw c__law_bent))) :=
  fn_den F sc__law_bent (by decide) (br0_lt (by decide)) fun cdv A outer s H E ow σ0 hr =>
  ss_cons (ss_if (st_w (sw_and (st_val (se_isi (T := "tuple") (se_var 1 rfl (Or.inl rfl)) rfl rfl T.n_isinstance (by decide) rfl T.n_tuple (by decide +kernel))) (sw_and (st_cmp o_ne (se_var 1 rfl (Or.inl rfl)) (se_tup (sa_nil))) (sw_and1 (st_cmp o_gt (se_callR 0 F__law_draw hr rfl (sa_cons (se_int) (sa_nil)) rfl (dCons_len dNil_len') rfl (Or.inl rfl)) (se_int)))))) (ss_cons (ss_set 2 (se_callR 0 F__law_draw hr rfl (sa_cons (se_callB o_len rfl T.n_len (by decide +kernel) (sa_cons (se_var 1 rfl (Or.inl rfl)) (sa_nil))) (sa_nil)) rfl (dCons_len dNil_len') rfl (Or.inl rfl)) rfl (Or.inl rfl) rfl rfl (Or.inr rfl))
    (ss_one (ss_ret (se_bin o_add (se_bin o_add (se_sl (se_var 1 rfl (Or.inl rfl)) (so_none) (so_some (se_var 2 rfl (Or.inl rfl)))) (se_tup (sa_cons (se_callR 0 F__law_bent hr rfl (sa_cons (se_ix (se_var 1 rfl (Or.inl rfl)) (se_var 2 rfl (Or.inl rfl))) (sa_nil)) rfl (dCons_len dNil_len') rfl (Or.inl rfl)) (sa_nil)))) (se_sl (se_var 1 rfl (Or.inl rfl)) (so_some (se_bin o_add (se_var 2 rfl (Or.inl rfl)) (se_int))) (so_none)))))) (ss_nil))
    (ss_cons (ss_set 3 (se_callR 0 F__law_draw hr rfl (sa_cons (se_int) (sa_nil)) rfl (dCons_len dNil_len') rfl (Or.inl rfl)) rfl (Or.inl rfl) rfl rfl (Or.inr rfl))
    (ss_cons (ss_if (st_val (se_isi (T := "tuple") (se_var 1 rfl (Or.inl rfl)) rfl rfl T.n_isinstance (by decide) rfl T.n_tuple (by decide +kernel))) (ss_one (ss_ret (se_ix (se_lst (sa_cons (se_tup (sa_nil)) (sa_cons (se_bin o_add (se_var 1 rfl (Or.inl rfl)) (se_sl (se_var 1 rfl (Or.inl rfl)) (so_none) (so_some (se_int)))) (sa_cons (se_sl (se_var 1 rfl (Or.inl rfl)) (so_some (se_int)) (so_none)) (sa_cons (se_rev (se_var 1 rfl (Or.inl rfl))) (sa_cons (se_tup (sa_cons (se_str) (sa_cons (se_var 1 rfl (Or.inl rfl)) (sa_nil)))) (sa_cons (se_bin o_add (se_var 1 rfl (Or.inl rfl)) (se_tup (sa_cons (se_int) (sa_nil)))) (sa_cons (se_non) (sa_cons (se_tup (sa_cons (se_str) (sa_cons (se_str) (sa_nil)))) (sa_cons (se_tup (sa_cons (se_str) (sa_cons (se_int) (sa_nil)))) (sa_nil))))))))))) (se_var 3 rfl (Or.inl rfl))))) (ss_nil))
    (ss_cons (ss_if (st_val (se_isi (T := "str") (se_var 1 rfl (Or.inl rfl)) rfl rfl T.n_isinstance (by decide) rfl T.n_str (by decide +kernel))) (ss_one (ss_ret (se_ix (se_lst (sa_cons (se_str) (sa_cons (se_str) (sa_cons (se_str) (sa_cons (se_non) (sa_cons (se_int) (sa_cons (se_str) (sa_cons (se_str) (sa_cons (se_str) (sa_cons (se_str) (sa_nil))))))))))) (se_var 3 rfl (Or.inl rfl))))) (ss_nil))
    (ss_one (ss_ret (se_ix (se_lst (sa_cons (se_int) (sa_cons (se_int) (sa_cons (se_un o_neg (se_int)) (sa_cons (se_bl) (sa_cons (se_non) (sa_cons (se_str) (sa_cons (se_int) (sa_cons (se_bl) (sa_cons (se_int) (sa_nil))))))))))) (se_var 3 rfl (Or.inl rfl))))))))
abbrev s__law_errors : Stmt := topS 38
abbrev N__law_errors : List Str := ["errors", "k", "e", "j"]
theorem sc__law_errors : FnScope N__law_errors [] (defScope s__law_errors) := ⟨rfl, rfl, rfl, by decide +kernel, rfl, by decide +kernel, by decide +kernel⟩
abbrev r__law_errors : Den := dLc [3] (dRng1 (dCons (dC (.int 4)) (dNil))) (gdName 3) (dYes) (dOp2 fEq (dVar 3) (dVar 1))
theorem ok__law_errors {j : Nat} (hj : 2 ≤ j) {c__law_same : Sem1} {CL C1 C2 C3 C4 : Addr} (EA : ErrA P w K mg CL C1 C2 C3 C4) (mgo : ∀ {n : Str} {v : Value}, PySem.W.nsIn K mainGlobals n = some (some v) → mg n = some v) {Pt : Addr} (BT : base.BuiltinsAt mg Pt) {sl2 : List Sl}
    (hs : c__law_same [.d (.tuple [.int 3, .int 4]), .d (.tuple [.int 3, .int 4])] = .ok (.bool true, sl2)) (F__law_same : FD P w K mg base j "_law_same" ["a", "b"] noBr c__law_same) {f : Addr} {fd : FuncData} (T : Txt K mg) (F : Fun K "_law_errors" "_law_errors" s__law_errors f fd) :
    FnOk P w K mg base CX0 (j + 1) f fd [] (spOf K 0 noBr semYes) := by
  refine F.ok sc__law_errors (fun vs H Q E h => ?_) (fun cdv A outer s H vs Q E hr h => ?_)
  · obtain ⟨_, _, _, _, h, _⟩ := h; exact h
  · obtain ⟨ow, sls, d, sls', hv, hl, trk, hsl, hrun, hq⟩ := h
    obtain rfl := List.length_eq_zero_iff.mp hv
    have hrun' : semYes sls = .ok (d, sls') := hrun
    obtain rfl : PyData.bool true = d := by injection hrun' with z; injection z
    have ct : Ct (cxOf CX0 P w K mg base N__law_errors "_law_errors" (defScope s__law_errors) f cdv A outer s H E).nox := ⟨rfl, sc__law_errors.nd, by have := hr.un; show (A.deeper _).units + 65 < cLine; omega, hr.hd⟩
    obtain ⟨fs, fds, h1, h2, h3, h4⟩ := F__law_same.ex
    refine ⟨_, ?_, rd_errs (ow := ow) (C1 := C1) (C2 := C2) (C3 := C3) (C4 := C4) (CL := CL) (r := r__law_errors) (sem := c__law_same) EA.r trk (fun v H' ow' l t dm r => hq v H' ow' l t dm (fun i hi => by cases hi) r) ⟨_, rfl⟩ ⟨_, rfl⟩ ⟨_, rfl⟩ ⟨_, rfl⟩ hs (σ0 := start N__law_errors []) rfl⟩
    have V0 : ∀ {p : Pos}, PE (cxOf CX0 P w K mg base N__law_errors "_law_errors" (defScope s__law_errors) f cdv A outer s H E).nox (.Name "errors" p) (tVar 0) := pe_var rfl (Or.inl rfl)
    have V2 : ∀ {p : Pos}, PE (cxOf CX0 P w K mg base N__law_errors "_law_errors" (defScope s__law_errors) f cdv A outer s H E).nox (.Name "e" p) (tVar 2) := pe_var rfl (Or.inl rfl)
    have GL : ∀ {p : Pos}, PE (cxOf CX0 P w K mg base N__law_errors "_law_errors" (defScope s__law_errors) f cdv A outer s H E).nox (.Name "LaidError" p) (tC (.ref CL)) := pe_glob rfl (mgo EA.gL) rfl
    have G1 : ∀ {p : Pos}, PE (cxOf CX0 P w K mg base N__law_errors "_law_errors" (defScope s__law_errors) f cdv A outer s H E).nox (.Name "BadText" p) (tC (.ref C1)) := pe_glob rfl (mgo EA.g1) rfl
    have G2 : ∀ {p : Pos}, PE (cxOf CX0 P w K mg base N__law_errors "_law_errors" (defScope s__law_errors) f cdv A outer s H E).nox (.Name "BadBytes" p) (tC (.ref C2)) := pe_glob rfl (mgo EA.g2) rfl
    have G3 : ∀ {p : Pos}, PE (cxOf CX0 P w K mg base N__law_errors "_law_errors" (defScope s__law_errors) f cdv A outer s H E).nox (.Name "NoLayout" p) (tC (.ref C3)) := pe_glob rfl (mgo EA.g3) rfl
    have G4 : ∀ {p : Pos}, PE (cxOf CX0 P w K mg base N__law_errors "_law_errors" (defScope s__law_errors) f cdv A outer s H E).nox (.Name "NotAllowed" p) (tC (.ref C4)) := pe_glob rfl (mgo EA.g4) rfl
    have GV : ∀ {p : Pos}, PE (cxOf CX0 P w K mg base N__law_errors "_law_errors" (defScope s__law_errors) f cdv A outer s H E).nox (.Name "ValueError" p) (tC (.ty "ValueError")) := pe_bltn rfl T.n_ValueError (u := .type "ValueError") (by decide +kernel) rfl
    have IS : ∀ {x : Str} {c : V} {p1 p2 p3 p4 : Pos}, PE (cxOf CX0 P w K mg base N__law_errors "_law_errors" (defScope s__law_errors) f cdv A outer s H E).nox (.Name x p4) (tC c) → PE (cxOf CX0 P w K mg base N__law_errors "_law_errors" (defScope s__law_errors) f cdv A outer s H E).nox (.Call (.Name "isinstance" p1) [.Name "e" p2, .Name x p4] [] p3) (tIs K c) := fun h => pe_callB (X := (cxOf CX0 P w K mg base N__law_errors "_law_errors" (defScope s__law_errors) f cdv A outer s H E).nox) call_isX rfl T.n_isinstance (by decide +kernel) (pa_cons V2 (pa_cons h pa_nil))
    exact pss_cons (ps_asg (pe_lst (pa_cons (pe_bad (fun M => EA.b1 base Pt BT M) (hr.mono hj) (mgo EA.g1) EA.k1 rfl) (pa_cons (pe_bad (fun M => EA.b2 base Pt BT M) (hr.mono hj) (mgo EA.g2) EA.k2 rfl) (pa_cons (pe_exc1 PySem.F.excBase_ValueError EA.q3 (mgo EA.g3) EA.k3 rfl pe_str) (pa_cons (pe_exc1 PySem.F.excBase_ValueError EA.q4 (mgo EA.g4) EA.k4 rfl pe_str) pa_nil))))) (pg_name ct.nd rfl (Or.inl rfl) (Or.inr rfl)))
      (pss_cons (ps_for (by passes_own) ct.calm (pi_range1 rfl T.n_range (pa_cons pe_int pa_nil)) (pg_name ct.nd rfl (Or.inr rfl) (Or.inl rfl))
        (pss_cons (ps_asg (pe_ix ix_seq V0 (pe_var rfl (Or.inr (Or.inl rfl))) (fun _ _ => rfl)) (pg_name ct.nd rfl (Or.inl rfl) (Or.inr rfl)))
          (pss_one (ps_if (pw_or (pt_not (pt_val (IS GL))) (pw_or (pt_not (pt_val (IS GV)))
            (pw_or1 (pt_cmpR (o_ne ct) (pe_lst (pa_cons (IS G1) (pa_cons (IS G2) (pa_cons (IS G3) (pa_cons (IS G4) pa_nil)))))
              (by refine (?q : SE (cxOf CX0 P w K mg base N__law_errors "_law_errors" (defScope s__law_errors) f cdv A outer s H E).nox ⟨H, ow, start N__law_errors [], noBr⟩ _ _) ct; exact se_lc [3] (blkOk_by (own := [("j", 3)]) (N := N__law_errors) (sc := defScope s__law_errors) (by decide +kernel)) rfl (fun _ _ => rfl) (si_rng1 (sa_cons (se_int) (sa_nil)) rfl rfl T.n_range) (fun _ _ _ _ _ => sg_name 3 (by decide) rfl (Or.inl rfl) rfl (Or.inr rfl)) (fun _ _ _ _ _ => sf_nil) (fun _ _ _ _ _ => se_cmp o_eq (se_var 3 rfl (Or.inl rfl)) (se_var 1 rfl (Or.inr (Or.inl rfl))))) rfl)))).pt
            (pss_one (ps_ret pe_bl)) pss_nil))))
        (pss_one (ps_ret (pe_call h1 hr rfl h2 h3 h4 .nil pass0 (pa_cons (pe_tup (pa_cons (pe_place (pe_ix ix_seq V0 pe_int (fun _ _ => rfl))) (pa_cons (pe_place (pe_ix ix_seq V0 pe_int (fun _ _ => rfl))) pa_nil))) (pa_cons (pe_tup (pa_cons pe_int (pa_cons pe_int pa_nil))) pa_nil))))))
abbrev s__law_sized : Stmt := topS 39
abbrev N__law_sized : List Str := ["document", "parts", "part"]
theorem sc__law_sized : FnScope N__law_sized ["document"] (defScope s__law_sized) := ⟨rfl, rfl, rfl, by decide +kernel, rfl, by decide +kernel, by decide +kernel⟩
def den__law_sized (c__law_sized : Sem1) : SDen :=
  dSeq (dSet 1 (dIf (dTestB (dOp2 fIn (dOp2 fIx (dVar 0) (dC (.int 0))) (dTup (dCons (dC (.str "nest")) (dCons (dC (.str "dear")) (dNil)))))) (dSl (dVar 0) (dSome (dC (.int 2))) (dNo)) (dIf (dTestB (dOp2 fEq (dOp2 fIx (dVar 0) (dC (.int 0))) (dC (.str "text")))) (dTup (dNil)) (dSl (dVar 0) (dSome (dC (.int 1))) (dNo)))))
    (dRet (dOp2 fAdd (dC (.int 1)) (dOpA fSum (dCons (dLc [2] (dSeqI (dVar 1)) (gdName 2) (dYes) (dCall c__law_sized (dCons (dVar 2) (dNil)))) (dNil)))))
theorem ok__law_sized {j : Nat} {c__law_sized : Sem1} (F__law_sized : FD P w K mg base j "_law_sized" ["document"] noBr c__law_sized) {f : Addr} {fd : FuncData} (T : Txt K mg) (F : Fun K "_law_sized" "_law_sized" s__law_sized f fd) : FnOk P w K mg base CX0 (j + 1) f fd ["document"] (spOf K 1 noBr (runDef 3 1 (den__law_sized c__law_sized))) :=
  fn_den F sc__law_sized (by decide) noBr_lt fun cdv A outer s H E ow σ0 hr =>
  ss_cons (ss_set 1 (se_if (st_cmp o_in (se_ix (se_var 0 rfl (Or.inl rfl)) (se_int)) (se_tup (sa_cons (se_str) (sa_cons (se_str) (sa_nil))))) (se_sl (se_var 0 rfl (Or.inl rfl)) (so_some (se_int)) (so_none)) (se_if (st_cmp o_eq (se_ix (se_var 0 rfl (Or.inl rfl)) (se_int)) (se_str)) (se_tup (sa_nil)) (se_sl (se_var 0 rfl (Or.inl rfl)) (so_some (se_int)) (so_none)))) rfl (Or.inl rfl) rfl rfl (Or.inr rfl))
    (ss_one (ss_ret (se_bin o_add (se_int) (se_callB (fun ct => o_sum ct ct) rfl T.n_sum (by decide +kernel) (sa_cons (se_lc [2] (blkOk_by (own := [("part", 2)]) (N := N__law_sized) (sc := defScope s__law_sized) (by decide +kernel)) rfl (fun _ _ => rfl) (si_seq (se_var 1 rfl (Or.inl rfl))) (fun _ _ _ _ _ => sg_name 2 (by decide) rfl (Or.inl rfl) rfl (Or.inr rfl)) (fun _ _ _ _ _ => sf_nil) (fun _ _ _ _ _ => se_call F__law_sized hr rfl (sa_cons (se_var 2 rfl (Or.inl rfl)) (sa_nil)) rfl (dCons_len dNil_len'))) (sa_nil))))))
abbrev s_law : Stmt := topS 40
abbrev N_law : List Str := ["script", "box", "text", "value", "document", "deep", "turn", "line", "one", "parts", "k"]
theorem sc_law : FnScope N_law ["script"] (defScope s_law) := ⟨rfl, rfl, rfl, by decide +kernel, rfl, by decide +kernel, by decide +kernel⟩
def den_law (c__law_errors : Sem1) (c__law_draw : Sem1) (c__law_same : Sem1) (c__law_is_text : Sem1) (c__law_is_sign : Sem1) (c__law_is_name : Sem1) (c_is_text : Sem1) (c_is_sign : Sem1) (c_is_name : Sem1) (c__law_document : Sem1) (c__law_bent : Sem1) (c__law_is_document : Sem1) (c_is_document : Sem1) (c__law_sized : Sem1) (c_size_of : Sem1) (c_parts_of : Sem1) (ns : List Int) : SDen :=
  dSeq (dBox 1 ns)
    (dSeq (dIfS (dOrB (dNotB (dTest (dCall c__law_errors (dNil)))) (dTestB (dOp2 fNe (dTup (dCons (dC k_LONGEST) (dCons (dC k_MOST_PARTS) (dCons (dC k_MOST_DEEP) (dCons (dC k_GREATEST) (dNil)))))) (dTup (dCons (dC (.int 40)) (dCons (dC (.int 8)) (dCons (dC (.int 12)) (dCons (dC (.int 100)) (dNil))))))))) (dRet (dC (.bool false))) (dNext))
    (dSeq (dSet 2 (dOp2 fJoin (dC (.str "")) (dLc [10] (dRng1 (dCons (dCallR c__law_draw 1 (dCons (dC (.int 10)) (dNil))) (dNil))) (gdName 10) (dYes) (dOp2 fIx (dC (.str "ab [A_")) (dCallR c__law_draw 1 (dCons (dC (.int 6)) (dNil)))))))
    (dSeq (dForW [3] (dSeqI (dTup (dCons (dVar 2) (dCons (dC (.str "all")) (dCons (dC (.str "none")) (dCons (dC .none) (dCons (dC (.int 5)) (dCons (dTup (dCons (dC (.str "a")) (dNil))) (dCons (dC (.str "abcdefgh")) (dCons (dC (.str "abcdefghi")) (dCons (dC (.str "")) (dCons (dC (.str "a")) (dCons (dC (.str " ")) (dCons (dOp2 fMul (dC (.str "a")) (dC (.int 40))) (dCons (dOp2 fMul (dC (.str "a")) (dC (.int 41))) (dCons (dC (.str "a\n")) (dCons (dC (.str "~")) (dCons (dC (.str "+-*/=<>(),.;:[]{}!?_")) (dNil))))))))))))))))))) (gdName 3) (dIfS (dNotB (dTest (dCall c__law_same (dCons (dTup (dCons (dCall c_is_name (dCons (dVar 3) (dNil))) (dCons (dCall c_is_sign (dCons (dVar 3) (dNil))) (dCons (dCall c_is_text (dCons (dVar 3) (dNil))) (dNil))))) (dCons (dTup (dCons (dCall c__law_is_name (dCons (dVar 3) (dNil))) (dCons (dCall c__law_is_sign (dCons (dVar 3) (dNil))) (dCons (dCall c__law_is_text (dCons (dVar 3) (dNil))) (dNil))))) (dNil)))))) (dRet (dC (.bool false))) (dNext)))
    (dSeq (dAsg (dTup (dCons (dCallR c__law_document 1 (dCons (dC (.int 4)) (dNil))) (dCons (dTup (dCons (dC (.str "line")) (dNil))) (dNil)))) (gdTup 2 (gdCons (gdName 4) (gdCons (gdName 5) (gdNil)))))
    (dSeq (dForW [6] (dRng1 (dCons (dOp2 fSub (dC k_MOST_DEEP) (dC (.int 1))) (dNil))) (gdName 6) (dSet 5 (dTup (dCons (dC (.str "group")) (dCons (dVar 5) (dNil))))))
    (dSeq (dSet 7 (dTup (dCons (dC (.str "line")) (dNil))))
    (dSeq (dForW [3] (dSeqI (dOp2 fAdd (dLst (dCons (dVar 4) (dCons (dVar 5) (dCons (dTup (dCons (dC (.str "group")) (dCons (dVar 5) (dNil)))) (dCons (dTup (dCons (dC (.str "join")) (dNil))) (dCons (dOp2 fAdd (dTup (dCons (dC (.str "join")) (dNil))) (dOp2 fMul (dTup (dCons (dVar 7) (dNil))) (dC (.int 8)))) (dCons (dOp2 fAdd (dTup (dCons (dC (.str "join")) (dNil))) (dOp2 fMul (dTup (dCons (dVar 7) (dNil))) (dC (.int 9)))) (dCons (dTup (dCons (dC (.str "nest")) (dCons (dC (.int 100)) (dCons (dVar 7) (dNil))))) (dCons (dTup (dCons (dC (.str "nest")) (dCons (dC (.int 101)) (dCons (dVar 7) (dNil))))) (dCons (dTup (dCons (dC (.str "nest")) (dCons (dOp1 fNeg (dC (.int 1))) (dCons (dVar 7) (dNil))))) (dCons (dTup (dCons (dC (.str "dear")) (dCons (dC (.bool true)) (dCons (dVar 7) (dNil))))) (dCons (dTup (dCons (dC (.str "either")) (dCons (dVar 7) (dNil)))) (dCons (dTup (dCons (dC (.str "flat")) (dCons (dVar 7) (dNil)))) (dCons (dTup (dCons (dC (.str "flat")) (dNil))) (dCons (dTup (dNil)) (dCons (dC .none) (dCons (dC (.int 0)) (dCons (dC (.str "line")) (dNil))))))))))))))))))) (dLc [6] (dRng1 (dCons (dC (.int 14)) (dNil))) (gdName 6) (dYes) (dCallR c__law_bent 1 (dCons (dVar 4) (dNil)))))) (gdName 3) (dIfS (dNotB (dTest (dCall c__law_same (dCons (dCall c_is_document (dCons (dVar 3) (dNil))) (dCons (dCall c__law_is_document (dCons (dVar 3) (dCons (dC (.int 12)) (dNil)))) (dNil)))))) (dRet (dC (.bool false))) (dNext)))
    (dSeq (dForW [8, 9] (dSeqI (dTup (dCons (dVar 4) (dCons (dVar 5) (dCons (dTup (dCons (dC (.str "join")) (dNil))) (dCons (dVar 7) (dCons (dTup (dCons (dC (.str "text")) (dCons (dC (.str "ab")) (dNil)))) (dCons (dTup (dCons (dC (.str "dear")) (dCons (dC (.int 3)) (dCons (dVar 7) (dNil))))) (dNil))))))))) (gdName 8) (dSeq (dSet 9 (dIf (dTestB (dOp2 fIn (dOp2 fIx (dVar 8) (dC (.int 0))) (dTup (dCons (dC (.str "nest")) (dCons (dC (.str "dear")) (dNil)))))) (dSl (dVar 8) (dSome (dC (.int 2))) (dNo)) (dIf (dTestB (dOp2 fEq (dOp2 fIx (dVar 8) (dC (.int 0))) (dC (.str "text")))) (dTup (dNil)) (dSl (dVar 8) (dSome (dC (.int 1))) (dNo)))))
    (dIfS (dNotB (dTest (dCall c__law_same (dCons (dTup (dCons (dCall c_parts_of (dCons (dVar 8) (dNil))) (dCons (dCall c_size_of (dCons (dVar 8) (dNil))) (dNil)))) (dCons (dTup (dCons (dVar 9) (dCons (dCall c__law_sized (dCons (dVar 8) (dNil))) (dNil)))) (dNil)))))) (dRet (dC (.bool false))) (dNext))))
    (dRet (dC (.bool true)))))))))))
theorem ok_law {j : Nat} {c__law_errors : Sem1} {c__law_draw : Sem1} {c__law_same : Sem1} {c__law_is_text : Sem1} {c__law_is_sign : Sem1} {c__law_is_name : Sem1} {c_is_text : Sem1} {c_is_sign : Sem1} {c_is_name : Sem1} {c__law_document : Sem1} {c__law_bent : Sem1} {c__law_is_document : Sem1} {c_is_document : Sem1} {c__law_sized : Sem1} {c_size_of : Sem1} {c_parts_of : Sem1} (F__law_errors : FD P w K mg base j "_law_errors" [] noBr c__law_errors) (F__law_draw : FD P w K mg base j "_law_draw" ["box", "many"] br0 c__law_draw) (F__law_same : FD P w K mg base j "_law_same" ["a", "b"] noBr c__law_same) (F__law_is_text : FD P w K mg base j "_law_is_text" ["value"] noBr c__law_is_text) (F__law_is_sign : FD P w K mg base j "_law_is_sign" ["value"] noBr c__law_is_sign) (F__law_is_name : FD P w K mg base j "_law_is_name" ["text"] noBr c__law_is_name) (F_is_text : FD P w K mg base j "is_text" ["value"] noBr c_is_text) (F_is_sign : FD P w K mg base j "is_sign" ["value"] noBr c_is_sign) (F_is_name : FD P w K mg base j "is_name" ["value"] noBr c_is_name) (F__law_document : FD P w K mg base j "_law_document" ["box", "deep"] br0 c__law_document) (F__law_bent : FD P w K mg base j "_law_bent" ["box", "value"] br0 c__law_bent) (F__law_is_document : FD P w K mg base j "_law_is_document" ["value", "deep"] noBr c__law_is_document) (F_is_document : FD P w K mg base j "is_document" ["value"] noBr c_is_document) (F__law_sized : FD P w K mg base j "_law_sized" ["document"] noBr c__law_sized) (F_size_of : FD P w K mg base j "size_of" ["document"] noBr c_size_of) (F_parts_of : FD P w K mg base j "parts_of" ["document"] noBr c_parts_of) {fb : Addr} {fdb : FuncData} (F_box : FnOk P w K mg base CX0 j fb fdb ["script"] (spBox K)) (m_box : mg "_law_box" = some (.ref fb)) (k_box : PySem.W.keepIn K (.ref fb) = true) (b_box : Binds K fdb ["script"] []) (T : Txt K mg) {f c Pt : Addr} {oc kV doc pm ct : Value} {od an : Option Addr} {osl : Array (Option Value)} (lk : K.lookup f = some ⟨oc, od, .func (PySem.W.fnOf "law" "law" (defArgs s_law) (defBody s_law) (defScope s_law) .none kV doc pm an (.ref c) ct), osl⟩) (hcd : PySem.W.codeIn K (.ref c) "law" = true) (hP : TabIn K Pt) (hnl : K.lookup Pt = none) (TB : LamX.TabB base mg c Pt) (ht : ∀ ns : List Int, ns.length ≤ 63 → ∃ ρ, den_law c__law_errors c__law_draw c__law_same c__law_is_text c__law_is_sign c__law_is_name c_is_text c_is_sign c_is_name c__law_document c__law_bent c__law_is_document c_is_document c__law_sized c_size_of c_parts_of ns ((List.replicate 11 .u).set 0 .tb) = .rt (.bool true) ρ) : FnOk P w K mg base CX0 (j + 3) f (PySem.W.fnOf "law" "law" (defArgs s_law) (defBody s_law) (defScope s_law) .none kV doc pm an (.ref c) ct) ["script"] (spLawT K) :=
  law_denT lk hcd sc_law (by decide) hP hnl TB (by decide +kernel) (fun ns A outer s H E H0 ow σ0 hr A0 T0 LT =>
  ss_cons (ss_box (mk := newTp) 1 A0 rfl rfl F_box (hr.mono (Nat.le_add_right _ 2)) rfl m_box k_box b_box rfl (Or.inl rfl) rfl (Or.inr rfl))
    (ss_cons (ss_if (st_w (sw_or (st_not (st_val (se_call0 F__law_errors (hr.mono (Nat.le_add_right _ 2)) rfl))) (sw_or1 (st_cmp o_ne (se_tup (sa_cons (se_glob T.g_LONGEST rfl) (sa_cons (se_glob T.g_MOST_PARTS rfl) (sa_cons (se_glob T.g_MOST_DEEP rfl) (sa_cons (se_glob T.g_GREATEST rfl) (sa_nil)))))) (se_tup (sa_cons (se_int) (sa_cons (se_int) (sa_cons (se_int) (sa_cons (se_int) (sa_nil)))))))))) (ss_one (ss_ret (se_bl))) (ss_nil))
    (ss_cons (ss_set 2 (se_join (se_str) (se_lc [10] (blkOk_by (own := [("k", 10)]) (N := N_law) (sc := defScope s_law) (by decide +kernel)) rfl (br0_out (by decide)) (si_rng1 (sa_cons (se_callR 1 F__law_draw (hr.mono (Nat.le_add_right _ 2)) rfl (sa_cons (se_int) (sa_nil)) rfl (dCons_len dNil_len') rfl (Or.inr (Or.inl rfl))) (sa_nil)) rfl rfl T.n_range) (fun _ _ _ _ _ => sg_name 10 (by decide) rfl (Or.inl rfl) rfl (Or.inr rfl)) (fun _ _ _ _ _ => sf_nil) (fun _ _ _ _ _ => se_ix (se_str) (se_callR 1 F__law_draw (hr.mono (Nat.le_add_right _ 2)) rfl (sa_cons (se_int) (sa_nil)) rfl (dCons_len dNil_len') rfl (Or.inr (Or.inl rfl)))))) rfl (Or.inl rfl) rfl rfl (Or.inr rfl))
    (ss_cons (ss_forW [3] (ts := [3]) (si_seq (se_tup (sa_cons (se_var 2 rfl (Or.inl rfl)) (sa_cons (se_str) (sa_cons (se_str) (sa_cons (se_non) (sa_cons (se_int) (sa_cons (se_tup (sa_cons (se_str) (sa_nil))) (sa_cons (se_str) (sa_cons (se_str) (sa_cons (se_str) (sa_cons (se_str) (sa_cons (se_str) (sa_cons (se_bin o_mul (se_str) (se_int)) (sa_cons (se_bin o_mul (se_str) (se_int)) (sa_cons (se_str) (sa_cons (se_str) (sa_cons (se_str) (sa_nil))))))))))))))))))) (sg_name 3 (by decide) rfl (Or.inl rfl) rfl (Or.inr rfl)) (ss_one (ss_if (st_not (st_val (se_call F__law_same (hr.mono (Nat.le_add_right _ 2)) rfl (sa_cons (se_tup (sa_cons (se_call F_is_name (hr.mono (Nat.le_add_right _ 2)) rfl (sa_cons (se_var 3 rfl (Or.inl rfl)) (sa_nil)) rfl (dCons_len dNil_len')) (sa_cons (se_call F_is_sign (hr.mono (Nat.le_add_right _ 2)) rfl (sa_cons (se_var 3 rfl (Or.inl rfl)) (sa_nil)) rfl (dCons_len dNil_len')) (sa_cons (se_call F_is_text (hr.mono (Nat.le_add_right _ 2)) rfl (sa_cons (se_var 3 rfl (Or.inl rfl)) (sa_nil)) rfl (dCons_len dNil_len')) (sa_nil))))) (sa_cons (se_tup (sa_cons (se_call F__law_is_name (hr.mono (Nat.le_add_right _ 2)) rfl (sa_cons (se_var 3 rfl (Or.inl rfl)) (sa_nil)) rfl (dCons_len dNil_len')) (sa_cons (se_call F__law_is_sign (hr.mono (Nat.le_add_right _ 2)) rfl (sa_cons (se_var 3 rfl (Or.inl rfl)) (sa_nil)) rfl (dCons_len dNil_len')) (sa_cons (se_call F__law_is_text (hr.mono (Nat.le_add_right _ 2)) rfl (sa_cons (se_var 3 rfl (Or.inl rfl)) (sa_nil)) rfl (dCons_len dNil_len')) (sa_nil))))) (sa_nil))) rfl (dCons_len (dCons_len dNil_len'))))) (ss_one (ss_ret (se_bl))) (ss_nil))))
    (ss_cons (ss_asg (ts := [4, 5]) (se_tup (sa_cons (se_callR 1 F__law_document (hr.mono (Nat.le_add_right _ 2)) rfl (sa_cons (se_int) (sa_nil)) rfl (dCons_len dNil_len') rfl (Or.inr (Or.inl rfl))) (sa_cons (se_tup (sa_cons (se_str) (sa_nil))) (sa_nil)))) (sg_tup (sgs_cons (sg_name 4 (by decide) rfl (Or.inr rfl) rfl (Or.inl rfl)) (sgs_cons (sg_name 5 (by decide) rfl (Or.inl rfl) rfl (Or.inr rfl)) (sgs_nil)))))
    (ss_cons (ss_forW [6] (ts := [6]) (si_rng1 (sa_cons (se_bin o_sub (se_glob T.g_MOST_DEEP rfl) (se_int)) (sa_nil)) rfl rfl T.n_range) (sg_name 6 (by decide) rfl (Or.inl rfl) rfl (Or.inr rfl)) (ss_one (ss_set 5 (se_tup (sa_cons (se_str) (sa_cons (se_var 5 rfl (Or.inl rfl)) (sa_nil)))) rfl (Or.inl rfl) rfl rfl (Or.inr rfl))))
    (ss_cons (ss_set 7 (se_tup (sa_cons (se_str) (sa_nil))) rfl (Or.inl rfl) rfl rfl (Or.inr rfl))
    (ss_cons (ss_forW [3] (ts := [3]) (si_seq (se_bin o_add (se_lst (sa_cons (se_var 4 rfl (Or.inr (Or.inl rfl))) (sa_cons (se_var 5 rfl (Or.inl rfl)) (sa_cons (se_tup (sa_cons (se_str) (sa_cons (se_var 5 rfl (Or.inl rfl)) (sa_nil)))) (sa_cons (se_tup (sa_cons (se_str) (sa_nil))) (sa_cons (se_bin o_add (se_tup (sa_cons (se_str) (sa_nil))) (se_bin o_mul (se_tup (sa_cons (se_var 7 rfl (Or.inl rfl)) (sa_nil))) (se_int))) (sa_cons (se_bin o_add (se_tup (sa_cons (se_str) (sa_nil))) (se_bin o_mul (se_tup (sa_cons (se_var 7 rfl (Or.inl rfl)) (sa_nil))) (se_int))) (sa_cons (se_tup (sa_cons (se_str) (sa_cons (se_int) (sa_cons (se_var 7 rfl (Or.inl rfl)) (sa_nil))))) (sa_cons (se_tup (sa_cons (se_str) (sa_cons (se_int) (sa_cons (se_var 7 rfl (Or.inl rfl)) (sa_nil))))) (sa_cons (se_tup (sa_cons (se_str) (sa_cons (se_un o_neg (se_int)) (sa_cons (se_var 7 rfl (Or.inl rfl)) (sa_nil))))) (sa_cons (se_tup (sa_cons (se_str) (sa_cons (se_bl) (sa_cons (se_var 7 rfl (Or.inl rfl)) (sa_nil))))) (sa_cons (se_tup (sa_cons (se_str) (sa_cons (se_var 7 rfl (Or.inl rfl)) (sa_nil)))) (sa_cons (se_tup (sa_cons (se_str) (sa_cons (se_var 7 rfl (Or.inl rfl)) (sa_nil)))) (sa_cons (se_tup (sa_cons (se_str) (sa_nil))) (sa_cons (se_tup (sa_nil)) (sa_cons (se_non) (sa_cons (se_int) (sa_cons (se_str) (sa_nil))))))))))))))))))) (se_lc [6] (blkOk_by (own := [("turn", 6)]) (N := N_law) (sc := defScope s_law) (by decide +kernel)) rfl (br0_out (by decide)) (si_rng1 (sa_cons (se_int) (sa_nil)) rfl rfl T.n_range) (fun _ _ _ _ _ => sg_name 6 (by decide) rfl (Or.inl rfl) rfl (Or.inr rfl)) (fun _ _ _ _ _ => sf_nil) (fun _ _ _ _ _ => se_callR 1 F__law_bent (hr.mono (Nat.le_add_right _ 2)) rfl (sa_cons (se_var 4 rfl (Or.inr (Or.inl rfl))) (sa_nil)) rfl (dCons_len dNil_len') rfl (Or.inr (Or.inl rfl)))))) (sg_name 3 (by decide) rfl (Or.inl rfl) rfl (Or.inr rfl)) (ss_one (ss_if (st_not (st_val (se_call F__law_same (hr.mono (Nat.le_add_right _ 2)) rfl (sa_cons (se_call F_is_document (hr.mono (Nat.le_add_right _ 2)) rfl (sa_cons (se_var 3 rfl (Or.inl rfl)) (sa_nil)) rfl (dCons_len dNil_len')) (sa_cons (se_call F__law_is_document (hr.mono (Nat.le_add_right _ 2)) rfl (sa_cons (se_var 3 rfl (Or.inl rfl)) (sa_cons (se_int) (sa_nil))) rfl (dCons_len (dCons_len dNil_len'))) (sa_nil))) rfl (dCons_len (dCons_len dNil_len'))))) (ss_one (ss_ret (se_bl))) (ss_nil))))
    (ss_cons (ss_forW [8, 9] (ts := [8]) (si_seq (se_tup (sa_cons (se_var 4 rfl (Or.inr (Or.inl rfl))) (sa_cons (se_var 5 rfl (Or.inl rfl)) (sa_cons (se_tup (sa_cons (se_str) (sa_nil))) (sa_cons (se_var 7 rfl (Or.inl rfl)) (sa_cons (se_tup (sa_cons (se_str) (sa_cons (se_str) (sa_nil)))) (sa_cons (se_tup (sa_cons (se_str) (sa_cons (se_int) (sa_cons (se_var 7 rfl (Or.inl rfl)) (sa_nil))))) (sa_nil))))))))) (sg_name 8 (by decide) rfl (Or.inl rfl) rfl (Or.inr rfl)) (ss_cons (ss_set 9 (se_if (st_cmp o_in (se_ix (se_var 8 rfl (Or.inl rfl)) (se_int)) (se_tup (sa_cons (se_str) (sa_cons (se_str) (sa_nil))))) (se_sl (se_var 8 rfl (Or.inl rfl)) (so_some (se_int)) (so_none)) (se_if (st_cmp o_eq (se_ix (se_var 8 rfl (Or.inl rfl)) (se_int)) (se_str)) (se_tup (sa_nil)) (se_sl (se_var 8 rfl (Or.inl rfl)) (so_some (se_int)) (so_none)))) rfl (Or.inl rfl) rfl rfl (Or.inr rfl))
    (ss_one (ss_if (st_not (st_val (se_call F__law_same (hr.mono (Nat.le_add_right _ 2)) rfl (sa_cons (se_tup (sa_cons (se_call F_parts_of (hr.mono (Nat.le_add_right _ 2)) rfl (sa_cons (se_var 8 rfl (Or.inl rfl)) (sa_nil)) rfl (dCons_len dNil_len')) (sa_cons (se_call F_size_of (hr.mono (Nat.le_add_right _ 2)) rfl (sa_cons (se_var 8 rfl (Or.inl rfl)) (sa_nil)) rfl (dCons_len dNil_len')) (sa_nil)))) (sa_cons (se_tup (sa_cons (se_var 9 rfl (Or.inl rfl)) (sa_cons (se_call F__law_sized (hr.mono (Nat.le_add_right _ 2)) rfl (sa_cons (se_var 8 rfl (Or.inl rfl)) (sa_nil)) rfl (dCons_len dNil_len')) (sa_nil)))) (sa_nil))) rfl (dCons_len (dCons_len dNil_len'))))) (ss_one (ss_ret (se_bl))) (ss_nil)))))
    (ss_one (ss_ret (se_bl)))))))))))) ht
end
/-! ### the denotations tied together -/
def sem_is_name : Sem1 := runDef 2 1 (den_is_name)
def sem_is_number : Sem1 := runDef 3 3 (den_is_number)
def sem_is_sign : Sem1 := runDef 1 1 (den_is_sign)
def sem_is_text : Sem1 := runDef 2 1 (den_is_text sem_is_sign)
def sem_is_document_within : Nat → Sem1
  | 0 => fun _ => .stk
  | n + 1 => runDef 5 2 (den_is_document_within sem_is_text (sem_is_document_within n) sem_is_number)
def sem_is_document : Sem1 := runDef 1 1 (den_is_document (sem_is_document_within 40))
def sem_parts_of : Sem1 := runDef 3 1 (den_parts_of)
def sem_size_of : Nat → Sem1
  | 0 => fun _ => .stk
  | n + 1 => runDef 2 1 (den_size_of sem_parts_of (sem_size_of n))
abbrev sem__law_load : Sem1 := fLoad
abbrev sem__law_draw : Sem1 := fDraw
def sem__law_same : Nat → Sem1
  | 0 => fun _ => .stk
  | n + 1 => runDef 3 2 (den__law_same (sem__law_same n))
def sem__law_document : Nat → Sem1
  | 0 => fun _ => .stk
  | n + 1 => runDef 5 2 (den__law_document sem__law_draw (sem__law_document n))
def sem__law_is_name : Sem1 := runDef 3 1 (den__law_is_name)
def sem__law_is_sign : Sem1 := runDef 1 1 (den__law_is_sign)
def sem__law_is_text : Sem1 := runDef 2 1 (den__law_is_text sem__law_is_sign)
def sem__law_is_document : Nat → Sem1
  | 0 => fun _ => .stk
  | n + 1 => runDef 6 2 (den__law_is_document sem__law_is_text (sem__law_is_document n))
def sem__law_bent : Nat → Sem1
  | 0 => fun _ => .stk
  | n + 1 => runDef 4 2 (den__law_bent sem__law_draw (sem__law_bent n))
abbrev sem__law_errors : Sem1 := semYes
def sem__law_sized : Nat → Sem1
  | 0 => fun _ => .stk
  | n + 1 => runDef 3 1 (den__law_sized (sem__law_sized n))
def run_law (ns : List Int) : RS := den_law sem__law_errors sem__law_draw (sem__law_same 120) sem__law_is_text sem__law_is_sign sem__law_is_name sem_is_text sem_is_sign sem_is_name (sem__law_document 40) (sem__law_bent 120) (sem__law_is_document 40) sem_is_document (sem__law_sized 40) (sem_size_of 40) sem_parts_of ns ((List.replicate 11 .u).set 0 .tb)
end K00

end
section
namespace K00
open PySem PySem.Spec PyProof.Rows L2 L2.DY
def fn_is_name (value_ : PyData) : R PyData :=
  ((((((R.ok value_)).bind fun a1 => R.ok (PyData.bool (isT "str" a1))).bind tru).bind fun b2 => R.ok (!b2)).bind fun b4 => if b4 then R.ok true else (((((R.ok (PyData.int 1))).bind fun a7 => ((((R.ok value_)).bind fun a5 => ((R.ok [])).bind fun a6 => R.ok (a5 :: a6)).bind fLen).bind fun a8 => (fLe a7 a8).bind fun z9 => (isBl z9).bind fun k10 => if k10 then ((R.ok (PyData.int 8))).bind fun a11 => fLe a8 a11 else R.ok (PyData.bool false)).bind isBl).bind fun b12 => R.ok (!b12)).bind fun b14 => if b14 then R.ok true else (((R.ok value_)).bind (fun z => fIn z k_RESERVED)).bind isBl).bind fun b15 => if b15 then ((R.ok (PyData.bool false))).bind fun a16 => R.ok (a16) else (((((R.ok value_)).bind fun a17 => ((R.ok (PyData.int 0))).bind fun a18 => fIx a17 a18).bind fun a19 => ((R.ok k_SMALL)).bind fun a20 => fIn a19 a20).bind fun a31 => (isBl a31).bind fun b32 => if b32 then (((((R.ok value_)).bind itemsOf).bind fun xs28 => lcR xs28 (mapR (fun x21 => (((R.ok x21)).bind fun a22 => ((R.ok k_SMALL)).bind fun a23 => fIn a22 a23).bind fun a26 => (isBl a26).bind fun b27 => if b27 then R.ok (PyData.bool true) else ((R.ok x21)).bind fun a24 => ((R.ok k_DIGITS)).bind fun a25 => fIn a24 a25) xs28)).bind fun a29 => ((R.ok [])).bind fun a30 => R.ok (a29 :: a30)).bind fAll else R.ok (PyData.bool false)).bind fun a33 => R.ok (a33)
theorem sf_is_name : SemP (runDef 2 1 (den_is_name)) (ap1 (fn_is_name)) := semP1 fun value_ => sg_last (sg_assoc (sg_if (p_orB (p_notB (p_test (p_isi (p_var 0)))) (p_orB (p_notB (p_testB (p_chain (p_c _) (p_opA (p_cons (p_var 0) (p_nil))) (p_c _)))) (p_testB (p_op1 (p_var 0))))) (sg_retS (sg_ret (fun a16 => a16) (p_c _) (fun _ => .inl ⟨_, rfl⟩))) (sg_next (sg_retS (sg_ret (fun a33 => a33) (p_and (p_op2 (p_op2 (p_var 0) (p_c _)) (p_c _)) (p_opA (p_cons (p_lc (p_seqI (p_var 0)) (tn1 (ρa := fun x21 => [.d value_, .d x21]) (fun x21 => p_or (p_op2 (p_var 1) (p_c _)) (p_op2 (p_var 1) (p_c _))))) (p_nil)))) (fun _ => .inl ⟨_, rfl⟩))))))
def fn_is_number (value_ : PyData) (least_ : PyData) (most_ : PyData) : R PyData :=
  ((((R.ok value_)).bind fun a1 => R.ok (PyData.bool (isT "int" a1))).bind fun a13 => (isBl a13).bind fun b14 => if b14 then ((((R.ok value_)).bind fun a2 => R.ok (PyData.bool (isT "bool" a2))).bind fun a3 => (isBl a3).bind fun b4 => R.ok (PyData.bool (!b4))).bind fun a11 => (isBl a11).bind fun b12 => if b12 then ((R.ok least_)).bind fun a6 => ((R.ok value_)).bind fun a7 => (fLe a6 a7).bind fun z8 => (isBl z8).bind fun k9 => if k9 then ((R.ok most_)).bind fun a10 => fLe a7 a10 else R.ok (PyData.bool false) else R.ok (PyData.bool false) else R.ok (PyData.bool false)).bind fun a15 => R.ok (a15)
theorem sf_is_number : SemP (runDef 3 3 (den_is_number)) (ap3 (fn_is_number)) := semP3 fun value_ least_ most_ => sg_last (sg_retS (sg_ret (fun a15 => a15) (p_and (p_isi (p_var 0)) (p_and (p_not (p_isi (p_var 0))) (p_chain (p_var 1) (p_var 0) (p_var 2)))) (fun _ => .inl ⟨_, rfl⟩)))
def fn_is_sign (value_ : PyData) : R PyData :=
  ((((R.ok value_)).bind fun a1 => R.ok (PyData.bool (isT "str" a1))).bind fun a18 => (isBl a18).bind fun b19 => if b19 then (((((R.ok value_)).bind fun a2 => ((R.ok [])).bind fun a3 => R.ok (a2 :: a3)).bind fLen).bind fun a4 => ((R.ok (PyData.int 1))).bind fun a5 => fEq a4 a5).bind fun a16 => (isBl a16).bind fun b17 => if b17 then (((R.ok value_)).bind fun a6 => ((R.ok k_SMALL)).bind fun a7 => fIn a6 a7).bind fun a14 => (isBl a14).bind fun b15 => if b15 then R.ok (PyData.bool true) else (((R.ok value_)).bind fun a8 => ((R.ok k_DIGITS)).bind fun a9 => fIn a8 a9).bind fun a12 => (isBl a12).bind fun b13 => if b13 then R.ok (PyData.bool true) else ((R.ok value_)).bind fun a10 => ((R.ok k_MARKS)).bind fun a11 => fIn a10 a11 else R.ok (PyData.bool false) else R.ok (PyData.bool false)).bind fun a20 => R.ok (a20)
theorem sf_is_sign : SemP (runDef 1 1 (den_is_sign)) (ap1 (fn_is_sign)) := semP1 fun value_ => sg_last (sg_retS (sg_ret (fun a20 => a20) (p_and (p_isi (p_var 0)) (p_and (p_op2 (p_opA (p_cons (p_var 0) (p_nil))) (p_c _)) (p_or (p_op2 (p_var 0) (p_c _)) (p_or (p_op2 (p_var 0) (p_c _)) (p_op2 (p_var 0) (p_c _)))))) (fun _ => .inl ⟨_, rfl⟩)))
def fn_is_text (f_is_sign : PyData → R PyData) (value_ : PyData) : R PyData :=
  ((((R.ok value_)).bind fun a1 => R.ok (PyData.bool (isT "str" a1))).bind fun a14 => (isBl a14).bind fun b15 => if b15 then (((((R.ok value_)).bind fun a2 => ((R.ok [])).bind fun a3 => R.ok (a2 :: a3)).bind fLen).bind fun a4 => ((R.ok k_LONGEST)).bind fun a5 => fLe a4 a5).bind fun a12 => (isBl a12).bind fun b13 => if b13 then (((((R.ok value_)).bind itemsOf).bind fun xs9 => lcR xs9 (mapR (fun x6 => (((R.ok x6)).bind fun a7 => ((R.ok [])).bind fun a8 => R.ok (a7 :: a8)).bind (ap1 f_is_sign)) xs9)).bind fun a10 => ((R.ok [])).bind fun a11 => R.ok (a10 :: a11)).bind fAll else R.ok (PyData.bool false) else R.ok (PyData.bool false)).bind fun a16 => R.ok (a16)
theorem sf_is_text {c_is_sign : Sem1} {f_is_sign : PyData → R PyData} (H_is_sign : SemP c_is_sign (ap1 f_is_sign)) : SemP (runDef 2 1 (den_is_text c_is_sign)) (ap1 (fn_is_text f_is_sign)) := semP1 fun value_ => sg_last (sg_retS (sg_ret (fun a16 => a16) (p_and (p_isi (p_var 0)) (p_and (p_op2 (p_opA (p_cons (p_var 0) (p_nil))) (p_c _)) (p_opA (p_cons (p_lc (p_seqI (p_var 0)) (tn1 (ρa := fun x6 => [.d value_, .d x6]) (fun x6 => p_call H_is_sign (p_cons (p_var 1) (p_nil))))) (p_nil))))) (fun _ => .inl ⟨_, rfl⟩)))
def fn_is_document_within (f_is_text : PyData → R PyData) (f_is_document_within : PyData → PyData → R PyData) (f_is_number : PyData → PyData → PyData → R PyData) (value_ : PyData) (deep_ : PyData) : R PyData :=
  (((((R.ok deep_)).bind fun a1 => ((R.ok (PyData.int 0))).bind fun a2 => fEq a1 a2).bind isBl).bind fun b3 => if b3 then R.ok true else (((((R.ok value_)).bind fun a4 => R.ok (PyData.bool (isT "tuple" a4))).bind tru).bind fun b5 => R.ok (!b5)).bind fun b7 => if b7 then R.ok true else ((((R.ok value_)).bind fun a9 => (((R.ok [])).bind fun a8 => chkL a8 (PyData.tuple a8)).bind fun a10 => fEq a9 a10).bind isBl).bind fun b11 => if b11 then R.ok true else (((((R.ok value_)).bind fun a12 => ((R.ok (PyData.int 0))).bind fun a13 => fIx a12 a13).bind fun a14 => R.ok (PyData.bool (isT "str" a14))).bind tru).bind fun b15 => R.ok (!b15)).bind fun b17 => if b17 then ((R.ok (PyData.bool false))).bind fun a18 => R.ok (a18) else ((((R.ok value_)).bind fun a19 => ((R.ok (PyData.int 0))).bind fun a20 => fIx a19 a20).bind fun a28 => ((((R.ok value_)).bind fun a23 => ((((R.ok (PyData.int 1))).bind fun a21 => (isI a21).bind fun i22 => R.ok (some i22))).bind fun l24 => ((R.ok none)).bind fun h25 => fSl a23 l24 h25).bind fun a26 => ((R.ok [])).bind fun a27 => R.ok (a26 :: a27)).bind fun a29 => R.ok (a28 :: a29)).bind (l2 fun word_30 parts_31 => ((((R.ok word_30)).bind (fun z => fIn z k_BREAKS)).bind isBl).bind fun b32 => if b32 then (((R.ok parts_31)).bind fun a34 => (((R.ok [])).bind fun a33 => chkL a33 (PyData.tuple a33)).bind fun a35 => fEq a34 a35).bind fun a36 => R.ok (a36) else ((((R.ok word_30)).bind fun a37 => ((R.ok (PyData.str "text"))).bind fun a38 => fEq a37 a38).bind isBl).bind fun b39 => if b39 then ((((((R.ok parts_31)).bind fun a40 => ((R.ok [])).bind fun a41 => R.ok (a40 :: a41)).bind fLen).bind fun a42 => ((R.ok (PyData.int 1))).bind fun a43 => fEq a42 a43).bind fun a48 => (isBl a48).bind fun b49 => if b49 then ((((R.ok parts_31)).bind fun a44 => ((R.ok (PyData.int 0))).bind fun a45 => fIx a44 a45).bind fun a46 => ((R.ok [])).bind fun a47 => R.ok (a46 :: a47)).bind (ap1 f_is_text) else R.ok (PyData.bool false)).bind fun a50 => R.ok (a50) else ((((R.ok word_30)).bind fun a51 => ((R.ok (PyData.str "join"))).bind fun a52 => fEq a51 a52).bind isBl).bind fun b53 => if b53 then ((((((R.ok parts_31)).bind fun a54 => ((R.ok [])).bind fun a55 => R.ok (a54 :: a55)).bind fLen).bind fun a56 => ((R.ok k_MOST_PARTS)).bind fun a57 => fLe a56 a57).bind fun a68 => (isBl a68).bind fun b69 => if b69 then (((((R.ok parts_31)).bind itemsOf).bind fun xs65 => lcR xs65 (mapR (fun x58 => (((R.ok x58)).bind fun a63 => ((((R.ok deep_)).bind fun a59 => ((R.ok (PyData.int 1))).bind fun a60 => fSub a59 a60).bind fun a61 => ((R.ok [])).bind fun a62 => R.ok (a61 :: a62)).bind fun a64 => R.ok (a63 :: a64)).bind (ap2 f_is_document_within)) xs65)).bind fun a66 => ((R.ok [])).bind fun a67 => R.ok (a66 :: a67)).bind fAll else R.ok (PyData.bool false)).bind fun a70 => R.ok (a70) else ((((R.ok word_30)).bind (fun z => fIn z k_WITHIN)).bind isBl).bind fun b71 => if b71 then ((((((R.ok parts_31)).bind fun a72 => ((R.ok [])).bind fun a73 => R.ok (a72 :: a73)).bind fLen).bind fun a74 => ((R.ok (PyData.int 1))).bind fun a75 => fEq a74 a75).bind fun a84 => (isBl a84).bind fun b85 => if b85 then ((((R.ok parts_31)).bind fun a76 => ((R.ok (PyData.int 0))).bind fun a77 => fIx a76 a77).bind fun a82 => ((((R.ok deep_)).bind fun a78 => ((R.ok (PyData.int 1))).bind fun a79 => fSub a78 a79).bind fun a80 => ((R.ok [])).bind fun a81 => R.ok (a80 :: a81)).bind fun a83 => R.ok (a82 :: a83)).bind (ap2 f_is_document_within) else R.ok (PyData.bool false)).bind fun a86 => R.ok (a86) else ((((R.ok word_30)).bind (fun z => fIn z k_NUMBERED)).bind isBl).bind fun b87 => if b87 then ((((((R.ok parts_31)).bind fun a88 => ((R.ok [])).bind fun a89 => R.ok (a88 :: a89)).bind fLen).bind fun a90 => ((R.ok (PyData.int 2))).bind fun a91 => fEq a90 a91).bind fun a110 => (isBl a110).bind fun b111 => if b111 then (((((R.ok parts_31)).bind fun a92 => ((R.ok (PyData.int 0))).bind fun a93 => fIx a92 a93).bind fun a98 => (((R.ok (PyData.int 0))).bind fun a96 => (((R.ok k_GREATEST)).bind fun a94 => ((R.ok [])).bind fun a95 => R.ok (a94 :: a95)).bind fun a97 => R.ok (a96 :: a97)).bind fun a99 => R.ok (a98 :: a99)).bind (ap3 f_is_number)).bind fun a108 => (isBl a108).bind fun b109 => if b109 then ((((R.ok parts_31)).bind fun a100 => ((R.ok (PyData.int 1))).bind fun a101 => fIx a100 a101).bind fun a106 => ((((R.ok deep_)).bind fun a102 => ((R.ok (PyData.int 1))).bind fun a103 => fSub a102 a103).bind fun a104 => ((R.ok [])).bind fun a105 => R.ok (a104 :: a105)).bind fun a107 => R.ok (a106 :: a107)).bind (ap2 f_is_document_within) else R.ok (PyData.bool false) else R.ok (PyData.bool false)).bind fun a112 => R.ok (a112) else ((((R.ok word_30)).bind fun a113 => ((R.ok (PyData.str "either"))).bind fun a114 => fEq a113 a114).bind fun a131 => (isBl a131).bind fun b132 => if b132 then (((((R.ok parts_31)).bind fun a115 => ((R.ok [])).bind fun a116 => R.ok (a115 :: a116)).bind fLen).bind fun a117 => ((R.ok (PyData.int 2))).bind fun a118 => fEq a117 a118).bind fun a129 => (isBl a129).bind fun b130 => if b130 then (((((R.ok parts_31)).bind itemsOf).bind fun xs126 => lcR xs126 (mapR (fun x119 => (((R.ok x119)).bind fun a124 => ((((R.ok deep_)).bind fun a120 => ((R.ok (PyData.int 1))).bind fun a121 => fSub a120 a121).bind fun a122 => ((R.ok [])).bind fun a123 => R.ok (a122 :: a123)).bind fun a125 => R.ok (a124 :: a125)).bind (ap2 f_is_document_within)) xs126)).bind fun a127 => ((R.ok [])).bind fun a128 => R.ok (a127 :: a128)).bind fAll else R.ok (PyData.bool false) else R.ok (PyData.bool false)).bind fun a133 => R.ok (a133))
theorem sf_is_document_within {c_is_text : Sem1} {f_is_text : PyData → R PyData} (H_is_text : SemP c_is_text (ap1 f_is_text)) {c_is_document_within : Sem1} {f_is_document_within : PyData → PyData → R PyData} (H_is_document_within : SemP c_is_document_within (ap2 f_is_document_within)) {c_is_number : Sem1} {f_is_number : PyData → PyData → PyData → R PyData} (H_is_number : SemP c_is_number (ap3 f_is_number)) : SemP (runDef 5 2 (den_is_document_within c_is_text c_is_document_within c_is_number)) (ap2 (fn_is_document_within f_is_text f_is_document_within f_is_number)) := semP2 fun value_ deep_ => sg_last (sg_assoc (sg_if (p_orB (p_testB (p_op2 (p_var 1) (p_c _))) (p_orB (p_notB (p_test (p_isi (p_var 0)))) (p_orB (p_testB (p_op2 (p_var 0) (p_tup (p_nil)))) (p_notB (p_test (p_isi (p_op2 (p_var 0) (p_c _)))))))) (sg_retS (sg_ret (fun a18 => a18) (p_c _) (fun _ => .inl ⟨_, rfl⟩))) (sg_next (sg_assoc (sg_par (p_cons (p_op2 (p_var 0) (p_c _)) (p_cons (p_sl (p_var 0) (p_some (p_c _)) (p_no)) (p_nil))) (fun word_30 parts_31 => sg_assoc (sg_if (p_testB (p_op1 (p_var 2))) (sg_retS (sg_ret (fun a36 => a36) (p_op2 (p_var 3) (p_tup (p_nil))) (fun _ => .inl ⟨_, rfl⟩))) (sg_next (sg_assoc (sg_if (p_testB (p_op2 (p_var 2) (p_c _))) (sg_retS (sg_ret (fun a50 => a50) (p_and (p_op2 (p_opA (p_cons (p_var 3) (p_nil))) (p_c _)) (p_call H_is_text (p_cons (p_op2 (p_var 3) (p_c _)) (p_nil)))) (fun _ => .inl ⟨_, rfl⟩))) (sg_next (sg_assoc (sg_if (p_testB (p_op2 (p_var 2) (p_c _))) (sg_retS (sg_ret (fun a70 => a70) (p_and (p_op2 (p_opA (p_cons (p_var 3) (p_nil))) (p_c _)) (p_opA (p_cons (p_lc (p_seqI (p_var 3)) (tn1 (ρa := fun x58 => [.d value_, .d deep_, .d word_30, .d parts_31, .d x58]) (fun x58 => p_call H_is_document_within (p_cons (p_var 4) (p_cons (p_op2 (p_var 1) (p_c _)) (p_nil)))))) (p_nil)))) (fun _ => .inl ⟨_, rfl⟩))) (sg_next (sg_assoc (sg_if (p_testB (p_op1 (p_var 2))) (sg_retS (sg_ret (fun a86 => a86) (p_and (p_op2 (p_opA (p_cons (p_var 3) (p_nil))) (p_c _)) (p_call H_is_document_within (p_cons (p_op2 (p_var 3) (p_c _)) (p_cons (p_op2 (p_var 1) (p_c _)) (p_nil))))) (fun _ => .inl ⟨_, rfl⟩))) (sg_next (sg_assoc (sg_if (p_testB (p_op1 (p_var 2))) (sg_retS (sg_ret (fun a112 => a112) (p_and (p_op2 (p_opA (p_cons (p_var 3) (p_nil))) (p_c _)) (p_and (p_call H_is_number (p_cons (p_op2 (p_var 3) (p_c _)) (p_cons (p_c _) (p_cons (p_c _) (p_nil))))) (p_call H_is_document_within (p_cons (p_op2 (p_var 3) (p_c _)) (p_cons (p_op2 (p_var 1) (p_c _)) (p_nil)))))) (fun _ => .inl ⟨_, rfl⟩))) (sg_next (sg_retS (sg_ret (fun a133 => a133) (p_and (p_op2 (p_var 2) (p_c _)) (p_and (p_op2 (p_opA (p_cons (p_var 3) (p_nil))) (p_c _)) (p_opA (p_cons (p_lc (p_seqI (p_var 3)) (tn1 (ρa := fun x119 => [.d value_, .d deep_, .d word_30, .d parts_31, .d x119]) (fun x119 => p_call H_is_document_within (p_cons (p_var 4) (p_cons (p_op2 (p_var 1) (p_c _)) (p_nil)))))) (p_nil))))) (fun _ => .inl ⟨_, rfl⟩)))))))))))))))))))))))
def fn_is_document (f_is_document_within : PyData → PyData → R PyData) (value_ : PyData) : R PyData :=
  ((((R.ok value_)).bind fun a3 => (((R.ok k_MOST_DEEP)).bind fun a1 => ((R.ok [])).bind fun a2 => R.ok (a1 :: a2)).bind fun a4 => R.ok (a3 :: a4)).bind (ap2 f_is_document_within)).bind fun a5 => R.ok (a5)
theorem sf_is_document {c_is_document_within : Sem1} {f_is_document_within : PyData → PyData → R PyData} (H_is_document_within : SemP c_is_document_within (ap2 f_is_document_within)) : SemP (runDef 1 1 (den_is_document c_is_document_within)) (ap1 (fn_is_document f_is_document_within)) := semP1 fun value_ => sg_last (sg_retS (sg_ret (fun a5 => a5) (p_call H_is_document_within (p_cons (p_var 0) (p_cons (p_c _) (p_nil)))) (fun _ => .inl ⟨_, rfl⟩)))
def fn_parts_of (document_ : PyData) : R PyData :=
  ((((R.ok document_)).bind fun a1 => ((R.ok (PyData.int 0))).bind fun a2 => fIx a1 a2).bind fun a10 => ((((R.ok document_)).bind fun a5 => ((((R.ok (PyData.int 1))).bind fun a3 => (isI a3).bind fun i4 => R.ok (some i4))).bind fun l6 => ((R.ok none)).bind fun h7 => fSl a5 l6 h7).bind fun a8 => ((R.ok [])).bind fun a9 => R.ok (a8 :: a9)).bind fun a11 => R.ok (a10 :: a11)).bind (l2 fun word_12 parts_13 => ((((R.ok word_12)).bind (fun z => fIn z k_NUMBERED)).bind isBl).bind fun b14 => if b14 then (((R.ok parts_13)).bind fun a17 => ((((R.ok (PyData.int 1))).bind fun a15 => (isI a15).bind fun i16 => R.ok (some i16))).bind fun l18 => ((R.ok none)).bind fun h19 => fSl a17 l18 h19).bind fun a20 => R.ok (a20) else ((((((R.ok word_12)).bind (fun z => fIn z k_BREAKS)).bind isBl).bind fun b21 => if b21 then R.ok true else (((R.ok word_12)).bind fun a22 => ((R.ok (PyData.str "text"))).bind fun a23 => fEq a22 a23).bind isBl).bind fun b25 => if b25 then ((R.ok [])).bind fun a24 => chkL a24 (PyData.tuple a24) else (R.ok parts_13)).bind fun a26 => R.ok (a26))
theorem sf_parts_of : SemP (runDef 3 1 (den_parts_of)) (ap1 (fn_parts_of)) := semP1 fun document_ => sg_last (sg_assoc (sg_par (p_cons (p_op2 (p_var 0) (p_c _)) (p_cons (p_sl (p_var 0) (p_some (p_c _)) (p_no)) (p_nil))) (fun word_12 parts_13 => sg_assoc (sg_if (p_testB (p_op1 (p_var 1))) (sg_retS (sg_ret (fun a20 => a20) (p_sl (p_var 2) (p_some (p_c _)) (p_no)) (fun _ => .inl ⟨_, rfl⟩))) (sg_next (sg_retS (sg_ret (fun a26 => a26) (p_if (p_orB (p_testB (p_op1 (p_var 1))) (p_testB (p_op2 (p_var 1) (p_c _)))) (p_tup (p_nil)) (p_var 2)) (fun _ => .inl ⟨_, rfl⟩))))))))
def fn_size_of (f_parts_of : PyData → R PyData) (f_size_of : PyData → R PyData) (document_ : PyData) : R PyData :=
  (((R.ok (PyData.int 1))).bind fun a9 => ((((((((R.ok document_)).bind fun a1 => ((R.ok [])).bind fun a2 => R.ok (a1 :: a2)).bind (ap1 f_parts_of)).bind itemsOf).bind fun xs6 => lcR xs6 (mapR (fun x3 => (((R.ok x3)).bind fun a4 => ((R.ok [])).bind fun a5 => R.ok (a4 :: a5)).bind (ap1 f_size_of)) xs6)).bind fun a7 => ((R.ok [])).bind fun a8 => R.ok (a7 :: a8)).bind fSum).bind fun a10 => fAdd a9 a10).bind fun a11 => R.ok (a11)
theorem sf_size_of {c_parts_of : Sem1} {f_parts_of : PyData → R PyData} (H_parts_of : SemP c_parts_of (ap1 f_parts_of)) {c_size_of : Sem1} {f_size_of : PyData → R PyData} (H_size_of : SemP c_size_of (ap1 f_size_of)) : SemP (runDef 2 1 (den_size_of c_parts_of c_size_of)) (ap1 (fn_size_of f_parts_of f_size_of)) := semP1 fun document_ => sg_last (sg_retS (sg_ret (fun a11 => a11) (p_op2 (p_c _) (p_opA (p_cons (p_lc (p_seqI (p_call H_parts_of (p_cons (p_var 0) (p_nil)))) (tn1 (ρa := fun x3 => [.d document_, .d x3]) (fun x3 => p_call H_size_of (p_cons (p_var 1) (p_nil))))) (p_nil)))) (fun _ => .inl ⟨_, rfl⟩)))
def fn__law_same (f__law_same : PyData → PyData → R PyData) (a_ : PyData) (b_ : PyData) : R PyData :=
  ((((((R.ok a_)).bind fun a1 => R.ok (PyData.bool (isT "tuple" a1))).bind tru).bind fun b2 => if b2 then (((R.ok b_)).bind fun a3 => R.ok (PyData.bool (isT "tuple" a3))).bind tru else R.ok false).bind fun b4 => if b4 then R.ok true else ((((R.ok a_)).bind fun a5 => R.ok (PyData.bool (isT "list" a5))).bind tru).bind fun b6 => if b6 then (((R.ok b_)).bind fun a7 => R.ok (PyData.bool (isT "list" a7))).bind tru else R.ok false).bind fun b8 => if b8 then ((((((R.ok a_)).bind fun a9 => ((R.ok [])).bind fun a10 => R.ok (a9 :: a10)).bind fLen).bind fun a13 => ((((R.ok b_)).bind fun a11 => ((R.ok [])).bind fun a12 => R.ok (a11 :: a12)).bind fLen).bind fun a14 => fEq a13 a14).bind fun a31 => (isBl a31).bind fun b32 => if b32 then ((((((((R.ok a_)).bind fun a15 => ((R.ok [])).bind fun a16 => R.ok (a15 :: a16)).bind fLen).bind fun a17 => ((R.ok [])).bind fun a18 => R.ok (a17 :: a18)).bind rng1F).bind fun xs28 => lcR xs28 (mapR (fun x19 => ((((R.ok a_)).bind fun a20 => ((R.ok x19)).bind fun a21 => fIx a20 a21).bind fun a26 => ((((R.ok b_)).bind fun a22 => ((R.ok x19)).bind fun a23 => fIx a22 a23).bind fun a24 => ((R.ok [])).bind fun a25 => R.ok (a24 :: a25)).bind fun a27 => R.ok (a26 :: a27)).bind (ap2 f__law_same)) xs28)).bind fun a29 => ((R.ok [])).bind fun a30 => R.ok (a29 :: a30)).bind fAll else R.ok (PyData.bool false)).bind fun a33 => R.ok (a33) else (((((R.ok a_)).bind fun a34 => R.ok (PyData.bool (isT "bool" a34))).bind tru).bind fun b35 => if b35 then R.ok true else (((R.ok b_)).bind fun a36 => R.ok (PyData.bool (isT "bool" a36))).bind tru).bind fun b37 => if b37 then ((((R.ok a_)).bind fun a38 => R.ok (PyData.bool (isT "bool" a38))).bind fun a44 => (isBl a44).bind fun b45 => if b45 then (((R.ok b_)).bind fun a39 => R.ok (PyData.bool (isT "bool" a39))).bind fun a42 => (isBl a42).bind fun b43 => if b43 then ((R.ok a_)).bind fun a40 => ((R.ok b_)).bind fun a41 => fEq a40 a41 else R.ok (PyData.bool false) else R.ok (PyData.bool false)).bind fun a46 => R.ok (a46) else ((((((R.ok a_)).bind fun a47 => R.ok (PyData.bool (isT "int" a47))).bind tru).bind fun b48 => if b48 then (((R.ok b_)).bind fun a49 => R.ok (PyData.bool (isT "int" a49))).bind tru else R.ok false).bind fun b50 => if b50 then R.ok true else ((((R.ok a_)).bind fun a51 => R.ok (PyData.bool (isT "str" a51))).bind tru).bind fun b52 => if b52 then (((R.ok b_)).bind fun a53 => R.ok (PyData.bool (isT "str" a53))).bind tru else R.ok false).bind fun b54 => if b54 then (((R.ok a_)).bind fun a55 => ((R.ok b_)).bind fun a56 => fEq a55 a56).bind fun a57 => R.ok (a57) else ((((R.ok a_)).bind fun a58 => ((R.ok PyData.none)).bind fun a59 => fIs a58 a59).bind fun a62 => (isBl a62).bind fun b63 => if b63 then ((R.ok b_)).bind fun a60 => ((R.ok PyData.none)).bind fun a61 => fIs a60 a61 else R.ok (PyData.bool false)).bind fun a64 => R.ok (a64)
theorem sf__law_same {c__law_same : Sem1} {f__law_same : PyData → PyData → R PyData} (H__law_same : SemP c__law_same (ap2 f__law_same)) : SemP (runDef 3 2 (den__law_same c__law_same)) (ap2 (fn__law_same f__law_same)) := semP2 fun a_ b_ => sg_last (sg_assoc (sg_if (p_orB (p_andB (p_test (p_isi (p_var 0))) (p_test (p_isi (p_var 1)))) (p_andB (p_test (p_isi (p_var 0))) (p_test (p_isi (p_var 1))))) (sg_retS (sg_ret (fun a33 => a33) (p_and (p_op2 (p_opA (p_cons (p_var 0) (p_nil))) (p_opA (p_cons (p_var 1) (p_nil)))) (p_opA (p_cons (p_lc (p_rng1 (p_cons (p_opA (p_cons (p_var 0) (p_nil))) (p_nil))) (tn1 (ρa := fun x19 => [.d a_, .d b_, .d x19]) (fun x19 => p_call H__law_same (p_cons (p_op2 (p_var 0) (p_var 2)) (p_cons (p_op2 (p_var 1) (p_var 2)) (p_nil)))))) (p_nil)))) (fun _ => .inl ⟨_, rfl⟩))) (sg_next (sg_assoc (sg_if (p_orB (p_test (p_isi (p_var 0))) (p_test (p_isi (p_var 1)))) (sg_retS (sg_ret (fun a46 => a46) (p_and (p_isi (p_var 0)) (p_and (p_isi (p_var 1)) (p_op2 (p_var 0) (p_var 1)))) (fun _ => .inl ⟨_, rfl⟩))) (sg_next (sg_assoc (sg_if (p_orB (p_andB (p_test (p_isi (p_var 0))) (p_test (p_isi (p_var 1)))) (p_andB (p_test (p_isi (p_var 0))) (p_test (p_isi (p_var 1))))) (sg_retS (sg_ret (fun a57 => a57) (p_op2 (p_var 0) (p_var 1)) (fun _ => .inl ⟨_, rfl⟩))) (sg_next (sg_retS (sg_ret (fun a64 => a64) (p_and (p_op2 (p_var 0) (p_c _)) (p_op2 (p_var 1) (p_c _))) (fun _ => .inl ⟨_, rfl⟩))))))))))))
def fn__law_document (f__law_draw : Tp → PyData → R (PyData × Tp)) (f__law_document : Tp → PyData → R (PyData × Tp)) (t : Tp) (deep_ : PyData) : R (PyData × Tp) :=
  (((((R.ok (PyData.int 14))).bind fun x_ => R.ok (x_, t)).bindT fun a1 t2 => (((R.ok [])).bind fun x_ => R.ok (x_, t2)).bindT fun a3 t4 => R.ok (a1 :: a3, t4)).bindT fun a5 t6 => apT1 f__law_draw t6 a5).bindT fun pick_7 t8 =>
    (((((R.ok deep_)).bind fun a9 => ((R.ok (PyData.int 1))).bind fun a10 => fGt a9 a10).bind isBl).bind fun b11 => if b11 then (((R.ok pick_7)).bind fun a12 => ((R.ok (PyData.int 5))).bind fun a13 => fLt a12 a13).bind isBl else R.ok false).bind fun b14 => if b14 then ((((((R.ok (PyData.str "join"))).bind fun a15 => ((R.ok [])).bind fun a16 => R.ok (a15 :: a16)).bind fun a17 => chkL a17 (PyData.tuple a17)).bind fun x_ => R.ok (x_, t8)).bindT fun a18 t19 => ((((((((((R.ok (PyData.int 4))).bind fun x_ => R.ok (x_, t19)).bindT fun a20 t21 => (((R.ok [])).bind fun x_ => R.ok (x_, t21)).bindT fun a22 t23 => R.ok (a20 :: a22, t23)).bindT fun a24 t25 => apT1 f__law_draw t25 a24).bindT fun a26 t27 => (((R.ok [])).bind fun x_ => R.ok (x_, t27)).bindT fun a28 t29 => R.ok (a26 :: a28, t29)).bindT fun a30 t31 => (rng1F a30).bind fun xs_ => R.ok (xs_, t31)).bindT fun xs42 t43 => lcT xs42 (mapT (fun x32 t33 => (((((R.ok deep_)).bind fun a34 => ((R.ok (PyData.int 1))).bind fun a35 => fSub a34 a35).bind fun x_ => R.ok (x_, t33)).bindT fun a36 t37 => (((R.ok [])).bind fun x_ => R.ok (x_, t37)).bindT fun a38 t39 => R.ok (a36 :: a38, t39)).bindT fun a40 t41 => apT1 f__law_document t41 a40) xs42 t43)).bindT fun a44 t45 => (((R.ok [])).bind fun x_ => R.ok (x_, t45)).bindT fun a46 t47 => R.ok (a44 :: a46, t47)).bindT fun a48 t49 => (fTuple a48).bind fun d_ => R.ok (d_, t49)).bindT fun a50 t51 => (fAdd a18 a50).bind fun d_ => R.ok (d_, t51)).bindT fun a52 t53 => R.ok ((a52, t53)) else (((((R.ok deep_)).bind fun a54 => ((R.ok (PyData.int 1))).bind fun a55 => fGt a54 a55).bind isBl).bind fun b56 => if b56 then (((R.ok pick_7)).bind fun a57 => ((R.ok (PyData.int 11))).bind fun a58 => fLt a57 a58).bind isBl else R.ok false).bind fun b59 => if b59 then ((((((R.ok deep_)).bind fun a60 => ((R.ok (PyData.int 1))).bind fun a61 => fSub a60 a61).bind fun x_ => R.ok (x_, t8)).bindT fun a62 t63 => (((R.ok [])).bind fun x_ => R.ok (x_, t63)).bindT fun a64 t65 => R.ok (a62 :: a64, t65)).bindT fun a66 t67 => apT1 f__law_document t67 a66).bindT fun inner_68 t69 =>
    ((((((((R.ok (PyData.str "nest"))).bind fun x_ => R.ok (x_, t69)).bindT fun a70 t71 => ((((((R.ok (PyData.int 4))).bind fun x_ => R.ok (x_, t71)).bindT fun a72 t73 => (((R.ok [])).bind fun x_ => R.ok (x_, t73)).bindT fun a74 t75 => R.ok (a72 :: a74, t75)).bindT fun a76 t77 => apT1 f__law_draw t77 a76).bindT fun a78 t79 => ((((R.ok inner_68)).bind fun x_ => R.ok (x_, t79)).bindT fun a80 t81 => (((R.ok [])).bind fun x_ => R.ok (x_, t81)).bindT fun a82 t83 => R.ok (a80 :: a82, t83)).bindT fun a84 t85 => R.ok (a78 :: a84, t85)).bindT fun a86 t87 => R.ok (a70 :: a86, t87)).bindT fun a88 t89 => (chkL a88 (PyData.tuple a88)).bind fun d_ => R.ok (d_, t89)).bindT fun a90 t91 => ((((((R.ok (PyData.str "align"))).bind fun a94 => (((R.ok inner_68)).bind fun a92 => ((R.ok [])).bind fun a93 => R.ok (a92 :: a93)).bind fun a95 => R.ok (a94 :: a95)).bind fun a96 => chkL a96 (PyData.tuple a96)).bind fun x_ => R.ok (x_, t91)).bindT fun a97 t98 => ((((((R.ok (PyData.str "group"))).bind fun a101 => (((R.ok inner_68)).bind fun a99 => ((R.ok [])).bind fun a100 => R.ok (a99 :: a100)).bind fun a102 => R.ok (a101 :: a102)).bind fun a103 => chkL a103 (PyData.tuple a103)).bind fun x_ => R.ok (x_, t98)).bindT fun a104 t105 => ((((((R.ok (PyData.str "group"))).bind fun a108 => (((R.ok inner_68)).bind fun a106 => ((R.ok [])).bind fun a107 => R.ok (a106 :: a107)).bind fun a109 => R.ok (a108 :: a109)).bind fun a110 => chkL a110 (PyData.tuple a110)).bind fun x_ => R.ok (x_, t105)).bindT fun a111 t112 => ((((((R.ok (PyData.str "dear"))).bind fun x_ => R.ok (x_, t112)).bindT fun a113 t114 => ((((((R.ok (PyData.int 3))).bind fun x_ => R.ok (x_, t114)).bindT fun a115 t116 => (((R.ok [])).bind fun x_ => R.ok (x_, t116)).bindT fun a117 t118 => R.ok (a115 :: a117, t118)).bindT fun a119 t120 => apT1 f__law_draw t120 a119).bindT fun a121 t122 => ((((R.ok inner_68)).bind fun x_ => R.ok (x_, t122)).bindT fun a123 t124 => (((R.ok [])).bind fun x_ => R.ok (x_, t124)).bindT fun a125 t126 => R.ok (a123 :: a125, t126)).bindT fun a127 t128 => R.ok (a121 :: a127, t128)).bindT fun a129 t130 => R.ok (a113 :: a129, t130)).bindT fun a131 t132 => (chkL a131 (PyData.tuple a131)).bind fun d_ => R.ok (d_, t132)).bindT fun a133 t134 => ((((((R.ok (PyData.str "flat"))).bind fun a137 => (((R.ok inner_68)).bind fun a135 => ((R.ok [])).bind fun a136 => R.ok (a135 :: a136)).bind fun a138 => R.ok (a137 :: a138)).bind fun a139 => chkL a139 (PyData.tuple a139)).bind fun x_ => R.ok (x_, t134)).bindT fun a140 t141 => (((R.ok [])).bind fun x_ => R.ok (x_, t141)).bindT fun a142 t143 => R.ok (a140 :: a142, t143)).bindT fun a144 t145 => R.ok (a133 :: a144, t145)).bindT fun a146 t147 => R.ok (a111 :: a146, t147)).bindT fun a148 t149 => R.ok (a104 :: a148, t149)).bindT fun a150 t151 => R.ok (a97 :: a150, t151)).bindT fun a152 t153 => R.ok (a90 :: a152, t153)).bindT fun a154 t155 => (chkL a154 (PyData.list a154)).bind fun d_ => R.ok (d_, t155)).bindT fun a156 t157 => ((((R.ok pick_7)).bind fun a158 => ((R.ok (PyData.int 5))).bind fun a159 => fSub a158 a159).bind fun x_ => R.ok (x_, t157)).bindT fun a160 t161 => (fIx a156 a160).bind fun d_ => R.ok (d_, t161)).bindT fun a162 t163 => R.ok ((a162, t163)) else (((((R.ok deep_)).bind fun a164 => ((R.ok (PyData.int 1))).bind fun a165 => fGt a164 a165).bind isBl).bind fun b166 => if b166 then (((R.ok pick_7)).bind fun a167 => ((R.ok (PyData.int 11))).bind fun a168 => fEq a167 a168).bind isBl else R.ok false).bind fun b169 => if b169 then (((((R.ok (PyData.str "either"))).bind fun x_ => R.ok (x_, t8)).bindT fun a170 t171 => (((((((R.ok deep_)).bind fun a172 => ((R.ok (PyData.int 1))).bind fun a173 => fSub a172 a173).bind fun x_ => R.ok (x_, t171)).bindT fun a174 t175 => (((R.ok [])).bind fun x_ => R.ok (x_, t175)).bindT fun a176 t177 => R.ok (a174 :: a176, t177)).bindT fun a178 t179 => apT1 f__law_document t179 a178).bindT fun a180 t181 => (((((((R.ok deep_)).bind fun a182 => ((R.ok (PyData.int 1))).bind fun a183 => fSub a182 a183).bind fun x_ => R.ok (x_, t181)).bindT fun a184 t185 => (((R.ok [])).bind fun x_ => R.ok (x_, t185)).bindT fun a186 t187 => R.ok (a184 :: a186, t187)).bindT fun a188 t189 => apT1 f__law_document t189 a188).bindT fun a190 t191 => (((R.ok [])).bind fun x_ => R.ok (x_, t191)).bindT fun a192 t193 => R.ok (a190 :: a192, t193)).bindT fun a194 t195 => R.ok (a180 :: a194, t195)).bindT fun a196 t197 => R.ok (a170 :: a196, t197)).bindT fun a198 t199 => (chkL a198 (PyData.tuple a198)).bind fun d_ => R.ok (d_, t199)).bindT fun a200 t201 => R.ok ((a200, t201)) else ((((((((R.ok (PyData.str "text"))).bind fun x_ => R.ok (x_, t8)).bindT fun a202 t203 => (((((((R.ok (PyData.str ""))).bind fun a212 => (((R.ok (PyData.str "a"))).bind fun a210 => (((R.ok (PyData.str "bc"))).bind fun a208 => (((R.ok (PyData.str "a b"))).bind fun a206 => (((R.ok (PyData.str "abcd"))).bind fun a204 => ((R.ok [])).bind fun a205 => R.ok (a204 :: a205)).bind fun a207 => R.ok (a206 :: a207)).bind fun a209 => R.ok (a208 :: a209)).bind fun a211 => R.ok (a210 :: a211)).bind fun a213 => R.ok (a212 :: a213)).bind fun a214 => chkL a214 (PyData.list a214)).bind fun x_ => R.ok (x_, t203)).bindT fun a215 t216 => (((((R.ok (PyData.int 5))).bind fun x_ => R.ok (x_, t216)).bindT fun a217 t218 => (((R.ok [])).bind fun x_ => R.ok (x_, t218)).bindT fun a219 t220 => R.ok (a217 :: a219, t220)).bindT fun a221 t222 => apT1 f__law_draw t222 a221).bindT fun a223 t224 => (fIx a215 a223).bind fun d_ => R.ok (d_, t224)).bindT fun a225 t226 => (((R.ok [])).bind fun x_ => R.ok (x_, t226)).bindT fun a227 t228 => R.ok (a225 :: a227, t228)).bindT fun a229 t230 => R.ok (a202 :: a229, t230)).bindT fun a231 t232 => (chkL a231 (PyData.tuple a231)).bind fun d_ => R.ok (d_, t232)).bindT fun a233 t234 => ((((((R.ok (PyData.str "text"))).bind fun a237 => (((R.ok (PyData.str "x"))).bind fun a235 => ((R.ok [])).bind fun a236 => R.ok (a235 :: a236)).bind fun a238 => R.ok (a237 :: a238)).bind fun a239 => chkL a239 (PyData.tuple a239)).bind fun x_ => R.ok (x_, t234)).bindT fun a240 t241 => ((((((R.ok (PyData.str "line"))).bind fun a242 => ((R.ok [])).bind fun a243 => R.ok (a242 :: a243)).bind fun a244 => chkL a244 (PyData.tuple a244)).bind fun x_ => R.ok (x_, t241)).bindT fun a245 t246 => ((((((R.ok (PyData.str "soft"))).bind fun a247 => ((R.ok [])).bind fun a248 => R.ok (a247 :: a248)).bind fun a249 => chkL a249 (PyData.tuple a249)).bind fun x_ => R.ok (x_, t246)).bindT fun a250 t251 => ((((((R.ok (PyData.str "hard"))).bind fun a252 => ((R.ok [])).bind fun a253 => R.ok (a252 :: a253)).bind fun a254 => chkL a254 (PyData.tuple a254)).bind fun x_ => R.ok (x_, t251)).bindT fun a255 t256 => ((((((R.ok (PyData.str "line"))).bind fun a257 => ((R.ok [])).bind fun a258 => R.ok (a257 :: a258)).bind fun a259 => chkL a259 (PyData.tuple a259)).bind fun x_ => R.ok (x_, t256)).bindT fun a260 t261 => (((R.ok [])).bind fun x_ => R.ok (x_, t261)).bindT fun a262 t263 => R.ok (a260 :: a262, t263)).bindT fun a264 t265 => R.ok (a255 :: a264, t265)).bindT fun a266 t267 => R.ok (a250 :: a266, t267)).bindT fun a268 t269 => R.ok (a245 :: a268, t269)).bindT fun a270 t271 => R.ok (a240 :: a270, t271)).bindT fun a272 t273 => R.ok (a233 :: a272, t273)).bindT fun a274 t275 => (chkL a274 (PyData.list a274)).bind fun d_ => R.ok (d_, t275)).bindT fun a276 t277 => (((((R.ok (PyData.int 6))).bind fun x_ => R.ok (x_, t277)).bindT fun a278 t279 => (((R.ok [])).bind fun x_ => R.ok (x_, t279)).bindT fun a280 t281 => R.ok (a278 :: a280, t281)).bindT fun a282 t283 => apT1 f__law_draw t283 a282).bindT fun a284 t285 => (fIx a276 a284).bind fun d_ => R.ok (d_, t285)).bindT fun a286 t287 => R.ok ((a286, t287))
theorem sf__law_document {c__law_draw : Sem1} {f__law_draw : Tp → PyData → R (PyData × Tp)} (H__law_draw : SemT c__law_draw (apT1 f__law_draw)) {c__law_document : Sem1} {f__law_document : Tp → PyData → R (PyData × Tp)} (H__law_document : SemT c__law_document (apT1 f__law_document)) : SemT (runDef 5 2 (den__law_document c__law_draw c__law_document)) (apT1 (fn__law_document f__law_draw f__law_document)) := semT1 fun t deep_ => sg_last (sg_assoc (sg_setT (t_callR 0 H__law_draw (t_cons (Pg.t (τ := (fun t_ => [.tp t_, .d deep_, .u, .u, .u])) (p_c _) rfl) (fun t2 => Pg.t (τ := (fun t_ => [.tp t_, .d deep_, .u, .u, .u])) (p_nil) rfl))) (fun pick_7 t8 =>
    sg_assoc (sg_if (p_andB (p_testB (p_op2 (p_var 1) (p_c _))) (p_testB (p_op2 (p_var 2) (p_c _)))) (sg_retS (sg_retT (fun a52 t53 => (a52, t53)) (t_op2 (Pg.t (τ := (fun t_ => [.tp t_, .d deep_, .d pick_7, .u, .u])) (p_tup (p_cons (p_c _) (p_nil))) rfl) (fun t19 => t_opA (t_cons (t_lc (t_rng1 (t_cons (t_callR 0 H__law_draw (t_cons (Pg.t (τ := (fun t_ => [.tp t_, .d deep_, .d pick_7, .u, .u])) (p_c _) rfl) (fun t21 => Pg.t (τ := (fun t_ => [.tp t_, .d deep_, .d pick_7, .u, .u])) (p_nil) rfl))) (fun t27 => Pg.t (τ := (fun t_ => [.tp t_, .d deep_, .d pick_7, .u, .u])) (p_nil) rfl))) (tnT1 (ρa := fun x32 t33 => [.tp t33, .d deep_, .d pick_7, .u, .d x32]) (fun x32 t33 => t_callR 0 H__law_document (t_cons (Pg.t (τ := (fun t_ => [.tp t_, .d deep_, .d pick_7, .u, .d x32])) (p_op2 (p_var 1) (p_c _)) rfl) (fun t37 => Pg.t (τ := (fun t_ => [.tp t_, .d deep_, .d pick_7, .u, .d x32])) (p_nil) rfl))))) (fun t45 => Pg.t (τ := (fun t_ => [.tp t_, .d deep_, .d pick_7, .u, .u])) (p_nil) rfl)))) (fun _ _ => .inl ⟨_, rfl, rfl⟩))) (sg_next (sg_assoc (sg_if (p_andB (p_testB (p_op2 (p_var 1) (p_c _))) (p_testB (p_op2 (p_var 2) (p_c _)))) (sg_assoc (sg_setT (t_callR 0 H__law_document (t_cons (Pg.t (τ := (fun t_ => [.tp t_, .d deep_, .d pick_7, .u, .u])) (p_op2 (p_var 1) (p_c _)) rfl) (fun t63 => Pg.t (τ := (fun t_ => [.tp t_, .d deep_, .d pick_7, .u, .u])) (p_nil) rfl))) (fun inner_68 t69 =>
    sg_retS (sg_retT (fun a162 t163 => (a162, t163)) (t_op2 (t_lst (t_cons (t_tup (t_cons (Pg.t (τ := (fun t_ => [.tp t_, .d deep_, .d pick_7, .d inner_68, .u])) (p_c _) rfl) (fun t71 => t_cons (t_callR 0 H__law_draw (t_cons (Pg.t (τ := (fun t_ => [.tp t_, .d deep_, .d pick_7, .d inner_68, .u])) (p_c _) rfl) (fun t73 => Pg.t (τ := (fun t_ => [.tp t_, .d deep_, .d pick_7, .d inner_68, .u])) (p_nil) rfl))) (fun t79 => t_cons (Pg.t (τ := (fun t_ => [.tp t_, .d deep_, .d pick_7, .d inner_68, .u])) (p_var 3) rfl) (fun t81 => Pg.t (τ := (fun t_ => [.tp t_, .d deep_, .d pick_7, .d inner_68, .u])) (p_nil) rfl))))) (fun t91 => t_cons (Pg.t (τ := (fun t_ => [.tp t_, .d deep_, .d pick_7, .d inner_68, .u])) (p_tup (p_cons (p_c _) (p_cons (p_var 3) (p_nil)))) rfl) (fun t98 => t_cons (Pg.t (τ := (fun t_ => [.tp t_, .d deep_, .d pick_7, .d inner_68, .u])) (p_tup (p_cons (p_c _) (p_cons (p_var 3) (p_nil)))) rfl) (fun t105 => t_cons (Pg.t (τ := (fun t_ => [.tp t_, .d deep_, .d pick_7, .d inner_68, .u])) (p_tup (p_cons (p_c _) (p_cons (p_var 3) (p_nil)))) rfl) (fun t112 => t_cons (t_tup (t_cons (Pg.t (τ := (fun t_ => [.tp t_, .d deep_, .d pick_7, .d inner_68, .u])) (p_c _) rfl) (fun t114 => t_cons (t_callR 0 H__law_draw (t_cons (Pg.t (τ := (fun t_ => [.tp t_, .d deep_, .d pick_7, .d inner_68, .u])) (p_c _) rfl) (fun t116 => Pg.t (τ := (fun t_ => [.tp t_, .d deep_, .d pick_7, .d inner_68, .u])) (p_nil) rfl))) (fun t122 => t_cons (Pg.t (τ := (fun t_ => [.tp t_, .d deep_, .d pick_7, .d inner_68, .u])) (p_var 3) rfl) (fun t124 => Pg.t (τ := (fun t_ => [.tp t_, .d deep_, .d pick_7, .d inner_68, .u])) (p_nil) rfl))))) (fun t134 => t_cons (Pg.t (τ := (fun t_ => [.tp t_, .d deep_, .d pick_7, .d inner_68, .u])) (p_tup (p_cons (p_c _) (p_cons (p_var 3) (p_nil)))) rfl) (fun t141 => Pg.t (τ := (fun t_ => [.tp t_, .d deep_, .d pick_7, .d inner_68, .u])) (p_nil) rfl)))))))) (fun t157 => Pg.t (τ := (fun t_ => [.tp t_, .d deep_, .d pick_7, .d inner_68, .u])) (p_op2 (p_var 2) (p_c _)) rfl)) (fun _ _ => .inl ⟨_, rfl, rfl⟩))))) (sg_next (sg_assoc (sg_if (p_andB (p_testB (p_op2 (p_var 1) (p_c _))) (p_testB (p_op2 (p_var 2) (p_c _)))) (sg_retS (sg_retT (fun a200 t201 => (a200, t201)) (t_tup (t_cons (Pg.t (τ := (fun t_ => [.tp t_, .d deep_, .d pick_7, .u, .u])) (p_c _) rfl) (fun t171 => t_cons (t_callR 0 H__law_document (t_cons (Pg.t (τ := (fun t_ => [.tp t_, .d deep_, .d pick_7, .u, .u])) (p_op2 (p_var 1) (p_c _)) rfl) (fun t175 => Pg.t (τ := (fun t_ => [.tp t_, .d deep_, .d pick_7, .u, .u])) (p_nil) rfl))) (fun t181 => t_cons (t_callR 0 H__law_document (t_cons (Pg.t (τ := (fun t_ => [.tp t_, .d deep_, .d pick_7, .u, .u])) (p_op2 (p_var 1) (p_c _)) rfl) (fun t185 => Pg.t (τ := (fun t_ => [.tp t_, .d deep_, .d pick_7, .u, .u])) (p_nil) rfl))) (fun t191 => Pg.t (τ := (fun t_ => [.tp t_, .d deep_, .d pick_7, .u, .u])) (p_nil) rfl))))) (fun _ _ => .inl ⟨_, rfl, rfl⟩))) (sg_next (sg_retS (sg_retT (fun a286 t287 => (a286, t287)) (t_op2 (t_lst (t_cons (t_tup (t_cons (Pg.t (τ := (fun t_ => [.tp t_, .d deep_, .d pick_7, .u, .u])) (p_c _) rfl) (fun t203 => t_cons (t_op2 (Pg.t (τ := (fun t_ => [.tp t_, .d deep_, .d pick_7, .u, .u])) (p_lst (p_cons (p_c _) (p_cons (p_c _) (p_cons (p_c _) (p_cons (p_c _) (p_cons (p_c _) (p_nil))))))) rfl) (fun t216 => t_callR 0 H__law_draw (t_cons (Pg.t (τ := (fun t_ => [.tp t_, .d deep_, .d pick_7, .u, .u])) (p_c _) rfl) (fun t218 => Pg.t (τ := (fun t_ => [.tp t_, .d deep_, .d pick_7, .u, .u])) (p_nil) rfl)))) (fun t226 => Pg.t (τ := (fun t_ => [.tp t_, .d deep_, .d pick_7, .u, .u])) (p_nil) rfl)))) (fun t234 => t_cons (Pg.t (τ := (fun t_ => [.tp t_, .d deep_, .d pick_7, .u, .u])) (p_tup (p_cons (p_c _) (p_cons (p_c _) (p_nil)))) rfl) (fun t241 => t_cons (Pg.t (τ := (fun t_ => [.tp t_, .d deep_, .d pick_7, .u, .u])) (p_tup (p_cons (p_c _) (p_nil))) rfl) (fun t246 => t_cons (Pg.t (τ := (fun t_ => [.tp t_, .d deep_, .d pick_7, .u, .u])) (p_tup (p_cons (p_c _) (p_nil))) rfl) (fun t251 => t_cons (Pg.t (τ := (fun t_ => [.tp t_, .d deep_, .d pick_7, .u, .u])) (p_tup (p_cons (p_c _) (p_nil))) rfl) (fun t256 => t_cons (Pg.t (τ := (fun t_ => [.tp t_, .d deep_, .d pick_7, .u, .u])) (p_tup (p_cons (p_c _) (p_nil))) rfl) (fun t261 => Pg.t (τ := (fun t_ => [.tp t_, .d deep_, .d pick_7, .u, .u])) (p_nil) rfl)))))))) (fun t277 => t_callR 0 H__law_draw (t_cons (Pg.t (τ := (fun t_ => [.tp t_, .d deep_, .d pick_7, .u, .u])) (p_c _) rfl) (fun t279 => Pg.t (τ := (fun t_ => [.tp t_, .d deep_, .d pick_7, .u, .u])) (p_nil) rfl)))) (fun _ _ => .inl ⟨_, rfl, rfl⟩))))))))))))))
def fn__law_is_name (text_ : PyData) : R PyData :=
  ((((((R.ok text_)).bind fun a1 => R.ok (PyData.bool (isT "str" a1))).bind tru).bind fun b2 => R.ok (!b2)).bind fun b4 => if b4 then R.ok true else ((((((R.ok text_)).bind fun a5 => ((R.ok [])).bind fun a6 => R.ok (a5 :: a6)).bind fLen).bind fun a7 => ((R.ok (PyData.int 1))).bind fun a8 => fLt a7 a8).bind isBl).bind fun b9 => if b9 then R.ok true else ((((((R.ok text_)).bind fun a10 => ((R.ok [])).bind fun a11 => R.ok (a10 :: a11)).bind fLen).bind fun a12 => ((R.ok (PyData.int 8))).bind fun a13 => fGt a12 a13).bind isBl).bind fun b14 => if b14 then R.ok true else (((R.ok text_)).bind fun a22 => ((((R.ok (PyData.str "all"))).bind fun a19 => (((R.ok (PyData.str "any"))).bind fun a17 => (((R.ok (PyData.str "none"))).bind fun a15 => ((R.ok [])).bind fun a16 => R.ok (a15 :: a16)).bind fun a18 => R.ok (a17 :: a18)).bind fun a20 => R.ok (a19 :: a20)).bind fun a21 => chkL a21 (PyData.tuple a21)).bind fun a23 => fIn a22 a23).bind isBl).bind fun b24 => if b24 then ((R.ok (PyData.bool false))).bind fun a25 => R.ok (a25) else ((R.ok (PyData.str "abcdefghijklmnopqrstuvwxyz"))).bind fun small_26 =>
    (((((R.ok text_)).bind fun a27 => ((R.ok (PyData.int 0))).bind fun a28 => fIx a27 a28).bind fun a29 => ((R.ok small_26)).bind fun a30 => fIn a29 a30).bind fun a41 => (isBl a41).bind fun b42 => if b42 then (((((R.ok text_)).bind itemsOf).bind fun xs38 => lcR xs38 (mapR (fun x31 => (((R.ok x31)).bind fun a32 => ((R.ok small_26)).bind fun a33 => fIn a32 a33).bind fun a36 => (isBl a36).bind fun b37 => if b37 then R.ok (PyData.bool true) else ((R.ok x31)).bind fun a34 => ((R.ok (PyData.str "0123456789"))).bind fun a35 => fIn a34 a35) xs38)).bind fun a39 => ((R.ok [])).bind fun a40 => R.ok (a39 :: a40)).bind fAll else R.ok (PyData.bool false)).bind fun a43 => R.ok (a43)
theorem sf__law_is_name : SemP (runDef 3 1 (den__law_is_name)) (ap1 (fn__law_is_name)) := semP1 fun text_ => sg_last (sg_assoc (sg_if (p_orB (p_notB (p_test (p_isi (p_var 0)))) (p_orB (p_testB (p_op2 (p_opA (p_cons (p_var 0) (p_nil))) (p_c _))) (p_orB (p_testB (p_op2 (p_opA (p_cons (p_var 0) (p_nil))) (p_c _))) (p_testB (p_op2 (p_var 0) (p_tup (p_cons (p_c _) (p_cons (p_c _) (p_cons (p_c _) (p_nil)))))))))) (sg_retS (sg_ret (fun a25 => a25) (p_c _) (fun _ => .inl ⟨_, rfl⟩))) (sg_next (sg_assoc (sg_set (p_c _) (fun small_26 =>
    sg_retS (sg_ret (fun a43 => a43) (p_and (p_op2 (p_op2 (p_var 0) (p_c _)) (p_var 1)) (p_opA (p_cons (p_lc (p_seqI (p_var 0)) (tn1 (ρa := fun x31 => [.d text_, .d small_26, .d x31]) (fun x31 => p_or (p_op2 (p_var 2) (p_var 1)) (p_op2 (p_var 2) (p_c _))))) (p_nil)))) (fun _ => .inl ⟨_, rfl⟩))))))))
def fn__law_is_sign (value_ : PyData) : R PyData :=
  ((((R.ok value_)).bind fun a1 => R.ok (PyData.bool (isT "str" a1))).bind fun a10 => (isBl a10).bind fun b11 => if b11 then (((((R.ok value_)).bind fun a2 => ((R.ok [])).bind fun a3 => R.ok (a2 :: a3)).bind fLen).bind fun a4 => ((R.ok (PyData.int 1))).bind fun a5 => fEq a4 a5).bind fun a8 => (isBl a8).bind fun b9 => if b9 then ((R.ok value_)).bind fun a6 => ((R.ok (PyData.str "abcdefghijklmnopqrstuvwxyz0123456789+-*/=<>(),.;:[]{}!?_ "))).bind fun a7 => fIn a6 a7 else R.ok (PyData.bool false) else R.ok (PyData.bool false)).bind fun a12 => R.ok (a12)
theorem sf__law_is_sign : SemP (runDef 1 1 (den__law_is_sign)) (ap1 (fn__law_is_sign)) := semP1 fun value_ => sg_last (sg_retS (sg_ret (fun a12 => a12) (p_and (p_isi (p_var 0)) (p_and (p_op2 (p_opA (p_cons (p_var 0) (p_nil))) (p_c _)) (p_op2 (p_var 0) (p_c _)))) (fun _ => .inl ⟨_, rfl⟩)))
def fn__law_is_text (f__law_is_sign : PyData → R PyData) (value_ : PyData) : R PyData :=
  ((((R.ok value_)).bind fun a1 => R.ok (PyData.bool (isT "str" a1))).bind fun a14 => (isBl a14).bind fun b15 => if b15 then (((((R.ok value_)).bind fun a2 => ((R.ok [])).bind fun a3 => R.ok (a2 :: a3)).bind fLen).bind fun a4 => ((R.ok (PyData.int 40))).bind fun a5 => fLe a4 a5).bind fun a12 => (isBl a12).bind fun b13 => if b13 then (((((R.ok value_)).bind itemsOf).bind fun xs9 => lcR xs9 (mapR (fun x6 => (((R.ok x6)).bind fun a7 => ((R.ok [])).bind fun a8 => R.ok (a7 :: a8)).bind (ap1 f__law_is_sign)) xs9)).bind fun a10 => ((R.ok [])).bind fun a11 => R.ok (a10 :: a11)).bind fAll else R.ok (PyData.bool false) else R.ok (PyData.bool false)).bind fun a16 => R.ok (a16)
theorem sf__law_is_text {c__law_is_sign : Sem1} {f__law_is_sign : PyData → R PyData} (H__law_is_sign : SemP c__law_is_sign (ap1 f__law_is_sign)) : SemP (runDef 2 1 (den__law_is_text c__law_is_sign)) (ap1 (fn__law_is_text f__law_is_sign)) := semP1 fun value_ => sg_last (sg_retS (sg_ret (fun a16 => a16) (p_and (p_isi (p_var 0)) (p_and (p_op2 (p_opA (p_cons (p_var 0) (p_nil))) (p_c _)) (p_opA (p_cons (p_lc (p_seqI (p_var 0)) (tn1 (ρa := fun x6 => [.d value_, .d x6]) (fun x6 => p_call H__law_is_sign (p_cons (p_var 1) (p_nil))))) (p_nil))))) (fun _ => .inl ⟨_, rfl⟩)))
def fn__law_is_document (f__law_is_text : PyData → R PyData) (f__law_is_document : PyData → PyData → R PyData) (value_ : PyData) (deep_ : PyData) : R PyData :=
  (((((R.ok deep_)).bind fun a1 => ((R.ok (PyData.int 0))).bind fun a2 => fEq a1 a2).bind isBl).bind fun b3 => if b3 then R.ok true else (((((R.ok value_)).bind fun a4 => R.ok (PyData.bool (isT "tuple" a4))).bind tru).bind fun b5 => R.ok (!b5)).bind fun b7 => if b7 then R.ok true else ((((R.ok value_)).bind fun a9 => (((R.ok [])).bind fun a8 => chkL a8 (PyData.tuple a8)).bind fun a10 => fEq a9 a10).bind isBl).bind fun b11 => if b11 then R.ok true else (((((R.ok value_)).bind fun a12 => ((R.ok (PyData.int 0))).bind fun a13 => fIx a12 a13).bind fun a14 => R.ok (PyData.bool (isT "str" a14))).bind tru).bind fun b15 => R.ok (!b15)).bind fun b17 => if b17 then ((R.ok (PyData.bool false))).bind fun a18 => R.ok (a18) else ((((R.ok value_)).bind fun a19 => ((R.ok (PyData.int 0))).bind fun a20 => fIx a19 a20).bind fun a28 => ((((R.ok value_)).bind fun a23 => ((((R.ok (PyData.int 1))).bind fun a21 => (isI a21).bind fun i22 => R.ok (some i22))).bind fun l24 => ((R.ok none)).bind fun h25 => fSl a23 l24 h25).bind fun a26 => ((R.ok [])).bind fun a27 => R.ok (a26 :: a27)).bind fun a29 => R.ok (a28 :: a29)).bind (l2 fun word_30 parts_31 => ((((R.ok word_30)).bind fun a39 => ((((R.ok (PyData.str "line"))).bind fun a36 => (((R.ok (PyData.str "soft"))).bind fun a34 => (((R.ok (PyData.str "hard"))).bind fun a32 => ((R.ok [])).bind fun a33 => R.ok (a32 :: a33)).bind fun a35 => R.ok (a34 :: a35)).bind fun a37 => R.ok (a36 :: a37)).bind fun a38 => chkL a38 (PyData.tuple a38)).bind fun a40 => fIn a39 a40).bind isBl).bind fun b41 => if b41 then (((R.ok parts_31)).bind fun a43 => (((R.ok [])).bind fun a42 => chkL a42 (PyData.tuple a42)).bind fun a44 => fEq a43 a44).bind fun a45 => R.ok (a45) else ((((R.ok word_30)).bind fun a46 => ((R.ok (PyData.str "text"))).bind fun a47 => fEq a46 a47).bind isBl).bind fun b48 => if b48 then ((((((R.ok parts_31)).bind fun a49 => ((R.ok [])).bind fun a50 => R.ok (a49 :: a50)).bind fLen).bind fun a51 => ((R.ok (PyData.int 1))).bind fun a52 => fEq a51 a52).bind fun a57 => (isBl a57).bind fun b58 => if b58 then ((((R.ok parts_31)).bind fun a53 => ((R.ok (PyData.int 0))).bind fun a54 => fIx a53 a54).bind fun a55 => ((R.ok [])).bind fun a56 => R.ok (a55 :: a56)).bind (ap1 f__law_is_text) else R.ok (PyData.bool false)).bind fun a59 => R.ok (a59) else ((((R.ok word_30)).bind fun a65 => ((((R.ok (PyData.str "nest"))).bind fun a62 => (((R.ok (PyData.str "dear"))).bind fun a60 => ((R.ok [])).bind fun a61 => R.ok (a60 :: a61)).bind fun a63 => R.ok (a62 :: a63)).bind fun a64 => chkL a64 (PyData.tuple a64)).bind fun a66 => fIn a65 a66).bind isBl).bind fun b67 => if b67 then ((((((R.ok parts_31)).bind fun a68 => ((R.ok [])).bind fun a69 => R.ok (a68 :: a69)).bind fLen).bind fun a70 => ((R.ok (PyData.int 2))).bind fun a71 => fEq a70 a71).bind fun a102 => (isBl a102).bind fun b103 => if b103 then ((((R.ok parts_31)).bind fun a72 => ((R.ok (PyData.int 0))).bind fun a73 => fIx a72 a73).bind fun a74 => R.ok (PyData.bool (isT "int" a74))).bind fun a100 => (isBl a100).bind fun b101 => if b101 then (((((R.ok parts_31)).bind fun a75 => ((R.ok (PyData.int 0))).bind fun a76 => fIx a75 a76).bind fun a77 => R.ok (PyData.bool (isT "bool" a77))).bind fun a78 => (isBl a78).bind fun b79 => R.ok (PyData.bool (!b79))).bind fun a98 => (isBl a98).bind fun b99 => if b99 then (((R.ok (PyData.int 0))).bind fun a83 => (((R.ok parts_31)).bind fun a81 => ((R.ok (PyData.int 0))).bind fun a82 => fIx a81 a82).bind fun a84 => (fLe a83 a84).bind fun z85 => (isBl z85).bind fun k86 => if k86 then ((R.ok (PyData.int 100))).bind fun a87 => fLe a84 a87 else R.ok (PyData.bool false)).bind fun a96 => (isBl a96).bind fun b97 => if b97 then ((((R.ok parts_31)).bind fun a88 => ((R.ok (PyData.int 1))).bind fun a89 => fIx a88 a89).bind fun a94 => ((((R.ok deep_)).bind fun a90 => ((R.ok (PyData.int 1))).bind fun a91 => fSub a90 a91).bind fun a92 => ((R.ok [])).bind fun a93 => R.ok (a92 :: a93)).bind fun a95 => R.ok (a94 :: a95)).bind (ap2 f__law_is_document) else R.ok (PyData.bool false) else R.ok (PyData.bool false) else R.ok (PyData.bool false) else R.ok (PyData.bool false)).bind fun a104 => R.ok (a104) else (((((R.ok (PyData.str "join"))).bind fun a142 => ((((R.ok (PyData.int 0))).bind fun a107 => (((R.ok (PyData.int 8))).bind fun a105 => ((R.ok [])).bind fun a106 => R.ok (a105 :: a106)).bind fun a108 => R.ok (a107 :: a108)).bind fun a109 => chkL a109 (PyData.tuple a109)).bind fun a143 => (((R.ok (PyData.str "align"))).bind fun a139 => ((((R.ok (PyData.int 1))).bind fun a112 => (((R.ok (PyData.int 1))).bind fun a110 => ((R.ok [])).bind fun a111 => R.ok (a110 :: a111)).bind fun a113 => R.ok (a112 :: a113)).bind fun a114 => chkL a114 (PyData.tuple a114)).bind fun a140 => (((R.ok (PyData.str "group"))).bind fun a136 => ((((R.ok (PyData.int 1))).bind fun a117 => (((R.ok (PyData.int 1))).bind fun a115 => ((R.ok [])).bind fun a116 => R.ok (a115 :: a116)).bind fun a118 => R.ok (a117 :: a118)).bind fun a119 => chkL a119 (PyData.tuple a119)).bind fun a137 => (((R.ok (PyData.str "flat"))).bind fun a133 => ((((R.ok (PyData.int 1))).bind fun a122 => (((R.ok (PyData.int 1))).bind fun a120 => ((R.ok [])).bind fun a121 => R.ok (a120 :: a121)).bind fun a123 => R.ok (a122 :: a123)).bind fun a124 => chkL a124 (PyData.tuple a124)).bind fun a134 => (((R.ok (PyData.str "either"))).bind fun a130 => ((((R.ok (PyData.int 2))).bind fun a127 => (((R.ok (PyData.int 2))).bind fun a125 => ((R.ok [])).bind fun a126 => R.ok (a125 :: a126)).bind fun a128 => R.ok (a127 :: a128)).bind fun a129 => chkL a129 (PyData.tuple a129)).bind fun a131 => ((R.ok [])).bind fun p132 => R.ok ((a130, a131) :: p132)).bind fun p135 => R.ok ((a133, a134) :: p135)).bind fun p138 => R.ok ((a136, a137) :: p138)).bind fun p141 => R.ok ((a139, a140) :: p141)).bind fun p144 => R.ok ((a142, a143) :: p144)).bind dispF).bind fun ds_ => R.ok (PyData.dict ds_)).bind fun sizes_146 =>
    ((((R.ok word_30)).bind fun a147 => ((R.ok sizes_146)).bind fun a148 => fIn a147 a148).bind fun a176 => (isBl a176).bind fun b177 => if b177 then (((((R.ok sizes_146)).bind fun a149 => ((R.ok word_30)).bind fun a150 => fIx a149 a150).bind fun a151 => ((R.ok (PyData.int 0))).bind fun a152 => fIx a151 a152).bind fun a159 => ((((R.ok parts_31)).bind fun a153 => ((R.ok [])).bind fun a154 => R.ok (a153 :: a154)).bind fLen).bind fun a160 => (fLe a159 a160).bind fun z161 => (isBl z161).bind fun k162 => if k162 then ((((R.ok sizes_146)).bind fun a155 => ((R.ok word_30)).bind fun a156 => fIx a155 a156).bind fun a157 => ((R.ok (PyData.int 1))).bind fun a158 => fIx a157 a158).bind fun a163 => fLe a160 a163 else R.ok (PyData.bool false)).bind fun a174 => (isBl a174).bind fun b175 => if b175 then (((((R.ok parts_31)).bind itemsOf).bind fun xs171 => lcR xs171 (mapR (fun x164 => (((R.ok x164)).bind fun a169 => ((((R.ok deep_)).bind fun a165 => ((R.ok (PyData.int 1))).bind fun a166 => fSub a165 a166).bind fun a167 => ((R.ok [])).bind fun a168 => R.ok (a167 :: a168)).bind fun a170 => R.ok (a169 :: a170)).bind (ap2 f__law_is_document)) xs171)).bind fun a172 => ((R.ok [])).bind fun a173 => R.ok (a172 :: a173)).bind fAll else R.ok (PyData.bool false) else R.ok (PyData.bool false)).bind fun a178 => R.ok (a178))
theorem sf__law_is_document {c__law_is_text : Sem1} {f__law_is_text : PyData → R PyData} (H__law_is_text : SemP c__law_is_text (ap1 f__law_is_text)) {c__law_is_document : Sem1} {f__law_is_document : PyData → PyData → R PyData} (H__law_is_document : SemP c__law_is_document (ap2 f__law_is_document)) : SemP (runDef 6 2 (den__law_is_document c__law_is_text c__law_is_document)) (ap2 (fn__law_is_document f__law_is_text f__law_is_document)) := semP2 fun value_ deep_ => sg_last (sg_assoc (sg_if (p_orB (p_testB (p_op2 (p_var 1) (p_c _))) (p_orB (p_notB (p_test (p_isi (p_var 0)))) (p_orB (p_testB (p_op2 (p_var 0) (p_tup (p_nil)))) (p_notB (p_test (p_isi (p_op2 (p_var 0) (p_c _)))))))) (sg_retS (sg_ret (fun a18 => a18) (p_c _) (fun _ => .inl ⟨_, rfl⟩))) (sg_next (sg_assoc (sg_par (p_cons (p_op2 (p_var 0) (p_c _)) (p_cons (p_sl (p_var 0) (p_some (p_c _)) (p_no)) (p_nil))) (fun word_30 parts_31 => sg_assoc (sg_if (p_testB (p_op2 (p_var 2) (p_tup (p_cons (p_c _) (p_cons (p_c _) (p_cons (p_c _) (p_nil))))))) (sg_retS (sg_ret (fun a45 => a45) (p_op2 (p_var 3) (p_tup (p_nil))) (fun _ => .inl ⟨_, rfl⟩))) (sg_next (sg_assoc (sg_if (p_testB (p_op2 (p_var 2) (p_c _))) (sg_retS (sg_ret (fun a59 => a59) (p_and (p_op2 (p_opA (p_cons (p_var 3) (p_nil))) (p_c _)) (p_call H__law_is_text (p_cons (p_op2 (p_var 3) (p_c _)) (p_nil)))) (fun _ => .inl ⟨_, rfl⟩))) (sg_next (sg_assoc (sg_if (p_testB (p_op2 (p_var 2) (p_tup (p_cons (p_c _) (p_cons (p_c _) (p_nil)))))) (sg_retS (sg_ret (fun a104 => a104) (p_and (p_op2 (p_opA (p_cons (p_var 3) (p_nil))) (p_c _)) (p_and (p_isi (p_op2 (p_var 3) (p_c _))) (p_and (p_not (p_isi (p_op2 (p_var 3) (p_c _)))) (p_and (p_chain (p_c _) (p_op2 (p_var 3) (p_c _)) (p_c _)) (p_call H__law_is_document (p_cons (p_op2 (p_var 3) (p_c _)) (p_cons (p_op2 (p_var 1) (p_c _)) (p_nil)))))))) (fun _ => .inl ⟨_, rfl⟩))) (sg_next (sg_assoc (sg_set (p_frzD (pn_disp (p_ps1 (p_c _) (p_tup (p_cons (p_c _) (p_cons (p_c _) (p_nil)))) (p_ps1 (p_c _) (p_tup (p_cons (p_c _) (p_cons (p_c _) (p_nil)))) (p_ps1 (p_c _) (p_tup (p_cons (p_c _) (p_cons (p_c _) (p_nil)))) (p_ps1 (p_c _) (p_tup (p_cons (p_c _) (p_cons (p_c _) (p_nil)))) (p_ps1 (p_c _) (p_tup (p_cons (p_c _) (p_cons (p_c _) (p_nil)))) (p_ps0)))))))) (fun sizes_146 =>
    sg_retS (sg_ret (fun a178 => a178) (p_and (p_op2 (p_var 2) (p_var 4)) (p_and (p_chain (p_op2 (p_op2 (p_var 4) (p_var 2)) (p_c _)) (p_opA (p_cons (p_var 3) (p_nil))) (p_op2 (p_op2 (p_var 4) (p_var 2)) (p_c _))) (p_opA (p_cons (p_lc (p_seqI (p_var 3)) (tn1 (ρa := fun x164 => [.d value_, .d deep_, .d word_30, .d parts_31, .d sizes_146, .d x164]) (fun x164 => p_call H__law_is_document (p_cons (p_var 5) (p_cons (p_op2 (p_var 1) (p_c _)) (p_nil)))))) (p_nil))))) (fun _ => .inl ⟨_, rfl⟩)))))))))))))))))))
def fn__law_bent (f__law_draw : Tp → PyData → R (PyData × Tp)) (f__law_bent : Tp → PyData → R (PyData × Tp)) (t : Tp) (value_ : PyData) : R (PyData × Tp) :=
  ((((((R.ok value_)).bind fun a1 => R.ok (PyData.bool (isT "tuple" a1))).bind tru).bind fun x_ => R.ok (x_, t)).bindT fun b2 t3 => if b2 then (((((R.ok value_)).bind fun a5 => (((R.ok [])).bind fun a4 => chkL a4 (PyData.tuple a4)).bind fun a6 => fNe a5 a6).bind isBl).bind fun x_ => R.ok (x_, t3)).bindT fun b7 t8 => if b7 then ((((((R.ok (PyData.int 6))).bind fun x_ => R.ok (x_, t8)).bindT fun a9 t10 => (((R.ok [])).bind fun x_ => R.ok (x_, t10)).bindT fun a11 t12 => R.ok (a9 :: a11, t12)).bindT fun a13 t14 => apT1 f__law_draw t14 a13).bindT fun a15 t16 => (((R.ok (PyData.int 0))).bind fun x_ => R.ok (x_, t16)).bindT fun a17 t18 => (fGt a15 a17).bind fun d_ => R.ok (d_, t18)).bindT fun a19 t20 => (isBl a19).bind fun b_ => R.ok (b_, t20) else R.ok (false, t8) else R.ok (false, t3)).bindT fun b21 t22 => if b21 then (((((((R.ok value_)).bind fun a23 => ((R.ok [])).bind fun a24 => R.ok (a23 :: a24)).bind fLen).bind fun x_ => R.ok (x_, t22)).bindT fun a25 t26 => (((R.ok [])).bind fun x_ => R.ok (x_, t26)).bindT fun a27 t28 => R.ok (a25 :: a27, t28)).bindT fun a29 t30 => apT1 f__law_draw t30 a29).bindT fun at_31 t32 =>
    ((((((R.ok value_)).bind fun a35 => ((R.ok none)).bind fun l36 => ((((R.ok at_31)).bind fun a33 => (isI a33).bind fun i34 => R.ok (some i34))).bind fun h37 => fSl a35 l36 h37).bind fun x_ => R.ok (x_, t32)).bindT fun a38 t39 => ((((((((R.ok value_)).bind fun a40 => ((R.ok at_31)).bind fun a41 => fIx a40 a41).bind fun x_ => R.ok (x_, t39)).bindT fun a42 t43 => (((R.ok [])).bind fun x_ => R.ok (x_, t43)).bindT fun a44 t45 => R.ok (a42 :: a44, t45)).bindT fun a46 t47 => apT1 f__law_bent t47 a46).bindT fun a48 t49 => (((R.ok [])).bind fun x_ => R.ok (x_, t49)).bindT fun a50 t51 => R.ok (a48 :: a50, t51)).bindT fun a52 t53 => (chkL a52 (PyData.tuple a52)).bind fun d_ => R.ok (d_, t53)).bindT fun a54 t55 => (fAdd a38 a54).bind fun d_ => R.ok (d_, t55)).bindT fun a56 t57 => ((((R.ok value_)).bind fun a62 => (((((R.ok at_31)).bind fun a58 => ((R.ok (PyData.int 1))).bind fun a59 => fAdd a58 a59).bind fun a60 => (isI a60).bind fun i61 => R.ok (some i61))).bind fun l63 => ((R.ok none)).bind fun h64 => fSl a62 l63 h64).bind fun x_ => R.ok (x_, t57)).bindT fun a65 t66 => (fAdd a56 a65).bind fun d_ => R.ok (d_, t66)).bindT fun a67 t68 => R.ok ((a67, t68)) else (((((R.ok (PyData.int 9))).bind fun x_ => R.ok (x_, t22)).bindT fun a69 t70 => (((R.ok [])).bind fun x_ => R.ok (x_, t70)).bindT fun a71 t72 => R.ok (a69 :: a71, t72)).bindT fun a73 t74 => apT1 f__law_draw t74 a73).bindT fun pick_75 t76 =>
    ((((R.ok value_)).bind fun a77 => R.ok (PyData.bool (isT "tuple" a77))).bind tru).bind fun b78 => if b78 then (((((((R.ok [])).bind fun a79 => chkL a79 (PyData.tuple a79)).bind fun a128 => ((((R.ok value_)).bind fun a85 => (((R.ok value_)).bind fun a82 => ((R.ok none)).bind fun l83 => ((((R.ok (PyData.int 1))).bind fun a80 => (isI a80).bind fun i81 => R.ok (some i81))).bind fun h84 => fSl a82 l83 h84).bind fun a86 => fAdd a85 a86).bind fun a126 => ((((R.ok value_)).bind fun a89 => ((((R.ok (PyData.int 1))).bind fun a87 => (isI a87).bind fun i88 => R.ok (some i88))).bind fun l90 => ((R.ok none)).bind fun h91 => fSl a89 l90 h91).bind fun a124 => ((((R.ok value_)).bind fRev).bind fun a122 => (((((R.ok (PyData.str "group"))).bind fun a94 => (((R.ok value_)).bind fun a92 => ((R.ok [])).bind fun a93 => R.ok (a92 :: a93)).bind fun a95 => R.ok (a94 :: a95)).bind fun a96 => chkL a96 (PyData.tuple a96)).bind fun a120 => ((((R.ok value_)).bind fun a100 => ((((R.ok (PyData.int 3))).bind fun a97 => ((R.ok [])).bind fun a98 => R.ok (a97 :: a98)).bind fun a99 => chkL a99 (PyData.tuple a99)).bind fun a101 => fAdd a100 a101).bind fun a118 => (((R.ok PyData.none)).bind fun a116 => (((((R.ok (PyData.str "text"))).bind fun a104 => (((R.ok (PyData.str "a"))).bind fun a102 => ((R.ok [])).bind fun a103 => R.ok (a102 :: a103)).bind fun a105 => R.ok (a104 :: a105)).bind fun a106 => chkL a106 (PyData.tuple a106)).bind fun a114 => (((((R.ok (PyData.str "line"))).bind fun a109 => (((R.ok (PyData.int 1))).bind fun a107 => ((R.ok [])).bind fun a108 => R.ok (a107 :: a108)).bind fun a110 => R.ok (a109 :: a110)).bind fun a111 => chkL a111 (PyData.tuple a111)).bind fun a112 => ((R.ok [])).bind fun a113 => R.ok (a112 :: a113)).bind fun a115 => R.ok (a114 :: a115)).bind fun a117 => R.ok (a116 :: a117)).bind fun a119 => R.ok (a118 :: a119)).bind fun a121 => R.ok (a120 :: a121)).bind fun a123 => R.ok (a122 :: a123)).bind fun a125 => R.ok (a124 :: a125)).bind fun a127 => R.ok (a126 :: a127)).bind fun a129 => R.ok (a128 :: a129)).bind fun a130 => chkL a130 (PyData.list a130)).bind fun a131 => ((R.ok pick_75)).bind fun a132 => fIx a131 a132).bind fun x_ => R.ok (x_, t76)).bindT fun a133 t134 => R.ok ((a133, t134)) else ((((R.ok value_)).bind fun a135 => R.ok (PyData.bool (isT "str" a135))).bind tru).bind fun b136 => if b136 then ((((((R.ok (PyData.str ""))).bind fun a153 => (((R.ok (PyData.str "line"))).bind fun a151 => (((R.ok (PyData.str "A"))).bind fun a149 => (((R.ok PyData.none)).bind fun a147 => (((R.ok (PyData.int 0))).bind fun a145 => (((R.ok (PyData.str "join"))).bind fun a143 => (((R.ok (PyData.str "nest"))).bind fun a141 => (((R.ok (PyData.str "text"))).bind fun a139 => (((R.ok (PyData.str "either"))).bind fun a137 => ((R.ok [])).bind fun a138 => R.ok (a137 :: a138)).bind fun a140 => R.ok (a139 :: a140)).bind fun a142 => R.ok (a141 :: a142)).bind fun a144 => R.ok (a143 :: a144)).bind fun a146 => R.ok (a145 :: a146)).bind fun a148 => R.ok (a147 :: a148)).bind fun a150 => R.ok (a149 :: a150)).bind fun a152 => R.ok (a151 :: a152)).bind fun a154 => R.ok (a153 :: a154)).bind fun a155 => chkL a155 (PyData.list a155)).bind fun a156 => ((R.ok pick_75)).bind fun a157 => fIx a156 a157).bind fun x_ => R.ok (x_, t76)).bindT fun a158 t159 => R.ok ((a158, t159)) else ((((((R.ok (PyData.int 0))).bind fun a176 => (((R.ok (PyData.int 101))).bind fun a174 => ((((R.ok (PyData.int 1))).bind fNeg).bind fun a172 => (((R.ok (PyData.bool true))).bind fun a170 => (((R.ok PyData.none)).bind fun a168 => (((R.ok (PyData.str "3"))).bind fun a166 => (((R.ok (PyData.int 100))).bind fun a164 => (((R.ok (PyData.bool false))).bind fun a162 => (((R.ok (PyData.int 9))).bind fun a160 => ((R.ok [])).bind fun a161 => R.ok (a160 :: a161)).bind fun a163 => R.ok (a162 :: a163)).bind fun a165 => R.ok (a164 :: a165)).bind fun a167 => R.ok (a166 :: a167)).bind fun a169 => R.ok (a168 :: a169)).bind fun a171 => R.ok (a170 :: a171)).bind fun a173 => R.ok (a172 :: a173)).bind fun a175 => R.ok (a174 :: a175)).bind fun a177 => R.ok (a176 :: a177)).bind fun a178 => chkL a178 (PyData.list a178)).bind fun a179 => ((R.ok pick_75)).bind fun a180 => fIx a179 a180).bind fun x_ => R.ok (x_, t76)).bindT fun a181 t182 => R.ok ((a181, t182))
theorem sf__law_bent {c__law_draw : Sem1} {f__law_draw : Tp → PyData → R (PyData × Tp)} (H__law_draw : SemT c__law_draw (apT1 f__law_draw)) {c__law_bent : Sem1} {f__law_bent : Tp → PyData → R (PyData × Tp)} (H__law_bent : SemT c__law_bent (apT1 f__law_bent)) : SemT (runDef 4 2 (den__law_bent c__law_draw c__law_bent)) (apT1 (fn__law_bent f__law_draw f__law_bent)) := semT1 fun t value_ => sg_last (sg_assoc (sg_ifT (t_andB (Pg.t (τ := (fun t_ => [.tp t_, .d value_, .u, .u])) (p_test (p_isi (p_var 1))) rfl) (fun t3 => t_andB (Pg.t (τ := (fun t_ => [.tp t_, .d value_, .u, .u])) (p_testB (p_op2 (p_var 1) (p_tup (p_nil)))) rfl) (fun t8 => t_testB (t_op2 (t_callR 0 H__law_draw (t_cons (Pg.t (τ := (fun t_ => [.tp t_, .d value_, .u, .u])) (p_c _) rfl) (fun t10 => Pg.t (τ := (fun t_ => [.tp t_, .d value_, .u, .u])) (p_nil) rfl))) (fun t16 => Pg.t (τ := (fun t_ => [.tp t_, .d value_, .u, .u])) (p_c _) rfl))))) (fun t22 => sg_assoc (sg_setT (t_callR 0 H__law_draw (t_cons (Pg.t (τ := (fun t_ => [.tp t_, .d value_, .u, .u])) (p_opA (p_cons (p_var 1) (p_nil))) rfl) (fun t26 => Pg.t (τ := (fun t_ => [.tp t_, .d value_, .u, .u])) (p_nil) rfl))) (fun at_31 t32 =>
    sg_retS (sg_retT (fun a67 t68 => (a67, t68)) (t_op2 (t_op2 (Pg.t (τ := (fun t_ => [.tp t_, .d value_, .d at_31, .u])) (p_sl (p_var 1) (p_no) (p_some (p_var 2))) rfl) (fun t39 => t_tup (t_cons (t_callR 0 H__law_bent (t_cons (Pg.t (τ := (fun t_ => [.tp t_, .d value_, .d at_31, .u])) (p_op2 (p_var 1) (p_var 2)) rfl) (fun t43 => Pg.t (τ := (fun t_ => [.tp t_, .d value_, .d at_31, .u])) (p_nil) rfl))) (fun t49 => Pg.t (τ := (fun t_ => [.tp t_, .d value_, .d at_31, .u])) (p_nil) rfl)))) (fun t57 => Pg.t (τ := (fun t_ => [.tp t_, .d value_, .d at_31, .u])) (p_sl (p_var 1) (p_some (p_op2 (p_var 2) (p_c _))) (p_no)) rfl)) (fun _ _ => .inl ⟨_, rfl, rfl⟩))))) (fun t22 => sg_next (sg_assoc (sg_setT (t_callR 0 H__law_draw (t_cons (Pg.t (τ := (fun t_ => [.tp t_, .d value_, .u, .u])) (p_c _) rfl) (fun t70 => Pg.t (τ := (fun t_ => [.tp t_, .d value_, .u, .u])) (p_nil) rfl))) (fun pick_75 t76 =>
    sg_assoc (sg_if (p_test (p_isi (p_var 1))) (sg_retS (sg_retT (fun a133 t134 => (a133, t134)) (Pg.t (τ := (fun t_ => [.tp t_, .d value_, .u, .d pick_75])) (p_op2 (p_lst (p_cons (p_tup (p_nil)) (p_cons (p_op2 (p_var 1) (p_sl (p_var 1) (p_no) (p_some (p_c _)))) (p_cons (p_sl (p_var 1) (p_some (p_c _)) (p_no)) (p_cons (p_op1 (p_var 1)) (p_cons (p_tup (p_cons (p_c _) (p_cons (p_var 1) (p_nil)))) (p_cons (p_op2 (p_var 1) (p_tup (p_cons (p_c _) (p_nil)))) (p_cons (p_c _) (p_cons (p_tup (p_cons (p_c _) (p_cons (p_c _) (p_nil)))) (p_cons (p_tup (p_cons (p_c _) (p_cons (p_c _) (p_nil)))) (p_nil))))))))))) (p_var 3)) rfl) (fun _ _ => .inl ⟨_, rfl, rfl⟩))) (sg_next (sg_assoc (sg_if (p_test (p_isi (p_var 1))) (sg_retS (sg_retT (fun a158 t159 => (a158, t159)) (Pg.t (τ := (fun t_ => [.tp t_, .d value_, .u, .d pick_75])) (p_op2 (p_lst (p_cons (p_c _) (p_cons (p_c _) (p_cons (p_c _) (p_cons (p_c _) (p_cons (p_c _) (p_cons (p_c _) (p_cons (p_c _) (p_cons (p_c _) (p_cons (p_c _) (p_nil))))))))))) (p_var 3)) rfl) (fun _ _ => .inl ⟨_, rfl, rfl⟩))) (sg_next (sg_retS (sg_retT (fun a181 t182 => (a181, t182)) (Pg.t (τ := (fun t_ => [.tp t_, .d value_, .u, .d pick_75])) (p_op2 (p_lst (p_cons (p_c _) (p_cons (p_c _) (p_cons (p_op1 (p_c _)) (p_cons (p_c _) (p_cons (p_c _) (p_cons (p_c _) (p_cons (p_c _) (p_cons (p_c _) (p_cons (p_c _) (p_nil))))))))))) (p_var 3)) rfl) (fun _ _ => .inl ⟨_, rfl, rfl⟩))))))))))))))
def fn__law_sized (f__law_sized : PyData → R PyData) (document_ : PyData) : R PyData :=
  ((((((R.ok document_)).bind fun a1 => ((R.ok (PyData.int 0))).bind fun a2 => fIx a1 a2).bind fun a8 => ((((R.ok (PyData.str "nest"))).bind fun a5 => (((R.ok (PyData.str "dear"))).bind fun a3 => ((R.ok [])).bind fun a4 => R.ok (a3 :: a4)).bind fun a6 => R.ok (a5 :: a6)).bind fun a7 => chkL a7 (PyData.tuple a7)).bind fun a9 => fIn a8 a9).bind isBl).bind fun b26 => if b26 then ((R.ok document_)).bind fun a12 => ((((R.ok (PyData.int 2))).bind fun a10 => (isI a10).bind fun i11 => R.ok (some i11))).bind fun l13 => ((R.ok none)).bind fun h14 => fSl a12 l13 h14 else (((((R.ok document_)).bind fun a15 => ((R.ok (PyData.int 0))).bind fun a16 => fIx a15 a16).bind fun a17 => ((R.ok (PyData.str "text"))).bind fun a18 => fEq a17 a18).bind isBl).bind fun b25 => if b25 then ((R.ok [])).bind fun a19 => chkL a19 (PyData.tuple a19) else ((R.ok document_)).bind fun a22 => ((((R.ok (PyData.int 1))).bind fun a20 => (isI a20).bind fun i21 => R.ok (some i21))).bind fun l23 => ((R.ok none)).bind fun h24 => fSl a22 l23 h24).bind fun parts_27 =>
    (((R.ok (PyData.int 1))).bind fun a34 => ((((((R.ok parts_27)).bind itemsOf).bind fun xs31 => lcR xs31 (mapR (fun x28 => (((R.ok x28)).bind fun a29 => ((R.ok [])).bind fun a30 => R.ok (a29 :: a30)).bind (ap1 f__law_sized)) xs31)).bind fun a32 => ((R.ok [])).bind fun a33 => R.ok (a32 :: a33)).bind fSum).bind fun a35 => fAdd a34 a35).bind fun a36 => R.ok (a36)
theorem sf__law_sized {c__law_sized : Sem1} {f__law_sized : PyData → R PyData} (H__law_sized : SemP c__law_sized (ap1 f__law_sized)) : SemP (runDef 3 1 (den__law_sized c__law_sized)) (ap1 (fn__law_sized f__law_sized)) := semP1 fun document_ => sg_last (sg_assoc (sg_set (p_if (p_testB (p_op2 (p_op2 (p_var 0) (p_c _)) (p_tup (p_cons (p_c _) (p_cons (p_c _) (p_nil)))))) (p_sl (p_var 0) (p_some (p_c _)) (p_no)) (p_if (p_testB (p_op2 (p_op2 (p_var 0) (p_c _)) (p_c _))) (p_tup (p_nil)) (p_sl (p_var 0) (p_some (p_c _)) (p_no)))) (fun parts_27 =>
    sg_retS (sg_ret (fun a36 => a36) (p_op2 (p_c _) (p_opA (p_cons (p_lc (p_seqI (p_var 1)) (tn1 (ρa := fun x28 => [.d document_, .d parts_27, .d x28]) (fun x28 => p_call H__law_sized (p_cons (p_var 2) (p_nil))))) (p_nil)))) (fun _ => .inl ⟨_, rfl⟩)))))
def fn_law (f__law_errors : R PyData) (f__law_draw : Tp → PyData → R (PyData × Tp)) (f__law_same : PyData → PyData → R PyData) (f__law_is_text : PyData → R PyData) (f__law_is_sign : PyData → R PyData) (f__law_is_name : PyData → R PyData) (f_is_text : PyData → R PyData) (f_is_sign : PyData → R PyData) (f_is_name : PyData → R PyData) (f__law_document : Tp → PyData → R (PyData × Tp)) (f__law_bent : Tp → PyData → R (PyData × Tp)) (f__law_is_document : PyData → PyData → R PyData) (f_is_document : PyData → R PyData) (f__law_sized : PyData → R PyData) (f_size_of : PyData → R PyData) (f_parts_of : PyData → R PyData) (t : Tp) : R PyData :=
  ((((((R.ok [])).bind (ap0 f__law_errors)).bind tru).bind fun b1 => R.ok (!b1)).bind fun b3 => if b3 then R.ok true else (((((R.ok k_LONGEST)).bind fun a10 => (((R.ok k_MOST_PARTS)).bind fun a8 => (((R.ok k_MOST_DEEP)).bind fun a6 => (((R.ok k_GREATEST)).bind fun a4 => ((R.ok [])).bind fun a5 => R.ok (a4 :: a5)).bind fun a7 => R.ok (a6 :: a7)).bind fun a9 => R.ok (a8 :: a9)).bind fun a11 => R.ok (a10 :: a11)).bind fun a12 => chkL a12 (PyData.tuple a12)).bind fun a22 => ((((R.ok (PyData.int 40))).bind fun a19 => (((R.ok (PyData.int 8))).bind fun a17 => (((R.ok (PyData.int 12))).bind fun a15 => (((R.ok (PyData.int 100))).bind fun a13 => ((R.ok [])).bind fun a14 => R.ok (a13 :: a14)).bind fun a16 => R.ok (a15 :: a16)).bind fun a18 => R.ok (a17 :: a18)).bind fun a20 => R.ok (a19 :: a20)).bind fun a21 => chkL a21 (PyData.tuple a21)).bind fun a23 => fNe a22 a23).bind isBl).bind fun b24 => if b24 then ((R.ok (PyData.bool false))).bind fun a25 => R.ok (a25) else ((((R.ok (PyData.str ""))).bind fun x_ => R.ok (x_, t)).bindT fun a26 t27 => ((((((((R.ok (PyData.int 10))).bind fun x_ => R.ok (x_, t27)).bindT fun a28 t29 => (((R.ok [])).bind fun x_ => R.ok (x_, t29)).bindT fun a30 t31 => R.ok (a28 :: a30, t31)).bindT fun a32 t33 => apT1 f__law_draw t33 a32).bindT fun a34 t35 => (((R.ok [])).bind fun x_ => R.ok (x_, t35)).bindT fun a36 t37 => R.ok (a34 :: a36, t37)).bindT fun a38 t39 => (rng1F a38).bind fun xs_ => R.ok (xs_, t39)).bindT fun xs52 t53 => lcT xs52 (mapT (fun x40 t41 => (((R.ok (PyData.str "ab [A_"))).bind fun x_ => R.ok (x_, t41)).bindT fun a42 t43 => (((((R.ok (PyData.int 6))).bind fun x_ => R.ok (x_, t43)).bindT fun a44 t45 => (((R.ok [])).bind fun x_ => R.ok (x_, t45)).bindT fun a46 t47 => R.ok (a44 :: a46, t47)).bindT fun a48 t49 => apT1 f__law_draw t49 a48).bindT fun a50 t51 => (fIx a42 a50).bind fun d_ => R.ok (d_, t51)) xs52 t53)).bindT fun a54 t55 => (fJoin a26 a54).bind fun d_ => R.ok (d_, t55)).bindT fun text_56 t57 =>
    (((((R.ok text_56)).bind fun a95 => (((R.ok (PyData.str "all"))).bind fun a93 => (((R.ok (PyData.str "none"))).bind fun a91 => (((R.ok PyData.none)).bind fun a89 => (((R.ok (PyData.int 5))).bind fun a87 => (((((R.ok (PyData.str "a"))).bind fun a58 => ((R.ok [])).bind fun a59 => R.ok (a58 :: a59)).bind fun a60 => chkL a60 (PyData.tuple a60)).bind fun a85 => (((R.ok (PyData.str "abcdefgh"))).bind fun a83 => (((R.ok (PyData.str "abcdefghi"))).bind fun a81 => (((R.ok (PyData.str ""))).bind fun a79 => (((R.ok (PyData.str "a"))).bind fun a77 => (((R.ok (PyData.str " "))).bind fun a75 => ((((R.ok (PyData.str "a"))).bind fun a61 => ((R.ok (PyData.int 40))).bind fun a62 => fMul a61 a62).bind fun a73 => ((((R.ok (PyData.str "a"))).bind fun a63 => ((R.ok (PyData.int 41))).bind fun a64 => fMul a63 a64).bind fun a71 => (((R.ok (PyData.str "a\n"))).bind fun a69 => (((R.ok (PyData.str "~"))).bind fun a67 => (((R.ok (PyData.str "+-*/=<>(),.;:[]{}!?_"))).bind fun a65 => ((R.ok [])).bind fun a66 => R.ok (a65 :: a66)).bind fun a68 => R.ok (a67 :: a68)).bind fun a70 => R.ok (a69 :: a70)).bind fun a72 => R.ok (a71 :: a72)).bind fun a74 => R.ok (a73 :: a74)).bind fun a76 => R.ok (a75 :: a76)).bind fun a78 => R.ok (a77 :: a78)).bind fun a80 => R.ok (a79 :: a80)).bind fun a82 => R.ok (a81 :: a82)).bind fun a84 => R.ok (a83 :: a84)).bind fun a86 => R.ok (a85 :: a86)).bind fun a88 => R.ok (a87 :: a88)).bind fun a90 => R.ok (a89 :: a90)).bind fun a92 => R.ok (a91 :: a92)).bind fun a94 => R.ok (a93 :: a94)).bind fun a96 => R.ok (a95 :: a96)).bind fun a97 => chkL a97 (PyData.tuple a97)).bind itemsOf).bind fun xs402 => (forR (S := Unit) (D := PyData) (fun x99 s98 => ((((((((((R.ok x99)).bind fun a100 => ((R.ok [])).bind fun a101 => R.ok (a100 :: a101)).bind (ap1 f_is_name)).bind fun a110 => (((((R.ok x99)).bind fun a102 => ((R.ok [])).bind fun a103 => R.ok (a102 :: a103)).bind (ap1 f_is_sign)).bind fun a108 => (((((R.ok x99)).bind fun a104 => ((R.ok [])).bind fun a105 => R.ok (a104 :: a105)).bind (ap1 f_is_text)).bind fun a106 => ((R.ok [])).bind fun a107 => R.ok (a106 :: a107)).bind fun a109 => R.ok (a108 :: a109)).bind fun a111 => R.ok (a110 :: a111)).bind fun a112 => chkL a112 (PyData.tuple a112)).bind fun a128 => (((((((R.ok x99)).bind fun a113 => ((R.ok [])).bind fun a114 => R.ok (a113 :: a114)).bind (ap1 f__law_is_name)).bind fun a123 => (((((R.ok x99)).bind fun a115 => ((R.ok [])).bind fun a116 => R.ok (a115 :: a116)).bind (ap1 f__law_is_sign)).bind fun a121 => (((((R.ok x99)).bind fun a117 => ((R.ok [])).bind fun a118 => R.ok (a117 :: a118)).bind (ap1 f__law_is_text)).bind fun a119 => ((R.ok [])).bind fun a120 => R.ok (a119 :: a120)).bind fun a122 => R.ok (a121 :: a122)).bind fun a124 => R.ok (a123 :: a124)).bind fun a125 => chkL a125 (PyData.tuple a125)).bind fun a126 => ((R.ok [])).bind fun a127 => R.ok (a126 :: a127)).bind fun a129 => R.ok (a128 :: a129)).bind (ap2 f__law_same)).bind tru).bind fun b130 => R.ok (!b130)).bind fun b132 => if b132 then ((R.ok (PyData.bool false))).bind fun a133 => R.ok (LR.rt a133) else R.ok (LR.nx ())) xs402 ()).bind (finL (fun s134 => (((((((R.ok (PyData.int 4))).bind fun x_ => R.ok (x_, t57)).bindT fun a137 t138 => (((R.ok [])).bind fun x_ => R.ok (x_, t138)).bindT fun a139 t140 => R.ok (a137 :: a139, t140)).bindT fun a141 t142 => apT1 f__law_document t142 a141).bindT fun a143 t144 => ((((((R.ok (PyData.str "line"))).bind fun a145 => ((R.ok [])).bind fun a146 => R.ok (a145 :: a146)).bind fun a147 => chkL a147 (PyData.tuple a147)).bind fun x_ => R.ok (x_, t144)).bindT fun a148 t149 => (((R.ok [])).bind fun x_ => R.ok (x_, t149)).bindT fun a150 t151 => R.ok (a148 :: a150, t151)).bindT fun a152 t153 => R.ok (a143 :: a152, t153)).bindT fun a154 t155 => (chkL a154 (PyData.tuple a154)).bind fun d_ => R.ok (d_, t155)).bindT fun a156 t157 => un2 a156 fun document_135 deep_136 => (((((R.ok k_MOST_DEEP)).bind fun a158 => ((R.ok (PyData.int 1))).bind fun a159 => fSub a158 a159).bind fun a160 => ((R.ok [])).bind fun a161 => R.ok (a160 :: a161)).bind rng1F).bind fun xs401 => (forR (S := PyData) (D := PyData) (fun x163 s162 => ((((R.ok (PyData.str "group"))).bind fun a166 => (((R.ok s162)).bind fun a164 => ((R.ok [])).bind fun a165 => R.ok (a164 :: a165)).bind fun a167 => R.ok (a166 :: a167)).bind fun a168 => chkL a168 (PyData.tuple a168)).bind fun deep_169 =>
    R.ok (LR.nx deep_169)) xs401 deep_136).bind (finL (fun s170 => ((((R.ok (PyData.str "line"))).bind fun a171 => ((R.ok [])).bind fun a172 => R.ok (a171 :: a172)).bind fun a173 => chkL a173 (PyData.tuple a173)).bind fun line_174 =>
    (((((((R.ok document_135)).bind fun a277 => (((R.ok s170)).bind fun a275 => (((((R.ok (PyData.str "group"))).bind fun a177 => (((R.ok s170)).bind fun a175 => ((R.ok [])).bind fun a176 => R.ok (a175 :: a176)).bind fun a178 => R.ok (a177 :: a178)).bind fun a179 => chkL a179 (PyData.tuple a179)).bind fun a273 => (((((R.ok (PyData.str "join"))).bind fun a180 => ((R.ok [])).bind fun a181 => R.ok (a180 :: a181)).bind fun a182 => chkL a182 (PyData.tuple a182)).bind fun a271 => ((((((R.ok (PyData.str "join"))).bind fun a183 => ((R.ok [])).bind fun a184 => R.ok (a183 :: a184)).bind fun a185 => chkL a185 (PyData.tuple a185)).bind fun a191 => (((((R.ok line_174)).bind fun a186 => ((R.ok [])).bind fun a187 => R.ok (a186 :: a187)).bind fun a188 => chkL a188 (PyData.tuple a188)).bind fun a189 => ((R.ok (PyData.int 8))).bind fun a190 => fMul a189 a190).bind fun a192 => fAdd a191 a192).bind fun a269 => ((((((R.ok (PyData.str "join"))).bind fun a193 => ((R.ok [])).bind fun a194 => R.ok (a193 :: a194)).bind fun a195 => chkL a195 (PyData.tuple a195)).bind fun a201 => (((((R.ok line_174)).bind fun a196 => ((R.ok [])).bind fun a197 => R.ok (a196 :: a197)).bind fun a198 => chkL a198 (PyData.tuple a198)).bind fun a199 => ((R.ok (PyData.int 9))).bind fun a200 => fMul a199 a200).bind fun a202 => fAdd a201 a202).bind fun a267 => (((((R.ok (PyData.str "nest"))).bind fun a207 => (((R.ok (PyData.int 100))).bind fun a205 => (((R.ok line_174)).bind fun a203 => ((R.ok [])).bind fun a204 => R.ok (a203 :: a204)).bind fun a206 => R.ok (a205 :: a206)).bind fun a208 => R.ok (a207 :: a208)).bind fun a209 => chkL a209 (PyData.tuple a209)).bind fun a265 => (((((R.ok (PyData.str "nest"))).bind fun a214 => (((R.ok (PyData.int 101))).bind fun a212 => (((R.ok line_174)).bind fun a210 => ((R.ok [])).bind fun a211 => R.ok (a210 :: a211)).bind fun a213 => R.ok (a212 :: a213)).bind fun a215 => R.ok (a214 :: a215)).bind fun a216 => chkL a216 (PyData.tuple a216)).bind fun a263 => (((((R.ok (PyData.str "nest"))).bind fun a221 => ((((R.ok (PyData.int 1))).bind fNeg).bind fun a219 => (((R.ok line_174)).bind fun a217 => ((R.ok [])).bind fun a218 => R.ok (a217 :: a218)).bind fun a220 => R.ok (a219 :: a220)).bind fun a222 => R.ok (a221 :: a222)).bind fun a223 => chkL a223 (PyData.tuple a223)).bind fun a261 => (((((R.ok (PyData.str "dear"))).bind fun a228 => (((R.ok (PyData.bool true))).bind fun a226 => (((R.ok line_174)).bind fun a224 => ((R.ok [])).bind fun a225 => R.ok (a224 :: a225)).bind fun a227 => R.ok (a226 :: a227)).bind fun a229 => R.ok (a228 :: a229)).bind fun a230 => chkL a230 (PyData.tuple a230)).bind fun a259 => (((((R.ok (PyData.str "either"))).bind fun a233 => (((R.ok line_174)).bind fun a231 => ((R.ok [])).bind fun a232 => R.ok (a231 :: a232)).bind fun a234 => R.ok (a233 :: a234)).bind fun a235 => chkL a235 (PyData.tuple a235)).bind fun a257 => (((((R.ok (PyData.str "flat"))).bind fun a238 => (((R.ok line_174)).bind fun a236 => ((R.ok [])).bind fun a237 => R.ok (a236 :: a237)).bind fun a239 => R.ok (a238 :: a239)).bind fun a240 => chkL a240 (PyData.tuple a240)).bind fun a255 => (((((R.ok (PyData.str "flat"))).bind fun a241 => ((R.ok [])).bind fun a242 => R.ok (a241 :: a242)).bind fun a243 => chkL a243 (PyData.tuple a243)).bind fun a253 => ((((R.ok [])).bind fun a244 => chkL a244 (PyData.tuple a244)).bind fun a251 => (((R.ok PyData.none)).bind fun a249 => (((R.ok (PyData.int 0))).bind fun a247 => (((R.ok (PyData.str "line"))).bind fun a245 => ((R.ok [])).bind fun a246 => R.ok (a245 :: a246)).bind fun a248 => R.ok (a247 :: a248)).bind fun a250 => R.ok (a249 :: a250)).bind fun a252 => R.ok (a251 :: a252)).bind fun a254 => R.ok (a253 :: a254)).bind fun a256 => R.ok (a255 :: a256)).bind fun a258 => R.ok (a257 :: a258)).bind fun a260 => R.ok (a259 :: a260)).bind fun a262 => R.ok (a261 :: a262)).bind fun a264 => R.ok (a263 :: a264)).bind fun a266 => R.ok (a265 :: a266)).bind fun a268 => R.ok (a267 :: a268)).bind fun a270 => R.ok (a269 :: a270)).bind fun a272 => R.ok (a271 :: a272)).bind fun a274 => R.ok (a273 :: a274)).bind fun a276 => R.ok (a275 :: a276)).bind fun a278 => R.ok (a277 :: a278)).bind fun a279 => chkL a279 (PyData.list a279)).bind fun x_ => R.ok (x_, t157)).bindT fun a280 t281 => ((((((R.ok (PyData.int 14))).bind fun a282 => ((R.ok [])).bind fun a283 => R.ok (a282 :: a283)).bind rng1F).bind fun x_ => R.ok (x_, t281)).bindT fun xs292 t293 => lcT xs292 (mapT (fun x284 t285 => ((((R.ok document_135)).bind fun x_ => R.ok (x_, t285)).bindT fun a286 t287 => (((R.ok [])).bind fun x_ => R.ok (x_, t287)).bindT fun a288 t289 => R.ok (a286 :: a288, t289)).bindT fun a290 t291 => apT1 f__law_bent t291 a290) xs292 t293)).bindT fun a294 t295 => (fAdd a280 a294).bind fun d_ => R.ok (d_, t295)).bindT fun a296 t297 => (itemsOf a296).bind fun xs_ => R.ok (xs_, t297)).bindT fun xs400 t298 => (forR (S := Tp) (D := PyData) (fun x300 s299 => ((((((((R.ok x300)).bind fun a301 => ((R.ok [])).bind fun a302 => R.ok (a301 :: a302)).bind (ap1 f_is_document)).bind fun a309 => (((((R.ok x300)).bind fun a305 => (((R.ok (PyData.int 12))).bind fun a303 => ((R.ok [])).bind fun a304 => R.ok (a303 :: a304)).bind fun a306 => R.ok (a305 :: a306)).bind (ap2 f__law_is_document)).bind fun a307 => ((R.ok [])).bind fun a308 => R.ok (a307 :: a308)).bind fun a310 => R.ok (a309 :: a310)).bind (ap2 f__law_same)).bind tru).bind fun b311 => R.ok (!b311)).bind fun b313 => if b313 then ((R.ok (PyData.bool false))).bind fun a314 => R.ok (LR.rt a314) else R.ok (LR.nx s299)) xs400 t298).bind (finL (fun s315 => (((((R.ok document_135)).bind fun a341 => (((R.ok s170)).bind fun a339 => (((((R.ok (PyData.str "join"))).bind fun a316 => ((R.ok [])).bind fun a317 => R.ok (a316 :: a317)).bind fun a318 => chkL a318 (PyData.tuple a318)).bind fun a337 => (((R.ok line_174)).bind fun a335 => (((((R.ok (PyData.str "text"))).bind fun a321 => (((R.ok (PyData.str "ab"))).bind fun a319 => ((R.ok [])).bind fun a320 => R.ok (a319 :: a320)).bind fun a322 => R.ok (a321 :: a322)).bind fun a323 => chkL a323 (PyData.tuple a323)).bind fun a333 => (((((R.ok (PyData.str "dear"))).bind fun a328 => (((R.ok (PyData.int 3))).bind fun a326 => (((R.ok line_174)).bind fun a324 => ((R.ok [])).bind fun a325 => R.ok (a324 :: a325)).bind fun a327 => R.ok (a326 :: a327)).bind fun a329 => R.ok (a328 :: a329)).bind fun a330 => chkL a330 (PyData.tuple a330)).bind fun a331 => ((R.ok [])).bind fun a332 => R.ok (a331 :: a332)).bind fun a334 => R.ok (a333 :: a334)).bind fun a336 => R.ok (a335 :: a336)).bind fun a338 => R.ok (a337 :: a338)).bind fun a340 => R.ok (a339 :: a340)).bind fun a342 => R.ok (a341 :: a342)).bind fun a343 => chkL a343 (PyData.tuple a343)).bind itemsOf).bind fun xs399 => (forR (S := Unit) (D := PyData) (fun x345 s344 => ((((((R.ok x345)).bind fun a346 => ((R.ok (PyData.int 0))).bind fun a347 => fIx a346 a347).bind fun a353 => ((((R.ok (PyData.str "nest"))).bind fun a350 => (((R.ok (PyData.str "dear"))).bind fun a348 => ((R.ok [])).bind fun a349 => R.ok (a348 :: a349)).bind fun a351 => R.ok (a350 :: a351)).bind fun a352 => chkL a352 (PyData.tuple a352)).bind fun a354 => fIn a353 a354).bind isBl).bind fun b371 => if b371 then ((R.ok x345)).bind fun a357 => ((((R.ok (PyData.int 2))).bind fun a355 => (isI a355).bind fun i356 => R.ok (some i356))).bind fun l358 => ((R.ok none)).bind fun h359 => fSl a357 l358 h359 else (((((R.ok x345)).bind fun a360 => ((R.ok (PyData.int 0))).bind fun a361 => fIx a360 a361).bind fun a362 => ((R.ok (PyData.str "text"))).bind fun a363 => fEq a362 a363).bind isBl).bind fun b370 => if b370 then ((R.ok [])).bind fun a364 => chkL a364 (PyData.tuple a364) else ((R.ok x345)).bind fun a367 => ((((R.ok (PyData.int 1))).bind fun a365 => (isI a365).bind fun i366 => R.ok (some i366))).bind fun l368 => ((R.ok none)).bind fun h369 => fSl a367 l368 h369).bind fun parts_372 =>
    ((((((((((R.ok x345)).bind fun a373 => ((R.ok [])).bind fun a374 => R.ok (a373 :: a374)).bind (ap1 f_parts_of)).bind fun a379 => (((((R.ok x345)).bind fun a375 => ((R.ok [])).bind fun a376 => R.ok (a375 :: a376)).bind (ap1 f_size_of)).bind fun a377 => ((R.ok [])).bind fun a378 => R.ok (a377 :: a378)).bind fun a380 => R.ok (a379 :: a380)).bind fun a381 => chkL a381 (PyData.tuple a381)).bind fun a391 => (((((R.ok parts_372)).bind fun a386 => (((((R.ok x345)).bind fun a382 => ((R.ok [])).bind fun a383 => R.ok (a382 :: a383)).bind (ap1 f__law_sized)).bind fun a384 => ((R.ok [])).bind fun a385 => R.ok (a384 :: a385)).bind fun a387 => R.ok (a386 :: a387)).bind fun a388 => chkL a388 (PyData.tuple a388)).bind fun a389 => ((R.ok [])).bind fun a390 => R.ok (a389 :: a390)).bind fun a392 => R.ok (a391 :: a392)).bind (ap2 f__law_same)).bind tru).bind fun b393 => R.ok (!b393)).bind fun b395 => if b395 then ((R.ok (PyData.bool false))).bind fun a396 => R.ok (LR.rt a396) else R.ok (LR.nx ())) xs399 ()).bind (finL (fun s397 => ((R.ok (PyData.bool true))).bind fun a398 => R.ok (a398)) (fun d_ => d_))) (fun d_ => d_))) (fun d_ => d_))) (fun d_ => d_))
theorem sf_law {c__law_errors : Sem1} {f__law_errors : R PyData} (H__law_errors : SemP c__law_errors (ap0 f__law_errors)) {c__law_draw : Sem1} {f__law_draw : Tp → PyData → R (PyData × Tp)} (H__law_draw : SemT c__law_draw (apT1 f__law_draw)) {c__law_same : Sem1} {f__law_same : PyData → PyData → R PyData} (H__law_same : SemP c__law_same (ap2 f__law_same)) {c__law_is_text : Sem1} {f__law_is_text : PyData → R PyData} (H__law_is_text : SemP c__law_is_text (ap1 f__law_is_text)) {c__law_is_sign : Sem1} {f__law_is_sign : PyData → R PyData} (H__law_is_sign : SemP c__law_is_sign (ap1 f__law_is_sign)) {c__law_is_name : Sem1} {f__law_is_name : PyData → R PyData} (H__law_is_name : SemP c__law_is_name (ap1 f__law_is_name)) {c_is_text : Sem1} {f_is_text : PyData → R PyData} (H_is_text : SemP c_is_text (ap1 f_is_text)) {c_is_sign : Sem1} {f_is_sign : PyData → R PyData} (H_is_sign : SemP c_is_sign (ap1 f_is_sign)) {c_is_name : Sem1} {f_is_name : PyData → R PyData} (H_is_name : SemP c_is_name (ap1 f_is_name)) {c__law_document : Sem1} {f__law_document : Tp → PyData → R (PyData × Tp)} (H__law_document : SemT c__law_document (apT1 f__law_document)) {c__law_bent : Sem1} {f__law_bent : Tp → PyData → R (PyData × Tp)} (H__law_bent : SemT c__law_bent (apT1 f__law_bent)) {c__law_is_document : Sem1} {f__law_is_document : PyData → PyData → R PyData} (H__law_is_document : SemP c__law_is_document (ap2 f__law_is_document)) {c_is_document : Sem1} {f_is_document : PyData → R PyData} (H_is_document : SemP c_is_document (ap1 f_is_document)) {c__law_sized : Sem1} {f__law_sized : PyData → R PyData} (H__law_sized : SemP c__law_sized (ap1 f__law_sized)) {c_size_of : Sem1} {f_size_of : PyData → R PyData} (H_size_of : SemP c_size_of (ap1 f_size_of)) {c_parts_of : Sem1} {f_parts_of : PyData → R PyData} (H_parts_of : SemP c_parts_of (ap1 f_parts_of)) (ns : List Int) : Sg (den_law c__law_errors c__law_draw c__law_same c__law_is_text c__law_is_sign c__law_is_name c_is_text c_is_sign c_is_name c__law_document c__law_bent c__law_is_document c_is_document c__law_sized c_size_of c_parts_of ns) ((List.replicate 11 .u).set 0 .tb) OutF (fn_law f__law_errors f__law_draw f__law_same f__law_is_text f__law_is_sign f__law_is_name f_is_text f_is_sign f_is_name f__law_document f__law_bent f__law_is_document f_is_document f__law_sized f_size_of f_parts_of (newTp ns)) := by
  generalize ht : newTp ns = t
  show Sg _ _ OutF (fn_law f__law_errors f__law_draw f__law_same f__law_is_text f__law_is_sign f__law_is_name f_is_text f_is_sign f_is_name f__law_document f__law_bent f__law_is_document f_is_document f__law_sized f_size_of f_parts_of t)
  refine sg_box (j := 1) ?_ (by decide)
  rw [ht]
  exact sg_last (sg_assoc (sg_if (p_orB (p_notB (p_test (p_call H__law_errors (p_nil)))) (p_testB (p_op2 (p_tup (p_cons (p_c _) (p_cons (p_c _) (p_cons (p_c _) (p_cons (p_c _) (p_nil)))))) (p_tup (p_cons (p_c _) (p_cons (p_c _) (p_cons (p_c _) (p_cons (p_c _) (p_nil))))))))) (sg_retS (sg_ret (fun a25 => a25) (p_c _) (fun _ => .inl ⟨_, rfl⟩))) (sg_next (sg_assoc (sg_setT (t_op2 (Pg.t (τ := (fun t_ => [.tb, .tp t_, .u, .u, .u, .u, .u, .u, .u, .u, .u])) (p_c _) rfl) (fun t27 => t_lc (t_rng1 (t_cons (t_callR 1 H__law_draw (t_cons (Pg.t (τ := (fun t_ => [.tb, .tp t_, .u, .u, .u, .u, .u, .u, .u, .u, .u])) (p_c _) rfl) (fun t29 => Pg.t (τ := (fun t_ => [.tb, .tp t_, .u, .u, .u, .u, .u, .u, .u, .u, .u])) (p_nil) rfl))) (fun t35 => Pg.t (τ := (fun t_ => [.tb, .tp t_, .u, .u, .u, .u, .u, .u, .u, .u, .u])) (p_nil) rfl))) (tnT1 (ρa := fun x40 t41 => [.tb, .tp t41, .u, .u, .u, .u, .u, .u, .u, .u, .d x40]) (fun x40 t41 => t_op2 (Pg.t (τ := (fun t_ => [.tb, .tp t_, .u, .u, .u, .u, .u, .u, .u, .u, .d x40])) (p_c _) rfl) (fun t43 => t_callR 1 H__law_draw (t_cons (Pg.t (τ := (fun t_ => [.tb, .tp t_, .u, .u, .u, .u, .u, .u, .u, .u, .d x40])) (p_c _) rfl) (fun t45 => Pg.t (τ := (fun t_ => [.tb, .tp t_, .u, .u, .u, .u, .u, .u, .u, .u, .d x40])) (p_nil) rfl))))))) (fun text_56 t57 =>
    sg_assoc (sg_for (OutR := OutRP) (fun s_ : Unit => [.tb, .tp t57, .d text_56, .u, .u, .u, .u, .u, .u, .u, .u]) (fun d_ => d_) (p_seqI (p_tup (p_cons (p_var 2) (p_cons (p_c _) (p_cons (p_c _) (p_cons (p_c _) (p_cons (p_c _) (p_cons (p_tup (p_cons (p_c _) (p_nil))) (p_cons (p_c _) (p_cons (p_c _) (p_cons (p_c _) (p_cons (p_c _) (p_cons (p_c _) (p_cons (p_op2 (p_c _) (p_c _)) (p_cons (p_op2 (p_c _) (p_c _)) (p_cons (p_c _) (p_cons (p_c _) (p_cons (p_c _) (p_nil))))))))))))))))))) (bd1 (fun x99 s98 => sg_last (sg_if (p_notB (p_test (p_call H__law_same (p_cons (p_tup (p_cons (p_call H_is_name (p_cons (p_var 3) (p_nil))) (p_cons (p_call H_is_sign (p_cons (p_var 3) (p_nil))) (p_cons (p_call H_is_text (p_cons (p_var 3) (p_nil))) (p_nil))))) (p_cons (p_tup (p_cons (p_call H__law_is_name (p_cons (p_var 3) (p_nil))) (p_cons (p_call H__law_is_sign (p_cons (p_var 3) (p_nil))) (p_cons (p_call H__law_is_text (p_cons (p_var 3) (p_nil))) (p_nil))))) (p_nil)))))) (sg_retS (sg_ret (fun a133 => LR.rt a133) (p_c _) (fun _ => ⟨_, rfl⟩))) (sg_next (sg_nx ()))))) retP inlP (fun s134 => sg_assoc (sg_asg2T (t_tup (t_cons (t_callR 1 H__law_document (t_cons (Pg.t (τ := (fun t_ => [.tb, .tp t_, .d text_56, .u, .u, .u, .u, .u, .u, .u, .u])) (p_c _) rfl) (fun t138 => Pg.t (τ := (fun t_ => [.tb, .tp t_, .d text_56, .u, .u, .u, .u, .u, .u, .u, .u])) (p_nil) rfl))) (fun t144 => t_cons (Pg.t (τ := (fun t_ => [.tb, .tp t_, .d text_56, .u, .u, .u, .u, .u, .u, .u, .u])) (p_tup (p_cons (p_c _) (p_nil))) rfl) (fun t149 => Pg.t (τ := (fun t_ => [.tb, .tp t_, .d text_56, .u, .u, .u, .u, .u, .u, .u, .u])) (p_nil) rfl)))) (fun document_135 deep_136 t157 => sg_assoc (sg_for (OutR := OutRP) (fun s_ : PyData => [.tb, .tp t157, .d text_56, .u, .d document_135, .d s_, .u, .u, .u, .u, .u]) (fun d_ => d_) (p_rng1 (p_cons (p_op2 (p_c _) (p_c _)) (p_nil))) (bd1 (fun x163 s162 => sg_last (sg_set (p_tup (p_cons (p_c _) (p_cons (p_var 5) (p_nil)))) (fun deep_169 =>
    sg_nx deep_169)))) retP inlP (fun s170 => sg_assoc (sg_set (p_tup (p_cons (p_c _) (p_nil))) (fun line_174 =>
    sg_assoc (sg_forT (OutR := OutRP) (fun s_ : Tp => [.tb, .tp s_, .d text_56, .u, .d document_135, .d s170, .u, .d line_174, .u, .u, .u]) (fun d_ => d_) (t_seqI (t_op2 (Pg.t (τ := (fun t_ => [.tb, .tp t_, .d text_56, .u, .d document_135, .d s170, .u, .d line_174, .u, .u, .u])) (p_lst (p_cons (p_var 4) (p_cons (p_var 5) (p_cons (p_tup (p_cons (p_c _) (p_cons (p_var 5) (p_nil)))) (p_cons (p_tup (p_cons (p_c _) (p_nil))) (p_cons (p_op2 (p_tup (p_cons (p_c _) (p_nil))) (p_op2 (p_tup (p_cons (p_var 7) (p_nil))) (p_c _))) (p_cons (p_op2 (p_tup (p_cons (p_c _) (p_nil))) (p_op2 (p_tup (p_cons (p_var 7) (p_nil))) (p_c _))) (p_cons (p_tup (p_cons (p_c _) (p_cons (p_c _) (p_cons (p_var 7) (p_nil))))) (p_cons (p_tup (p_cons (p_c _) (p_cons (p_c _) (p_cons (p_var 7) (p_nil))))) (p_cons (p_tup (p_cons (p_c _) (p_cons (p_op1 (p_c _)) (p_cons (p_var 7) (p_nil))))) (p_cons (p_tup (p_cons (p_c _) (p_cons (p_c _) (p_cons (p_var 7) (p_nil))))) (p_cons (p_tup (p_cons (p_c _) (p_cons (p_var 7) (p_nil)))) (p_cons (p_tup (p_cons (p_c _) (p_cons (p_var 7) (p_nil)))) (p_cons (p_tup (p_cons (p_c _) (p_nil))) (p_cons (p_tup (p_nil)) (p_cons (p_c _) (p_cons (p_c _) (p_cons (p_c _) (p_nil))))))))))))))))))) rfl) (fun t281 => t_lc (Pg.t (τ := (fun t_ => [.tb, .tp t_, .d text_56, .u, .d document_135, .d s170, .u, .d line_174, .u, .u, .u])) (p_rng1 (p_cons (p_c _) (p_nil))) rfl) (tnT1 (ρa := fun x284 t285 => [.tb, .tp t285, .d text_56, .u, .d document_135, .d s170, .d x284, .d line_174, .u, .u, .u]) (fun x284 t285 => t_callR 1 H__law_bent (t_cons (Pg.t (τ := (fun t_ => [.tb, .tp t_, .d text_56, .u, .d document_135, .d s170, .d x284, .d line_174, .u, .u, .u])) (p_var 4) rfl) (fun t287 => Pg.t (τ := (fun t_ => [.tb, .tp t_, .d text_56, .u, .d document_135, .d s170, .d x284, .d line_174, .u, .u, .u])) (p_nil) rfl))))))) (bd1 (fun x300 s299 => sg_last (sg_if (p_notB (p_test (p_call H__law_same (p_cons (p_call H_is_document (p_cons (p_var 3) (p_nil))) (p_cons (p_call H__law_is_document (p_cons (p_var 3) (p_cons (p_c _) (p_nil)))) (p_nil)))))) (sg_retS (sg_ret (fun a314 => LR.rt a314) (p_c _) (fun _ => ⟨_, rfl⟩))) (sg_next (sg_nx s299))))) retP inlP (fun s315 => sg_assoc (sg_for (OutR := OutRP) (fun s_ : Unit => [.tb, .tp s315, .d text_56, .u, .d document_135, .d s170, .u, .d line_174, .u, .u, .u]) (fun d_ => d_) (p_seqI (p_tup (p_cons (p_var 4) (p_cons (p_var 5) (p_cons (p_tup (p_cons (p_c _) (p_nil))) (p_cons (p_var 7) (p_cons (p_tup (p_cons (p_c _) (p_cons (p_c _) (p_nil)))) (p_cons (p_tup (p_cons (p_c _) (p_cons (p_c _) (p_cons (p_var 7) (p_nil))))) (p_nil))))))))) (bd1 (fun x345 s344 => sg_last (sg_assoc (sg_set (p_if (p_testB (p_op2 (p_op2 (p_var 8) (p_c _)) (p_tup (p_cons (p_c _) (p_cons (p_c _) (p_nil)))))) (p_sl (p_var 8) (p_some (p_c _)) (p_no)) (p_if (p_testB (p_op2 (p_op2 (p_var 8) (p_c _)) (p_c _))) (p_tup (p_nil)) (p_sl (p_var 8) (p_some (p_c _)) (p_no)))) (fun parts_372 =>
    sg_if (p_notB (p_test (p_call H__law_same (p_cons (p_tup (p_cons (p_call H_parts_of (p_cons (p_var 8) (p_nil))) (p_cons (p_call H_size_of (p_cons (p_var 8) (p_nil))) (p_nil)))) (p_cons (p_tup (p_cons (p_var 9) (p_cons (p_call H__law_sized (p_cons (p_var 8) (p_nil))) (p_nil)))) (p_nil)))))) (sg_retS (sg_ret (fun a396 => LR.rt a396) (p_c _) (fun _ => ⟨_, rfl⟩))) (sg_next (sg_nx ()))))))) retP inlP (fun s397 => sg_retS (sg_ret (fun a398 => a398) (p_c _) (fun _ => .inl ⟨_, rfl⟩))))))))))))))))))))
def f_is_name : PyData → R PyData := fn_is_name
theorem h_is_name : SemP sem_is_name (ap1 f_is_name) := sf_is_name
def f_is_number : PyData → PyData → PyData → R PyData := fn_is_number
theorem h_is_number : SemP sem_is_number (ap3 f_is_number) := sf_is_number
def f_is_sign : PyData → R PyData := fn_is_sign
theorem h_is_sign : SemP sem_is_sign (ap1 f_is_sign) := sf_is_sign
def f_is_text : PyData → R PyData := fn_is_text f_is_sign
theorem h_is_text : SemP sem_is_text (ap1 f_is_text) := sf_is_text h_is_sign
def f_is_document_within : Nat → PyData → PyData → R PyData
  | 0 => fun _ _ => .stk
  | n + 1 => fn_is_document_within f_is_text (f_is_document_within n) f_is_number
theorem h_is_document_within : ∀ n, SemP (sem_is_document_within n) (ap2 (f_is_document_within n))
  | 0 => semP_stk fun as => by match as with
      | [] => rfl
      | [_] => rfl
      | [_, _] => rfl
      | _ :: _ :: _ :: _ => rfl
  | n + 1 => sf_is_document_within h_is_text (h_is_document_within n) h_is_number
def f_is_document : PyData → R PyData := fn_is_document (f_is_document_within 40)
theorem h_is_document : SemP sem_is_document (ap1 f_is_document) := sf_is_document (h_is_document_within 40)
def f_parts_of : PyData → R PyData := fn_parts_of
theorem h_parts_of : SemP sem_parts_of (ap1 f_parts_of) := sf_parts_of
def f_size_of : Nat → PyData → R PyData
  | 0 => fun _ => .stk
  | n + 1 => fn_size_of f_parts_of (f_size_of n)
theorem h_size_of : ∀ n, SemP (sem_size_of n) (ap1 (f_size_of n))
  | 0 => semP_stk fun as => by match as with
      | [] => rfl
      | [_] => rfl
      | _ :: _ :: _ => rfl
  | n + 1 => sf_size_of h_parts_of (h_size_of n)
abbrev f__law_draw : Tp → PyData → R (PyData × Tp) := drawG
theorem h__law_draw : SemT sem__law_draw (apT1 f__law_draw) := semT_draw
def f__law_same : Nat → PyData → PyData → R PyData
  | 0 => fun _ _ => .stk
  | n + 1 => fn__law_same (f__law_same n)
theorem h__law_same : ∀ n, SemP (sem__law_same n) (ap2 (f__law_same n))
  | 0 => semP_stk fun as => by match as with
      | [] => rfl
      | [_] => rfl
      | [_, _] => rfl
      | _ :: _ :: _ :: _ => rfl
  | n + 1 => sf__law_same (h__law_same n)
def f__law_document : Nat → Tp → PyData → R (PyData × Tp)
  | 0 => fun _ _ => .stk
  | n + 1 => fn__law_document f__law_draw (f__law_document n)
theorem h__law_document : ∀ n, SemT (sem__law_document n) (apT1 (f__law_document n))
  | 0 => semT_stk fun t as => by match as with
      | [] => rfl
      | [_] => rfl
      | _ :: _ :: _ => rfl
  | n + 1 => sf__law_document h__law_draw (h__law_document n)
def f__law_is_name : PyData → R PyData := fn__law_is_name
theorem h__law_is_name : SemP sem__law_is_name (ap1 f__law_is_name) := sf__law_is_name
def f__law_is_sign : PyData → R PyData := fn__law_is_sign
theorem h__law_is_sign : SemP sem__law_is_sign (ap1 f__law_is_sign) := sf__law_is_sign
def f__law_is_text : PyData → R PyData := fn__law_is_text f__law_is_sign
theorem h__law_is_text : SemP sem__law_is_text (ap1 f__law_is_text) := sf__law_is_text h__law_is_sign
def f__law_is_document : Nat → PyData → PyData → R PyData
  | 0 => fun _ _ => .stk
  | n + 1 => fn__law_is_document f__law_is_text (f__law_is_document n)
theorem h__law_is_document : ∀ n, SemP (sem__law_is_document n) (ap2 (f__law_is_document n))
  | 0 => semP_stk fun as => by match as with
      | [] => rfl
      | [_] => rfl
      | [_, _] => rfl
      | _ :: _ :: _ :: _ => rfl
  | n + 1 => sf__law_is_document h__law_is_text (h__law_is_document n)
def f__law_bent : Nat → Tp → PyData → R (PyData × Tp)
  | 0 => fun _ _ => .stk
  | n + 1 => fn__law_bent f__law_draw (f__law_bent n)
theorem h__law_bent : ∀ n, SemT (sem__law_bent n) (apT1 (f__law_bent n))
  | 0 => semT_stk fun t as => by match as with
      | [] => rfl
      | [_] => rfl
      | _ :: _ :: _ => rfl
  | n + 1 => sf__law_bent h__law_draw (h__law_bent n)
abbrev f__law_errors : R PyData := .ok (.bool true)
theorem h__law_errors : SemP sem__law_errors (ap0 f__law_errors) := semYes_ok
def f__law_sized : Nat → PyData → R PyData
  | 0 => fun _ => .stk
  | n + 1 => fn__law_sized (f__law_sized n)
theorem h__law_sized : ∀ n, SemP (sem__law_sized n) (ap1 (f__law_sized n))
  | 0 => semP_stk fun as => by match as with
      | [] => rfl
      | [_] => rfl
      | _ :: _ :: _ => rfl
  | n + 1 => sf__law_sized (h__law_sized n)
def f_law : Tp → R PyData := fn_law f__law_errors f__law_draw (f__law_same 120) f__law_is_text f__law_is_sign f__law_is_name f_is_text f_is_sign f_is_name (f__law_document 40) (f__law_bent 120) (f__law_is_document 40) f_is_document (f__law_sized 40) (f_size_of 40) f_parts_of
theorem law_of (h : ∀ ns : List Int, ns.length ≤ 63 → f_law (newTp ns) = .ok (.bool true)) : ∀ ns : List Int, ns.length ≤ 63 → ∃ ρ, run_law ns = .rt (.bool true) ρ := fun ns hn => by
  rcases sf_law h__law_errors h__law_draw (h__law_same 120) h__law_is_text h__law_is_sign h__law_is_name h_is_text h_is_sign h_is_name (h__law_document 40) (h__law_bent 120) (h__law_is_document 40) h_is_document (h__law_sized 40) (h_size_of 40) h_parts_of ns (.bool true) (h ns hn) with ⟨ρ, e⟩ | ⟨e, _⟩
  · exact ⟨ρ, e⟩
  · cases e
end K00

end
section
/-! what is shared by all laws: _law_same of a thing and itself -/
namespace K00
open PySem PySem.Spec PyProof.Rows L2 L2.DY
theorem same_refl : ∀ (n : Nat) (v : PyData), okD n v = true → f__law_same n v v = .ok (.bool true)
  | 0, _, h => by simp [okD] at h
  | n + 1, v, h => by
    rw [f__law_same]
    unfold fn__law_same
    have seq : ∀ xs : List PyData, xs.length ≤ 100000 → (∀ x ∈ xs, okD n x = true) → ∀ (v : PyData), (∀ i (h : i < xs.length), fIx v (.int (i : Int)) = .ok xs[i]) →
        (rng1F [PyData.int xs.length]).bind (fun a => (lcR a (mapR (fun x19 => (fIx v x19).bind fun a => (fIx v x19).bind fun b => ap2 (f__law_same n) [a, b]) a)).bind fun a => (fAll [a]).bind fun a33 => R.ok a33) = .ok (.bool true) := fun xs hl hx v hi => by
      rw [rng1F_nat (by omega), bO]
      unfold lcR
      rw [if_pos (by rw [rngD_length, lineN]; omega), mapR_ok (fun _ => .bool true) fun x hx' => ?_]
      · rw [bO, bO, fAll_map, bO]; simp
      · obtain ⟨i, h1, rfl⟩ := rngD_mem hx'
        rw [Int.zero_add, hi i h1, bO, bO, eAp2]
        exact same_refl n _ (hx _ (List.getElem_mem h1))
    cases v with
    | tuple xs =>
      simp only [okD, Bool.and_eq_true, List.all_eq_true, decide_eq_true_eq] at h
      simp only [bO, bA, isT, tyOf, eTru_b, eLen_tup, fEq_int, eBl, ifB, beq_self_eq_true, if_true, decide_true]
      exact seq xs h.1 h.2 _ fun i hi => fIx_tup hi
    | list xs =>
      simp only [okD, Bool.and_eq_true, List.all_eq_true, decide_eq_true_eq] at h
      simp only [bO, bA, isT, tyOf, eTru_b, eLen_lst, fEq_int, eBl, ifB, beq_self_eq_true, if_true, decide_true, String.reduceBEq, Bool.false_eq_true, if_false]
      exact seq xs h.1 h.2 _ fun i hi => fIx_lst hi
    | dict ds => simp [okD] at h
    | none => simp only [bO, bA, isT, tyOf, eTru_b, eBl, ifB, beq_self_eq_true, if_true, decide_true, String.reduceBEq, Bool.false_eq_true, if_false, eIs_none, isNone]
    | bool b => simp only [bO, bA, isT, tyOf, eTru_b, eBl, ifB, beq_self_eq_true, if_true, decide_true, String.reduceBEq, Bool.false_eq_true, if_false, fEq_bool, Bool.true_or, Bool.or_false, Bool.or_self]
    | int i => simp only [bO, bA, isT, tyOf, eTru_b, eBl, ifB, beq_self_eq_true, if_true, decide_true, String.reduceBEq, Bool.false_eq_true, if_false, fEq_int]
    | str x => simp only [bO, bA, isT, tyOf, eTru_b, eBl, ifB, beq_self_eq_true, if_true, decide_true, String.reduceBEq, Bool.false_eq_true, if_false, fEq_str]
theorem same_34 : ∃ sl, sem__law_same 120 [.d (.tuple [.int 3, .int 4]), .d (.tuple [.int 3, .int 4])] = .ok (.bool true, sl) :=
  h__law_same 120 [.tuple [.int 3, .int 4], .tuple [.int 3, .int 4]] (.bool true) (same_refl 120 _ rfl)
end K00

end
section
/-! names and words -/
namespace K00
open PySem PySem.Spec PyProof.Rows L2 L2.DY
abbrev zSmall : Str := "abcdefghijklmnopqrstuvwxyz"
abbrev zDig : Str := "0123456789"
def chIn (c : Nat) (z : Str) : Bool := inStr ⟨#[c]⟩ z
def resB (s : Str) : Bool := [("all" : Str), "any", "none"].any (· == s)
theorem or_signs (A B s : Str) (hl : s.length ≤ 100000) :
    (lcR (s.cps.toList.map fun c => PyData.str ⟨#[c]⟩) (mapR (fun x => (fIn x (.str A)).bind fun a => (isBl a).bind fun b => if b = true then R.ok (PyData.bool true) else fIn x (.str B)) (s.cps.toList.map fun c => PyData.str ⟨#[c]⟩))).bind (fun a => fAll [a]) = .ok (.bool (s.cps.toList.all fun c => chIn c A || chIn c B)) :=
  all_signs (fun c => chIn c A || chIn c B) hl fun c _ => by
    rw [eIn_str, bO, eBl, bO]
    unfold chIn
    cases inStr ⟨#[c]⟩ A with
    | true => rfl
    | false => exact eIn_str _ _
def nameB (s : Str) : Bool := decide (1 ≤ (s.length : Int)) && (decide ((s.length : Int) ≤ 8) && (!resB s && ((match s.cps.toList with | c :: _ => chIn c zSmall | [] => false) && s.cps.toList.all fun c => chIn c zSmall || chIn c zDig)))
def isName : PyData → Bool
  | .str s => nameB s
  | _ => false
/-- the two tests behind the first ones -/
theorem name_tail (s : Str) (h1 : 1 ≤ (s.length : Int)) (h2 : (s.length : Int) ≤ 8) : ((fIx (.str s) (.int 0)).bind fun a => (fIn a (.str zSmall)).bind fun a => (isBl a).bind fun a => if a = true then
      (lcR (s.cps.toList.map fun c => PyData.str ⟨#[c]⟩) (mapR (fun x => (fIn x (.str zSmall)).bind fun a => (isBl a).bind fun b => if b = true then R.ok (PyData.bool true) else fIn x (.str zDig)) (s.cps.toList.map fun c => PyData.str ⟨#[c]⟩))).bind (fun a => fAll [a])
    else R.ok (PyData.bool false)) = .ok (.bool ((match s.cps.toList with | c :: _ => chIn c zSmall | [] => false) && s.cps.toList.all fun c => chIn c zSmall || chIn c zDig)) := by
  cases e : s.cps.toList with
  | nil =>
    have : s.length = 0 := by show s.cps.size = 0; rw [← Array.length_toList, e]; rfl
    omega
  | cons c r =>
    rw [eIx_str0 s c (by rw [e]; rfl), ← e, bO, eIn_str, bO, eBl, bO, or_signs _ _ _ (by omega)]
    have em : (match s.cps.toList with | c :: _ => chIn c zSmall | [] => false) = chIn c zSmall := by rw [e]
    rw [em]
    show (if chIn c zSmall = true then _ else _) = _
    cases chIn c zSmall <;> rfl
theorem is_name_eq (v : PyData) : f_is_name v = .ok (.bool (isName v)) := by
  unfold f_is_name fn_is_name
  cases v with
  | str s =>
    simp only [bO, bA, isT, tyOf, eTru_b, eBl, ifB, beq_self_eq_true, if_true, decide_true, String.reduceBEq, Bool.false_eq_true, if_false, eLen_str, eLe, eIt_str, Bool.not_true, isName, nameB, bind_id]
    by_cases h1 : 1 ≤ (s.length : Int)
    · by_cases h2 : (s.length : Int) ≤ 8
      · simp only [h1, h2, decide_true, Bool.not_true, if_true, Bool.false_eq_true, if_false]
        rw [show fIn (PyData.str s) k_RESERVED = .ok (.bool (resB s)) from eIn_strs s ["all", "any", "none"]]
        simp only [bO, eBl]
        rw [name_tail s h1 h2]
        cases resB s <;> simp
      · simp [h1, h2]
    · simp [h1]
  | _ => simp only [bO, bA, isT, tyOf, eTru_b, eBl, ifB, beq_self_eq_true, if_true, decide_true, String.reduceBEq, Bool.false_eq_true, if_false, eLen_str, eLe, eIt_str, Bool.not_true, Bool.not_false, isName, Bool.or_self]
theorem law_name_eq (v : PyData) : f__law_is_name v = .ok (.bool (isName v)) := by
  unfold f__law_is_name fn__law_is_name
  cases v with
  | str s =>
    simp only [bO, bA, isT, tyOf, eTru_b, eBl, ifB, beq_self_eq_true, if_true, decide_true, String.reduceBEq, Bool.false_eq_true, if_false, eLen_str, eLe, eLt, eGt, eIt_str, Bool.not_true, isName, nameB, bind_id, eChk3]
    by_cases h1 : 1 ≤ (s.length : Int)
    · have h1' : ¬ (s.length : Int) < 1 := by omega
      by_cases h2 : (s.length : Int) ≤ 8
      · have h2' : ¬ 8 < (s.length : Int) := by omega
        simp only [h1, h2, h1', h2', decide_true, decide_false, Bool.not_true, if_true, Bool.false_eq_true, if_false]
        rw [show fIn (PyData.str s) (PyData.tuple [PyData.str (Str.ofString "all"), PyData.str (Str.ofString "any"), PyData.str (Str.ofString "none")]) = .ok (.bool (resB s)) from eIn_strs s ["all", "any", "none"]]
        simp only [bO, eBl]
        rw [name_tail s h1 h2]
        cases resB s <;> simp
      · have h2' : 8 < (s.length : Int) := by omega
        simp [h1, h2, h1', h2']
    · have h1' : (s.length : Int) < 1 := by omega
      simp [h1, h1']
  | _ => simp only [bO, bA, isT, tyOf, eTru_b, eBl, ifB, beq_self_eq_true, if_true, decide_true, String.reduceBEq, Bool.false_eq_true, if_false, eLen_str, eLe, eIt_str, Bool.not_true, Bool.not_false, isName, Bool.or_self, eChk3]
end K00

end
section
/-! numbers, texts -/
namespace K00
open PySem PySem.Spec PyProof.Rows L2 L2.DY
theorem chIn_mem (c : Nat) (z : Str) : chIn c z = decide (c ∈ z.cps.toList) := PySem.StrLaws.found_one z c
def isNum (lo hi : Int) : PyData → Bool
  | .int i => decide (lo ≤ i) && decide (i ≤ hi)
  | _ => false
theorem is_number_eq (v : PyData) (lo hi : Int) : f_is_number v (.int lo) (.int hi) = .ok (.bool (isNum lo hi v)) := by
  unfold f_is_number fn_is_number
  cases v with
  | int i =>
    simp only [bO, bA, eTi, eTru_b, eBl, ifB, beq_self_eq_true, if_true, String.reduceBEq, Bool.false_eq_true, if_false, Bool.not_false, eLe, isNum, bind_id]
    cases decide (lo ≤ i) <;> simp
  | _ => simp only [bO, bA, eTn, eTb, eTs, eTl, eTt, eTd, eTru_b, eBl, ifB, beq_self_eq_true, if_true, String.reduceBEq, Bool.false_eq_true, if_false, Bool.not_false, Bool.not_true, Bool.or_true, Bool.or_self, Bool.true_or, isNum, bind_id]
abbrev zMarks2 : Str := "+-*/=<>(),.;:[]{}!?_ "
abbrev zText : Str := "abcdefghijklmnopqrstuvwxyz0123456789+-*/=<>(),.;:[]{}!?_ "
def textB (s : Str) : Bool := decide ((s.length : Int) ≤ 40) && s.cps.toList.all fun c => chIn c zText
def isText : PyData → Bool
  | .str s => textB s
  | _ => false
theorem text_signs (c : Nat) : (chIn c zSmall || (chIn c zDig || chIn c zMarks2)) = chIn c zText := by
  have e : zText.cps.toList = zSmall.cps.toList ++ (zDig.cps.toList ++ zMarks2.cps.toList) := by decide +kernel
  rw [chIn_mem, chIn_mem, chIn_mem, chIn_mem, e]
  simp only [List.mem_append, Bool.decide_or]
def isSign : PyData → Bool
  | .str s => decide ((s.length : Int) = 1) && s.cps.toList.all fun c => chIn c zText
  | _ => false
theorem one_sign {s : Str} (h : (s.length : Int) = 1) : ∃ c, s = ⟨#[c]⟩ := by
  obtain ⟨a⟩ := s
  have h' : a.size = 1 := by
    have : ((⟨a⟩ : Str).length) = a.size := rfl
    omega
  obtain ⟨c, hc⟩ := Array.size_eq_one_iff.mp h'
  exact ⟨c, by rw [hc]⟩
theorem is_sign_any (v : PyData) : f_is_sign v = .ok (.bool (isSign v)) := by
  unfold f_is_sign fn_is_sign
  cases v with
  | str s =>
    simp only [bO, bA, eTs, eTru_b, eBl, ifB, beq_self_eq_true, if_true, decide_true, String.reduceBEq, Bool.false_eq_true, if_false, eLen_str, fEq_int, bind_id, isSign]
    by_cases h1 : (s.length : Int) = 1
    · obtain ⟨c, rfl⟩ := one_sign h1
      simp only [h1, decide_true, if_true, Bool.true_and, List.all_cons, List.all_nil, Bool.and_true]
      rw [← text_signs, eIn_str, bO, eBl, bO]
      unfold chIn
      cases inStr ⟨#[c]⟩ zSmall with
      | true => rfl
      | false =>
        rw [if_neg Bool.false_ne_true, eIn_str, bO, eBl, bO]
        cases inStr ⟨#[c]⟩ zDig with
        | true => rfl
        | false => exact eIn_str _ _
    · simp [h1]
  | _ => simp only [bO, bA, eTn, eTb, eTi, eTl, eTt, eTd, eTru_b, eBl, ifB, beq_self_eq_true, if_true, String.reduceBEq, Bool.false_eq_true, if_false, Bool.not_false, Bool.not_true, Bool.or_true, Bool.or_self, Bool.true_or, isSign, bind_id]
theorem law_is_sign_any (v : PyData) : f__law_is_sign v = .ok (.bool (isSign v)) := by
  unfold f__law_is_sign fn__law_is_sign
  cases v with
  | str s =>
    simp only [bO, bA, eTs, eTru_b, eBl, ifB, beq_self_eq_true, if_true, decide_true, String.reduceBEq, Bool.false_eq_true, if_false, eLen_str, fEq_int, bind_id, isSign]
    by_cases h1 : (s.length : Int) = 1
    · obtain ⟨c, rfl⟩ := one_sign h1
      simp only [h1, decide_true, if_true, Bool.true_and, List.all_cons, List.all_nil, Bool.and_true]
      exact eIn_str _ _
    · simp [h1]
  | _ => simp only [bO, bA, eTn, eTb, eTi, eTl, eTt, eTd, eTru_b, eBl, ifB, beq_self_eq_true, if_true, String.reduceBEq, Bool.false_eq_true, if_false, Bool.not_false, Bool.not_true, Bool.or_true, Bool.or_self, Bool.true_or, isSign, bind_id]
theorem isSign_one (c : Nat) : isSign (.str ⟨#[c]⟩) = chIn c zText := by
  show (decide (((⟨#[c]⟩ : Str).length : Int) = 1) && [c].all fun c => chIn c zText) = _
  simp [Str.length]
theorem is_text_eq (v : PyData) : f_is_text v = .ok (.bool (isText v)) := by
  unfold f_is_text fn_is_text
  cases v with
  | str s =>
    simp only [bO, bA, eTs, eTru_b, eBl, ifB, beq_self_eq_true, if_true, decide_true, String.reduceBEq, Bool.false_eq_true, if_false, eLen_str, eLe, eIt_str, Bool.not_true, isText, textB, bind_id]
    by_cases h2 : (s.length : Int) ≤ 40
    · simp only [h2, decide_true, Bool.not_true, if_true, Bool.false_eq_true, if_false, Bool.true_and, eAp1]
      exact all_signs _ (by omega) fun c _ => by rw [is_sign_any, isSign_one]
    · simp [h2]
  | _ => simp only [bO, bA, eTn, eTb, eTi, eTl, eTt, eTd, eTru_b, eBl, ifB, beq_self_eq_true, if_true, String.reduceBEq, Bool.false_eq_true, if_false, Bool.not_false, Bool.not_true, Bool.or_true, Bool.or_self, Bool.true_or, isText, bind_id]
theorem law_is_text_eq (v : PyData) : f__law_is_text v = .ok (.bool (isText v)) := by
  unfold f__law_is_text fn__law_is_text
  cases v with
  | str s =>
    simp only [bO, bA, eTs, eTru_b, eBl, ifB, beq_self_eq_true, if_true, decide_true, String.reduceBEq, Bool.false_eq_true, if_false, eLen_str, eLe, eIt_str, Bool.not_true, isText, textB, bind_id, eAp1]
    by_cases h2 : (s.length : Int) ≤ 40
    · simp only [h2, decide_true, Bool.not_true, if_true, Bool.false_eq_true, if_false, Bool.true_and]
      exact all_signs _ (by omega) fun c _ => by rw [law_is_sign_any, isSign_one]
    · simp [h2]
  | _ => simp only [bO, bA, eTn, eTb, eTi, eTl, eTt, eTd, eTru_b, eBl, ifB, beq_self_eq_true, if_true, String.reduceBEq, Bool.false_eq_true, if_false, Bool.not_false, Bool.not_true, Bool.or_true, Bool.or_self, Bool.true_or, isText, bind_id]
end K00

end
section
/-! documents -/
namespace K00
open PySem PySem.Spec PyProof.Rows L2 L2.DY
def brkB (w : Str) : Bool := [("line" : Str), "soft", "hard"].any (· == w)
def withinB (w : Str) : Bool := [("align" : Str), "group", "flat"].any (· == w)
def numdB (w : Str) : Bool := [("nest" : Str), "dear"].any (· == w)
def oneB (f : PyData → Bool) : List PyData → Bool
  | [x] => f x
  | _ => false
def twoB (g f : PyData → Bool) : List PyData → Bool
  | [k, x] => g k && f x
  | _ => false
def docB : Nat → PyData → Bool
  | 0, _ => false
  | d + 1, .tuple (.str w :: ps) =>
    if brkB w = true then ps.isEmpty
    else if decide (w = ("text" : Str)) = true then oneB isText ps
    else if decide (w = ("join" : Str)) = true then decide ((ps.length : Int) ≤ 8) && ps.all fun p => docB d p
    else if withinB w = true then oneB (fun p => docB d p) ps
    else if numdB w = true then twoB (isNum 0 100) (fun p => docB d p) ps
    else decide (w = ("either" : Str)) && twoB (fun p => docB d p) (fun p => docB d p) ps
  | _ + 1, _ => false
theorem noD_all {xs : List PyData} (h : noDs xs = true) : ∀ x ∈ xs, noD x = true := by
  induction xs with
  | nil => exact fun x hx => nomatch hx
  | cons a r ih =>
    simp only [noDs, Bool.and_eq_true] at h
    intro x hx
    rcases List.mem_cons.mp hx with rfl | hx
    · exact h.1
    · exact ih h.2 x hx
theorem all_parts {F : PyData → R PyData} (f : PyData → Bool) {ps : List PyData} (hl : ps.length ≤ 100000) (h : ∀ p ∈ ps, F p = .ok (.bool (f p))) : (lcR ps (mapR F ps)).bind (fun a => fAll [a]) = .ok (.bool (ps.all fun p => f p)) := by
  rw [lcR_ok (fun p => .bool (f p)) hl h, bO, fAll_map]
theorem one_part {ps : List PyData} {K : PyData → R PyData} (f : PyData → Bool) (h : ∀ x ∈ ps, K x = .ok (.bool (f x))) : (if decide ((ps.length : Int) = 1) = true then (fIx (.tuple ps) (.int 0)).bind K else R.ok (PyData.bool false)) = .ok (.bool (oneB f ps)) := by
  match ps with
  | [] => rfl
  | [x] =>
    rw [eIx0, bO, h x List.mem_cons_self]; rfl
  | x :: y :: r =>
    have : decide (((x :: y :: r).length : Int) = 1) = false := decide_eq_false (by simp only [List.length_cons]; omega)
    rw [this]; rfl
theorem two_parts {ps : List PyData} {L K : PyData → R PyData} (g f : PyData → Bool) (hL : ∀ x ∈ ps, L x = .ok (.bool (g x))) (h : ∀ x ∈ ps, K x = .ok (.bool (f x))) : (if decide ((ps.length : Int) = 2) = true then (fIx (.tuple ps) (.int 0)).bind fun a => (L a).bind fun a => (isBl a).bind fun b => if b = true then (fIx (.tuple ps) (.int 1)).bind K else R.ok (PyData.bool false) else R.ok (PyData.bool false)) = .ok (.bool (twoB g f ps)) := by
  match ps with
  | [] => rfl
  | [x] => rfl
  | [k, x] =>
    rw [if_pos (by simp), eIx0, bO, hL k List.mem_cons_self, bO, eBl, bO]
    show (if g k = true then _ else _) = R.ok (PyData.bool (g k && f x))
    cases g k with
    | false => rfl
    | true => rw [if_pos rfl, eIx1, bO, h x (List.mem_cons_of_mem _ List.mem_cons_self)]; rfl
  | x :: y :: z :: r =>
    have : decide (((x :: y :: z :: r).length : Int) = 2) = false := decide_eq_false (by simp only [List.length_cons]; omega)
    rw [this]; rfl
theorem both_parts {ps : List PyData} {K : PyData → R PyData} (f : PyData → Bool) (h : ∀ x ∈ ps, K x = .ok (.bool (f x))) : (if decide ((ps.length : Int) = 2) = true then (lcR ps (mapR K ps)).bind (fun a => fAll [a]) else R.ok (PyData.bool false)) = .ok (.bool (twoB f f ps)) := by
  match ps with
  | [] => rfl
  | [x] => rfl
  | [k, x] =>
    rw [if_pos (by simp), all_parts f (by simp) h]
    show R.ok (PyData.bool ([k, x].all fun p => f p)) = R.ok (PyData.bool (f k && f x))
    simp
  | x :: y :: z :: r =>
    have : decide (((x :: y :: z :: r).length : Int) = 2) = false := decide_eq_false (by simp only [List.length_cons]; omega)
    rw [this]; rfl
theorem is_document_within_eq : ∀ (n d : Nat) (v : PyData), d < n → noD v = true → f_is_document_within n v (.int (d : Int)) = .ok (.bool (docB d v))
  | 0, _, _, h, _ => by omega
  | n + 1, d, v, h, hv => by
    rw [f_is_document_within]
    unfold fn_is_document_within
    cases d with
    | zero => simp only [bO, bA, eTn, eTb, eTi, eTs, eTl, eTt, eTd, eTru_b, eBl, ifB, if_true, decide_true, fEq_int, docB, show ((0 : Nat) : Int) = 0 from rfl]
    | succ d =>
      have h0 : decide (((d + 1 : Nat) : Int) = 0) = false := decide_eq_false (by omega)
      have h1 : (((d + 1 : Nat) : Int) - 1) = (d : Int) := by omega
      cases v with
      | tuple xs =>
        have hxs : noDs xs = true := by simpa [noD] using hv
        cases xs with
        | nil => simp only [bO, bA, eTt, eTru_b, eBl, ifB, if_true, if_false, Bool.false_eq_true, beq_self_eq_true, Bool.not_true, fEq_int, h0, eChk0, eEq_nil hxs, List.isEmpty_nil, docB]
        | cons a ps =>
          have hps : noDs ps = true := by simp only [noDs, Bool.and_eq_true] at hxs; exact hxs.2
          have ih : ∀ x ∈ ps, f_is_document_within n x (.int (d : Int)) = .ok (.bool (docB d x)) := fun x hx => is_document_within_eq n d x (by omega) (noD_all hps x hx)
          cases a with
          | str w =>
            simp only [bO, bA, eTs, eTt, eTru_b, eBl, ifB, if_true, if_false, Bool.false_eq_true, beq_self_eq_true, Bool.not_true, fEq_int, h0, h1, eChk0, eEq_nil hxs, eEq_nil hps, List.isEmpty_cons, eIx0, eSl1, isI, eL2, String.reduceBEq, fEq_str, eLen_tup, eAp1, eAp2, eAp3, eIt_tup, bind_id, eLe, eSub]
            rw [show fIn (PyData.str w) k_BREAKS = .ok (.bool (brkB w)) from eIn_strs w ["line", "soft", "hard"], show fIn (PyData.str w) k_WITHIN = .ok (.bool (withinB w)) from eIn_strs w ["align", "group", "flat"], show fIn (PyData.str w) k_NUMBERED = .ok (.bool (numdB w)) from eIn_strs w ["nest", "dear"]]
            simp only [bO, eBl, docB]
            split
            · rfl
            · split
              · exact one_part isText fun x _ => is_text_eq x
              · split
                · by_cases hl : (ps.length : Int) ≤ 8
                  · simp only [hl, decide_true, if_true, Bool.true_and]
                    exact all_parts (fun p => docB d p) (by omega) ih
                  · simp [hl]
                · split
                  · exact one_part (fun p => docB d p) ih
                  · split
                    · exact two_parts (isNum 0 100) (fun p => docB d p) (fun x _ => is_number_eq x 0 100) ih
                    · cases decide (w = ("either" : Str)) with
                      | false => rfl
                      | true =>
                        rw [if_pos rfl, Bool.true_and]
                        exact both_parts (fun p => docB d p) ih
          | _ => simp only [bO, bA, eTn, eTb, eTi, eTl, eTd, eTt, eTru_b, eBl, ifB, if_true, if_false, Bool.false_eq_true, beq_self_eq_true, Bool.not_true, fEq_int, h0, eChk0, eEq_nil hxs, List.isEmpty_cons, eIx0, docB, String.reduceBEq, Bool.not_false, Bool.or_self]
      | _ => simp only [bO, bA, eTn, eTb, eTi, eTl, eTd, eTs, eTru_b, eBl, ifB, if_true, if_false, Bool.false_eq_true, beq_self_eq_true, Bool.not_true, fEq_int, h0, docB, String.reduceBEq, Bool.not_false, Bool.or_self]
end K00

end
section
namespace K00
open PySem PySem.Spec PyProof.Rows L2 L2.DY
abbrev SZ : List (PyData × PyData) := [(.str "join", .tuple [.int 0, .int 8]), (.str "align", .tuple [.int 1, .int 1]), (.str "group", .tuple [.int 1, .int 1]), (.str "flat", .tuple [.int 1, .int 1]), (.str "either", .tuple [.int 2, .int 2])]
theorem sz_disp : dispF SZ = .ok SZ := by
  have : pairsD [] SZ = some SZ := by rfl
  unfold dispF
  rw [this]
  rfl
/-- the least and the most of a word -/
def szOf (w : Str) : Option (Int × Int) :=
  if decide (w = ("join" : Str)) = true then some (0, 8) else if withinB w = true then some (1, 1) else if decide (w = ("either" : Str)) = true then some (2, 2) else none
theorem sz_look (w : Str) : lookD SZ (.inr w) = (szOf w).map fun p => .tuple [.int p.1, .int p.2] := by
  by_cases h1 : w = ("join" : Str)
  · subst h1; rfl
  by_cases h2 : w = ("align" : Str)
  · subst h2; rfl
  by_cases h3 : w = ("group" : Str)
  · subst h3; rfl
  by_cases h4 : w = ("flat" : Str)
  · subst h4; rfl
  by_cases h5 : w = ("either" : Str)
  · subst h5; rfl
  have ne : ∀ {z : Str}, ¬ w = z → ¬ (keyOf (.str z) = some (Sum.inr w : Key)) := fun h e => by
    have e' : (Sum.inr _ : Key) = Sum.inr w := Option.some.inj e
    exact h (Sum.inr.inj e').symm
  have nb : ∀ {z : Str}, ¬ w = z → (z == w) = false := fun h => beq_eq_false_iff_ne.mpr fun e => h e.symm
  have hw : withinB w = false := by
    unfold withinB
    rw [List.any_cons, List.any_cons, List.any_cons, List.any_nil, nb h2, nb h3, nb h4]
    rfl
  unfold szOf
  rw [decide_eq_false h1, hw, decide_eq_false h5]
  simp only [lookD, if_neg (ne h1), if_neg (ne h2), if_neg (ne h3), if_neg (ne h4), if_neg (ne h5), Bool.false_eq_true, if_false, Option.map_none]
def szB (f : PyData → Bool) (w : Str) (ps : List PyData) : Bool :=
  if decide (w = ("join" : Str)) = true then decide ((ps.length : Int) ≤ 8) && ps.all fun p => f p
  else if withinB w = true then oneB f ps
  else decide (w = ("either" : Str)) && twoB f f ps
theorem sz_tail (w : Str) {ps : List PyData} {K : PyData → R PyData} (f : PyData → Bool) (h : ∀ x ∈ ps, K x = .ok (.bool (f x))) :
    ((fIn (PyData.str w) (PyData.dict SZ)).bind fun a237 => (isBl a237).bind fun b238 => if b238 = true then
          (fIx (PyData.dict SZ) (PyData.str w)).bind fun a => (fIx a (PyData.int 0)).bind fun a => (fLe a (PyData.int ↑ps.length)).bind fun a => (isBl a).bind fun a =>
                  (if a = true then (fIx (PyData.dict SZ) (PyData.str w)).bind fun a => (fIx a (PyData.int 1)).bind fun a222 => fLe (PyData.int ↑ps.length) a222 else R.ok (PyData.bool false)).bind fun a235 =>
                    (isBl a235).bind fun b236 => if b236 = true then (lcR ps (mapR K ps)).bind fun a => fAll [a] else R.ok (PyData.bool false)
        else R.ok (PyData.bool false)) = .ok (.bool (szB f w ps)) := by
  have e1 : fIn (PyData.str w) (PyData.dict SZ) = .ok (.bool (szOf w).isSome) := by
    show (R.ok (lookD SZ (.inr w)).isSome).bind _ = _
    rw [sz_look, Option.isSome_map]; rfl
  have e2 : fIx (PyData.dict SZ) (PyData.str w) = R.ofO ((szOf w).map fun p => .tuple [.int p.1, .int p.2]) := by
    show R.ofO (lookD SZ (.inr w)) = _
    rw [sz_look]
  rw [e1, e2, bO, eBl, bO]
  unfold szB
  cases hz : szOf w with
  | none =>
    unfold szOf at hz
    split at hz
    · cases hz
    · split at hz
      · cases hz
      · split at hz
        · cases hz
        · rename_i q1 q2 q3
          rw [if_neg q1, if_neg q2]
          cases e : decide (w = ("either" : Str)) with
          | true => exact absurd e q3
          | false => rfl
  | some p =>
    obtain ⟨lo, hi⟩ := p
    have main : ∀ lo hi : Int, (R.ofO (some (PyData.tuple [PyData.int lo, PyData.int hi]))).bind (fun a => (fIx a (PyData.int 0)).bind fun a => (fLe a (PyData.int ↑ps.length)).bind fun a => (isBl a).bind fun a =>
                  (if a = true then (R.ofO (some (PyData.tuple [PyData.int lo, PyData.int hi]))).bind fun a => (fIx a (PyData.int 1)).bind fun a222 => fLe (PyData.int ↑ps.length) a222 else R.ok (PyData.bool false)).bind fun a235 =>
                    (isBl a235).bind fun b236 => if b236 = true then (lcR ps (mapR K ps)).bind fun a => fAll [a] else R.ok (PyData.bool false)) = if decide (lo ≤ (ps.length : Int)) && decide ((ps.length : Int) ≤ hi) then (lcR ps (mapR K ps)).bind (fun a => fAll [a]) else R.ok (PyData.bool false) := fun lo hi => by
      show (R.ok _).bind _ = _
      rw [bO, eIx0, bO, eLe, bO, eBl, bO]
      show (if decide (lo ≤ (ps.length : Int)) = true then (R.ok _).bind _ else _ : R PyData).bind _ = _
      rw [bO, eIx1, bO, eLe]
      cases decide (lo ≤ (ps.length : Int)) with
      | false => rfl
      | true => rw [if_pos rfl, bO, eBl, bO, Bool.true_and]
    rw [if_pos (show (some (lo, hi)).isSome = true from rfl)]
    refine (main lo hi).trans ?_
    unfold szOf at hz
    split at hz
    · rename_i q1
      cases hz
      rw [if_pos q1, show decide ((0 : Int) ≤ (ps.length : Int)) = true from decide_eq_true (by omega), Bool.true_and]
      by_cases hl : (ps.length : Int) ≤ 8
      · rw [if_pos (decide_eq_true hl), all_parts f (by omega) h, decide_eq_true hl]; rfl
      · rw [decide_eq_false hl]; rfl
    · rename_i q1
      split at hz
      · rename_i q2
        cases hz
        rw [if_neg q1, if_pos q2]
        match ps, h with
        | [], _ => rfl
        | [x], h => rw [if_pos (by simp), all_parts f (by simp) h]; simp [oneB]
        | x :: y :: r, _ =>
          have : decide (((x :: y :: r).length : Int) ≤ 1) = false := decide_eq_false (by simp only [List.length_cons]; omega)
          rw [this, Bool.and_false]; rfl
      · rename_i q2
        split at hz
        · rename_i q3
          cases hz
          rw [if_neg q1, if_neg q2, q3, Bool.true_and]
          match ps, h with
          | [], _ => rfl
          | [x], _ => rfl
          | [x, y], h => rw [if_pos (by simp), all_parts f (by simp) h]; simp [twoB]
          | x :: y :: z :: r, _ =>
            have : decide (((x :: y :: z :: r).length : Int) ≤ 2) = false := decide_eq_false (by simp only [List.length_cons]; omega)
            rw [this, Bool.and_false]; rfl
        · cases hz
theorem numd_not {w : Str} (h : numdB w = true) : decide (w = ("join" : Str)) = false ∧ withinB w = false := by
  have : w = ("nest" : Str) ∨ w = ("dear" : Str) := by
    unfold numdB at h
    rw [List.any_cons, List.any_cons, List.any_nil, Bool.or_false, Bool.or_eq_true] at h
    rcases h with h | h
    · exact .inl (eq_of_beq h).symm
    · exact .inr (eq_of_beq h).symm
  rcases this with rfl | rfl
  · exact ⟨rfl, rfl⟩
  · exact ⟨rfl, rfl⟩
theorem two_numL {ps : List PyData} {K : PyData → R PyData} (f : PyData → Bool) (h : ∀ x ∈ ps, K x = .ok (.bool (f x))) : (if decide ((ps.length : Int) = 2) = true then (fIx (.tuple ps) (.int 0)).bind fun a => if isT "int" a = true then (fIx (.tuple ps) (.int 0)).bind fun a => if (!isT "bool" a) = true then
      (fIx (.tuple ps) (.int 0)).bind fun a => (fLe (.int 0) a).bind fun z => (isBl z).bind fun k => (if k = true then fLe a (.int 100) else R.ok (PyData.bool false)).bind fun w => (isBl w).bind fun b => if b = true then (fIx (.tuple ps) (.int 1)).bind K else R.ok (PyData.bool false)
    else R.ok (PyData.bool false) else R.ok (PyData.bool false) else R.ok (PyData.bool false)) = .ok (.bool (twoB (isNum 0 100) f ps)) := by
  match ps with
  | [] => rfl
  | [x] => rfl
  | [k, x] =>
    rw [if_pos (by simp), eIx0, bO]
    show _ = R.ok (PyData.bool (isNum 0 100 k && f x))
    cases k with
    | int i =>
      rw [if_pos (by rfl), bO, if_pos (by rfl), bO, eLe, bO, eBl, bO, eLe]
      have e : isNum 0 100 (.int i) = (decide ((0 : Int) ≤ i) && decide (i ≤ 100)) := rfl
      rw [e]
      cases decide ((0 : Int) ≤ i) with
      | false => rfl
      | true =>
        rw [if_pos rfl, bO, eBl, bO]
        cases decide (i ≤ 100) with
        | false => rfl
        | true => rw [if_pos rfl, eIx1, bO, h x (List.mem_cons_of_mem _ List.mem_cons_self)]; rfl
    | bool b => rw [if_pos (by rfl), bO, if_neg (by simp [eTb])]; rfl
    | _ => rw [if_neg (by simp [eTn, eTs, eTl, eTt, eTd])]; rfl
  | x :: y :: z :: r =>
    have : decide (((x :: y :: z :: r).length : Int) = 2) = false := decide_eq_false (by simp only [List.length_cons]; omega)
    rw [this]; rfl
theorem law_doc_eq : ∀ (n d : Nat) (v : PyData), d < n → noD v = true → f__law_is_document n v (.int (d : Int)) = .ok (.bool (docB d v))
  | 0, _, _, h, _ => by omega
  | n + 1, d, v, h, hv => by
    rw [f__law_is_document]
    unfold fn__law_is_document
    cases d with
    | zero => simp only [bO, bA, eTn, eTb, eTi, eTs, eTl, eTt, eTd, eTru_b, eBl, ifB, if_true, decide_true, fEq_int, docB, show ((0 : Nat) : Int) = 0 from rfl]
    | succ d =>
      have h0 : decide (((d + 1 : Nat) : Int) = 0) = false := decide_eq_false (by omega)
      have h1 : (((d + 1 : Nat) : Int) - 1) = (d : Int) := by omega
      cases v with
      | tuple xs =>
        have hxs : noDs xs = true := by simpa [noD] using hv
        cases xs with
        | nil => simp only [bO, bA, eTt, eTru_b, eBl, ifB, if_true, if_false, Bool.false_eq_true, beq_self_eq_true, Bool.not_true, fEq_int, h0, eChk0, eEq_nil hxs, List.isEmpty_nil, docB]
        | cons a ps =>
          have hps : noDs ps = true := by simp only [noDs, Bool.and_eq_true] at hxs; exact hxs.2
          have ih : ∀ x ∈ ps, f__law_is_document n x (.int (d : Int)) = .ok (.bool (docB d x)) := fun x hx => law_doc_eq n d x (by omega) (noD_all hps x hx)
          cases a with
          | str w =>
            simp only [bO, bA, eTs, eTt, eTru_b, eBl, if_true, if_false, Bool.false_eq_true, beq_self_eq_true, Bool.not_true, fEq_int, h0, h1, eChk0, eChk2, eChk3, eEq_nil hxs, eEq_nil hps, List.isEmpty_cons, eIx0, eSl1, isI, eL2, String.reduceBEq, fEq_str, eLen_tup, eAp1, eAp2, eAp3, eIt_tup, bind_id, eLe, eSub, eGt]
            rw [show fIn (PyData.str w) (.tuple [.str (Str.ofString "line"), .str (Str.ofString "soft"), .str (Str.ofString "hard")]) = .ok (.bool (brkB w)) from eIn_strs w ["line", "soft", "hard"], show fIn (PyData.str w) (.tuple [.str (Str.ofString "nest"), .str (Str.ofString "dear")]) = .ok (.bool (numdB w)) from eIn_strs w ["nest", "dear"], sz_disp]
            simp only [bO, eBl, ite_self, Bool.false_eq_true, if_false, docB]
            split
            · rfl
            split
            · exact one_part isText fun x _ => law_is_text_eq x
            split
            · rename_i q
              obtain ⟨q1, q2⟩ := numd_not q
              rw [q1, q2]
              exact two_numL (fun p => docB d p) ih
            · refine (sz_tail w (fun p => docB d p) ih).trans ?_
              unfold szB
              split
              · rfl
              · split <;> rfl
          | _ => simp only [bO, bA, eTn, eTb, eTi, eTl, eTd, eTt, eTru_b, eBl, ifB, if_true, if_false, Bool.false_eq_true, beq_self_eq_true, Bool.not_true, fEq_int, h0, eChk0, eEq_nil hxs, List.isEmpty_cons, eIx0, docB, String.reduceBEq, Bool.not_false, Bool.or_self]
      | _ => simp only [bO, bA, eTn, eTb, eTi, eTl, eTd, eTs, eTru_b, eBl, ifB, if_true, if_false, Bool.false_eq_true, beq_self_eq_true, Bool.not_true, fEq_int, h0, docB, String.reduceBEq, Bool.not_false, Bool.or_self]
end K00

end
section
/-! what the tape gives: documents -/
namespace K00
open PySem PySem.Spec PyProof.Rows L2 L2.DY
theorem any3 {a b c w : Str} (h : [a, b, c].any (· == w) = true) : w = a ∨ w = b ∨ w = c := by
  rw [List.any_cons, List.any_cons, List.any_cons, List.any_nil, Bool.or_false, Bool.or_eq_true, Bool.or_eq_true] at h
  rcases h with h | h | h
  · exact .inl (eq_of_beq h).symm
  · exact .inr (.inl (eq_of_beq h).symm)
  · exact .inr (.inr (eq_of_beq h).symm)
theorem any2 {a b w : Str} (h : [a, b].any (· == w) = true) : w = a ∨ w = b := by
  rw [List.any_cons, List.any_cons, List.any_nil, Bool.or_false, Bool.or_eq_true] at h
  rcases h with h | h
  · exact .inl (eq_of_beq h).symm
  · exact .inr (eq_of_beq h).symm
theorem draw {t : Tp} (ht : t.Ok) {many : Int} (h0 : 0 < many) (h1 : many < 1073741824) : RT (fun d => ∃ i : Nat, (i : Int) < many ∧ d = .int i) (f__law_draw t (.int many)) := rt_draw ht h0 h1
theorem ix_mem {xs : List PyData} {i : Nat} (h : i < xs.length) : ∃ x ∈ xs, fIx (.list xs) (.int (i : Int)) = .ok x := ⟨xs[i], List.getElem_mem h, fIx_lst h⟩
theorem ix_memT {xs : List PyData} {i : Nat} (h : i < xs.length) : ∃ x ∈ xs, fIx (.tuple xs) (.int (i : Int)) = .ok x := ⟨xs[i], List.getElem_mem h, fIx_tup h⟩
theorem rt_pick {P : PyData → Prop} {xs : List PyData} {i : Nat} {t : Tp} (ht : t.Ok) (hx : ∀ x ∈ xs, P x) (h : i < xs.length) : RT P ((fIx (.list xs) (.int (i : Int))).bind fun x => R.ok (x, t)) := by
  obtain ⟨x, h1, h2⟩ := ix_mem h
  rw [h2, bO]
  exact .ret ht (hx x h1)
theorem rt_pickT {P : PyData → Prop} {xs : List PyData} {i : Nat} {t : Tp} (ht : t.Ok) (hx : ∀ x ∈ xs, P x) (h : i < xs.length) : RT P ((fIx (.tuple xs) (.int (i : Int))).bind fun x => R.ok (x, t)) := by
  obtain ⟨x, h1, h2⟩ := ix_memT h
  rw [h2, bO]
  exact .ret ht (hx x h1)
theorem all_cons {P : PyData → Prop} {x : PyData} {xs : List PyData} (h : P x) (hs : ∀ y ∈ xs, P y) : ∀ y ∈ x :: xs, P y := fun y hy => by
  rcases List.mem_cons.mp hy with rfl | hy
  · exact h
  · exact hs y hy
theorem all_nil {P : PyData → Prop} : ∀ y ∈ ([] : List PyData), P y := fun y hy => nomatch hy
def gD : Nat → Nat
  | 0 => 3
  | k + 1 => 2 + 3 * gD k
theorem gD_pos : ∀ k, 3 ≤ gD k
  | 0 => Nat.le_refl _
  | k + 1 => by have := gD_pos k; simp only [gD]; omega
def Doc (k n : Nat) (d : PyData) : Prop := docB k d = true ∧ Gd n d
theorem Doc.mono {k n m : Nat} {d : PyData} (h : Doc k n d) (hm : n ≤ m) : Doc k m d := ⟨h.1, h.2.mono hm⟩
theorem doc_leaf (k : Nat) (w : Str) (hw : brkB w = true) : Doc (k + 1) 3 (.tuple [.str w]) := ⟨by
  show (if brkB w = true then _ else _ : Bool) = true
  rw [if_pos hw]; rfl, ((Gds.cons (Gd.str w) (Gds.nil 0)).tup).mono (by omega)⟩
theorem doc_text (k : Nat) (s : Str) (hs : isText (.str s) = true) : Doc (k + 1) 3 (.tuple [.str "text", .str s]) := ⟨hs, ((Gds.cons (Gd.str _) (Gds.cons (Gd.str s) (Gds.nil 0))).tup).mono (by omega)⟩
theorem doc_in {k n : Nat} {x : PyData} (w : Str) (hw : withinB w = true) (h : Doc k n x) : Doc (k + 1) (n + 2) (.tuple [.str w, x]) := ⟨by
  rcases any3 hw with rfl | rfl | rfl <;> exact h.1, ((Gds.cons (Gd.str _) (Gds.cons h.2 (Gds.nil 0))).tup).mono (by omega)⟩
theorem doc_num {k n i : Nat} {x : PyData} (w : Str) (hw : numdB w = true) (hi : i ≤ 100) (h : Doc k n x) : Doc (k + 1) (n + 3) (.tuple [.str w, .int (i : Int), x]) := ⟨by
  have e : isNum 0 100 (.int (i : Int)) = true := by
    show (decide ((0 : Int) ≤ i) && decide ((i : Int) ≤ 100)) = true
    rw [decide_eq_true (by omega), decide_eq_true (by omega)]; rfl
  have e2 : (isNum 0 100 (.int (i : Int)) && docB k x) = true := by rw [e, h.1]; rfl
  rcases any2 hw with rfl | rfl <;> exact e2, ((Gds.cons (Gd.str _) (Gds.cons (Gd.int _) (Gds.cons h.2 (Gds.nil 0)))).tup).mono (by omega)⟩
theorem doc_either {k n m : Nat} {x y : PyData} (h : Doc k n x) (h2 : Doc k m y) : Doc (k + 1) (n + m + 2) (.tuple [.str "either", x, y]) := ⟨by
  show (true && (docB k x && docB k y)) = true
  rw [h.1, h2.1]; rfl, ((Gds.cons (Gd.str _) (Gds.cons h.2 (Gds.cons h2.2 (Gds.nil 0)))).tup).mono (by omega)⟩
theorem doc_join {k n : Nat} {xs : List PyData} (hl : xs.length ≤ 8) (h : ∀ x ∈ xs, docB k x = true) (hg : Gds n xs) : Doc (k + 1) (n + 2) (.tuple (.str "join" :: xs)) := ⟨by
  show (decide ((xs.length : Int) ≤ 8) && xs.all fun p => docB k p) = true
  rw [decide_eq_true (by omega), Bool.true_and, List.all_eq_true]; exact h, ((Gds.cons (Gd.str _) hg).tup).mono (by omega)⟩
theorem rt_document : ∀ (k n : Nat) (t : Tp), k < n → t.Ok → RT (Doc (k + 1) (gD k)) (f__law_document n t (.int ((k + 1 : Nat) : Int)))
  | _, 0, _, h, _ => by omega
  | k, n + 1, t, hn, ht => by
    rw [f__law_document]
    unfold fn__law_document
    simp only [bO, bA, bT, bAT, bTA, bTT, eTn, eTb, eTi, eTs, eTl, eTt, eTru_b, eBl, eLen_tup, eLen_lst, eLen_str, eTuple_tup, eTuple_lst, eLe, eLt, eGt, eGe, eAdd, eSub, eNeg, eIs_none, eIsN_none, eIt_tup, eIt_lst, eAp1, eAp2, eAp3, eApT0, eApT1, eApT2, eUn2, eL2, eChk0, eChk1, eChk2, eChk3, eChk4, eChk5, eChk6, eIx0L, eIx1L, fEq_int, fNe_int, fEq_str, eIx0, eIx1, eIx2, eSl1, eIsI, eEnum_t, eEnum_l, eBool_t, eBool_l, nn_none, nn_tup, nn_lst, nn_str, nn_int, nn_bool, bind_id, String.reduceBEq, if_true, if_false, Bool.false_eq_true, beq_self_eq_true, Bool.not_true, Bool.not_false, Bool.or_self, Bool.or_true, Bool.true_or, List.length_cons, List.length_nil, decide_true, decide_false, eIn1, eIn2, eIn3, eIn4, fNe_str, ofS_eq, String.reduceEq, Bool.or_false, Bool.false_or, eL3, eAp4, eUn4]
    refine (draw ht (by omega) (by omega)).bind fun pick t ht ⟨i, hi, e⟩ => ?_
    subst e
    simp only [bO, bA, bT, bAT, bTA, bTT, eTn, eTb, eTi, eTs, eTl, eTt, eTru_b, eBl, eLen_tup, eLen_lst, eLen_str, eTuple_tup, eTuple_lst, eLe, eLt, eGt, eGe, eAdd, eSub, eNeg, eIs_none, eIsN_none, eIt_tup, eIt_lst, eAp1, eAp2, eAp3, eApT0, eApT1, eApT2, eUn2, eL2, eChk0, eChk1, eChk2, eChk3, eChk4, eChk5, eChk6, eIx0L, eIx1L, fEq_int, fNe_int, fEq_str, eIx0, eIx1, eIx2, eSl1, eIsI, eEnum_t, eEnum_l, eBool_t, eBool_l, nn_none, nn_tup, nn_lst, nn_str, nn_int, nn_bool, bind_id, String.reduceBEq, if_true, if_false, Bool.false_eq_true, beq_self_eq_true, Bool.not_true, Bool.not_false, Bool.or_self, Bool.or_true, Bool.true_or, List.length_cons, List.length_nil, decide_true, decide_false, eIn1, eIn2, eIn3, eIn4, fNe_str, ofS_eq, String.reduceEq, Bool.or_false, Bool.false_or, eL3, eAp4, eUn4]
    have leaf : RT (Doc (k + 1) (gD k)) ((f__law_draw t (PyData.int 5)).bindT fun a t =>
                 (fIx (PyData.list [PyData.str (Str.ofString ""), PyData.str (Str.ofString "a"), PyData.str (Str.ofString "bc"), PyData.str (Str.ofString "a b"), PyData.str (Str.ofString "abcd")]) a).bind
                  fun a => (f__law_draw t (PyData.int 6)).bindT fun a284 t285 =>
                   (fIx (PyData.list [PyData.tuple [PyData.str (Str.ofString "text"), a], PyData.tuple [PyData.str (Str.ofString "text"), PyData.str (Str.ofString "x")], PyData.tuple [PyData.str (Str.ofString "line")],
                        PyData.tuple [PyData.str (Str.ofString "soft")], PyData.tuple [PyData.str (Str.ofString "hard")], PyData.tuple [PyData.str (Str.ofString "line")]]) a284).bind fun d_ => R.ok (d_, t285)) := by
      refine (draw ht (by omega) (by omega)).bind fun _ t ht ⟨j, hj, e⟩ => ?_
      subst e
      have tx : ∀ x ∈ [PyData.str (Str.ofString ""), PyData.str (Str.ofString "a"), PyData.str (Str.ofString "bc"), PyData.str (Str.ofString "a b"), PyData.str (Str.ofString "abcd")], ∃ s, x = .str s ∧ isText (.str s) = true :=
        all_cons ⟨_, rfl, by decide +kernel⟩ (all_cons ⟨_, rfl, by decide +kernel⟩ (all_cons ⟨_, rfl, by decide +kernel⟩ (all_cons ⟨_, rfl, by decide +kernel⟩ (all_cons ⟨_, rfl, by decide +kernel⟩ all_nil))))
      obtain ⟨x, hx, e⟩ := ix_mem (xs := [PyData.str (Str.ofString ""), PyData.str (Str.ofString "a"), PyData.str (Str.ofString "bc"), PyData.str (Str.ofString "a b"), PyData.str (Str.ofString "abcd")]) (i := j) (by simp; omega)
      rw [e, bO]
      obtain ⟨s, rfl, hs⟩ := tx x hx
      refine (draw ht (by omega) (by omega)).bind fun _ t ht ⟨j, hj, e⟩ => ?_
      subst e
      have g := gD_pos k
      exact rt_pick ht (all_cons ((doc_text k s hs).mono g) (all_cons ((doc_text k _ (by decide +kernel)).mono g) (all_cons ((doc_leaf k _ rfl).mono g) (all_cons ((doc_leaf k _ rfl).mono g) (all_cons ((doc_leaf k _ rfl).mono g) (all_cons ((doc_leaf k _ rfl).mono g) all_nil)))))) (by simp; omega)
    cases k with
    | zero =>
      rw [show decide ((1 : Int) < ((0 + 1 : Nat) : Int)) = false from rfl]
      simp only [bO, bA, bT, bAT, bTA, bTT, eTn, eTb, eTi, eTs, eTl, eTt, eTru_b, eBl, eLen_tup, eLen_lst, eLen_str, eTuple_tup, eTuple_lst, eLe, eLt, eGt, eGe, eAdd, eSub, eNeg, eIs_none, eIsN_none, eIt_tup, eIt_lst, eAp1, eAp2, eAp3, eApT0, eApT1, eApT2, eUn2, eL2, eChk0, eChk1, eChk2, eChk3, eChk4, eChk5, eChk6, eIx0L, eIx1L, fEq_int, fNe_int, fEq_str, eIx0, eIx1, eIx2, eSl1, eIsI, eEnum_t, eEnum_l, eBool_t, eBool_l, nn_none, nn_tup, nn_lst, nn_str, nn_int, nn_bool, bind_id, String.reduceBEq, if_true, if_false, Bool.false_eq_true, beq_self_eq_true, Bool.not_true, Bool.not_false, Bool.or_self, Bool.or_true, Bool.true_or, List.length_cons, List.length_nil, decide_true, decide_false, eIn1, eIn2, eIn3, eIn4, fNe_str, ofS_eq, String.reduceEq, Bool.or_false, Bool.false_or, eL3, eAp4, eUn4]
      exact leaf
    | succ k =>
      have g := gD_pos k
      rw [show decide ((1 : Int) < ((k + 1 + 1 : Nat) : Int)) = true from decide_eq_true (by omega)]
      simp only [bO, bA, bT, bAT, bTA, bTT, eTn, eTb, eTi, eTs, eTl, eTt, eTru_b, eBl, eLen_tup, eLen_lst, eLen_str, eTuple_tup, eTuple_lst, eLe, eLt, eGt, eGe, eAdd, eSub, eNeg, eIs_none, eIsN_none, eIt_tup, eIt_lst, eAp1, eAp2, eAp3, eApT0, eApT1, eApT2, eUn2, eL2, eChk0, eChk1, eChk2, eChk3, eChk4, eChk5, eChk6, eIx0L, eIx1L, fEq_int, fNe_int, fEq_str, eIx0, eIx1, eIx2, eSl1, eIsI, eEnum_t, eEnum_l, eBool_t, eBool_l, nn_none, nn_tup, nn_lst, nn_str, nn_int, nn_bool, bind_id, String.reduceBEq, if_true, if_false, Bool.false_eq_true, beq_self_eq_true, Bool.not_true, Bool.not_false, Bool.or_self, Bool.or_true, Bool.true_or, List.length_cons, List.length_nil, decide_true, decide_false, eIn1, eIn2, eIn3, eIn4, fNe_str, ofS_eq, String.reduceEq, Bool.or_false, Bool.false_or, eL3, eAp4, eUn4]
      rw [show (((k + 1 + 1 : Nat) : Int) - 1) = ((k + 1 : Nat) : Int) by omega]
      by_cases h5 : (i : Int) < 5
      · rw [decide_eq_true h5]
        simp only [bO, bA, bT, bAT, bTA, bTT, eTn, eTb, eTi, eTs, eTl, eTt, eTru_b, eBl, eLen_tup, eLen_lst, eLen_str, eTuple_tup, eTuple_lst, eLe, eLt, eGt, eGe, eAdd, eSub, eNeg, eIs_none, eIsN_none, eIt_tup, eIt_lst, eAp1, eAp2, eAp3, eApT0, eApT1, eApT2, eUn2, eL2, eChk0, eChk1, eChk2, eChk3, eChk4, eChk5, eChk6, eIx0L, eIx1L, fEq_int, fNe_int, fEq_str, eIx0, eIx1, eIx2, eSl1, eIsI, eEnum_t, eEnum_l, eBool_t, eBool_l, nn_none, nn_tup, nn_lst, nn_str, nn_int, nn_bool, bind_id, String.reduceBEq, if_true, if_false, Bool.false_eq_true, beq_self_eq_true, Bool.not_true, Bool.not_false, Bool.or_self, Bool.or_true, Bool.true_or, List.length_cons, List.length_nil, decide_true, decide_false, eIn1, eIn2, eIn3, eIn4, fNe_str, ofS_eq, String.reduceEq, Bool.or_false, Bool.false_or, eL3, eAp4, eUn4]
        refine (draw ht (by omega) (by omega)).bind fun _ t ht ⟨j, hj, e⟩ => ?_
        subst e
        rw [rng1F_nat (by omega), bO]
        refine (rt_lcT (P := Doc (k + 1) (gD k)) (by rw [rngD_length]; omega) ht fun x _ t ht => rt_document k n t (by omega) ht).bind fun _ t ht ⟨ys, e, hl, hy⟩ => ?_
        subst e
        rw [rngD_length] at hl
        have gs := gds_all (k := gD k) fun x hx => (hy x hx).2
        simp only [bO, bA, bT, bAT, bTA, bTT, eTn, eTb, eTi, eTs, eTl, eTt, eTru_b, eBl, eLen_tup, eLen_lst, eLen_str, eTuple_tup, eTuple_lst, eLe, eLt, eGt, eGe, eAdd, eSub, eNeg, eIs_none, eIsN_none, eIt_tup, eIt_lst, eAp1, eAp2, eAp3, eApT0, eApT1, eApT2, eUn2, eL2, eChk0, eChk1, eChk2, eChk3, eChk4, eChk5, eChk6, eIx0L, eIx1L, fEq_int, fNe_int, fEq_str, eIx0, eIx1, eIx2, eSl1, eIsI, eEnum_t, eEnum_l, eBool_t, eBool_l, nn_none, nn_tup, nn_lst, nn_str, nn_int, nn_bool, bind_id, String.reduceBEq, if_true, if_false, Bool.false_eq_true, beq_self_eq_true, Bool.not_true, Bool.not_false, Bool.or_self, Bool.or_true, Bool.true_or, List.length_cons, List.length_nil, decide_true, decide_false, eIn1, eIn2, eIn3, eIn4, fNe_str, ofS_eq, String.reduceEq, Bool.or_false, Bool.false_or, eL3, eAp4, eUn4]
        rw [eAddT (by rw [List.length_singleton]; omega)]
        exact .ret ht ((doc_join (by omega) (fun x hx => (hy x hx).1) gs).mono (by
          have : ys.length * gD k ≤ 3 * gD k := Nat.mul_le_mul_right _ (by omega)
          simp only [gD]; omega))
      · rw [decide_eq_false h5]
        simp only [bO, bA, bT, bAT, bTA, bTT, eTn, eTb, eTi, eTs, eTl, eTt, eTru_b, eBl, eLen_tup, eLen_lst, eLen_str, eTuple_tup, eTuple_lst, eLe, eLt, eGt, eGe, eAdd, eSub, eNeg, eIs_none, eIsN_none, eIt_tup, eIt_lst, eAp1, eAp2, eAp3, eApT0, eApT1, eApT2, eUn2, eL2, eChk0, eChk1, eChk2, eChk3, eChk4, eChk5, eChk6, eIx0L, eIx1L, fEq_int, fNe_int, fEq_str, eIx0, eIx1, eIx2, eSl1, eIsI, eEnum_t, eEnum_l, eBool_t, eBool_l, nn_none, nn_tup, nn_lst, nn_str, nn_int, nn_bool, bind_id, String.reduceBEq, if_true, if_false, Bool.false_eq_true, beq_self_eq_true, Bool.not_true, Bool.not_false, Bool.or_self, Bool.or_true, Bool.true_or, List.length_cons, List.length_nil, decide_true, decide_false, eIn1, eIn2, eIn3, eIn4, fNe_str, ofS_eq, String.reduceEq, Bool.or_false, Bool.false_or, eL3, eAp4, eUn4]
        by_cases h11 : (i : Int) < 11
        · rw [decide_eq_true h11]
          simp only [bO, bA, bT, bAT, bTA, bTT, eTn, eTb, eTi, eTs, eTl, eTt, eTru_b, eBl, eLen_tup, eLen_lst, eLen_str, eTuple_tup, eTuple_lst, eLe, eLt, eGt, eGe, eAdd, eSub, eNeg, eIs_none, eIsN_none, eIt_tup, eIt_lst, eAp1, eAp2, eAp3, eApT0, eApT1, eApT2, eUn2, eL2, eChk0, eChk1, eChk2, eChk3, eChk4, eChk5, eChk6, eIx0L, eIx1L, fEq_int, fNe_int, fEq_str, eIx0, eIx1, eIx2, eSl1, eIsI, eEnum_t, eEnum_l, eBool_t, eBool_l, nn_none, nn_tup, nn_lst, nn_str, nn_int, nn_bool, bind_id, String.reduceBEq, if_true, if_false, Bool.false_eq_true, beq_self_eq_true, Bool.not_true, Bool.not_false, Bool.or_self, Bool.or_true, Bool.true_or, List.length_cons, List.length_nil, decide_true, decide_false, eIn1, eIn2, eIn3, eIn4, fNe_str, ofS_eq, String.reduceEq, Bool.or_false, Bool.false_or, eL3, eAp4, eUn4]
          refine (rt_document k n t (by omega) ht).bind fun x t ht hx => ?_
          refine (draw ht (by omega) (by omega)).bind fun _ t ht ⟨j, hj, e⟩ => ?_
          subst e
          refine (draw ht (by omega) (by omega)).bind fun _ t ht ⟨j2, hj2, e⟩ => ?_
          subst e
          rw [show ((i : Int) - 5) = ((i - 5 : Nat) : Int) by omega]
          have m2 : gD k + 2 ≤ gD (k + 1) := by simp only [gD]; omega
          have m3 : gD k + 3 ≤ gD (k + 1) := by simp only [gD]; omega
          exact rt_pick ht (all_cons ((doc_num _ rfl (by omega) hx).mono m3) (all_cons ((doc_in _ rfl hx).mono m2) (all_cons ((doc_in _ rfl hx).mono m2) (all_cons ((doc_in _ rfl hx).mono m2) (all_cons ((doc_num _ rfl (by omega) hx).mono m3) (all_cons ((doc_in _ rfl hx).mono m2) all_nil)))))) (by simp; omega)
        · rw [decide_eq_false h11]
          simp only [bO, bA, bT, bAT, bTA, bTT, eTn, eTb, eTi, eTs, eTl, eTt, eTru_b, eBl, eLen_tup, eLen_lst, eLen_str, eTuple_tup, eTuple_lst, eLe, eLt, eGt, eGe, eAdd, eSub, eNeg, eIs_none, eIsN_none, eIt_tup, eIt_lst, eAp1, eAp2, eAp3, eApT0, eApT1, eApT2, eUn2, eL2, eChk0, eChk1, eChk2, eChk3, eChk4, eChk5, eChk6, eIx0L, eIx1L, fEq_int, fNe_int, fEq_str, eIx0, eIx1, eIx2, eSl1, eIsI, eEnum_t, eEnum_l, eBool_t, eBool_l, nn_none, nn_tup, nn_lst, nn_str, nn_int, nn_bool, bind_id, String.reduceBEq, if_true, if_false, Bool.false_eq_true, beq_self_eq_true, Bool.not_true, Bool.not_false, Bool.or_self, Bool.or_true, Bool.true_or, List.length_cons, List.length_nil, decide_true, decide_false, eIn1, eIn2, eIn3, eIn4, fNe_str, ofS_eq, String.reduceEq, Bool.or_false, Bool.false_or, eL3, eAp4, eUn4]
          by_cases h12 : (i : Int) = 11
          · rw [decide_eq_true h12]
            simp only [bO, bA, bT, bAT, bTA, bTT, eTn, eTb, eTi, eTs, eTl, eTt, eTru_b, eBl, eLen_tup, eLen_lst, eLen_str, eTuple_tup, eTuple_lst, eLe, eLt, eGt, eGe, eAdd, eSub, eNeg, eIs_none, eIsN_none, eIt_tup, eIt_lst, eAp1, eAp2, eAp3, eApT0, eApT1, eApT2, eUn2, eL2, eChk0, eChk1, eChk2, eChk3, eChk4, eChk5, eChk6, eIx0L, eIx1L, fEq_int, fNe_int, fEq_str, eIx0, eIx1, eIx2, eSl1, eIsI, eEnum_t, eEnum_l, eBool_t, eBool_l, nn_none, nn_tup, nn_lst, nn_str, nn_int, nn_bool, bind_id, String.reduceBEq, if_true, if_false, Bool.false_eq_true, beq_self_eq_true, Bool.not_true, Bool.not_false, Bool.or_self, Bool.or_true, Bool.true_or, List.length_cons, List.length_nil, decide_true, decide_false, eIn1, eIn2, eIn3, eIn4, fNe_str, ofS_eq, String.reduceEq, Bool.or_false, Bool.false_or, eL3, eAp4, eUn4]
            refine (rt_document k n t (by omega) ht).bind fun x t ht hx => ?_
            refine (rt_document k n t (by omega) ht).bind fun y t ht hy => ?_
            exact .ret ht ((doc_either hx hy).mono (by simp only [gD]; omega))
          · rw [decide_eq_false h12]
            simp only [bO, bA, bT, bAT, bTA, bTT, eTn, eTb, eTi, eTs, eTl, eTt, eTru_b, eBl, eLen_tup, eLen_lst, eLen_str, eTuple_tup, eTuple_lst, eLe, eLt, eGt, eGe, eAdd, eSub, eNeg, eIs_none, eIsN_none, eIt_tup, eIt_lst, eAp1, eAp2, eAp3, eApT0, eApT1, eApT2, eUn2, eL2, eChk0, eChk1, eChk2, eChk3, eChk4, eChk5, eChk6, eIx0L, eIx1L, fEq_int, fNe_int, fEq_str, eIx0, eIx1, eIx2, eSl1, eIsI, eEnum_t, eEnum_l, eBool_t, eBool_l, nn_none, nn_tup, nn_lst, nn_str, nn_int, nn_bool, bind_id, String.reduceBEq, if_true, if_false, Bool.false_eq_true, beq_self_eq_true, Bool.not_true, Bool.not_false, Bool.or_self, Bool.or_true, Bool.true_or, List.length_cons, List.length_nil, decide_true, decide_false, eIn1, eIn2, eIn3, eIn4, fNe_str, ofS_eq, String.reduceEq, Bool.or_false, Bool.false_or, eL3, eAp4, eUn4]
            exact leaf
end K00

end
section
/-! what the tape gives: something changed -/
namespace K00
open PySem PySem.Spec PyProof.Rows L2 L2.DY
theorem leaf_gd {t : Tp} {xs : List PyData} {p : Nat} {n : Nat} (ht : t.Ok) (hn : 1 ≤ n) (h : ∀ x ∈ xs, wt x = 1 ∧ noD x = true) (hp : p < xs.length) : RT (Gd n) ((fIx (.list xs) (.int (p : Int))).bind fun x => R.ok (x, t)) :=
  rt_pick ht (fun x hx => ⟨(h x hx).2, by rw [(h x hx).1]; exact hn⟩) hp
theorem rt_bent : ∀ (n w : Nat) (t : Tp) (v : PyData), w ≤ n → w ≤ 1000 → t.Ok → Gd w v → RT (Gd (2 * w + 6)) (f__law_bent n t v)
  | 0, w, t, v, h, _, _, hv => by have := wt_pos v; have := hv.2; omega
  | n + 1, w, t, v, h, hw, ht, hv => by
    rw [f__law_bent]
    unfold fn__law_bent
    simp only [bO, bA, bT, bAT, bTA, bTT, eTn, eTb, eTi, eTs, eTl, eTt, eTru_b, eBl, eLen_tup, eLen_lst, eLen_str, eTuple_tup, eTuple_lst, eLe, eLt, eGt, eGe, eAdd, eSub, eNeg, eIs_none, eIsN_none, eIt_tup, eIt_lst, eAp1, eAp2, eAp3, eApT0, eApT1, eApT2, eUn2, eL2, eChk0, eChk1, eChk2, eChk3, eChk4, eChk5, eChk6, eIx0L, eIx1L, fEq_int, fNe_int, fEq_str, eIx0, eIx1, eIx2, eSl1, eIsI, eEnum_t, eEnum_l, eBool_t, eBool_l, nn_none, nn_tup, nn_lst, nn_str, nn_int, nn_bool, bind_id, String.reduceBEq, if_true, if_false, Bool.false_eq_true, beq_self_eq_true, Bool.not_true, Bool.not_false, Bool.or_self, Bool.or_true, Bool.true_or, List.length_cons, List.length_nil, decide_true, decide_false, eIn1, eIn2, eIn3, eIn4, fNe_str, ofS_eq, String.reduceEq, Bool.or_false, Bool.false_or, eL3, eAp4, eUn4]
    cases v with
    | tuple xs =>
      have hxs : noDs xs = true := by simpa [noD] using hv.1
      have hwx : 1 + wts xs ≤ w := by have := hv.2; simpa only [wt] using this
      have hlen := wts_length xs
      simp only [bO, bA, bT, bAT, bTA, bTT, eTn, eTb, eTi, eTs, eTl, eTt, eTru_b, eBl, eLen_tup, eLen_lst, eLen_str, eTuple_tup, eTuple_lst, eLe, eLt, eGt, eGe, eAdd, eSub, eNeg, eIs_none, eIsN_none, eIt_tup, eIt_lst, eAp1, eAp2, eAp3, eApT0, eApT1, eApT2, eUn2, eL2, eChk0, eChk1, eChk2, eChk3, eChk4, eChk5, eChk6, eIx0L, eIx1L, fEq_int, fNe_int, fEq_str, eIx0, eIx1, eIx2, eSl1, eIsI, eEnum_t, eEnum_l, eBool_t, eBool_l, nn_none, nn_tup, nn_lst, nn_str, nn_int, nn_bool, bind_id, String.reduceBEq, if_true, if_false, Bool.false_eq_true, beq_self_eq_true, Bool.not_true, Bool.not_false, Bool.or_self, Bool.or_true, Bool.true_or, List.length_cons, List.length_nil, decide_true, decide_false, eIn1, eIn2, eIn3, eIn4, fNe_str, ofS_eq, String.reduceEq, Bool.or_false, Bool.false_or, eL3, eAp4, eUn4, eNe_nil hxs]
      have tail : ∀ t : Tp, t.Ok → RT (Gd (2 * w + 6)) ((f__law_draw t (PyData.int 9)).bindT fun pick_75 t76 =>
       (fSl (PyData.tuple xs) none (some 1)).bind fun a =>
        (fAdd (PyData.tuple xs) a).bind fun a =>
         (fSl (PyData.tuple xs) (some 1) none).bind fun a_1 =>
          (fRev (PyData.tuple xs)).bind fun a_2 =>
           (fAdd (PyData.tuple xs) (PyData.tuple [PyData.int 3])).bind fun a_3 =>
            (chkL
               [PyData.tuple [], a, a_1, a_2, PyData.tuple [PyData.str (Str.ofString "group"), PyData.tuple xs], a_3, PyData.none,
                PyData.tuple [PyData.str (Str.ofString "text"), PyData.str (Str.ofString "a")],
                PyData.tuple [PyData.str (Str.ofString "line"), PyData.int 1]]
               (PyData.list
                [PyData.tuple [], a, a_1, a_2, PyData.tuple [PyData.str (Str.ofString "group"), PyData.tuple xs], a_3, PyData.none,
                 PyData.tuple [PyData.str (Str.ofString "text"), PyData.str (Str.ofString "a")],
                 PyData.tuple [PyData.str (Str.ofString "line"), PyData.int 1]])).bind
             fun a => (fIx a pick_75).bind fun x_ => R.ok (x_, t76)) := fun t ht => by
        refine (draw ht (by omega) (by omega)).bind fun _ t ht ⟨p, hp, e⟩ => ?_
        subst e
        have g : Gds (w - 1) xs := ⟨hxs, by omega⟩
        have g1 : Gds (w - 1) (xs.take 1) := g.sub (List.take_sublist 1 xs)
        have g2 : Gds (w - 1) (xs.drop 1) := g.sub (List.drop_sublist 1 xs)
        have l1 : (xs.take 1).length ≤ 1 := List.length_take_le 1 xs
        have s1 := eSlTo xs 1
        have s2 := eSlFrom xs 1
        rw [show ((1 : Nat) : Int) = 1 from rfl] at s1 s2
        rw [s1, bO, eAddT (by omega), bO, s2, bO, show fRev (.tuple xs) = .ok (.tuple xs.reverse) from rfl, bO, eAddT (by rw [List.length_singleton]; omega), bO, eChkN _ (by simp), bO]
        exact rt_pick ht (all_cons ((Gds.nil 0).tup.mono (by omega)) (all_cons ((g.append g1).tup.mono (by omega)) (all_cons (g2.tup.mono (by omega)) (all_cons (g.rev.tup.mono (by omega)) (all_cons ((Gds.cons (Gd.str _) (Gds.cons hv (Gds.nil 0))).tup.mono (by omega))
          (all_cons ((g.append (Gds.cons (Gd.int _) (Gds.nil 0))).tup.mono (by omega)) (all_cons (Gd.none.mono (by omega)) (all_cons ((Gds.cons (Gd.str _) (Gds.cons (Gd.str _) (Gds.nil 0))).tup.mono (by omega))
          (all_cons ((Gds.cons (Gd.str _) (Gds.cons (Gd.int _) (Gds.nil 0))).tup.mono (by omega)) all_nil))))))))) (by simp; omega)
      cases he : xs.isEmpty with
      | true =>
        simp only [bO, bA, bT, bAT, bTA, bTT, eTn, eTb, eTi, eTs, eTl, eTt, eTru_b, eBl, eLen_tup, eLen_lst, eLen_str, eTuple_tup, eTuple_lst, eLe, eLt, eGt, eGe, eAdd, eSub, eNeg, eIs_none, eIsN_none, eIt_tup, eIt_lst, eAp1, eAp2, eAp3, eApT0, eApT1, eApT2, eUn2, eL2, eChk0, eChk1, eChk2, eChk3, eChk4, eChk5, eChk6, eIx0L, eIx1L, fEq_int, fNe_int, fEq_str, eIx0, eIx1, eIx2, eSl1, eIsI, eEnum_t, eEnum_l, eBool_t, eBool_l, nn_none, nn_tup, nn_lst, nn_str, nn_int, nn_bool, bind_id, String.reduceBEq, if_true, if_false, Bool.false_eq_true, beq_self_eq_true, Bool.not_true, Bool.not_false, Bool.or_self, Bool.or_true, Bool.true_or, List.length_cons, List.length_nil, decide_true, decide_false, eIn1, eIn2, eIn3, eIn4, fNe_str, ofS_eq, String.reduceEq, Bool.or_false, Bool.false_or, eL3, eAp4, eUn4]
        exact tail t ht
      | false =>
        have zl : 1 ≤ xs.length := by
          cases xs with
          | nil => cases he
          | cons y ys => rw [List.length_cons]; omega
        simp only [bO, bA, bT, bAT, bTA, bTT, eTn, eTb, eTi, eTs, eTl, eTt, eTru_b, eBl, eLen_tup, eLen_lst, eLen_str, eTuple_tup, eTuple_lst, eLe, eLt, eGt, eGe, eAdd, eSub, eNeg, eIs_none, eIsN_none, eIt_tup, eIt_lst, eAp1, eAp2, eAp3, eApT0, eApT1, eApT2, eUn2, eL2, eChk0, eChk1, eChk2, eChk3, eChk4, eChk5, eChk6, eIx0L, eIx1L, fEq_int, fNe_int, fEq_str, eIx0, eIx1, eIx2, eSl1, eIsI, eEnum_t, eEnum_l, eBool_t, eBool_l, nn_none, nn_tup, nn_lst, nn_str, nn_int, nn_bool, bind_id, String.reduceBEq, if_true, if_false, Bool.false_eq_true, beq_self_eq_true, Bool.not_true, Bool.not_false, Bool.or_self, Bool.or_true, Bool.true_or, List.length_cons, List.length_nil, decide_true, decide_false, eIn1, eIn2, eIn3, eIn4, fNe_str, ofS_eq, String.reduceEq, Bool.or_false, Bool.false_or, eL3, eAp4, eUn4]
        refine (draw ht (by omega) (by omega)).bind fun _ t ht ⟨q, hq, e⟩ => ?_
        subst e
        simp only [bO, bA, bT, bAT, bTA, bTT, eTn, eTb, eTi, eTs, eTl, eTt, eTru_b, eBl, eLen_tup, eLen_lst, eLen_str, eTuple_tup, eTuple_lst, eLe, eLt, eGt, eGe, eAdd, eSub, eNeg, eIs_none, eIsN_none, eIt_tup, eIt_lst, eAp1, eAp2, eAp3, eApT0, eApT1, eApT2, eUn2, eL2, eChk0, eChk1, eChk2, eChk3, eChk4, eChk5, eChk6, eIx0L, eIx1L, fEq_int, fNe_int, fEq_str, eIx0, eIx1, eIx2, eSl1, eIsI, eEnum_t, eEnum_l, eBool_t, eBool_l, nn_none, nn_tup, nn_lst, nn_str, nn_int, nn_bool, bind_id, String.reduceBEq, if_true, if_false, Bool.false_eq_true, beq_self_eq_true, Bool.not_true, Bool.not_false, Bool.or_self, Bool.or_true, Bool.true_or, List.length_cons, List.length_nil, decide_true, decide_false, eIn1, eIn2, eIn3, eIn4, fNe_str, ofS_eq, String.reduceEq, Bool.or_false, Bool.false_or, eL3, eAp4, eUn4]
        cases decide ((0 : Int) < (q : Int)) with
        | false => exact tail t ht
        | true =>
          rw [if_pos rfl]
          refine (draw ht (by omega) (by omega)).bind fun _ t ht ⟨p, hp, e⟩ => ?_
          subst e
          have hpl : p < xs.length := by omega
          simp only [bO, bA, bT, bAT, bTA, bTT, eTn, eTb, eTi, eTs, eTl, eTt, eTru_b, eBl, eLen_tup, eLen_lst, eLen_str, eTuple_tup, eTuple_lst, eLe, eLt, eGt, eGe, eAdd, eSub, eNeg, eIs_none, eIsN_none, eIt_tup, eIt_lst, eAp1, eAp2, eAp3, eApT0, eApT1, eApT2, eUn2, eL2, eChk0, eChk1, eChk2, eChk3, eChk4, eChk5, eChk6, eIx0L, eIx1L, fEq_int, fNe_int, fEq_str, eIx0, eIx1, eIx2, eSl1, eIsI, eEnum_t, eEnum_l, eBool_t, eBool_l, nn_none, nn_tup, nn_lst, nn_str, nn_int, nn_bool, bind_id, String.reduceBEq, if_true, if_false, Bool.false_eq_true, beq_self_eq_true, Bool.not_true, Bool.not_false, Bool.or_self, Bool.or_true, Bool.true_or, List.length_cons, List.length_nil, decide_true, decide_false, eIn1, eIn2, eIn3, eIn4, fNe_str, ofS_eq, String.reduceEq, Bool.or_false, Bool.false_or, eL3, eAp4, eUn4, eSlTo, fIx_tup hpl]
          have hm : xs[p] ∈ xs := List.getElem_mem hpl
          have split : wts (xs.take p) + (wt xs[p] + wts (xs.drop (p + 1))) = wts xs := by
            conv => rhs; rw [← List.take_append_drop p xs, List.drop_eq_getElem_cons hpl]
            rw [wts_append, wts]
          refine (rt_bent n (wt xs[p]) t xs[p] (by omega) (by omega) ht ⟨noDs_all hxs _ hm, Nat.le_refl _⟩).bind fun d t ht hd => ?_
          have lt : (xs.take p).length ≤ p := List.length_take_le p xs
          have ld : (xs.drop (p + 1)).length ≤ xs.length := by rw [List.length_drop]; omega
          rw [eAddT (by rw [List.length_singleton]; omega), bO, show ((p : Int) + 1) = ((p + 1 : Nat) : Int) by omega, eSlFrom, bO, eAddT (by rw [List.length_append, List.length_singleton]; omega), bO]
          refine .ret ht ⟨?_, ?_⟩
          · show noDs _ = true
            exact noDs_append (noDs_append (noDs_of fun x hx => noDs_all hxs x (List.mem_of_mem_take hx)) (noDs_of (all_cons hd.1 all_nil))) (noDs_of fun x hx => noDs_all hxs x (List.mem_of_mem_drop hx))
          · have := hd.2
            simp only [wt, wts_append, wts]
            omega
    | dict ds => exact absurd hv.1 (by simp [noD])
    | str s =>
      simp only [bO, bA, bT, bAT, bTA, bTT, eTn, eTb, eTi, eTs, eTl, eTt, eTru_b, eBl, eLen_tup, eLen_lst, eLen_str, eTuple_tup, eTuple_lst, eLe, eLt, eGt, eGe, eAdd, eSub, eNeg, eIs_none, eIsN_none, eIt_tup, eIt_lst, eAp1, eAp2, eAp3, eApT0, eApT1, eApT2, eUn2, eL2, eChk0, eChk1, eChk2, eChk3, eChk4, eChk5, eChk6, eIx0L, eIx1L, fEq_int, fNe_int, fEq_str, eIx0, eIx1, eIx2, eSl1, eIsI, eEnum_t, eEnum_l, eBool_t, eBool_l, nn_none, nn_tup, nn_lst, nn_str, nn_int, nn_bool, bind_id, String.reduceBEq, if_true, if_false, Bool.false_eq_true, beq_self_eq_true, Bool.not_true, Bool.not_false, Bool.or_self, Bool.or_true, Bool.true_or, List.length_cons, List.length_nil, decide_true, decide_false, eIn1, eIn2, eIn3, eIn4, fNe_str, ofS_eq, String.reduceEq, Bool.or_false, Bool.false_or, eL3, eAp4, eUn4]
      refine (draw ht (by omega) (by omega)).bind fun _ t ht ⟨p, hp, e⟩ => ?_
      subst e
      rw [eChkN _ (by simp), bO]
      exact leaf_gd ht (by omega) (by intro x hx; simp only [List.mem_cons, List.not_mem_nil, or_false] at hx; rcases hx with rfl | rfl | rfl | rfl | rfl | rfl | rfl | rfl | rfl <;> exact ⟨rfl, rfl⟩) (by simp; omega)
    | _ =>
      simp only [bO, bA, bT, bAT, bTA, bTT, eTn, eTb, eTi, eTs, eTl, eTt, eTru_b, eBl, eLen_tup, eLen_lst, eLen_str, eTuple_tup, eTuple_lst, eLe, eLt, eGt, eGe, eAdd, eSub, eNeg, eIs_none, eIsN_none, eIt_tup, eIt_lst, eAp1, eAp2, eAp3, eApT0, eApT1, eApT2, eUn2, eL2, eChk0, eChk1, eChk2, eChk3, eChk4, eChk5, eChk6, eIx0L, eIx1L, fEq_int, fNe_int, fEq_str, eIx0, eIx1, eIx2, eSl1, eIsI, eEnum_t, eEnum_l, eBool_t, eBool_l, nn_none, nn_tup, nn_lst, nn_str, nn_int, nn_bool, bind_id, String.reduceBEq, if_true, if_false, Bool.false_eq_true, beq_self_eq_true, Bool.not_true, Bool.not_false, Bool.or_self, Bool.or_true, Bool.true_or, List.length_cons, List.length_nil, decide_true, decide_false, eIn1, eIn2, eIn3, eIn4, fNe_str, ofS_eq, String.reduceEq, Bool.or_false, Bool.false_or, eL3, eAp4, eUn4]
      refine (draw ht (by omega) (by omega)).bind fun _ t ht ⟨p, hp, e⟩ => ?_
      subst e
      rw [eChkN _ (by simp), bO]
      exact leaf_gd ht (by omega) (by intro x hx; simp only [List.mem_cons, List.not_mem_nil, or_false] at hx; rcases hx with rfl | rfl | rfl | rfl | rfl | rfl | rfl | rfl | rfl <;> exact ⟨rfl, rfl⟩) (by simp; omega)
end K00

end
section
/-! parts and sizes of documents -/
namespace K00
open PySem PySem.Spec PyProof.Rows L2 L2.DY
def partL (w : Str) (ps : List PyData) : List PyData := if numdB w = true then ps.drop 1 else if (brkB w || decide (w = ("text" : Str))) = true then [] else ps
def partD : PyData → List PyData
  | .tuple (.str w :: ps) => partL w ps
  | _ => []
theorem parts_of_eq (w : Str) (ps : List PyData) : f_parts_of (.tuple (.str w :: ps)) = .ok (.tuple (partL w ps)) := by
  unfold f_parts_of fn_parts_of
  simp only [bO, bA, eIx0, eSl1, isI, eL2, bind_id, eChk0, ifB]
  rw [show fIn (PyData.str w) k_BREAKS = .ok (.bool (brkB w)) from eIn_strs w ["line", "soft", "hard"], show fIn (PyData.str w) k_NUMBERED = .ok (.bool (numdB w)) from eIn_strs w ["nest", "dear"]]
  have s := eSlFrom ps 1
  rw [show ((1 : Nat) : Int) = 1 from rfl] at s
  rw [s]
  simp only [bO, eBl, fEq_str]
  unfold partL
  cases numdB w with
  | true => rfl
  | false =>
    cases brkB w with
    | true => rfl
    | false => cases decide (w = ("text" : Str)) <;> rfl
theorem doc_shape : ∀ {d : Nat} {v : PyData}, docB d v = true → ∃ k w ps, d = k + 1 ∧ v = .tuple (.str w :: ps) ∧ (∀ x ∈ partL w ps, docB k x = true) ∧ (brkB w = true → ps = []) ∧ (partL w ps).length ≤ 8
  | 0, _, h => by cases h
  | d + 1, v, h => by
    match v, h with
    | .tuple (.str w :: ps), h =>
      refine ⟨d, w, ps, rfl, rfl, ?_⟩
      simp only [docB] at h
      unfold partL
      split at h
      · rename_i q
        have e : ps = [] := List.isEmpty_iff.mp h
        subst e
        have nn : numdB w = false := by
          rcases any3 q with rfl | rfl | rfl <;> rfl
        rw [nn, q]
        exact ⟨fun x hx => by simp at hx, fun _ => rfl, by simp⟩
      · rename_i q
        have qb : brkB w = false := by simpa using q
        rw [qb]
        refine ⟨?_, (fun z => nomatch z), ?_⟩
        all_goals
          split at h
          · rename_i q2
            have e : w = ("text" : Str) := of_decide_eq_true q2
            subst e
            simp [show numdB "text" = false from rfl]
          · rename_i q2
            have q2' : decide (w = ("text" : Str)) = false := by simpa using q2
            rw [q2']
            split at h
            · rename_i q3
              have e : w = ("join" : Str) := of_decide_eq_true q3
              subst e
              rw [Bool.and_eq_true] at h
              have h8 := of_decide_eq_true h.1
              simp only [show numdB "join" = false from rfl, Bool.false_eq_true, if_false, Bool.or_self]
              first
                | exact fun x hx => List.all_eq_true.mp h.2 x hx
                | omega
            · split at h
              · rename_i q3
                have nn : numdB w = false := by rcases any3 q3 with rfl | rfl | rfl <;> rfl
                match ps, h with
                | [x], h =>
                  rw [nn]
                  simp only [Bool.false_eq_true, if_false, Bool.or_self]
                  first
                    | exact all_cons h all_nil
                    | exact Nat.le_of_ble_eq_true rfl
              · split at h
                · rename_i q3
                  match ps, h with
                  | [k, x], h =>
                    have h' : (isNum 0 100 k && docB d x) = true := h
                    rw [Bool.and_eq_true] at h'
                    rw [if_pos q3]
                    first
                      | exact all_cons h'.2 all_nil
                      | exact Nat.le_of_ble_eq_true rfl
                · rename_i q3
                  have q3' : numdB w = false := by simpa using q3
                  rw [Bool.and_eq_true] at h
                  match ps, h with
                  | [x, y], h =>
                    have h' : (docB d x && docB d y) = true := h.2
                    rw [Bool.and_eq_true] at h'
                    rw [q3']
                    simp only [Bool.false_eq_true, if_false, Bool.or_self]
                    first
                      | exact all_cons h'.1 (all_cons h'.2 all_nil)
                      | exact Nat.le_of_ble_eq_true rfl
def szD : Nat → PyData → Int
  | 0, _ => 0
  | n + 1, v => 1 + ((partD v).map (szD n)).sum
theorem ints_of : ∀ l : List Int, intsOf (l.map .int) = some l
  | [] => rfl
  | i :: l => by rw [List.map_cons, intsOf, ints_of l]; rfl
theorem sum_ints (l : List Int) : fSum [.list (l.map .int)] = .ok (.int l.sum) := by
  show (R.ofO (intsOf (l.map .int))).bind _ = _
  rw [ints_of]; rfl
theorem size_of_eq : ∀ (n d : Nat) (v : PyData), docB d v = true → d ≤ n → f_size_of n v = .ok (.int (szD d v))
  | 0, d, v, h, hd => by
    obtain ⟨k, w, ps, rfl, _⟩ := doc_shape h
    omega
  | n + 1, d, v, h, hd => by
    obtain ⟨k, w, ps, rfl, rfl, hp, _, hl⟩ := doc_shape h
    rw [f_size_of]
    unfold fn_size_of
    simp only [bO, bA, eAp1, parts_of_eq, eIt_tup]
    rw [lcR_ok (fun p => .int (szD k p)) (by omega) fun x hx => size_of_eq n k x (hp x hx) (by omega), bO, show (partL w ps).map (fun p => PyData.int (szD k p)) = ((partL w ps).map (szD k)).map .int by rw [List.map_map]; rfl, sum_ints, bO]
    rfl
theorem law_sized_eq : ∀ (n d : Nat) (v : PyData), docB d v = true → d ≤ n → f__law_sized n v = .ok (.int (szD d v))
  | 0, d, v, h, hd => by
    obtain ⟨k, w, ps, rfl, _⟩ := doc_shape h
    omega
  | n + 1, d, v, h, hd => by
    obtain ⟨k, w, ps, rfl, rfl, hp, hb, hl⟩ := doc_shape h
    rw [f__law_sized]
    unfold fn__law_sized
    have e : (((fIx (PyData.tuple (.str w :: ps)) (.int 0)).bind fun a => (fIn a (.tuple [.str "nest", .str "dear"])).bind isBl).bind fun b => if b = true then fSl (.tuple (.str w :: ps)) (some 2) none else ((fIx (PyData.tuple (.str w :: ps)) (.int 0)).bind fun a => (fEq a (.str "text")).bind isBl).bind fun b => if b = true then R.ok (.tuple []) else fSl (.tuple (.str w :: ps)) (some 1) none) = .ok (.tuple (partL w ps)) := by
      rw [eIx0, bO, show fIn (PyData.str w) (.tuple [.str "nest", .str "dear"]) = .ok (.bool (numdB w)) from eIn_strs w ["nest", "dear"], bO, eBl, bO]
      have s := eSlFrom (PyData.str w :: ps) 2
      rw [show ((2 : Nat) : Int) = 2 from rfl, List.drop_succ_cons] at s
      rw [s, bO, fEq_str, bO, eBl, bO, eSl1]
      unfold partL
      cases numdB w with
      | true => rfl
      | false =>
        cases q : brkB w with
        | true =>
          rw [hb q]
          cases decide (w = ("text" : Str)) <;> rfl
        | false => cases decide (w = ("text" : Str)) <;> rfl
    simp only [bO, bA, isI, eChk2, eChk0, bind_id] at e ⊢
    have e' := congrArg (fun r => R.bind r fun parts => (itemsOf parts).bind fun a => (lcR a (mapR (fun x28 => ap1 (f__law_sized n) [x28]) a)).bind fun a => (fSum [a]).bind fun a35 => fAdd (PyData.int 1) a35) e
    simp only [bA] at e'
    refine e'.trans ?_
    simp only [bO, eIt_tup, eAp1]
    rw [lcR_ok (fun p => .int (szD k p)) (by omega) fun x hx => law_sized_eq n k x (hp x hx) (by omega), bO, show (partL w ps).map (fun p => PyData.int (szD k p)) = ((partL w ps).map (szD k)).map .int by rw [List.map_map]; rfl, sum_ints, bO]
    rfl
end K00

end
section
/-! the law -/
namespace K00
open PySem PySem.Spec PyProof.Rows L2 L2.DY
theorem newTp_ok {ns : List Int} (h : ns.length ≤ 63) : (newTp ns).Ok := ⟨⟨by show (0 : Int) ≤ 4711 + (ns.length : Int); omega, by show 4711 + (ns.length : Int) < 4294967296; omega⟩, rfl⟩
theorem same_ok {v : PyData} (h : okD 120 v = true) : f__law_same 120 v v = .ok (.bool true) := same_refl 120 v h
theorem okD_tup {n : Nat} {xs : List PyData} (hl : xs.length ≤ 100000) (h : ∀ x ∈ xs, okD n x = true) : okD (n + 1) (.tuple xs) = true := by
  simp only [okD, Bool.and_eq_true, decide_eq_true_eq, List.all_eq_true]
  exact ⟨hl, h⟩
theorem is_document_eq (v : PyData) (h : noD v = true) : f_is_document v = .ok (.bool (docB 12 v)) := by
  unfold f_is_document fn_is_document
  simp only [bO, bA, eAp2, bind_id, show k_MOST_DEEP = PyData.int ((12 : Nat) : Int) from rfl, is_document_within_eq 40 12 v (by omega) h]
theorem law_doc_full (v : PyData) (h : noD v = true) : f__law_is_document 40 v (.int 12) = .ok (.bool (docB 12 v)) := law_doc_eq 40 12 v (by omega) h
theorem forR_same {S D : Type} {B : PyData → S → R (LR S D)} {s : S} : ∀ {xs : List PyData}, (∀ x ∈ xs, B x s = .ok (.nx s)) → forR B xs s = .ok (.nx s)
  | [], _ => rfl
  | x :: xs, h => by
    rw [forR, h x List.mem_cons_self]
    exact forR_same fun y hy => h y (List.mem_cons_of_mem _ hy)
theorem body1 (x : PyData) : ((f_is_name x).bind fun a => (f_is_sign x).bind fun a_3 => (f_is_text x).bind fun a_4 => (f__law_is_name x).bind fun a_5 => (f__law_is_sign x).bind fun a_6 => (f__law_is_text x).bind fun a_7 =>
    (f__law_same 120 (PyData.tuple [a, a_3, a_4]) (PyData.tuple [a_5, a_6, a_7])).bind fun a => (tru a).bind fun a => if (!a) = true then R.ok (LR.rt (PyData.bool false)) else R.ok (LR.nx ())) = .ok (.nx ()) := by
  rw [is_name_eq, bO, is_sign_any, bO, is_text_eq, bO, law_name_eq, bO, law_is_sign_any, bO, law_is_text_eq, bO, same_ok (okD_tup (by simp) (all_cons rfl (all_cons rfl (all_cons rfl all_nil)))), bO]
  rfl
theorem body2 {x : PyData} (hx : noD x = true) (s : Tp) : ((f_is_document x).bind fun a => (f__law_is_document 40 x (PyData.int 12)).bind fun a_12 => (f__law_same 120 a a_12).bind fun a => (tru a).bind fun a => if (!a) = true then R.ok (LR.rt (PyData.bool false)) else R.ok (LR.nx s)) = .ok (.nx s) := by
  rw [is_document_eq x hx, bO, law_doc_full x hx, bO, same_ok rfl, bO]
  rfl
theorem strs_of : ∀ l : List Str, strsOf (l.map .str) = some l
  | [] => rfl
  | s :: l => by rw [List.map_cons, strsOf, strs_of l]; rfl
theorem sum_le {l : List Str} {k : Nat} (h : ∀ s ∈ l, s.length ≤ k) : (l.map (·.length)).sum ≤ l.length * k := by
  induction l with
  | nil => exact Nat.zero_le _
  | cons s l ih =>
    have := h s List.mem_cons_self
    have := ih fun z hz => h z (List.mem_cons_of_mem _ hz)
    rw [List.map_cons, List.sum_cons, List.length_cons, Nat.succ_mul]; omega
theorem strs_ex : ∀ {ys : List PyData}, (∀ y ∈ ys, ∃ s : Str, y = .str s ∧ s.length = 1) → ∃ q : List Str, ys = q.map .str ∧ q.length = ys.length ∧ ∀ s ∈ q, s.length = 1
  | [], _ => ⟨[], rfl, rfl, fun s hs => nomatch hs⟩
  | y :: ys, h => by
    obtain ⟨s, rfl, h1⟩ := h y List.mem_cons_self
    obtain ⟨q, rfl, h2, h3⟩ := strs_ex fun z hz => h z (List.mem_cons_of_mem _ hz)
    refine ⟨s :: q, rfl, by simp, fun z hz => ?_⟩
    rcases List.mem_cons.mp hz with rfl | hz
    · exact h1
    · exact h3 z hz
theorem join_some {ys : List PyData} (hl : ys.length ≤ 100) (h : ∀ y ∈ ys, ∃ s : Str, y = .str s ∧ s.length = 1) : ∃ s, fJoin (.str "") (.list ys) = .ok (.str s) := by
  obtain ⟨q, rfl, h2, h3⟩ := strs_ex h
  refine ⟨Str.join "" q, ?_⟩
  show joinF "" (q.map .str) = _
  unfold joinF
  rw [strs_of]
  refine if_pos ?_
  have h4 := sum_le (k := 1) fun s hs => Nat.le_of_eq (h3 s hs)
  rw [h2] at h4
  have : q.length * ("" : Str).length = 0 := by
    show q.length * 0 = 0
    omega
  show _ + q.length * 0 ≤ 16777216
  omega
theorem sign_ix {i : Nat} (h : i < 6) : ∃ s : Str, fIx (PyData.str (Str.ofString "ab [A_")) (.int (i : Int)) = .ok (.str s) ∧ s.length = 1 := by
  have h6 : i < ((Str.ofString "ab [A_").cps.toList).length := h
  refine ⟨⟨#[((Str.ofString "ab [A_").cps.toList)[i]]⟩, ?_, rfl⟩
  show (R.ofO (L2.atI ((Str.ofString "ab [A_").cps.toList) (i : Int))).bind _ = _
  rw [atI_nat' h6]; rfl
def DV : Nat → PyData
  | 0 => .tuple [.str "line"]
  | k + 1 => .tuple [.str "group", DV k]
theorem dv_doc : ∀ k, Doc (k + 1) (2 * k + 3) (DV k)
  | 0 => doc_leaf 0 "line" rfl
  | k + 1 => (doc_in (k := k + 1) "group" rfl (dv_doc k)).mono (by omega)
/-- a document, and how heavy it is -/
def Q (x : PyData) : Prop := ∃ d, d ≤ 40 ∧ docB d x = true ∧ Gd 110 x
theorem part_sub (w : Str) (ps : List PyData) : (partL w ps).Sublist ps := by
  unfold partL
  split
  · exact List.drop_sublist 1 ps
  · split
    · exact List.nil_sublist ps
    · exact List.Sublist.refl ps
theorem law_parts {β : Type} {w : Str} {ps : List PyData} (hb : brkB w = true → ps = []) (K : PyData → R β) : ((fIx (PyData.tuple (.str w :: ps)) (PyData.int 0)).bind fun a => (fIn a (PyData.tuple [PyData.str (Str.ofString "nest"), PyData.str (Str.ofString "dear")])).bind fun a => (isBl a).bind fun a =>
    (if a = true then fSl (PyData.tuple (.str w :: ps)) (some 2) none else (fIx (PyData.tuple (.str w :: ps)) (PyData.int 0)).bind fun a => (fEq a (PyData.str (Str.ofString "text"))).bind fun a => (isBl a).bind fun b370 => if b370 = true then R.ok (PyData.tuple []) else fSl (PyData.tuple (.str w :: ps)) (some 1) none).bind K) = K (.tuple (partL w ps)) := by
  rw [eIx0, bO, show fIn (PyData.str w) (PyData.tuple [PyData.str (Str.ofString "nest"), PyData.str (Str.ofString "dear")]) = .ok (.bool (numdB w)) from eIn_strs w ["nest", "dear"], bO, eBl, bO]
  have s := eSlFrom (PyData.str w :: ps) 2
  rw [show ((2 : Nat) : Int) = 2 from rfl, List.drop_succ_cons] at s
  rw [s, bO, fEq_str, bO, eBl, bO, eSl1]
  unfold partL
  cases numdB w with
  | true => rfl
  | false =>
    cases q : brkB w with
    | true =>
      rw [hb q]
      cases decide (w = (Str.ofString "text" : Str)) <;> rfl
    | false =>
      show (if decide (w = Str.ofString "text") = true then _ else _ : R PyData).bind K = K (.tuple (if (decide (w = Str.ofString "text")) = true then [] else ps))
      cases decide (w = (Str.ofString "text" : Str)) <;> rfl
theorem body3 {x : PyData} (hx : Q x) : ((fIx x (PyData.int 0)).bind fun a => (fIn a (PyData.tuple [PyData.str (Str.ofString "nest"), PyData.str (Str.ofString "dear")])).bind fun a => (isBl a).bind fun a =>
    (if a = true then fSl x (some 2) none else (fIx x (PyData.int 0)).bind fun a => (fEq a (PyData.str (Str.ofString "text"))).bind fun a => (isBl a).bind fun b370 => if b370 = true then R.ok (PyData.tuple []) else fSl x (some 1) none).bind fun parts_372 =>
    (f_parts_of x).bind fun a => (f_size_of 40 x).bind fun a_1 => (f__law_sized 40 x).bind fun a_2 => (f__law_same 120 (PyData.tuple [a, a_1]) (PyData.tuple [parts_372, a_2])).bind fun a => (tru a).bind fun a => if (!a) = true then R.ok (LR.rt (PyData.bool false)) else R.ok (LR.nx ())) = .ok (.nx ()) := by
  obtain ⟨d, hd, hdoc, hg⟩ := hx
  have sz := size_of_eq 40 d x hdoc hd
  have sl := law_sized_eq 40 d x hdoc hd
  obtain ⟨k, w, ps, rfl, rfl, hp, hb, hl⟩ := doc_shape hdoc
  rw [law_parts hb, parts_of_eq, bO, sz, bO, sl, bO, same_ok, bO]
  · rfl
  · have g : Gds 109 (PyData.str w :: ps) := Gd.untup hg
    have g2 : Gds 109 (partL w ps) := g.sub ((part_sub w ps).trans (List.sublist_cons_self _ _))
    exact okD_tup (by simp) (all_cons (g2.tup.okD (by omega)) (all_cons rfl all_nil))
theorem f_law_true (ns : List Int) (h : ns.length ≤ 63) : f_law (newTp ns) = .ok (.bool true) := by
  have ht := newTp_ok h
  generalize newTp ns = t at ht
  unfold f_law fn_law
  have c0 : fNe (PyData.tuple [k_LONGEST, k_MOST_PARTS, k_MOST_DEEP, k_GREATEST]) (PyData.tuple [PyData.int 40, PyData.int 8, PyData.int 12, PyData.int 100]) = .ok (.bool false) := by rfl
  have l0 : ap0 f__law_errors [] = .ok (.bool true) := rfl
  simp only [bO, bA, bT, bAT, bTA, bTT, eTn, eTb, eTi, eTs, eTl, eTt, eTru_b, eBl, eLen_tup, eLen_lst, eLen_str, eTuple_tup, eTuple_lst, eLe, eLt, eGt, eGe, eAdd, eSub, eNeg, eIs_none, eIsN_none, eIt_tup, eIt_lst, eAp1, eAp2, eAp3, eApT0, eApT1, eApT2, eUn2, eL2, eChk0, eChk1, eChk2, eChk3, eChk4, eChk5, eChk6, eIx0L, eIx1L, fEq_int, fNe_int, fEq_str, eIx0, eIx1, eIx2, eSl1, eIsI, eEnum_t, eEnum_l, eBool_t, eBool_l, nn_none, nn_tup, nn_lst, nn_str, nn_int, nn_bool, bind_id, String.reduceBEq, if_true, if_false, Bool.false_eq_true, beq_self_eq_true, Bool.not_true, Bool.not_false, Bool.or_self, Bool.or_true, Bool.true_or, List.length_cons, List.length_nil, decide_true, decide_false, eIn1, eIn2, eIn3, eIn4, fNe_str, ofS_eq, String.reduceEq, Bool.or_false, Bool.false_or, eL3, eAp4, eUn4, c0, l0]
  refine RT.fin (draw ht (many := 10) (by omega) (by omega)) fun _ t ht ⟨i, hi, e⟩ => ?_
  subst e
  rw [rng1F_nat (by omega), bO]
  refine RT.fin (rt_lcT (P := fun y => ∃ s : Str, y = .str s ∧ s.length = 1) (by rw [rngD_length]; omega) ht fun x _ t ht => ?_) fun _ t ht ⟨ys, e, hl, hy⟩ => ?_
  · refine (draw ht (many := 6) (by omega) (by omega)).bind fun _ t ht ⟨j, hj, e⟩ => ?_
    subst e
    obtain ⟨s, e, h1⟩ := sign_ix (i := j) (by omega)
    rw [e, bO]
    exact .ret ht ⟨s, rfl, h1⟩
  subst e
  rw [rngD_length] at hl
  obtain ⟨tx, e⟩ := join_some (by omega) hy
  have m1 : ∃ s, fMul (.str "a") (.int 40) = .ok (.str s) := ⟨_, rfl⟩
  have m2 : ∃ s, fMul (.str "a") (.int 41) = .ok (.str s) := ⟨_, rfl⟩
  obtain ⟨s40, m1⟩ := m1
  obtain ⟨s41, m2⟩ := m2
  rw [e, bO, m1, bO, m2, bO, eChkN _ (by simp), bO, eIt_tup, bO, forR_same fun x _ => body1 x, bO, finL]
  refine RT.fin (rt_document 3 40 t (by omega) ht) fun D t ht hD => ?_
  have r11 : rng1F [PyData.int (12 - 1)] = .ok (rngD 0 11) := rng1F_nat (n := 11) (by omega)
  have dp : forR (D := PyData) (fun (x163 : PyData) (s162 : PyData) => R.ok (LR.nx (PyData.tuple [PyData.str (Str.ofString "group"), s162]))) (rngD 0 11) (PyData.tuple [PyData.str (Str.ofString "line")]) = .ok (.nx (DV 11)) := by rfl
  have k8 : fMul (PyData.tuple [PyData.tuple [PyData.str (Str.ofString "line")]]) (PyData.int 8) = .ok (.tuple (List.replicate 8 (PyData.tuple [PyData.str (Str.ofString "line")]))) := by rfl
  have k9 : fMul (PyData.tuple [PyData.tuple [PyData.str (Str.ofString "line")]]) (PyData.int 9) = .ok (.tuple (List.replicate 9 (PyData.tuple [PyData.str (Str.ofString "line")]))) := by rfl
  rw [r11, bO, dp, bO, finL, k8, bO, eAddT (by simp), bO, k9, bO, eAddT (by simp), bO, eChkN _ (by simp), bO, show rng1F [PyData.int 14] = .ok (rngD 0 14) from rng1F_nat (n := 14) (by omega), bO]
  have gD3 : gD 3 = 107 := rfl
  refine RT.fin (rt_lcT (P := fun v => noD v = true) (by rw [rngD_length]; omega) ht fun x _ t ht => (rt_bent 120 110 t D (by omega) (by omega) ht (hD.2.mono (by omega))).mono fun v hv => hv.1) fun _ t ht ⟨zs, e, hl2, hz⟩ => ?_
  subst e
  rw [rngD_length] at hl2
  rw [eAddL (by simp; omega), bO, eIt_lst, bO]
  have dv11 := dv_doc 11
  refine Eq.trans (congrArg (fun r => R.bind r _) (forR_same (S := Tp) (D := PyData) fun x hx => body2 ?_ t)) ?_
  · rcases List.mem_append.mp hx with hx | hx
    · exact all_cons (P := fun v => noD v = true) hD.2.1 (all_cons dv11.2.1 (all_cons (by simp only [noD, noDs, dv11.2.1]; rfl) (all_cons rfl (all_cons rfl (all_cons rfl (all_cons rfl (all_cons rfl (all_cons rfl (all_cons rfl (all_cons rfl (all_cons rfl (all_cons rfl (all_cons rfl (all_cons rfl (all_cons rfl (all_cons rfl all_nil)))))))))))))))) x hx
    · exact hz x hx
  show R.bind (R.ok _) _ = _
  rw [bO, finL]
  refine Eq.trans (congrArg (fun r => R.bind r _) (forR_same (S := Unit) (D := PyData) (B := _) fun x hx => body3 ?_)) ?_
  · refine (?_ : ∀ x ∈ _, Q x) x hx
    exact all_cons ⟨4, by omega, hD.1, hD.2.mono (by omega)⟩ (all_cons ⟨12, by omega, dv11.1, dv11.2.mono (by omega)⟩ (all_cons ⟨1, by omega, rfl, ⟨rfl, by simp [wt, wts]⟩⟩ (all_cons ⟨1, by omega, rfl, ⟨rfl, by simp [wt, wts]⟩⟩
      (all_cons ⟨1, by omega, by decide +kernel, ⟨rfl, by simp [wt, wts]⟩⟩ (all_cons ⟨2, by omega, rfl, ⟨rfl, by simp [wt, wts]⟩⟩ all_nil)))))
  · rfl
theorem law_true : ∀ ns : List Int, ns.length ≤ 63 → ∃ ρ, run_law ns = .rt (.bool true) ρ := law_of f_law_true
end K00

end
section
namespace K00
open PySem PySem.Spec PyProof.Rows L2 L2.DY
/-! ### what the top has written -/
theorem all_mk {l : PySem.W.OpenLaw} {w : World} {K : PySem.W.Frag} {h : Heap} {mg : Str → Option Value} {fa : Addr} (X : K.In h) (G : h.Ns mainGlobals mg) (hfa : mg "law" = some (.ref fa))
    (D_is_name : DA K "is_name" s_is_name)
    (D_is_number : DA K "is_number" s_is_number)
    (D_is_sign : DA K "is_sign" s_is_sign)
    (D_is_text : DA K "is_text" s_is_text)
    (D_is_document_within : DA K "is_document_within" s_is_document_within)
    (D_is_document : DA K "is_document" s_is_document)
    (D_parts_of : DA K "parts_of" s_parts_of)
    (D_size_of : DA K "size_of" s_size_of)
    (D__law_box : DA K "_law_box" s__law_box)
    (D__law_load : DA K "_law_load" s__law_load)
    (D__law_draw : DA K "_law_draw" s__law_draw)
    (D__law_same : DA K "_law_same" s__law_same)
    (D__law_document : DA K "_law_document" s__law_document)
    (D__law_is_name : DA K "_law_is_name" s__law_is_name)
    (D__law_is_sign : DA K "_law_is_sign" s__law_is_sign)
    (D__law_is_text : DA K "_law_is_text" s__law_is_text)
    (D__law_is_document : DA K "_law_is_document" s__law_is_document)
    (D__law_bent : DA K "_law_bent" s__law_bent)
    (D__law_errors : DA K "_law_errors" s__law_errors)
    (D__law_sized : DA K "_law_sized" s__law_sized)
    (n_isinstance : PySem.W.nsIn K mainGlobals "isinstance" = some none)
    (n_str : PySem.W.nsIn K mainGlobals "str" = some none)
    (n_len : PySem.W.nsIn K mainGlobals "len" = some none)
    (n_all : PySem.W.nsIn K mainGlobals "all" = some none)
    (n_int : PySem.W.nsIn K mainGlobals "int" = some none)
    (n_bool : PySem.W.nsIn K mainGlobals "bool" = some none)
    (n_tuple : PySem.W.nsIn K mainGlobals "tuple" = some none)
    (n_sum : PySem.W.nsIn K mainGlobals "sum" = some none)
    (n_list : PySem.W.nsIn K mainGlobals "list" = some none)
    (n_range : PySem.W.nsIn K mainGlobals "range" = some none)
    (n_ValueError : PySem.W.nsIn K mainGlobals "ValueError" = some none)
    (g_RESERVED : GT K mg "RESERVED" k_RESERVED)
    (g_SMALL : GC K mg "SMALL" k_SMALL)
    (g_DIGITS : GC K mg "DIGITS" k_DIGITS)
    (g_MARKS : GC K mg "MARKS" k_MARKS)
    (g_LONGEST : GC K mg "LONGEST" k_LONGEST)
    (g_BREAKS : GT K mg "BREAKS" k_BREAKS)
    (g_MOST_PARTS : GC K mg "MOST_PARTS" k_MOST_PARTS)
    (g_WITHIN : GT K mg "WITHIN" k_WITHIN)
    (g_NUMBERED : GT K mg "NUMBERED" k_NUMBERED)
    (g_GREATEST : GC K mg "GREATEST" k_GREATEST)
    (g_MOST_DEEP : GC K mg "MOST_DEEP" k_MOST_DEEP)
    {CL C1 C2 C3 C4 : Addr} (EA : ErrA l.prog w K mg CL C1 C2 C3 C4)
    {od2 an2 : Option Addr} {sl2 : Array (Option Value)} {oc2 kV2 dc2 pm2 ct2 e2 : Value} {f2 c2 Pt : Addr}
    (a2 : PySem.W.nsIn K mainGlobals "law" = some (some (.ref f2))) (l2 : K.lookup f2 = some ⟨oc2, od2, .func (PySem.W.fnOf "law" "law" (defArgs s_law) (defBody s_law) (defScope s_law) .none kV2 dc2 pm2 an2 (.ref c2) ct2), sl2⟩) (c2h : PySem.W.codeIn K (.ref c2) "law" = true) (k2 : PySem.W.keepIn K (.ref f2) = true) {d2 : Option Addr} {vs2 : Array Value} {sl3 : Array (Option Value)} (lc2 : K.lookup c2 = some ⟨e2, d2, .fields vs2, sl3⟩) (hv2 : vs2[11]? = some (.ref Pt)) (hd2 : PySem.W.codeHdIn K c2 Pt = true) (hn2 : K.lookup Pt = none) (own : LamX.OwnTab K fa h) :
    LamX.LawAtS l w K CX0 125 63 "script" mg fa h := by
  have e := hfa.symm.trans (PySem.W.mg_of X G a2)
  cases e
  have mg_of' : ∀ {n : Str} {v : Value}, PySem.W.nsIn K mainGlobals n = some (some v) → mg n = some v := fun e => PySem.W.mg_of X G e
  obtain ⟨f_is_name, fd_is_name, a_is_name, F_is_name⟩ := D_is_name
  obtain ⟨f_is_number, fd_is_number, a_is_number, F_is_number⟩ := D_is_number
  obtain ⟨f_is_sign, fd_is_sign, a_is_sign, F_is_sign⟩ := D_is_sign
  obtain ⟨f_is_text, fd_is_text, a_is_text, F_is_text⟩ := D_is_text
  obtain ⟨f_is_document_within, fd_is_document_within, a_is_document_within, F_is_document_within⟩ := D_is_document_within
  obtain ⟨f_is_document, fd_is_document, a_is_document, F_is_document⟩ := D_is_document
  obtain ⟨f_parts_of, fd_parts_of, a_parts_of, F_parts_of⟩ := D_parts_of
  obtain ⟨f_size_of, fd_size_of, a_size_of, F_size_of⟩ := D_size_of
  obtain ⟨f__law_box, fd__law_box, a__law_box, F__law_box⟩ := D__law_box
  obtain ⟨f__law_load, fd__law_load, a__law_load, F__law_load⟩ := D__law_load
  obtain ⟨f__law_draw, fd__law_draw, a__law_draw, F__law_draw⟩ := D__law_draw
  obtain ⟨f__law_same, fd__law_same, a__law_same, F__law_same⟩ := D__law_same
  obtain ⟨f__law_document, fd__law_document, a__law_document, F__law_document⟩ := D__law_document
  obtain ⟨f__law_is_name, fd__law_is_name, a__law_is_name, F__law_is_name⟩ := D__law_is_name
  obtain ⟨f__law_is_sign, fd__law_is_sign, a__law_is_sign, F__law_is_sign⟩ := D__law_is_sign
  obtain ⟨f__law_is_text, fd__law_is_text, a__law_is_text, F__law_is_text⟩ := D__law_is_text
  obtain ⟨f__law_is_document, fd__law_is_document, a__law_is_document, F__law_is_document⟩ := D__law_is_document
  obtain ⟨f__law_bent, fd__law_bent, a__law_bent, F__law_bent⟩ := D__law_bent
  obtain ⟨f__law_errors, fd__law_errors, a__law_errors, F__law_errors⟩ := D__law_errors
  obtain ⟨f__law_sized, fd__law_sized, a__law_sized, F__law_sized⟩ := D__law_sized
  have T : Txt K mg := ⟨PySem.W.mg_none_of X G n_isinstance, PySem.W.mg_none_of X G n_str, PySem.W.mg_none_of X G n_len, PySem.W.mg_none_of X G n_all, PySem.W.mg_none_of X G n_int, PySem.W.mg_none_of X G n_bool, PySem.W.mg_none_of X G n_tuple, PySem.W.mg_none_of X G n_sum, PySem.W.mg_none_of X G n_list, PySem.W.mg_none_of X G n_range, PySem.W.mg_none_of X G n_ValueError, g_RESERVED, g_SMALL, g_DIGITS, g_MARKS, g_LONGEST, g_BREAKS, g_MOST_PARTS, g_WITHIN, g_NUMBERED, g_GREATEST, g_MOST_DEEP⟩
  have hP : TabIn K Pt := ⟨fa, _, _, c2, e2, d2, vs2, sl3, a2, l2, rfl, rfl, lc2, hv2⟩
  refine ⟨PySem.W.fnOf "law" "law" (defArgs s_law) (defBody s_law) (defScope s_law) .none kV2 dc2 pm2 an2 (.ref c2) ct2, [(c2, Pt)], spLawT K, fun p hp => ?_, fun p hp => ?_, fun p hp => ?_, fun s v => .of_eq rfl, fun H a ns hl _ hH hS => ⟨a, ns, rfl, hS, hl, fun P hQ => ?_, fun _ => rfl⟩, fun base _ _ hTB => ?_⟩
  · rw [List.mem_singleton.mp hp]; exact own c2 Pt _ _ _ _ _ _ l2 rfl rfl lc2 hv2
  · rw [List.mem_singleton.mp hp]; exact hn2
  · rw [List.mem_singleton.mp hp]; exact PySem.W.codeHd_of_K X hd2
  · rw [hP.uniq hQ]; exact hH _ (List.mem_singleton.mpr rfl)
  have TB := hTB _ (List.mem_singleton.mpr rfl)
  have S_is_name : FD l.prog w K mg base 1 "is_name" ["value"] noBr sem_is_name := ⟨_, _, ok_is_name (j := 0) T F_is_name, mg_of' a_is_name, F_is_name.kp, F_is_name.binds (ps := ["value"]) fun _ _ _ _ _ _ us hl => match us, hl with | [_], _ => rfl⟩
  have S_is_number : FD l.prog w K mg base 1 "is_number" ["value", "least", "most"] noBr sem_is_number := ⟨_, _, ok_is_number (j := 0) T F_is_number, mg_of' a_is_number, F_is_number.kp, F_is_number.binds (ps := ["value", "least", "most"]) fun _ _ _ _ _ _ us hl => match us, hl with | [_, _, _], _ => rfl⟩
  have S_is_sign : FD l.prog w K mg base 1 "is_sign" ["value"] noBr sem_is_sign := ⟨_, _, ok_is_sign (j := 0) T F_is_sign, mg_of' a_is_sign, F_is_sign.kp, F_is_sign.binds (ps := ["value"]) fun _ _ _ _ _ _ us hl => match us, hl with | [_], _ => rfl⟩
  have S_is_text : FD l.prog w K mg base 2 "is_text" ["value"] noBr sem_is_text := ⟨_, _, ok_is_text (j := 1) (S_is_sign.mono (by decide)) T F_is_text, mg_of' a_is_text, F_is_text.kp, F_is_text.binds (ps := ["value"]) fun _ _ _ _ _ _ us hl => match us, hl with | [_], _ => rfl⟩
  have R_is_document_within : ∀ n, FD l.prog w K mg base (2 + n) "is_document_within" ["value", "deep"] noBr (sem_is_document_within n) := by
    intro n
    have b := F_is_document_within.binds (ps := ["value", "deep"]) fun _ _ _ _ _ _ us hl => match us, hl with | [_, _], _ => rfl
    induction n with
    | zero => exact ⟨_, _, FnOk.zero, mg_of' a_is_document_within, F_is_document_within.kp, b⟩
    | succ n ih => exact ⟨_, _, ok_is_document_within (j := 2 + n) (S_is_text.mono (Nat.le_trans (by decide) (Nat.le_add_right 2 n))) ih (S_is_number.mono (Nat.le_trans (by decide) (Nat.le_add_right 2 n))) T F_is_document_within, mg_of' a_is_document_within, F_is_document_within.kp, b⟩
  have S_is_document_within : FD l.prog w K mg base 42 "is_document_within" ["value", "deep"] noBr (sem_is_document_within 40) := R_is_document_within 40
  have S_is_document : FD l.prog w K mg base 43 "is_document" ["value"] noBr sem_is_document := ⟨_, _, ok_is_document (j := 42) (S_is_document_within.mono (by decide)) T F_is_document, mg_of' a_is_document, F_is_document.kp, F_is_document.binds (ps := ["value"]) fun _ _ _ _ _ _ us hl => match us, hl with | [_], _ => rfl⟩
  have S_parts_of : FD l.prog w K mg base 1 "parts_of" ["document"] noBr sem_parts_of := ⟨_, _, ok_parts_of (j := 0) T F_parts_of, mg_of' a_parts_of, F_parts_of.kp, F_parts_of.binds (ps := ["document"]) fun _ _ _ _ _ _ us hl => match us, hl with | [_], _ => rfl⟩
  have R_size_of : ∀ n, FD l.prog w K mg base (1 + n) "size_of" ["document"] noBr (sem_size_of n) := by
    intro n
    have b := F_size_of.binds (ps := ["document"]) fun _ _ _ _ _ _ us hl => match us, hl with | [_], _ => rfl
    induction n with
    | zero => exact ⟨_, _, FnOk.zero, mg_of' a_size_of, F_size_of.kp, b⟩
    | succ n ih => exact ⟨_, _, ok_size_of (j := 1 + n) (S_parts_of.mono (Nat.le_trans (by decide) (Nat.le_add_right 1 n))) ih T F_size_of, mg_of' a_size_of, F_size_of.kp, b⟩
  have S_size_of : FD l.prog w K mg base 41 "size_of" ["document"] noBr (sem_size_of 40) := R_size_of 40
  have S__law_load : FD l.prog w K mg base 1 "_law_load" ["box"] br0 sem__law_load := FD.congr (sem := runDef 6 1 (den__law_load)) ⟨_, _, ok__law_load (j := 0) T F__law_load, mg_of' a__law_load, F__law_load.kp, F__law_load.binds (ps := ["box"]) fun _ _ _ _ _ _ us hl => match us, hl with | [_], _ => rfl⟩ load_congr
  have S__law_draw : FD l.prog w K mg base 2 "_law_draw" ["box", "many"] br0 sem__law_draw := FD.congr (sem := runDef 3 2 (den__law_draw fLoad)) ⟨_, _, ok__law_draw (j := 1) S__law_load T F__law_draw, mg_of' a__law_draw, F__law_draw.kp, F__law_draw.binds (ps := ["box", "many"]) fun _ _ _ _ _ _ us hl => match us, hl with | [_, _], _ => rfl⟩ draw_congr
  have R__law_same : ∀ n, FD l.prog w K mg base (0 + n) "_law_same" ["a", "b"] noBr (sem__law_same n) := by
    intro n
    have b := F__law_same.binds (ps := ["a", "b"]) fun _ _ _ _ _ _ us hl => match us, hl with | [_, _], _ => rfl
    induction n with
    | zero => exact ⟨_, _, FnOk.zero, mg_of' a__law_same, F__law_same.kp, b⟩
    | succ n ih => exact ⟨_, _, ok__law_same (j := 0 + n) ih T F__law_same, mg_of' a__law_same, F__law_same.kp, b⟩
  have S__law_same : FD l.prog w K mg base 120 "_law_same" ["a", "b"] noBr (sem__law_same 120) := R__law_same 120
  have R__law_document : ∀ n, FD l.prog w K mg base (2 + n) "_law_document" ["box", "deep"] br0 (sem__law_document n) := by
    intro n
    have b := F__law_document.binds (ps := ["box", "deep"]) fun _ _ _ _ _ _ us hl => match us, hl with | [_, _], _ => rfl
    induction n with
    | zero => exact ⟨_, _, FnOk.zero, mg_of' a__law_document, F__law_document.kp, b⟩
    | succ n ih => exact ⟨_, _, ok__law_document (j := 2 + n) (S__law_draw.mono (Nat.le_trans (by decide) (Nat.le_add_right 2 n))) ih T F__law_document, mg_of' a__law_document, F__law_document.kp, b⟩
  have S__law_document : FD l.prog w K mg base 42 "_law_document" ["box", "deep"] br0 (sem__law_document 40) := R__law_document 40
  have S__law_is_name : FD l.prog w K mg base 1 "_law_is_name" ["text"] noBr sem__law_is_name := ⟨_, _, ok__law_is_name (j := 0) T F__law_is_name, mg_of' a__law_is_name, F__law_is_name.kp, F__law_is_name.binds (ps := ["text"]) fun _ _ _ _ _ _ us hl => match us, hl with | [_], _ => rfl⟩
  have S__law_is_sign : FD l.prog w K mg base 1 "_law_is_sign" ["value"] noBr sem__law_is_sign := ⟨_, _, ok__law_is_sign (j := 0) T F__law_is_sign, mg_of' a__law_is_sign, F__law_is_sign.kp, F__law_is_sign.binds (ps := ["value"]) fun _ _ _ _ _ _ us hl => match us, hl with | [_], _ => rfl⟩
  have S__law_is_text : FD l.prog w K mg base 2 "_law_is_text" ["value"] noBr sem__law_is_text := ⟨_, _, ok__law_is_text (j := 1) (S__law_is_sign.mono (by decide)) T F__law_is_text, mg_of' a__law_is_text, F__law_is_text.kp, F__law_is_text.binds (ps := ["value"]) fun _ _ _ _ _ _ us hl => match us, hl with | [_], _ => rfl⟩
  have R__law_is_document : ∀ n, FD l.prog w K mg base (2 + n) "_law_is_document" ["value", "deep"] noBr (sem__law_is_document n) := by
    intro n
    have b := F__law_is_document.binds (ps := ["value", "deep"]) fun _ _ _ _ _ _ us hl => match us, hl with | [_, _], _ => rfl
    induction n with
    | zero => exact ⟨_, _, FnOk.zero, mg_of' a__law_is_document, F__law_is_document.kp, b⟩
    | succ n ih => exact ⟨_, _, ok__law_is_document (j := 2 + n) (S__law_is_text.mono (Nat.le_trans (by decide) (Nat.le_add_right 2 n))) ih T F__law_is_document, mg_of' a__law_is_document, F__law_is_document.kp, b⟩
  have S__law_is_document : FD l.prog w K mg base 42 "_law_is_document" ["value", "deep"] noBr (sem__law_is_document 40) := R__law_is_document 40
  have R__law_bent : ∀ n, FD l.prog w K mg base (2 + n) "_law_bent" ["box", "value"] br0 (sem__law_bent n) := by
    intro n
    have b := F__law_bent.binds (ps := ["box", "value"]) fun _ _ _ _ _ _ us hl => match us, hl with | [_, _], _ => rfl
    induction n with
    | zero => exact ⟨_, _, FnOk.zero, mg_of' a__law_bent, F__law_bent.kp, b⟩
    | succ n ih => exact ⟨_, _, ok__law_bent (j := 2 + n) (S__law_draw.mono (Nat.le_trans (by decide) (Nat.le_add_right 2 n))) ih T F__law_bent, mg_of' a__law_bent, F__law_bent.kp, b⟩
  have S__law_bent : FD l.prog w K mg base 122 "_law_bent" ["box", "value"] br0 (sem__law_bent 120) := R__law_bent 120
  obtain ⟨sl34, e34⟩ := same_34
  have S__law_errors : FD l.prog w K mg base 121 "_law_errors" [] noBr sem__law_errors := ⟨_, _, ok__law_errors (j := 120) (by decide) EA mg_of' TB.bm e34 S__law_same T F__law_errors, mg_of' a__law_errors, F__law_errors.kp, F__law_errors.binds (ps := []) fun _ _ _ _ _ _ us hl => match us, hl with | [], _ => rfl⟩
  have R__law_sized : ∀ n, FD l.prog w K mg base (0 + n) "_law_sized" ["document"] noBr (sem__law_sized n) := by
    intro n
    have b := F__law_sized.binds (ps := ["document"]) fun _ _ _ _ _ _ us hl => match us, hl with | [_], _ => rfl
    induction n with
    | zero => exact ⟨_, _, FnOk.zero, mg_of' a__law_sized, F__law_sized.kp, b⟩
    | succ n ih => exact ⟨_, _, ok__law_sized (j := 0 + n) ih T F__law_sized, mg_of' a__law_sized, F__law_sized.kp, b⟩
  have S__law_sized : FD l.prog w K mg base 40 "_law_sized" ["document"] noBr (sem__law_sized 40) := R__law_sized 40
  exact ok_law (j := 122) (S__law_errors.mono (by decide)) (S__law_draw.mono (by decide)) (S__law_same.mono (by decide)) (S__law_is_text.mono (by decide)) (S__law_is_sign.mono (by decide)) (S__law_is_name.mono (by decide)) (S_is_text.mono (by decide)) (S_is_sign.mono (by decide)) (S_is_name.mono (by decide)) (S__law_document.mono (by decide)) (S__law_bent.mono (by decide)) (S__law_is_document.mono (by decide)) (S_is_document.mono (by decide)) (S__law_sized.mono (by decide)) (S_size_of.mono (by decide)) (S_parts_of.mono (by decide)) (ok__law_box (j := 121) T F__law_box) (mg_of' a__law_box) F__law_box.kp (F__law_box.binds (ps := ["script"]) fun _ _ _ _ _ _ us hl => match us, hl with | [_], _ => rfl) T l2 c2h hP hn2 TB law_true
end K00
open PySem PySem.W PyProof.Rows
set_option maxHeartbeats 0 in
theorem PySem.Challenge.cw_lineslaid_k00_whole_documents_holds : PySem.Challenge.rw_lineslaid_k00_whole_documents.Holds := by
  w_on; o_law; k_head; (case hw => w_witness2)
  k_fill
  refine LamX.walk_ofOwn (l := PySem.Challenge.rw_lineslaid_k00_whole_documents) (n := 63) (k := 125) (x := "script") (CX := fun _ => L2.CX0) rfl (by decide) rfl ⟨rfl, by decide, by decide⟩ rfl (fun w h Y => by first | exact PySem.W.kIn_of Y | exact PySem.W.km_in_of Y) ?F (fun _ _ _ _ _ h => h)
  case F =>
    intro w mg fa h Y KX G hmg own
    refine' L2.DY.then_ (L2.DY.rawK_mk KX ?r1 ?r2) ?rest
    case r1 => kernel_rfl
    case r2 => k_is
    intro RK
    refine' L2.DY.then_ (L2.DY.badA_of (P := (PySem.Challenge.rw_lineslaid_k00_whole_documents).prog) (w := w) (mg := mg) (n := 3) (x := "BadText") KX RK ?ba1 ?bb1 ?bc1 ?bd1 ?be1 ?bf1 ?bg1 ?bh1 ?bi1 ?bj1 ?bk1 ?bl1 ?bm1 ?bn1) ?bz1
    case ba1 => k_is
    case bb1 => kx_is
    case bc1 => k_is
    case bd1 => k_is
    case be1 => k_is
    case bf1 => k_is
    case bg1 => intro x tk; rfl
    case bh1 => decide
    case bi1 => rfl
    case bj1 => rfl
    case bk1 => rfl
    case bl1 => rfl
    case bm1 => rfl
    case bn1 =>
      clear Y G hmg own KX RK
      intro base A outer s hp loose mb a t1 tk L' h₁ tk' hfr F N B X T l1
      refine ks_wpAt_execs_cons ?_
      ks_step "exec Expr"
      refine ks_wpAt_Expr_any ?_
      refine ks_wpAt_MethodCall ?_
      k_dflt (refine ks_node (by k_asm) (by k_asm) (by k_asm) (by k_asm) (by k_is) (by rfl) (by rfl) (by k_inst) (by k_is) (by rfl) (by first | rfl | decide +kernel) (by k_is) (by k_is) (by k_is) (by k_is) (by decide) (by rfl) (by rfl) (by rfl) (by rfl) (by decide +kernel) (by first | boot_by_name | rfl | kernel_rfl) ?_)
      intro so hs Fs Ns ls; (try k_lt ls)
      k_steps
      refine' L2.DY.leave_bad ?u1 ?u2 ?u3 ?u4 ?u5
      case u1 => k_asm
      case u2 => k_asm
      case u3 => k_mem
      case u4 => k_mem
      case u5 => k_ne
    intro BA1
    refine' L2.DY.then_ (L2.DY.badA_of (P := (PySem.Challenge.rw_lineslaid_k00_whole_documents).prog) (w := w) (mg := mg) (n := 4) (x := "BadBytes") KX RK ?ba2 ?bb2 ?bc2 ?bd2 ?be2 ?bf2 ?bg2 ?bh2 ?bi2 ?bj2 ?bk2 ?bl2 ?bm2 ?bn2) ?bz2
    case ba2 => k_is
    case bb2 => kx_is
    case bc2 => k_is
    case bd2 => k_is
    case be2 => k_is
    case bf2 => k_is
    case bg2 => intro x tk; rfl
    case bh2 => decide
    case bi2 => rfl
    case bj2 => rfl
    case bk2 => rfl
    case bl2 => rfl
    case bm2 => rfl
    case bn2 =>
      clear Y G hmg own KX RK BA1
      intro base A outer s hp loose mb a t1 tk L' h₁ tk' hfr F N B X T l1
      refine ks_wpAt_execs_cons ?_
      ks_step "exec Expr"
      refine ks_wpAt_Expr_any ?_
      refine ks_wpAt_MethodCall ?_
      k_dflt (refine ks_node (by k_asm) (by k_asm) (by k_asm) (by k_asm) (by k_is) (by rfl) (by rfl) (by k_inst) (by k_is) (by rfl) (by first | rfl | decide +kernel) (by k_is) (by k_is) (by k_is) (by k_is) (by decide) (by rfl) (by rfl) (by rfl) (by rfl) (by decide +kernel) (by first | boot_by_name | rfl | kernel_rfl) ?_)
      intro so hs Fs Ns ls; (try k_lt ls)
      k_steps
      refine' L2.DY.leave_bad ?u1 ?u2 ?u3 ?u4 ?u5
      case u1 => k_asm
      case u2 => k_asm
      case u3 => k_mem
      case u4 => k_mem
      case u5 => k_ne
    intro BA2
    refine' L2.DY.then_ (L2.DY.errA_mk (P := (PySem.Challenge.rw_lineslaid_k00_whole_documents).prog) (w := w) (mg := mg) KX ?eg0 ?eg1 ?eg2 ?eg3 ?eg4 ?ek1 ?ek2 ?ek3 ?ek4 ?eq3 ?eq4 ⟨⟨?er1a, ?er1b, ?er1c, ?er1d, ?er1e, ?er1f, ?er1g, ?er1h, ?er1i, ?er1j⟩, ?er1k, ?er1l, ?er1m, ?er1n, ?er1o, ?er1p⟩ ⟨⟨?er2a, ?er2b, ?er2c, ?er2d, ?er2e, ?er2f, ?er2g, ?er2h, ?er2i, ?er2j⟩, ?er2k, ?er2l, ?er2m, ?er2n, ?er2o, ?er2p⟩ ⟨⟨?er3a, ?er3b, ?er3c, ?er3d, ?er3e, ?er3f, ?er3g, ?er3h, ?er3i, ?er3j⟩, ?er3k, ?er3l, ?er3m, ?er3n, ?er3o, ?er3p⟩ ⟨⟨?er4a, ?er4b, ?er4c, ?er4d, ?er4e, ?er4f, ?er4g, ?er4h, ?er4i, ?er4j⟩, ?er4k, ?er4l, ?er4m, ?er4n, ?er4o, ?er4p⟩ BA1 BA2) ?ez
    case eg0 => k_is
    case eg1 => k_is
    case eg2 => k_is
    case eg3 => k_is
    case eg4 => k_is
    case ek1 => k_is
    case ek2 => k_is
    case ek3 => k_is
    case ek4 => k_is
    case eq3 => k_exc
    case eq4 => k_exc
    case er1a => kernel_rfl
    case er1b => kernel_rfl
    case er1c => kernel_rfl
    case er1d => kernel_rfl
    case er1e => kernel_rfl
    case er1f => kernel_rfl
    case er1g => kernel_rfl
    case er1h => kernel_rfl
    case er1i => kernel_rfl
    case er1j => kernel_rfl
    case er1k => kernel_rfl
    case er1l => kernel_rfl
    case er1m => kernel_rfl
    case er1n => kernel_rfl
    case er1o => kernel_rfl
    case er1p => kernel_rfl
    case er2a => kernel_rfl
    case er2b => kernel_rfl
    case er2c => kernel_rfl
    case er2d => kernel_rfl
    case er2e => kernel_rfl
    case er2f => kernel_rfl
    case er2g => kernel_rfl
    case er2h => kernel_rfl
    case er2i => kernel_rfl
    case er2j => kernel_rfl
    case er2k => kernel_rfl
    case er2l => kernel_rfl
    case er2m => kernel_rfl
    case er2n => kernel_rfl
    case er2o => kernel_rfl
    case er2p => kernel_rfl
    case er3a => kernel_rfl
    case er3b => kernel_rfl
    case er3c => kernel_rfl
    case er3d => kernel_rfl
    case er3e => kernel_rfl
    case er3f => kernel_rfl
    case er3g => kernel_rfl
    case er3h => kernel_rfl
    case er3i => kernel_rfl
    case er3j => kernel_rfl
    case er3k => kernel_rfl
    case er3l => kernel_rfl
    case er3m => kernel_rfl
    case er3n => kernel_rfl
    case er3o => kernel_rfl
    case er3p => kernel_rfl
    case er4a => kernel_rfl
    case er4b => kernel_rfl
    case er4c => kernel_rfl
    case er4d => kernel_rfl
    case er4e => kernel_rfl
    case er4f => kernel_rfl
    case er4g => kernel_rfl
    case er4h => kernel_rfl
    case er4i => kernel_rfl
    case er4j => kernel_rfl
    case er4k => kernel_rfl
    case er4l => kernel_rfl
    case er4m => kernel_rfl
    case er4n => kernel_rfl
    case er4o => kernel_rfl
    case er4p => kernel_rfl
    intro EA
    clear BA1 BA2 RK
    refine' K00.all_mk KX G hmg (L2.DY.da_mk ?dya0 ?dyl0 ?dyc0 ?dyk0) (L2.DY.da_mk ?dya1 ?dyl1 ?dyc1 ?dyk1) (L2.DY.da_mk ?dya2 ?dyl2 ?dyc2 ?dyk2) (L2.DY.da_mk ?dya3 ?dyl3 ?dyc3 ?dyk3) (L2.DY.da_mk ?dya4 ?dyl4 ?dyc4 ?dyk4) (L2.DY.da_mk ?dya5 ?dyl5 ?dyc5 ?dyk5) (L2.DY.da_mk ?dya6 ?dyl6 ?dyc6 ?dyk6) (L2.DY.da_mk ?dya7 ?dyl7 ?dyc7 ?dyk7) (L2.DY.da_mk ?dya8 ?dyl8 ?dyc8 ?dyk8) (L2.DY.da_mk ?dya9 ?dyl9 ?dyc9 ?dyk9) (L2.DY.da_mk ?dya10 ?dyl10 ?dyc10 ?dyk10) (L2.DY.da_mk ?dya11 ?dyl11 ?dyc11 ?dyk11) (L2.DY.da_mk ?dya12 ?dyl12 ?dyc12 ?dyk12) (L2.DY.da_mk ?dya13 ?dyl13 ?dyc13 ?dyk13) (L2.DY.da_mk ?dya14 ?dyl14 ?dyc14 ?dyk14) (L2.DY.da_mk ?dya15 ?dyl15 ?dyc15 ?dyk15) (L2.DY.da_mk ?dya16 ?dyl16 ?dyc16 ?dyk16) (L2.DY.da_mk ?dya17 ?dyl17 ?dyc17 ?dyk17) (L2.DY.da_mk ?dya18 ?dyl18 ?dyc18 ?dyk18) (L2.DY.da_mk ?dya19 ?dyl19 ?dyc19 ?dyk19) ?dyz0 ?dyz1 ?dyz2 ?dyz3 ?dyz4 ?dyz5 ?dyz6 ?dyz7 ?dyz8 ?dyz9 ?dyz10 (L2.DY.gt_tup (PySem.W.mg_of KX G ?dyg0) ?dyt0 ?dyr0 ?dys0 (Nat.le_of_ble_eq_true rfl) (.cons (L2.DY.KD.str "all" _ (by decide +kernel)) (.cons (L2.DY.KD.str "any" _ (by decide +kernel)) (.cons (L2.DY.KD.str "none" _ (by decide +kernel)) .nil)))) (L2.DY.gc_str (PySem.W.mg_of KX G ?dyg1) (by decide +kernel)) (L2.DY.gc_str (PySem.W.mg_of KX G ?dyg2) (by decide +kernel)) (L2.DY.gc_str (PySem.W.mg_of KX G ?dyg3) (by decide +kernel)) (L2.DY.gc_int (PySem.W.mg_of KX G ?dyg4)) (L2.DY.gt_tup (PySem.W.mg_of KX G ?dyg5) ?dyt5 ?dyr5 ?dys5 (Nat.le_of_ble_eq_true rfl) (.cons (L2.DY.KD.str "line" _ (by decide +kernel)) (.cons (L2.DY.KD.str "soft" _ (by decide +kernel)) (.cons (L2.DY.KD.str "hard" _ (by decide +kernel)) .nil)))) (L2.DY.gc_int (PySem.W.mg_of KX G ?dyg6)) (L2.DY.gt_tup (PySem.W.mg_of KX G ?dyg7) ?dyt7 ?dyr7 ?dys7 (Nat.le_of_ble_eq_true rfl) (.cons (L2.DY.KD.str "align" _ (by decide +kernel)) (.cons (L2.DY.KD.str "group" _ (by decide +kernel)) (.cons (L2.DY.KD.str "flat" _ (by decide +kernel)) .nil)))) (L2.DY.gt_tup (PySem.W.mg_of KX G ?dyg8) ?dyt8 ?dyr8 ?dys8 (Nat.le_of_ble_eq_true rfl) (.cons (L2.DY.KD.str "nest" _ (by decide +kernel)) (.cons (L2.DY.KD.str "dear" _ (by decide +kernel)) .nil))) (L2.DY.gc_int (PySem.W.mg_of KX G ?dyg9)) (L2.DY.gc_int (PySem.W.mg_of KX G ?dyg10)) EA ?dya_law ?dyl_law ?dyc_law ?dyk_law ?dyp_law ?dyq_law ?dyh_law ?dyn_law own
    (case dya0 => k_is)
    (case dyl0 => k_is)
    (case dyc0 => k_is)
    (case dyk0 => k_is)
    (case dya1 => k_is)
    (case dyl1 => k_is)
    (case dyc1 => k_is)
    (case dyk1 => k_is)
    (case dya2 => k_is)
    (case dyl2 => k_is)
    (case dyc2 => k_is)
    (case dyk2 => k_is)
    (case dya3 => k_is)
    (case dyl3 => k_is)
    (case dyc3 => k_is)
    (case dyk3 => k_is)
    (case dya4 => k_is)
    (case dyl4 => k_is)
    (case dyc4 => k_is)
    (case dyk4 => k_is)
    (case dya5 => k_is)
    (case dyl5 => k_is)
    (case dyc5 => k_is)
    (case dyk5 => k_is)
    (case dya6 => k_is)
    (case dyl6 => k_is)
    (case dyc6 => k_is)
    (case dyk6 => k_is)
    (case dya7 => k_is)
    (case dyl7 => k_is)
    (case dyc7 => k_is)
    (case dyk7 => k_is)
    (case dya8 => k_is)
    (case dyl8 => k_is)
    (case dyc8 => k_is)
    (case dyk8 => k_is)
    (case dya9 => k_is)
    (case dyl9 => k_is)
    (case dyc9 => k_is)
    (case dyk9 => k_is)
    (case dya10 => k_is)
    (case dyl10 => k_is)
    (case dyc10 => k_is)
    (case dyk10 => k_is)
    (case dya11 => k_is)
    (case dyl11 => k_is)
    (case dyc11 => k_is)
    (case dyk11 => k_is)
    (case dya12 => k_is)
    (case dyl12 => k_is)
    (case dyc12 => k_is)
    (case dyk12 => k_is)
    (case dya13 => k_is)
    (case dyl13 => k_is)
    (case dyc13 => k_is)
    (case dyk13 => k_is)
    (case dya14 => k_is)
    (case dyl14 => k_is)
    (case dyc14 => k_is)
    (case dyk14 => k_is)
    (case dya15 => k_is)
    (case dyl15 => k_is)
    (case dyc15 => k_is)
    (case dyk15 => k_is)
    (case dya16 => k_is)
    (case dyl16 => k_is)
    (case dyc16 => k_is)
    (case dyk16 => k_is)
    (case dya17 => k_is)
    (case dyl17 => k_is)
    (case dyc17 => k_is)
    (case dyk17 => k_is)
    (case dya18 => k_is)
    (case dyl18 => k_is)
    (case dyc18 => k_is)
    (case dyk18 => k_is)
    (case dya19 => k_is)
    (case dyl19 => k_is)
    (case dyc19 => k_is)
    (case dyk19 => k_is)
    (case dyz0 => k_is)
    (case dyz1 => k_is)
    (case dyz2 => k_is)
    (case dyz3 => k_is)
    (case dyz4 => k_is)
    (case dyz5 => k_is)
    (case dyz6 => k_is)
    (case dyz7 => k_is)
    (case dyz8 => k_is)
    (case dyz9 => k_is)
    (case dyz10 => k_is)
    (case dyg0 => k_is)
    (case dyt0 => k_is)
    (case dyr0 => rfl)
    (case dys0 => rfl)
    (case dyg1 => k_is)
    (case dyg2 => k_is)
    (case dyg3 => k_is)
    (case dyg4 => k_is)
    (case dyg5 => k_is)
    (case dyt5 => k_is)
    (case dyr5 => rfl)
    (case dys5 => rfl)
    (case dyg6 => k_is)
    (case dyg7 => k_is)
    (case dyt7 => k_is)
    (case dyr7 => rfl)
    (case dys7 => rfl)
    (case dyg8 => k_is)
    (case dyt8 => k_is)
    (case dyr8 => rfl)
    (case dys8 => rfl)
    (case dyg9 => k_is)
    (case dyg10 => k_is)
    (case dya_law => k_is)
    (case dyl_law => k_is)
    (case dyc_law => k_is)
    (case dyk_law => k_is)
    (case dyp_law => k_is)
    (case dyq_law => rfl)
    (case dyh_law => kernel_rfl)
    (case dyn_law => kernel_rfl)

end
