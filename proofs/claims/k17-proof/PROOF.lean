import PyProof.Rows.All
import Wide.All
import OpenK.AllK
import Wide.FinOn
import HandS.HeadHook4
import HandS.Nested
import HandS.Words
import PySem.Challenge.RW_noclaimwrong_k17_whole_all_tapes_of_a_le
import HandS.Base
import HandS.Call
import HandS.List
import HandS.Comp
import HandS.Ends
import HandS.Dict
import HandS.Iter
import HandS.More
import HandS.Exc
import HandS.WordsList
import HandS.WordsDict
import HandS.WordsExc
import HandS.Lambda
import HandS.IsInst
import HandS.WideBits
import HandS.Wide
import HandS.Gcd
import HandS.TupAny
import HandS.Conv
import HandS.TupLen
import HandS.Deep
import KE.KTupSum
import HandS.Style
import HandS.Zip
import HandS.Defaults
import HandS.ExcOwn
import KE.KExcInit
import KE.OsGo
import HandS.ForSpec
import HandS.ExcIs
import HandS.TryMany
import KE.KTryMore
import HandS.ExcField
import KE.GoesEnum
import KE.KDictZip
import KE.KDictList
import KE.GoesZip
import HandS.DictTup
import HandS.TryOnly
import HandS.EndTab
import HandS.HeadWalk
import HandS.TupMul
import KE.KStateDown
import Lean
import HandS.Head0
import HandS.Head1
import HandS.Head2
import HandS.HeadEnd
import HandS.HeadHook1
import HandS.HeadHook2
import HandS.HeadHook3
import HandS.Head3
set_option Elab.async false
set_option linter.all false
set_option maxRecDepth 100000
/-! LfT: the law's lambdas (one such text for each law). -/
namespace Lf
open PySem PySem.Spec PyProof.Rows L2
/-- a lambda: its name, its text, its parameters, its captured names, its slots -/
structure LamD where
  q : Str
  params : Arguments
  body : Expr
  scope : Scope
  ps : List Str
  fr : List Str
  N : List Str
def lTop (i : Nat) : Stmt := PySem.Challenge.pw_noclaimwrong_k17_whole_all_tapes_of_a_le.main.body.getD i (.Pass ⟨0, 0, 0, 0⟩)
def lawF : List He.Defn := [("are_weights", none), ("rolled", none), ("_law_are_refused", none)]
def lawT (K : PySem.W.Frag) : List (Addr × Str) := lawF.map fun p => ((He.cT K p).2, p.1 ++ ".<locals>." ++ "<lambda>")
/-! ### the way to a lambda's text -/
def xArg (k : Nat) : Expr → Expr
  | .Call _ as _ _ => as.getD k (.Constant .none 0 ⟨0, 0, 0, 0⟩)
  | e => e
def xVal (k : Nat) : Expr → Expr
  | .BoolOp _ as _ => as.getD k (.Constant .none 0 ⟨0, 0, 0, 0⟩)
  | e => e
def xElt (k : Nat) : Expr → Expr
  | .List as _ => as.getD k (.Constant .none 0 ⟨0, 0, 0, 0⟩)
  | .Tuple as _ _ => as.getD k (.Constant .none 0 ⟨0, 0, 0, 0⟩)
  | e => e
def xOperand : Expr → Expr
  | .UnaryOp _ a _ => a
  | e => e
def xLeft : Expr → Expr
  | .BinOp a _ _ _ => a
  | .Compare a _ _ _ => a
  | e => e
def xRight : Expr → Expr
  | .BinOp _ _ b _ => b
  | e => e
def xCmp (k : Nat) : Expr → Expr
  | .Compare _ _ as _ => as.getD k (.Constant .none 0 ⟨0, 0, 0, 0⟩)
  | e => e
def xTest : Stmt → Expr
  | .If t _ _ _ => t
  | .While t _ _ _ => t
  | _ => .Constant .none 0 ⟨0, 0, 0, 0⟩
def xValue : Stmt → Expr
  | .Assign _ v _ => v
  | .Expr v _ => v
  | .Return (some v) _ => v
  | _ => .Constant .none 0 ⟨0, 0, 0, 0⟩
def xBody (k : Nat) : Stmt → Stmt
  | .If _ b _ _ => b.getD k (.Pass ⟨0, 0, 0, 0⟩)
  | .For _ _ b _ _ => b.getD k (.Pass ⟨0, 0, 0, 0⟩)
  | .While _ b _ _ => b.getD k (.Pass ⟨0, 0, 0, 0⟩)
  | s => s
def xAt (k : Nat) (b : List Stmt) : Stmt := b.getD k (.Pass ⟨0, 0, 0, 0⟩)
def laArgs : Expr → Arguments
  | .Lambda a _ _ _ => a
  | _ => { posonlyargs := [], args := [], vararg := none, kwonlyargs := [], kw_defaults := [], kwarg := none, defaults := [] }
def laBody : Expr → Expr
  | .Lambda _ b _ _ => b
  | e => e
def laScope : Expr → Scope
  | .Lambda _ _ s _ => s
  | _ => { kind := .function, names := [], isGenerator := false, isCoroutine := false }

def lam_0 : LamD := ⟨("are_weights" : Str) ++ ".<locals>." ++ "<lambda>", laArgs (xArg 1 (xOperand (xVal 0 (xTest (xAt 0 (defBody (lTop 23))))))), laBody (xArg 1 (xOperand (xVal 0 (xTest (xAt 0 (defBody (lTop 23))))))), laScope (xArg 1 (xOperand (xVal 0 (xTest (xAt 0 (defBody (lTop 23))))))), ["part"], [], ["part"]⟩
def lam_1 : LamD := ⟨("rolled" : Str) ++ ".<locals>." ++ "<lambda>", laArgs (xArg 1 (xOperand (xTest (xAt 1 (defBody (lTop 37)))))), laBody (xArg 1 (xOperand (xTest (xAt 1 (defBody (lTop 37)))))), laScope (xArg 1 (xOperand (xTest (xAt 1 (defBody (lTop 37)))))), ["roll"], ["rows"], ["roll", "rows"]⟩
def lam_2 : LamD := ⟨("_law_are_refused" : Str) ++ ".<locals>." ++ "<lambda>", laArgs (xArg 0 (xElt 0 (xValue (xAt 4 (defBody (lTop 51)))))), laBody (xArg 0 (xElt 0 (xValue (xAt 4 (defBody (lTop 51)))))), laScope (xArg 0 (xElt 0 (xValue (xAt 4 (defBody (lTop 51)))))), [], ["bad", "odd"], ["bad", "odd"]⟩
def lam_3 : LamD := ⟨("_law_are_refused" : Str) ++ ".<locals>." ++ "<lambda>", laArgs (xArg 0 (xArg 0 (xValue (xAt 5 (defBody (lTop 51)))))), laBody (xArg 0 (xArg 0 (xValue (xAt 5 (defBody (lTop 51)))))), laScope (xArg 0 (xArg 0 (xValue (xAt 5 (defBody (lTop 51)))))), [], ["odd", "rows"], ["odd", "rows"]⟩
def lam_4 : LamD := ⟨("_law_are_refused" : Str) ++ ".<locals>." ++ "<lambda>", laArgs (xArg 0 (xArg 0 (xValue (xAt 6 (defBody (lTop 51)))))), laBody (xArg 0 (xArg 0 (xValue (xAt 6 (defBody (lTop 51)))))), laScope (xArg 0 (xArg 0 (xValue (xAt 6 (defBody (lTop 51)))))), [], ["rows"], ["rows"]⟩
def lawL : List LamD := [lam_0, lam_1, lam_2, lam_3, lam_4]
/-- is the class c one of x: told by the texts of the classes -/
def lawE : List Str := ["BadWeights", "BadMany", "BadTape", "BadRows", "TooMany"]
def lawSub (c x : Str) : Option Bool := if c ∈ lawE then (if x = "HouseError" then some true else if x ∈ lawE then some (decide (c = x)) else none) else none
end Lf

set_option Elab.async false
set_option linter.all false
set_option maxRecDepth 100000
/-! Lf0: values as data; the state of a def's body as data; how a state stands in the heap. -/
namespace Lf
open PySem PySem.Spec PyProof.Rows L2

abbrev D := PyData
def kD : Key → D
  | .inl i => .int i
  | .inr x => .str x
/-! how data lies in a heap that is never written -/
mutual
inductive Da (K : PySem.W.Frag) (F : Hp) : V → D → Prop
  | non : Da K F .non .none
  | bl (b : Bool) : Da K F (.bl b) (.bool b)
  | int (i : Int) : Da K F (.int i) (.int i)
  | str (x : Str) : Da K F (.str x) (.str x)
  | lst {a : Addr} {vs : List V} {ds : List D} : F a = some (.lst vs) → DaS K F vs ds → Da K F (.ref a) (.list ds)
  | tup {a : Addr} {vs : List V} {ds : List D} : SqT K F a vs → DaS K F vs ds → Da K F (.ref a) (.tuple ds)
  | dk {a : Addr} {ks : List Key} {vs : List V} {ds : List D} : F a = some (.dK (ks.zip vs)) → ks.length = vs.length → DaS K F vs ds → Da K F (.ref a) (.dict ((ks.map kD).zip ds))
  | dt {a : Addr} {ks : List (List Key)} {vs : List V} {ds : List D} : F a = some (.dT (ks.zip vs)) → ks.length = vs.length → DaS K F vs ds → Da K F (.ref a) (.dict ((ks.map fun k => PyData.tuple (k.map kD)).zip ds))
inductive DaS (K : PySem.W.Frag) (F : Hp) : List V → List D → Prop
  | nil : DaS K F [] []
  | cons {v : V} {vs : List V} {d : D} {ds : List D} : Da K F v d → DaS K F vs ds → DaS K F (v :: vs) (d :: ds)
end
section
variable {K : PySem.W.Frag} {F F' H H' : Hp}
mutual
theorem Da.mono (e : Same F F') : ∀ {v : V} {d : D}, Da K F v d → Da K F' v d
  | _, _, .non => .non
  | _, _, .bl b => .bl b
  | _, _, .int i => .int i
  | _, _, .str x => .str x
  | _, _, .lst h r => .lst (e _ _ h) (DaS.mono e r)
  | _, _, .tup h r => .tup (by
      rcases h with (h | ⟨o, h⟩) | h
      · exact .inl (.inl (e _ _ h))
      · exact .inl (.inr ⟨o, e _ _ h⟩)
      · exact .inr h) (DaS.mono e r)
  | _, _, .dk h l r => .dk (e _ _ h) l (DaS.mono e r)
  | _, _, .dt h l r => .dt (e _ _ h) l (DaS.mono e r)
theorem DaS.mono (e : Same F F') : ∀ {vs : List V} {ds : List D}, DaS K F vs ds → DaS K F' vs ds
  | _, _, .nil => .nil
  | _, _, .cons h r => .cons (Da.mono e h) (DaS.mono e r)
end
theorem sqt_mono {a : Addr} {vs : List V} (e : Same F F') (h : SqT K F a vs) : SqT K F' a vs := by
  rcases h with (h | ⟨o, h⟩) | h
  · exact .inl (.inl (e _ _ h))
  · exact .inl (.inr ⟨o, e _ _ h⟩)
  · exact .inr h
theorem DaS.length : ∀ {vs : List V} {ds : List D}, DaS K F vs ds → vs.length = ds.length
  | _, _, .nil => rfl
  | _, _, .cons _ r => congrArg (· + 1) (DaS.length r)
theorem DaS.get : ∀ {vs : List V} {ds : List D} {i : Nat} {d : D}, DaS K F vs ds → ds[i]? = some d → ∃ v, vs[i]? = some v ∧ Da K F v d
  | _, _, _, _, .nil, e => by simp at e
  | _, _, 0, _, .cons h _, e => by
    simp at e
    subst e
    exact ⟨_, rfl, h⟩
  | _, _, i + 1, d, .cons _ r, e => by
    obtain ⟨v, h1, h2⟩ := DaS.get (i := i) (d := d) r (by simpa using e)
    exact ⟨v, by simpa using h1, h2⟩
theorem DaS.getV : ∀ {vs : List V} {ds : List D} {i : Nat} {v : V}, DaS K F vs ds → vs[i]? = some v → ∃ d, ds[i]? = some d ∧ Da K F v d
  | _, _, _, _, .nil, e => by simp at e
  | _, _, 0, _, .cons h _, e => by
    simp at e
    subst e
    exact ⟨_, rfl, h⟩
  | _, _, i + 1, v, .cons _ r, e => by
    obtain ⟨d, h1, h2⟩ := DaS.getV (i := i) (v := v) r (by simpa using e)
    exact ⟨d, by simpa using h1, h2⟩
theorem DaS.append : ∀ {vs ws : List V} {ds es : List D}, DaS K F vs ds → DaS K F ws es → DaS K F (vs ++ ws) (ds ++ es)
  | _, _, _, _, .nil, s => s
  | _, _, _, _, .cons h r, s => .cons h (DaS.append r s)
theorem DaS.take : ∀ {vs : List V} {ds : List D} (n : Nat), DaS K F vs ds → DaS K F (vs.take n) (ds.take n)
  | _, _, 0, _ => by simpa using DaS.nil
  | _, _, _ + 1, .nil => .nil
  | _, _, n + 1, .cons h r => .cons h (DaS.take n r)
theorem DaS.drop : ∀ {vs : List V} {ds : List D} (n : Nat), DaS K F vs ds → DaS K F (vs.drop n) (ds.drop n)
  | _, _, 0, r => r
  | _, _, _ + 1, .nil => .nil
  | _, _, n + 1, .cons _ r => DaS.drop n r
theorem DaS.reverse : ∀ {vs : List V} {ds : List D}, DaS K F vs ds → DaS K F vs.reverse ds.reverse
  | _, _, .nil => .nil
  | _, _, .cons h r => by
    rw [List.reverse_cons, List.reverse_cons]
    exact (DaS.reverse r).append (.cons h .nil)
theorem DaS.set : ∀ {vs : List V} {ds : List D} {v : V} {d : D} (i : Nat), DaS K F vs ds → Da K F v d → DaS K F (vs.set i v) (ds.set i d)
  | _, _, _, _, _, .nil, _ => .nil
  | _, _, _, _, 0, .cons _ r, q => .cons q r
  | _, _, _, _, i + 1, .cons h r, q => .cons h (DaS.set i r q)
theorem DaS.ints : ∀ {ns : List Int} {vs : List V}, DaS K F vs (ns.map PyData.int) → vs = ns.map V.int
  | [], _, h => by cases h; rfl
  | n :: r, _, h => by
    cases h with
    | cons h1 h2 =>
      cases h1
      rw [List.map_cons, DaS.ints h2]
theorem DaS.of_ints : ∀ (ns : List Int), DaS K F (ns.map V.int) (ns.map PyData.int)
  | [] => .nil
  | n :: r => .cons (.int n) (DaS.of_ints r)
theorem DaS.bools : ∀ {ns : List Bool} {vs : List V}, DaS K F vs (ns.map PyData.bool) → vs = ns.map V.bl
  | [], _, h => by cases h; rfl
  | n :: r, _, h => by
    cases h with
    | cons h1 h2 =>
      cases h1
      rw [List.map_cons, DaS.bools h2]
theorem Da.int_eq {v : V} {i : Int} (h : Da K F v (.int i)) : v = .int i := by cases h; rfl
theorem Da.bl_eq {v : V} {b : Bool} (h : Da K F v (.bool b)) : v = .bl b := by cases h; rfl
theorem Da.str_eq {v : V} {x : Str} (h : Da K F v (.str x)) : v = .str x := by cases h; rfl
theorem Da.non_eq {v : V} (h : Da K F v .none) : v = .non := by cases h; rfl
theorem Da.tup_of {v : V} {ds : List D} (h : Da K F v (.tuple ds)) : ∃ a vs, v = .ref a ∧ SqT K F a vs ∧ DaS K F vs ds := by
  cases h with
  | tup h r => exact ⟨_, _, rfl, h, r⟩
theorem Da.lst_of {v : V} {ds : List D} (h : Da K F v (.list ds)) : ∃ a vs, v = .ref a ∧ F a = some (.lst vs) ∧ DaS K F vs ds := by
  cases h with
  | lst h r => exact ⟨_, _, rfl, h, r⟩

/-! ### data without dicts: the library's relation -/
mutual
def noDict : D → Bool
  | .dict _ => false
  | .list ds => noDicts ds
  | .tuple ds => noDicts ds
  | _ => true
def noDicts : List D → Bool
  | [] => true
  | d :: r => noDict d && noDicts r
end
mutual
theorem Da.dp : ∀ {v : V} {d : D}, Da K F v d → noDict d = true → Dp K F v d
  | _, _, .non, _ => .non
  | _, _, .bl b, _ => .bl b
  | _, _, .int i, _ => .int i
  | _, _, .str x, _ => .str x
  | _, _, .lst h r, n => .lst (.inl (.inl h)) (DaS.dp r (by simpa [noDict] using n))
  | _, _, .tup h r, n => .tup h (DaS.dp r (by simpa [noDict] using n))
  | _, _, .dk .., n => by simp [noDict] at n
  | _, _, .dt .., n => by simp [noDict] at n
theorem DaS.dp : ∀ {vs : List V} {ds : List D}, DaS K F vs ds → noDicts ds = true → DpAll K F vs ds
  | _, _, .nil, _ => .nil
  | _, _, .cons h r, n => by
    simp [noDicts] at n
    exact .cons (Da.dp h n.1) (DaS.dp r n.2)
end
end

/-! ### the state -/
structure Deck where
  left : List Int
  mixed : Int
  draws : Int
inductive SV where
  /-- nothing is known -/
  | unk
  | dat (d : D)
  /-- a tuple that stands by itself (not one of the text's own) -/
  | tup (ds : List D)
  /-- a list, a dict that this name alone holds -/
  | lst (xs : List D)
  | dk (kvs : List (Key × D))
  | dt (kvs : List (List Key × D))
  /-- the deck -/
  | deck
  /-- a lambda, what it captured -/
  | clo (id : Nat) (cs : List D)
structure S0 where
  ρ : List SV
  dk : Option Deck
/-- what an expression comes to -/
inductive R (α : Type) where
  | ok (a : α) (s : S0)
  | exc (c : Str) (d : D) (s : S0)
  | bad
def R.bind {α β : Type} (r : R α) (k : α → S0 → R β) : R β := match r with
  | .ok a s => k a s
  | .exc c d s => .exc c d s
  | .bad => .bad
def KVd (K : PySem.W.Frag) (F : Hp) {κ : Type} : List (κ × V) → List (κ × D) → Prop := Paired fun p q => p.1 = q.1 ∧ Da K F p.2 q.2
/-- a known object, for good -/
def PinF (F : Hp) (a : Addr) (o : Obj) : Prop := F a = some (.frz o (.own 0))
/-- what the captured cells hold -/
structure CapsAt (K : PySem.W.Frag) (F : Hp) (cl : List (Str × Addr)) (fr : List Str) (cs : List D) : Prop where
  len : cs.length = fr.length
  inj : ∀ x y c, cl.lookup x = some c → cl.lookup y = some c → x = y
  all : ∀ y c, cl.lookup y = some c → y ∈ fr
  has : ∀ (i : Nat) (y : Str), fr[i]? = some y → ∃ c o u v d, cl.lookup y = some c ∧ PinF F c o ∧ o.data = .cell (some u) ∧ RelV v u ∧ cs[i]? = some d ∧ Da K F v d
structure CloAt (K : PySem.W.Frag) (F : Hp) (f : Addr) (L : LamD) (cl : List (Str × Addr)) (pm : Value) (c' : Addr) (ctv : Value) (cs : List D) : Prop where
  fn : PinF F f (PySem.W.kla_obj "<lambda>" L.q L.params L.body L.scope cl pm c' ctv)
  co : F c' = some (LamX.CodeO c' L.q)
  cap : CapsAt K F cl L.fr cs
theorem CapsAt.mono {K : PySem.W.Frag} {F F' : Hp} {cl : List (Str × Addr)} {fr : List Str} {cs : List D} (e : Same F F') (h : CapsAt K F cl fr cs) : CapsAt K F' cl fr cs :=
  ⟨h.len, h.inj, h.all, fun i y q => by
    obtain ⟨c, o, u, v, d, h1, h2, h3, h4, h5, h6⟩ := h.has i y q
    exact ⟨c, o, u, v, d, h1, e _ _ h2, h3, h4, h5, h6.mono e⟩⟩
theorem CloAt.mono {K : PySem.W.Frag} {F F' : Hp} {f : Addr} {L : LamD} {cl : List (Str × Addr)} {pm : Value} {c' : Addr} {ctv : Value} {cs : List D} (e : Same F F') (h : CloAt K F f L cl pm c' ctv cs) : CloAt K F' f L cl pm c' ctv cs := ⟨e _ _ h.fn, e _ _ h.co, h.cap.mono e⟩
def SlotOk (K : PySem.W.Frag) (F H : Hp) (ad : Addr) : SV → Option (Option V) → Option Addr → Prop
  | .unk, _, A => A = none
  | .dat d, o, A => A = none ∧ ∃ v, o = some (some v) ∧ Da K F v d
  | .tup ds, o, A => A = none ∧ ∃ a vs, o = some (some (.ref a)) ∧ F a = some (.tup vs) ∧ DaS K F vs ds
  | .lst xs, o, A => ∃ a vs, A = some a ∧ o = some (some (.ref a)) ∧ H a = some (.lst vs) ∧ DaS K F vs xs
  | .dk kvs, o, A => ∃ a vs, A = some a ∧ o = some (some (.ref a)) ∧ H a = some (.dK vs) ∧ KVd K F vs kvs
  | .dt kvs, o, A => ∃ a vs, A = some a ∧ o = some (some (.ref a)) ∧ H a = some (.dT vs) ∧ KVd K F vs kvs
  | .deck, o, A => A = none ∧ o = some (some (.ref ad))
  | .clo id cs, o, A => A = none ∧ ∃ f L cl pm c' ctv, o = some (some (.ref f)) ∧ lawL[id]? = some L ∧ CloAt K F f L cl pm c' ctv cs
def deckO (l : Addr) (k : Deck) : HO := .dK [(Sum.inr "left", .ref l), (Sum.inr "mixed", .int k.mixed), (Sum.inr "draws", .int k.draws)]
structure DeckOk (F H : Hp) (ad l : Addr) (k : Deck) : Prop where
  ne : ad ≠ l
  fa : F ad = none
  fl : F l = none
  ha : H ad = some (deckO l k)
  hl : H l = some (.lst (k.left.map V.int))
/-- where the deck stands, if there is one -/
structure Gd where
  b : Bool
  ad : Addr
  l : Addr
  /-- the tables of code objects -/
  T : List (Addr × Str)
/-- an address of the deck -/
def isDk (g : Gd) (b : Addr) : Prop := (g.b = true ∧ (b = g.ad ∨ b = g.l)) ∨ ∃ p ∈ g.T, p.1 = b
/-- the tables stand, and are nowhere frozen -/
def TabOk (K : PySem.W.Frag) (g : Gd) (F H : Hp) : Prop := g.T = lawT K ∧ ∀ p ∈ g.T, F p.1 = none ∧ LamX.TabS H p.1 p.2
/-- what may become data that is never written: a new thing, a tuple -/
def fzO : HO → Prop
  | .tup _ => True
  | .ext _ => True
  | .xd _ => True
  | _ => False
def Fz (H : Hp) (b : Addr) : Prop := H b = none ∨ ∃ o, H b = some o ∧ fzO o
structure Rel (K : PySem.W.Frag) (g : Gd) (F H : Hp) (A : Nat → Option Addr) (s : S0) (σ : L2.St) : Prop where
  same : Same F H
  len : s.ρ.length = σ.length
  slot : ∀ i sv, s.ρ[i]? = some sv → SlotOk K F H g.ad sv σ[i]? (A i)
  own : ∀ i b, A i = some b → F b = none ∧ ¬ Fz H b ∧ ¬ isDk g b
  sep : ∀ i j b, A i = some b → A j = some b → i = j
  dkb : s.dk.isSome = g.b
  deck : ∀ k, s.dk = some k → DeckOk F H g.ad g.l k
  tab : TabOk K g F H
/-- what may have changed -/
structure Step (g : Gd) (F H : Hp) (A : Nat → Option Addr) (F' H' : Hp) (A' : Nat → Option Addr) : Prop where
  ff : Same F F'
  fn : ∀ b, F' b ≠ none → F b ≠ none ∨ Fz H b ∨ (∃ i, A i = some b) ∨ isDk g b
  fr : ∀ b o, H b = some o → (∀ i, A i ≠ some b) → ¬ isDk g b → H' b = some o
  an : ∀ i b, A' i = some b → (∃ j, A j = some b) ∨ H b = none
  tr : ∀ b, H b ≠ none → H' b ≠ none
section
variable {K : PySem.W.Frag} {F F' F'' H H' H'' : Hp} {A A' A'' : Nat → Option Addr} {g : Gd} {s s' s'' : S0} {σ σ' : L2.St}
theorem Step.refl : Step g F H A F H A := ⟨Same.refl F, fun b h => .inl h, fun b o h _ _ => h, fun i b h => .inl ⟨i, h⟩, fun _ h => h⟩
theorem Step.back (a : Step g F H A F' H' A') {x : Addr} (h : H' x = none) : H x = none := by
  cases e : H x with
  | none => rfl
  | some o => exact absurd h (a.tr x (by rw [e]; simp))
theorem Step.trans (a : Step g F H A F' H' A') (b : Step g F' H' A' F'' H'' A'') : Step g F H A F'' H'' A'' := by
  refine ⟨a.ff.trans b.ff, fun x h => ?_, fun x o h n nd => ?_, fun i x h => ?_, fun x h => b.tr x (a.tr x h)⟩
  · rcases b.fn x h with h1 | h1 | ⟨i, h1⟩ | h1
    · exact a.fn x h1
    · rcases h1 with h1 | ⟨xs, h1, hx⟩
      · exact .inr (.inl (.inl (a.back h1)))
      · by_cases q : ∃ i, A i = some x
        · exact .inr (.inr (.inl q))
        · by_cases nd : isDk g x
          · exact .inr (.inr (.inr nd))
          · cases e : H x with
            | none => exact .inr (.inl (.inl e))
            | some o =>
              have z := a.fr x o e (fun i z => q ⟨i, z⟩) nd
              rw [h1] at z
              cases z
              exact .inr (.inl (.inr ⟨_, e, hx⟩))
    · rcases a.an i x h1 with h2 | h2
      · exact .inr (.inr (.inl h2))
      · exact .inr (.inl (.inl h2))
    · exact .inr (.inr (.inr h1))
  · refine b.fr x o (a.fr x o h n nd) (fun i z => ?_) nd
    rcases a.an i x z with ⟨j, h2⟩ | h2
    · exact n j h2
    · rw [h] at h2
      cases h2
  · rcases b.an i x h with ⟨j, h1⟩ | h1
    · exact a.an j x h1
    · exact .inr (a.back h1)
theorem Rel.dkne (r : Rel K g F H A s σ) : ∀ x, isDk g x → H x ≠ none := fun x h => by
  rcases h with ⟨h1, h2⟩ | ⟨p, hp, e⟩
  · obtain ⟨k, hk⟩ := Option.isSome_iff_exists.mp (r.dkb.trans h1)
    have q := r.deck k hk
    rcases h2 with e | e
    · subst e
      rw [q.ha]
      simp
    · subst e
      rw [q.hl]
      simp
  · obtain ⟨_, ps, h1, _⟩ := r.tab.2 p hp
    rw [← e, h1]
    simp
/-- new things alone: frozen ones may come -/
structure Nw (F H F' H' : Hp) : Prop where
  ff : Same F F'
  hh : Same H H'
  fh : Same F' H'
  fn : ∀ b, F' b ≠ none → F b ≠ none ∨ Fz H b
theorem Nw.refl (e : Same F H) : Nw F H F H := ⟨Same.refl F, Same.refl H, e, fun b h => .inl h⟩
theorem Nw.trans (a : Nw F H F' H') (b : Nw F' H' F'' H'') : Nw F H F'' H'' := ⟨a.ff.trans b.ff, a.hh.trans b.hh, b.fh, fun x h => by
  rcases b.fn x h with h1 | h1 | ⟨xs, h1, hx⟩
  · exact a.fn x h1
  · exact .inr (.inl (a.hh.free h1))
  · cases e : H x with
    | none => exact .inr (.inl e)
    | some o =>
      have z := a.hh x o e
      rw [h1] at z
      cases z
      exact .inr (.inr ⟨_, e, hx⟩)⟩
theorem Nw.new {p : Addr} {o : HO} (e : Same F H) (hp : H p = none) : Nw F H (upd F p o) (upd H p o) := by
  have fp : F p = none := e.free hp
  refine ⟨fun b u h => ?_, fun b u h => ?_, fun b u h => ?_, fun b h => ?_⟩
  · rw [upd_ne (ne_of_none h fp)]
    exact h
  · rw [upd_ne (ne_of_none h hp)]
    exact h
  · by_cases q : b = p
    · subst q
      rw [upd_same] at h ⊢
      exact h
    · rw [upd_ne q] at h ⊢
      exact e _ _ h
  · by_cases q : b = p
    · subst q
      exact .inr (.inl hp)
    · rw [upd_ne q] at h
      exact .inl h
theorem Nw.keepF {p : Addr} (a : Nw F H F' H') (hf : F p = none) (hh : ¬ Fz H p) : F' p = none := by
  cases q : F' p with
  | none => rfl
  | some o =>
    rcases a.fn p (by rw [q]; simp) with h | h
    · exact absurd hf h
    · exact absurd h hh
theorem fz_no {b : Addr} {o : HO} (h : H b = some o) (n : ¬ fzO o) : ¬ Fz H b := fun z => by
  rcases z with z | ⟨xs, z, hx⟩
  · rw [h] at z
    cases z
  · rw [h] at z
    exact n (Option.some.inj z ▸ hx)
theorem Nw.notFz {b : Addr} (a : Nw F H F' H') (h : ¬ Fz H b) : ¬ Fz H' b := fun z => by
  cases e : H b with
  | none => exact h (.inl e)
  | some o =>
    have q := a.hh b o e
    rcases z with z | ⟨xs, z, hx⟩
    · rw [q] at z
      cases z
    · rw [q] at z
      cases z
      exact h (.inr ⟨_, e, hx⟩)
theorem Nw.step (a : Nw F H F' H') : Step g F H A F' H' A :=
  ⟨a.ff, fun b h => (a.fn b h).elim .inl fun z => .inr (.inl z), fun b o h _ _ => a.hh b o h, fun i b h => .inl ⟨i, h⟩, fun b h z => h (a.hh.free z)⟩
theorem KVd.mono {κ : Type} {vs : List (κ × V)} {ds : List (κ × D)} (e : Same F F') (h : KVd K F vs ds) : KVd K F' vs ds := Paired.mapP h fun _ _ z => ⟨z.1, z.2.mono e⟩
theorem SlotOk.mono {ad : Addr} {sv : SV} {o : Option (Option V)} {a : Option Addr} (ef : Same F F') (eh : ∀ b u, a = some b → H b = some u → H' b = some u) (h : SlotOk K F H ad sv o a) : SlotOk K F' H' ad sv o a := by
  cases sv with
  | unk => exact h
  | dat d =>
    obtain ⟨h1, v, h2, h3⟩ := h
    exact ⟨h1, v, h2, h3.mono ef⟩
  | tup ds =>
    obtain ⟨h1, a, vs, h2, h3, h4⟩ := h
    exact ⟨h1, a, vs, h2, ef _ _ h3, h4.mono ef⟩
  | lst xs =>
    obtain ⟨a, vs, h1, h2, h3, h4⟩ := h
    exact ⟨a, vs, h1, h2, eh _ _ h1 h3, h4.mono ef⟩
  | dk xs =>
    obtain ⟨a, vs, h1, h2, h3, h4⟩ := h
    exact ⟨a, vs, h1, h2, eh _ _ h1 h3, h4.mono ef⟩
  | dt xs =>
    obtain ⟨a, vs, h1, h2, h3, h4⟩ := h
    exact ⟨a, vs, h1, h2, eh _ _ h1 h3, h4.mono ef⟩
  | deck => exact h
  | clo id cs =>
    obtain ⟨h1, f, L, cl, pm, c', ctv, h2, h3, h4⟩ := h
    exact ⟨h1, f, L, cl, pm, c', ctv, h2, h3, h4.mono ef⟩
theorem Rel.nw (r : Rel K g F H A s σ) (a : Nw F H F' H') : Rel K g F' H' A s σ where
  same := a.fh
  len := r.len
  slot := fun i sv h => (r.slot i sv h).mono a.ff fun b u _ => a.hh b u
  own := fun i b h => by
    obtain ⟨h1, h2, h3⟩ := r.own i b h
    exact ⟨a.keepF h1 h2, a.notFz h2, h3⟩
  sep := r.sep
  dkb := r.dkb
  deck := fun k h => by
    have q := r.deck k h
    exact ⟨q.ne, a.keepF q.fa (fz_no q.ha id), a.keepF q.fl (fz_no q.hl id), a.hh _ _ q.ha, a.hh _ _ q.hl⟩
  tab := ⟨r.tab.1, fun p hp => by
    obtain ⟨h1, ps, h2, h3⟩ := r.tab.2 p hp
    exact ⟨a.keepF h1 (fz_no h2 id), LamX.TabS.ext ⟨ps, h2, h3⟩ a.hh⟩⟩
/-- a thing that is no table and no code object is written -/
theorem TabOk.wr (t : TabOk K g F H) {a : Addr} {o : HO} (ha : ¬ isDk g a) (hc : ∀ φ, H a ≠ some (.ext φ)) : TabOk K g F (upd H a o) := ⟨t.1, fun p hp => by
  obtain ⟨h1, ps, h2, h3, h4⟩ := t.2 p hp
  refine ⟨h1, ps, ?_, h3, fun pos cv e => ?_⟩
  · rw [upd_ne (fun z => ha (.inr ⟨p, hp, z⟩))]
    exact h2
  · obtain ⟨c, e1, e2⟩ := h4 pos cv e
    refine ⟨c, e1, ?_⟩
    rw [upd_ne (fun z => hc _ (z ▸ e2))]
    exact e2⟩
theorem TabOk.wrF (t : TabOk K g F H) {a : Addr} {o : HO} (ha : ¬ isDk g a) : TabOk K g (upd F a o) H := ⟨t.1, fun p hp => by
  obtain ⟨h1, h2⟩ := t.2 p hp
  refine ⟨?_, h2⟩
  rw [upd_ne (fun z => ha (.inr ⟨p, hp, z⟩))]
  exact h1⟩
end
end Lf

set_option Elab.async false
set_option linter.all false
set_option maxRecDepth 100000
/-! Lf1: readings over data. -/
namespace Lf
open PySem PySem.Spec PyProof.Rows L2

/-! ### names -/
def kvD (kvs : List (Key × D)) : D := .dict (kvs.map fun p => (kD p.1, p.2))
def ktD (kvs : List (List Key × D)) : D := .dict (kvs.map fun p => (PyData.tuple (p.1.map kD), p.2))
/-- what a name holds, seen as data -/
def SV.val : SV → Option D
  | .dat d => some d
  | .tup ds => some (.tuple ds)
  | .lst xs => some (.list xs)
  | .dk kvs => some (kvD kvs)
  | .dt kvs => some (ktD kvs)
  | _ => none
def look (s : S0) (i : Nat) : Option D := match s.ρ[i]? with
  | some sv => sv.val
  | none => none
/-- data, or what a name alone holds (as it stands now) -/
inductive Pk (K : PySem.W.Frag) (F H : Hp) : V → D → Prop
  | da {v : V} {d : D} : Da K F v d → Pk K F H v d
  | lst {a : Addr} {vs : List V} {ds : List D} : H a = some (.lst vs) → DaS K F vs ds → Pk K F H (.ref a) (.list ds)
  | dk {a : Addr} {vs : List (Key × V)} {ds : List (Key × D)} : H a = some (.dK vs) → KVd K F vs ds → Pk K F H (.ref a) (kvD ds)
  | dt {a : Addr} {vs : List (List Key × V)} {ds : List (List Key × D)} : H a = some (.dT vs) → KVd K F vs ds → Pk K F H (.ref a) (ktD ds)
abbrev PkS (K : PySem.W.Frag) (F H : Hp) : List V → List D → Prop := Paired (Pk K F H)
section
variable {K : PySem.W.Frag} {F F' H H' : Hp} {A A' : Nat → Option Addr} {g : Gd} {s s' : S0} {σ σ' : L2.St}
theorem kv_split {κ : Type} : ∀ {vs : List (κ × V)} {ds : List (κ × D)}, KVd K F vs ds → vs = (vs.map (·.1)).zip (vs.map (·.2)) ∧ ds = (vs.map (·.1)).zip (ds.map (·.2)) ∧ DaS K F (vs.map (·.2)) (ds.map (·.2)) ∧ vs.length = ds.length
  | _, _, .nil => ⟨rfl, rfl, .nil, rfl⟩
  | (k, v) :: vs, (k', d) :: ds, .cons h r => by
    obtain ⟨e1, e2, e3, e4⟩ := kv_split r
    obtain ⟨h1, h2⟩ := h
    have h1 : k = k' := h1
    subst h1
    refine ⟨?_, ?_, .cons h2 e3, congrArg (· + 1) e4⟩
    · rw [List.map_cons, List.map_cons, List.zip_cons_cons, ← e1]
    · rw [List.map_cons, List.map_cons, List.zip_cons_cons, ← e2]
theorem kvD_of {vs : List (Key × V)} {ds : List (Key × D)} {a : Addr} (h : F a = some (.dK vs)) (r : KVd K F vs ds) : Da K F (.ref a) (kvD ds) := by
  obtain ⟨e1, e2, e3, e4⟩ := kv_split r
  have z := Da.dk (ks := vs.map (·.1)) (by rw [← e1]; exact h) (by simp) e3
  have q : ((vs.map (·.1)).map kD).zip (ds.map (·.2)) = ds.map fun p => (kD p.1, p.2) := by
    rw [List.zip_map_left, ← e2]
    apply List.map_congr_left
    intro p _
    rfl
  rw [q] at z
  exact z
theorem ktD_of {vs : List (List Key × V)} {ds : List (List Key × D)} {a : Addr} (h : F a = some (.dT vs)) (r : KVd K F vs ds) : Da K F (.ref a) (ktD ds) := by
  obtain ⟨e1, e2, e3, e4⟩ := kv_split r
  have z := Da.dt (ks := vs.map (·.1)) (by rw [← e1]; exact h) (by simp) e3
  have q : ((vs.map (·.1)).map fun k => PyData.tuple (k.map kD)).zip (ds.map (·.2)) = ds.map fun p => (PyData.tuple (p.1.map kD), p.2) := by
    rw [List.zip_map_left, ← e2]
    apply List.map_congr_left
    intro p _
    rfl
  rw [q] at z
  exact z
/-- over the heap at hand it is data -/
theorem Pk.all (e : Same F H) {v : V} {d : D} (h : Pk K F H v d) : Da K H v d := by
  cases h with
  | da h => exact h.mono e
  | lst h r => exact .lst h (r.mono e)
  | dk h r => exact kvD_of h (r.mono e)
  | dt h r => exact ktD_of h (r.mono e)
theorem PkS.all (e : Same F H) {vs : List V} {ds : List D} (h : PkS K F H vs ds) : DaS K H vs ds := by
  induction h with
  | nil => exact .nil
  | cons h _ ih => exact .cons (h.all e) ih
theorem Pk.lst_of {v : V} {ds : List D} (e : Same F H) (h : Pk K F H v (.list ds)) : ∃ a vs, v = .ref a ∧ H a = some (.lst vs) ∧ DaS K F vs ds := by
  generalize q : PyData.list ds = d at h
  cases h with
  | da h =>
    subst q
    obtain ⟨a, vs, h1, h2, h3⟩ := h.lst_of
    exact ⟨a, vs, h1, e _ _ h2, h3⟩
  | lst h r =>
    cases q
    exact ⟨_, _, rfl, h, r⟩
  | dk h r => cases q
  | dt h r => cases q
theorem Pk.tup_of {v : V} {ds : List D} (e : Same F H) (h : Pk K F H v (.tuple ds)) : ∃ a vs, v = .ref a ∧ SqT K F a vs ∧ DaS K F vs ds := by
  generalize q : PyData.tuple ds = d at h
  cases h with
  | da h =>
    subst q
    exact h.tup_of
  | lst h r => cases q
  | dk h r => cases q
  | dt h r => cases q
theorem Pk.mono_nw (a : Nw F H F' H') {v : V} {d : D} (h : Pk K F H v d) : Pk K F' H' v d := by
  cases h with
  | da h => exact .da (h.mono a.ff)
  | lst h r => exact .lst (a.hh _ _ h) (r.mono a.ff)
  | dk h r => exact .dk (a.hh _ _ h) (r.mono a.ff)
  | dt h r => exact .dt (a.hh _ _ h) (r.mono a.ff)
theorem Pk.int_eq {v : V} {i : Int} (h : Pk K F H v (.int i)) : v = .int i := by
  generalize q : PyData.int i = d at h
  cases h with
  | da h => subst q; exact h.int_eq
  | _ => cases q
theorem Pk.bl_eq {v : V} {i : Bool} (h : Pk K F H v (.bool i)) : v = .bl i := by
  generalize q : PyData.bool i = d at h
  cases h with
  | da h => subst q; exact h.bl_eq
  | _ => cases q
theorem Pk.str_eq {v : V} {i : Str} (h : Pk K F H v (.str i)) : v = .str i := by
  generalize q : PyData.str i = d at h
  cases h with
  | da h => subst q; exact h.str_eq
  | _ => cases q
theorem Pk.non_eq {v : V} (h : Pk K F H v .none) : v = .non := by
  generalize q : PyData.none = d at h
  cases h with
  | da h => subst q; exact h.non_eq
  | _ => cases q
theorem SlotOk.pk {ad : Addr} {sv : SV} {o : Option (Option V)} {a : Option Addr} {d : D} (h : SlotOk K F H ad sv o a) (e : sv.val = some d) : ∃ v, o = some (some v) ∧ Pk K F H v d := by
  cases sv with
  | unk => cases e
  | deck => cases e
  | clo id cs => cases e
  | dat d' =>
    cases e
    obtain ⟨_, v, h1, h2⟩ := h
    exact ⟨v, h1, .da h2⟩
  | tup ds =>
    cases e
    obtain ⟨_, a, vs, h1, h2, h3⟩ := h
    exact ⟨_, h1, .da (.tup (.inl (.inl h2)) h3)⟩
  | lst xs =>
    cases e
    obtain ⟨a, vs, _, h1, h2, h3⟩ := h
    exact ⟨_, h1, .lst h2 h3⟩
  | dk xs =>
    cases e
    obtain ⟨a, vs, _, h1, h2, h3⟩ := h
    exact ⟨_, h1, .dk h2 h3⟩
  | dt xs =>
    cases e
    obtain ⟨a, vs, _, h1, h2, h3⟩ := h
    exact ⟨_, h1, .dt h2 h3⟩
theorem Rel.look (r : Rel K g F H A s σ) {i : Nat} {d : D} (h : look s i = some d) : ∃ v, σ[i]? = some (some v) ∧ Pk K F H v d := by
  unfold Lf.look at h
  split at h
  · rename_i sv e
    exact (r.slot i sv e).pk h
  · cases h
/-- a name is bound anew -/
def setA (A : Nat → Option Addr) (i : Nat) (a : Option Addr) : Nat → Option Addr := fun j => if j = i then a else A j
theorem setA_same {i : Nat} {a : Option Addr} : setA A i a i = a := if_pos rfl
theorem setA_ne {i j : Nat} {a : Option Addr} (h : j ≠ i) : setA A i a j = A j := if_neg h
theorem Rel.set (r : Rel K g F H A s σ) {i : Nat} {sv : SV} {v : Option V} {a : Option Addr} (hs : SlotOk K F H g.ad sv (some v) a) (hi : i < s.ρ.length)
    (ha : ∀ b, a = some b → F b = none ∧ ¬ Fz H b ∧ ¬ isDk g b ∧ ∀ j, j ≠ i → A j ≠ some b) : Rel K g F H (setA A i a) { s with ρ := s.ρ.set i sv } (σ.set i v) where
  same := r.same
  len := by simpa using r.len
  slot := fun j sv' h => by
    by_cases q : j = i
    · subst q
      rw [List.getElem?_set_self hi] at h
      cases h
      rw [List.getElem?_set_self (by rw [← r.len]; exact hi), setA_same]
      exact hs
    · rw [List.getElem?_set_ne (Ne.symm q)] at h
      rw [List.getElem?_set_ne (Ne.symm q), setA_ne q]
      exact r.slot j sv' h
  own := fun j b h => by
    by_cases q : j = i
    · subst q
      rw [setA_same] at h
      obtain ⟨h1, h2, h3, _⟩ := ha b h
      exact ⟨h1, h2, h3⟩
    · rw [setA_ne q] at h
      exact r.own j b h
  sep := fun j k b h1 h2 => by
    by_cases q : j = i
    · by_cases q2 : k = i
      · rw [q, q2]
      · rw [q, setA_same] at h1
        rw [setA_ne q2] at h2
        exact absurd h2 ((ha b h1).2.2.2 k q2)
    · by_cases q2 : k = i
      · rw [q2, setA_same] at h2
        rw [setA_ne q] at h1
        exact absurd h1 ((ha b h2).2.2.2 j q)
      · rw [setA_ne q] at h1
        rw [setA_ne q2] at h2
        exact r.sep j k b h1 h2
  dkb := r.dkb
  deck := r.deck
  tab := r.tab
theorem Rel.setD (r : Rel K g F H A s σ) {i : Nat} {d : D} {v : V} (h : Da K F v d) (hi : i < s.ρ.length) : Rel K g F H (setA A i none) { s with ρ := s.ρ.set i (.dat d) } (σ.set i (some v)) :=
  r.set (sv := .dat d) (a := none) ⟨rfl, v, rfl, h⟩ hi fun b z => by cases z
theorem Rel.lt (r : Rel K g F H A s σ) {i : Nat} {sv : SV} (h : s.ρ[i]? = some sv) : i < s.ρ.length := (List.getElem?_eq_some_iff.mp h).1
/-- what a name alone holds is never written again -/
theorem freeze {i : Nat} {a : Addr} {o : HO} (r : Rel K g F H A s σ) (ha : A i = some a) (ho : H a = some o) : Same F (upd F a o) ∧ Same (upd F a o) H ∧ Step g F H A (upd F a o) H (setA A i none) := by
  obtain ⟨h1, h2, h3⟩ := r.own i a ha
  have ff : Same F (upd F a o) := fun b u e => by
    rw [upd_ne (ne_of_none e h1)]
    exact e
  have fh : Same (upd F a o) H := fun b u e => by
    by_cases q : b = a
    · subst q
      rw [upd_same] at e
      rw [ho]
      exact e
    · rw [upd_ne q] at e
      exact r.same _ _ e
  refine ⟨ff, fh, ff, fun b h => ?_, fun b u h _ _ => h, fun j b h => ?_, fun _ h => h⟩
  · by_cases q : b = a
    · subst q
      exact .inr (.inr (.inl ⟨i, ha⟩))
    · rw [upd_ne q] at h
      exact .inl h
  · by_cases q : j = i
    · subst q
      rw [setA_same] at h
      cases h
    · rw [setA_ne q] at h
      exact .inl ⟨j, h⟩
theorem Rel.freeze (r : Rel K g F H A s σ) {i : Nat} {sv : SV} {a : Addr} {o : HO} {d : D} (hs : s.ρ[i]? = some sv) (ha : A i = some a) (ho : H a = some o) (hv : σ[i]? = some (some (.ref a))) (hd : Da K (upd F a o) (.ref a) d) :
    Rel K g (upd F a o) H (setA A i none) { s with ρ := s.ρ.set i (.dat d) } σ := by
  obtain ⟨ff, fh, st⟩ := Lf.freeze r ha ho
  have hi := r.lt hs
  have eσ : σ.set i (some (.ref a)) = σ := by
    apply List.ext_getElem?
    intro j
    by_cases q : j = i
    · subst q
      rw [List.getElem?_set_self (by rw [← r.len]; exact hi), hv]
    · rw [List.getElem?_set_ne (Ne.symm q)]
  have r0 : Rel K g F H (setA A i none) { s with ρ := s.ρ.set i .unk } (σ.set i (some (.ref a))) := r.set (sv := .unk) (a := none) rfl hi fun b z => by cases z
  rw [eσ] at r0
  have r1 : Rel K g (upd F a o) H (setA A i none) { s with ρ := s.ρ.set i .unk } σ := by
    refine ⟨fh, r0.len, fun j sv' h => (r0.slot j sv' h).mono ff fun b u _ z => z, fun j b h => ?_, r0.sep, r0.dkb, fun k h => ?_, r0.tab.wrF (r.own i a ha).2.2⟩
    · obtain ⟨h1, h2, h3⟩ := r0.own j b h
      have hb : b ≠ a := fun z => by
        by_cases q : j = i
        · rw [q, setA_same] at h
          cases h
        · rw [setA_ne q, z] at h
          exact q (r.sep j i a h ha)
      exact ⟨by rw [upd_ne hb]; exact h1, h2, h3⟩
    · have q := r0.deck k h
      obtain ⟨_, _, h3⟩ := r.own i a ha
      have hg : g.b = true := by
        have z := r0.dkb
        rw [h] at z
        exact z.symm
      have n1 : g.ad ≠ a := fun z => h3 (.inl ⟨hg, .inl z.symm⟩)
      have n2 : g.l ≠ a := fun z => h3 (.inl ⟨hg, .inr z.symm⟩)
      exact ⟨q.ne, by rw [upd_ne n1]; exact q.fa, by rw [upd_ne n2]; exact q.fl, q.ha, q.hl⟩
  have r2 := r1.setD (i := i) hd (by simpa using hi)
  rw [eσ] at r2
  have e2 : setA (setA A i none) i none = setA A i none := by
    funext j
    by_cases q : j = i
    · rw [q, setA_same, setA_same]
    · rw [setA_ne q]
  rw [e2] at r2
  simpa using r2
end

/-! ### readings -/
abbrev Cl := Str → Addr
/-- what must hold of what an expression comes to (Rl: how the value stands to the data) -/
def Post {α β : Type} (K : PySem.W.Frag) (cl : Cl) (W : WX) (Rl : Hp → (Nat → Option Addr) → Hp → Hp → β → α → Prop) (g : Gd) (F H : Hp) (A : Nat → Option Addr) (σ : L2.St) (r : R α) (Q : β → Hp → Prop) : Prop := match r with
  | .ok a s' => ∀ F' H' A' v, Step g F H A F' H' A' → Rel K g F' H' A' s' σ → Rl H A' F' H' v a → Q v H'
  | .exc c d s' => ∀ F' H' A' v dp, Step g F H A F' H' A' → Rel K g F' H' A' s' σ → Da K F' v d → H' dp = some (.xd [("thing", v)]) → W (.ref (cl c)) (some dp) σ H'
  | .bad => False
def rDa (K : PySem.W.Frag) : Hp → (Nat → Option Addr) → Hp → Hp → V → D → Prop := fun _ _ F' _ v d => Da K F' v d
def rPk (K : PySem.W.Frag) : Hp → (Nat → Option Addr) → Hp → Hp → V → D → Prop := fun _ _ F' H' v d => Pk K F' H' v d
def rPkS (K : PySem.W.Frag) : Hp → (Nat → Option Addr) → Hp → Hp → List V → List D → Prop := fun _ _ F' H' v d => PkS K F' H' v d
def rDaS (K : PySem.W.Frag) : Hp → (Nat → Option Addr) → Hp → Hp → List V → List D → Prop := fun _ _ F' _ v d => DaS K F' v d
def rBo : Hp → (Nat → Option Addr) → Hp → Hp → Bool → Bool → Prop := fun _ _ _ _ v d => v = d
/-- a new list that nothing else holds -/
def rNl (K : PySem.W.Frag) (g : Gd) : Hp → (Nat → Option Addr) → Hp → Hp → V → List D → Prop := fun H A' F' H' v xs =>
  ∃ p vs, v = .ref p ∧ H p = none ∧ (∀ j, A' j ≠ some p) ∧ ¬ isDk g p ∧ F' p = none ∧ H' p = some (.lst vs) ∧ DaS K F' vs xs
def tX {α β : Type} (K : PySem.W.Frag) (cl : Cl) (W : WX) (Rl : Gd → Hp → (Nat → Option Addr) → Hp → Hp → β → α → Prop) (m : S0 → R α) : L2.St → Hp → (β → Hp → Prop) → Prop := fun σ H Q =>
  ∃ g F A s, Rel K g F H A s σ ∧ Post K cl W (Rl g) g F H A σ (m s) Q
abbrev tM (K : PySem.W.Frag) (cl : Cl) (W : WX) (m : S0 → R D) : TE := tX K cl W (fun _ => rDa K) m
abbrev tB0 (K : PySem.W.Frag) (cl : Cl) (W : WX) (m : S0 → R Bool) : TT := tX K cl W (fun _ => rBo) m
abbrev tNl (K : PySem.W.Frag) (cl : Cl) (W : WX) (m : S0 → R (List D)) : TE := tX K cl W (rNl K) m
section
variable {K : PySem.W.Frag} {cl : Cl} {W : WX} {α β γ δ : Type} {R1 : Hp → (Nat → Option Addr) → Hp → Hp → β → α → Prop} {R2 : Hp → (Nat → Option Addr) → Hp → Hp → δ → γ → Prop} {g : Gd} {F H F' H' : Hp} {A A' : Nat → Option Addr} {σ : L2.St} {s s' : S0}
/-- a relation that tells nothing of what was there ahead, or tells less the more was there -/
def Up (Rl : Hp → (Nat → Option Addr) → Hp → Hp → β → α → Prop) : Prop := ∀ H H1 A' F' H' v a, (∀ b, H1 b = none → H b = none) → Rl H1 A' F' H' v a → Rl H A' F' H' v a
theorem up_da : Up (rDa K) := fun _ _ _ _ _ _ _ _ h => h
theorem up_pk : Up (rPk K) := fun _ _ _ _ _ _ _ _ h => h
theorem up_pks : Up (rPkS K) := fun _ _ _ _ _ _ _ _ h => h
theorem up_das : Up (rDaS K) := fun _ _ _ _ _ _ _ _ h => h
theorem up_bo : Up rBo := fun _ _ _ _ _ _ _ _ h => h
theorem up_nl : Up (rNl K g) := fun H H1 A' F' H' v a e h => by
  obtain ⟨p, vs, h1, h2, h3⟩ := h
  exact ⟨p, vs, h1, e p h2, h3⟩
/-- what is wanted behind a first step, told from there -/
theorem Post.after (u : Up R2) {r : R γ} {Q : δ → Hp → Prop} (st : Step g F H A F' H' A') (h : Post K cl W R2 g F H A σ r Q) : Post K cl W R2 g F' H' A' σ r Q := by
  cases r with
  | ok a s' => exact fun F2 H2 A2 v s2 r2 l2 => h F2 H2 A2 v (st.trans s2) r2 (u _ _ _ _ _ _ _ (fun b z => st.back z) l2)
  | exc c d s' => exact fun F2 H2 A2 v dp s2 r2 l2 e => h F2 H2 A2 v dp (st.trans s2) r2 l2 e
  | bad => exact h
theorem Post.bind (u : Up R2) {r : R α} {k : α → S0 → R γ} {Q : δ → Hp → Prop} {Q1 : β → Hp → Prop} (h : Post K cl W R2 g F H A σ (r.bind k) Q)
    (hk : ∀ a s1 F' H' A' v, r = .ok a s1 → Step g F H A F' H' A' → Rel K g F' H' A' s1 σ → R1 H A' F' H' v a → Post K cl W R2 g F' H' A' σ (k a s1) Q → Q1 v H') : Post K cl W R1 g F H A σ r Q1 := by
  cases r with
  | ok a s1 => exact fun F' H' A' v st rl l => hk a s1 F' H' A' v rfl st rl l (Post.after u st h)
  | exc c d s' => exact h
  | bad => exact h
theorem Post.okI {a : α} {Q : β → Hp → Prop} (h : ∀ F' H' A' v, Step g F H A F' H' A' → Rel K g F' H' A' s' σ → R1 H A' F' H' v a → Q v H') : Post K cl W R1 g F H A σ (.ok a s') Q := h
theorem Post.mono {r : R α} {Q Q' : β → Hp → Prop} (h : Post K cl W R1 g F H A σ r Q) (q : ∀ v H', Q v H' → Q' v H') : Post K cl W R1 g F H A σ r Q' := by
  cases r with
  | ok a s1 => exact fun F' H' A' v st rl l => q _ _ (h F' H' A' v st rl l)
  | exc c d s' => exact h
  | bad => exact h
/-- nothing but new things -/
theorem Post.here (rl : Rel K g F H A s σ) {a : α} {v : β} {Q : β → Hp → Prop} (n : Nw F H F' H') (l : R1 H A F' H' v a) (h : Post K cl W R1 g F H A σ (.ok a s) Q) : Q v H' := h F' H' A v n.step (rl.nw n) l
end
end Lf
namespace L2
open PySem PySem.Spec PyProof.Rows
/-- the judgement by a stronger reading -/
theorem PE.imp {X : Cx} {e : Expr} {t t' : TE} (h : PE X e t) (i : ∀ σ H Q, t' σ H Q → t σ H Q) : PE X e t' := ⟨fun pins s σ H Q I q => h.run pins s σ H Q I (i σ H Q q)⟩
theorem PT.imp {X : Cx} {e : Expr} {t t' : TT} (h : PT X e t) (i : ∀ σ H Q, t' σ H Q → t σ H Q) : PT X e t' := ⟨fun pins s σ H Q I q => h.run pins s σ H Q I (i σ H Q q)⟩
theorem PW.imp {X : Cx} {e : Expr} {t t' : TT} (h : PW X e t) (i : ∀ σ H Q, t' σ H Q → t σ H Q) : PW X e t' := ⟨fun wh pins s σ H Q I q => h.run wh pins s σ H Q I (i σ H Q q)⟩
theorem PA.imp {X : Cx} {e : List Expr} {t t' : TA} (h : PA X e t) (i : ∀ σ H Q, t' σ H Q → t σ H Q) : PA X e t' := ⟨fun pos pins s σ H Q I q => h.run pos pins s σ H Q I (i σ H Q q)⟩
theorem PS.imp {X : Cx} {e : Stmt} {t t' : TS} (h : PS X e t) (i : ∀ D σ H, t' D σ H → t D σ H) : PS X e t' := ⟨fun pins s σ H D I q => h.run pins s σ H D I (i D σ H q)⟩
theorem PSs.imp {X : Cx} {e : List Stmt} {t t' : TS} (h : PSs X e t) (i : ∀ D σ H, t' D σ H → t D σ H) : PSs X e t' := ⟨fun pins s σ H D I q => h.run pins s σ H D I (i D σ H q)⟩
end L2

set_option Elab.async false
set_option linter.all false
set_option maxRecDepth 100000
/-! Lf2: expressions over data. -/
namespace Lf
open PySem PySem.Spec PyProof.Rows L2

/-! ### operands -/
/-- an operand: a reading, or what a name holds (looked at when all operands stand) -/
inductive Opd where
  | m (f : S0 → R D)
  | sl (i : Nat)
def evalO : List Opd → S0 → R (List D)
  | [], s => .ok [] s
  | .m f :: r, s => (f s).bind fun d s1 => (evalO r s1).bind fun ds s2 => .ok (d :: ds) s2
  | .sl i :: r, s => match look s i with
    | some _ => (evalO r s).bind fun ds s2 => match look s2 i with
      | some d => .ok (d :: ds) s2
      | none => .bad
    | none => .bad
def tO (K : PySem.W.Frag) (cl : Cl) (W : WX) : Opd → TE
  | .m f => tM K cl W f
  | .sl i => tVar i
def tAs (K : PySem.W.Frag) (cl : Cl) (W : WX) : List Opd → TA
  | [] => tNil
  | o :: r => tCons (tO K cl W o) (tAs K cl W r)
section
variable {K : PySem.W.Frag} {cl : Cl} {W : WX}
theorem post_sl {g : Gd} {F H : Hp} {A : Nat → Option Addr} {σ : L2.St} {s : S0} {r : R (List D)} {i : Nat} {v : V} {Q : List V → Hp → Prop} (hv : σ[i]? = some (some v))
    (h : Post K cl W (rPkS K) g F H A σ (r.bind fun ds s2 => match look s2 i with | some d => .ok (d :: ds) s2 | none => .bad) Q) : Post K cl W (rPkS K) g F H A σ r fun vs H' => Q (v :: vs) H' := by
  cases r with
  | ok ds s2 =>
    intro F' H' A' vs st rl l
    have h' : Post K cl W (rPkS K) g F H A σ (match look s2 i with | some d => R.ok (d :: ds) s2 | none => R.bad) Q := h
    cases e : look s2 i with
    | none =>
      rw [e] at h'
      exact h'.elim
    | some d =>
      rw [e] at h'
      obtain ⟨v', e1, e2⟩ := rl.look e
      rw [hv] at e1
      cases e1
      exact h' F' H' A' (v :: vs) st rl (.cons e2 l)
  | exc c d s' => exact h
  | bad => exact h
theorem args_of : ∀ (os : List Opd) (σ : L2.St) (H : Hp) (Q : List V → Hp → Prop), tX K cl W (fun _ => rPkS K) (evalO os) σ H Q → tAs K cl W os σ H Q
  | [], σ, H, Q, ⟨g, F, A, s, rl, h⟩ => h F H A [] .refl rl .nil
  | .m f :: r, σ, H, Q, ⟨g, F, A, s, rl, h⟩ => by
    refine ⟨g, F, A, s, rl, Post.bind up_pks h fun d s1 F' H' A' v e st rl' da h' => ?_⟩
    refine args_of r σ H' _ ⟨g, F', A', s1, rl', Post.bind (R1 := rPkS K) up_pks h' fun ds s2 F2 H2 A2 vs e2 st2 rl2 l2 h2 => ?_⟩
    exact h2 F2 H2 A2 (v :: vs) .refl rl2 (.cons (.da (Da.mono st2.ff da)) l2)
  | .sl i :: r, σ, H, Q, ⟨g, F, A, s, rl, h⟩ => by
    have h : Post K cl W (rPkS K) g F H A σ (match look s i with
      | some _ => (evalO r s).bind fun ds s2 => match look s2 i with
        | some d => R.ok (d :: ds) s2
        | none => R.bad
      | none => R.bad) Q := h
    cases e : look s i with
    | none =>
      rw [e] at h
      exact h.elim
    | some d0 =>
      rw [e] at h
      obtain ⟨v, hv, _⟩ := rl.look e
      exact ⟨v, hv, args_of r σ H _ ⟨g, F, A, s, rl, post_sl (s := s) hv h⟩⟩
end
/-- a function of data, of the operands -/
def mF (f : List D → Option D) (os : List Opd) : S0 → R D := fun s => (evalO os s).bind fun ds s1 => match f ds with
  | some d => .ok d s1
  | none => .bad
/-- a rule by values does what f says -/
def VR (K : PySem.W.Frag) (r : List V → Hp → VK → Prop) (f : List D → Option D) : Prop :=
  ∀ (F H : Hp) (vs : List V) (ds : List D) (d : D) (Q : VK), Same F H → PkS K F H vs ds → f ds = some d → (∀ F' H' v, Nw F H F' H' → Da K F' v d → Q v H') → r vs H Q
theorem mF_of {K : PySem.W.Frag} {cl : Cl} {W : WX} {r : List V → Hp → VK → Prop} {f : List D → Option D} (h : VR K r f) {os : List Opd} {σ : L2.St} {H : Hp} {Q : VK} (q : tM K cl W (mF f os) σ H Q) : tX K cl W (fun _ => rPkS K) (evalO os) σ H fun vs H1 => r vs H1 Q := by
  obtain ⟨g, F, A, s, rl, q⟩ := q
  refine ⟨g, F, A, s, rl, Post.bind up_da q fun ds s1 F' H' A' vs e st rl' l h' => ?_⟩
  have h' : Post K cl W (rDa K) g F' H' A' σ (match f ds with | some d => R.ok d s1 | none => R.bad) Q := h'
  cases e2 : f ds with
  | none =>
    rw [e2] at h'
    exact h'.elim
  | some d =>
    rw [e2] at h'
    exact h F' H' vs ds d Q rl'.same l e2 fun F2 H2 v n da => h'.here (R1 := rDa K) rl' n da
section
variable {X : Cx} {cl : Cl} {W : WX} {a b e : Expr} {es : List Expr} {o o1 o2 : Opd} {os : List Opd} {pos : Pos} {f : List D → Option D}
/-- f(e, ..), f a built-in of the name x -/
theorem e_callB {id : String} {r : List V → Hp → VK → Prop} {x : Str} {p : Pos} (hc : CallR X (.builtin id) r) (hr : VR X.K r f) (hg : Gl X x) (hm : X.mg x = none) (hv : bootBuiltins x = some (.builtin id)) (ha : PA X (e :: es) (tAs X.K cl W os)) (hn : x ≠ "__name__" := by decide) (hdb : (x == ("__debug__" : Str)) = false := by decide)
    (he : starEach (e :: es) X.env = (false, eval e X.env) :: starEach es X.env := by rfl) (hpl : (backTo pos (starEach es X.env)).any (·.1) = false := by rfl) : PE X (.Call (.Name x p) (e :: es) [] pos) (tM X.K cl W (mF f os)) :=
  (pe_callB hc hg hm hv ha hn hdb he hpl).imp fun σ H Q q => args_of os σ H _ (mF_of hr q)
theorem e_callTy {T : String} {r : List V → Hp → VK → Prop} {x : Str} {p : Pos} (hc : CallR X (.type T) r) (hr : VR X.K r f) (hg : Gl X x) (hm : X.mg x = none) (hv : bootBuiltins x = some (.type T)) (ha : PA X (e :: es) (tAs X.K cl W os)) (hn : x ≠ "__name__" := by decide) (hdb : (x == ("__debug__" : Str)) = false := by decide)
    (he : starEach (e :: es) X.env = (false, eval e X.env) :: starEach es X.env := by rfl) (hpl : (backTo pos (starEach es X.env)).any (·.1) = false := by rfl) : PE X (.Call (.Name x p) (e :: es) [] pos) (tM X.K cl W (mF f os)) :=
  (pe_callTy hc hg hm hv ha hn hdb he hpl).imp fun σ H Q q => args_of os σ H _ (mF_of hr q)
/-- a two-place rule as one over a list -/
def r2l (r : R2) : List V → Hp → VK → Prop := fun vs H Q => ∃ x y, vs = [x, y] ∧ r x y H Q
def r1l (r : V → Hp → VK → Prop) : List V → Hp → VK → Prop := fun vs H Q => ∃ x, vs = [x] ∧ r x H Q
theorem op2_of {K : PySem.W.Frag} {r : R2} (hr : VR K (r2l r) f) {σ : L2.St} {H : Hp} {Q : VK} (q : tM K cl W (mF f [o1, o2]) σ H Q) : tOp r (tO K cl W o1) (tO K cl W o2) σ H Q := by
  have z := args_of [o1, o2] σ H _ (mF_of hr q)
  have z : tO K cl W o1 σ H fun x H1 => tO K cl W o2 σ H1 fun y H2 => ∃ x' y', [x, y] = [x', y'] ∧ r x' y' H2 Q := z
  have mono : ∀ (o : Opd) (σ : L2.St) (H : Hp) (Q Q' : VK), (∀ v H, Q v H → Q' v H) → tO K cl W o σ H Q → tO K cl W o σ H Q' := fun o σ H Q Q' i h => by
    cases o with
    | m f =>
      obtain ⟨g, F, A, s, rl, h⟩ := h
      exact ⟨g, F, A, s, rl, h.mono i⟩
    | sl i' =>
      obtain ⟨v, h1, h2⟩ := h
      exact ⟨v, h1, i _ _ h2⟩
  exact mono o1 σ H _ _ (fun x H1 h1 => mono o2 σ H1 _ _ (fun y H2 h2 => by
    obtain ⟨x', y', e, h3⟩ := h2
    cases e
    exact h3) h1) z
theorem op1_of {K : PySem.W.Frag} {r : V → Hp → VK → Prop} (hr : VR K (r1l r) f) {σ : L2.St} {H : Hp} {Q : VK} (q : tM K cl W (mF f [o]) σ H Q) : tO K cl W o σ H fun x H1 => r x H1 Q := by
  have z := args_of [o] σ H _ (mF_of hr q)
  cases o with
  | m f =>
    obtain ⟨g, F, A, s, rl, h⟩ := z
    refine ⟨g, F, A, s, rl, h.mono fun v H' h => ?_⟩
    obtain ⟨x, e, h⟩ := h
    cases e
    exact h
  | sl i =>
    obtain ⟨v, h1, h2⟩ := z
    obtain ⟨x, e, h⟩ := h2
    cases e
    exact ⟨v, h1, h⟩
theorem e_op {op : Operator} {r : R2} (ho : OpR X (binaryOp op) r) (hr : VR X.K (r2l r) f) (ha : PE X a (tO X.K cl W o1)) (hb : PE X b (tO X.K cl W o2)) : PE X (.BinOp a op b pos) (tM X.K cl W (mF f [o1, o2])) :=
  (pe_op ho ha hb).imp fun σ H Q q => op2_of hr q
theorem e_cmp {op : CmpOp} {r : R2} (ho : OpR X (compareOp op) r) (hr : VR X.K (r2l r) f) (ha : PE X a (tO X.K cl W o1)) (hb : PE X b (tO X.K cl W o2)) (hm : behindInMarks op b = false) : PE X (.Compare a [op] [b] pos) (tM X.K cl W (mF f [o1, o2])) :=
  (pe_cmpR ho ha hb hm).imp fun σ H Q q => op2_of hr q
theorem e_un {op : UnaryOp} {r : V → Hp → VK → Prop} (ho : UnR X (unaryOp op) r) (hr : VR X.K (r1l r) f) (ha : PE X a (tO X.K cl W o)) : PE X (.UnaryOp op a pos) (tM X.K cl W (mF f [o])) :=
  (pe_un ho ha).imp fun σ H Q q => op1_of hr q
theorem e_ix {r : R2} (hi : IxR X r) (hr : VR X.K (r2l r) f) (ha : PE X a (tO X.K cl W o1)) (hb : PE X b (tO X.K cl W o2)) (hs : PlainIx b) : PE X (.Subscript a b pos) (tM X.K cl W (mF f [o1, o2])) :=
  (pe_ix hi ha hb hs).imp fun σ H Q q => op2_of hr q

/-! ### names, constants -/
/-- the name's value as data: what the name alone held is never written again -/
def mVar (i : Nat) : S0 → R D := fun s => match s.ρ[i]? with
  | some (.dat d) => .ok d s
  | some (.tup ds) => .ok (.tuple ds) s
  | some sv => (match sv.val with
    | some d => .ok d { s with ρ := s.ρ.set i (.dat d) }
    | none => .bad)
  | none => .bad
theorem mVar_of {K : PySem.W.Frag} {i : Nat} {σ : L2.St} {H : Hp} {Q : VK} (q : tM K cl W (mVar i) σ H Q) : tVar i σ H Q := by
  obtain ⟨g, F, A, s, rl, h⟩ := q
  cases e : s.ρ[i]? with
  | none =>
    have : mVar i s = .bad := by simp [mVar, e]
    rw [this] at h
    exact h.elim
  | some sv =>
    have hs := rl.slot i sv e
    cases sv with
    | dat d =>
      have e1 : mVar i s = .ok d s := by simp [mVar, e]
      rw [e1] at h
      obtain ⟨_, v, h1, h2⟩ := hs
      exact ⟨v, h1, h F H A v .refl rl h2⟩
    | tup ds =>
      have e1 : mVar i s = .ok (.tuple ds) s := by simp [mVar, e]
      rw [e1] at h
      obtain ⟨_, a, vs, h1, h2, h3⟩ := hs
      exact ⟨_, h1, h F H A _ .refl rl (.tup (.inl (.inl h2)) h3)⟩
    | unk =>
      have e1 : mVar i s = .bad := by simp [mVar, e, SV.val]
      rw [e1] at h
      exact h.elim
    | deck =>
      have e1 : mVar i s = .bad := by simp [mVar, e, SV.val]
      rw [e1] at h
      exact h.elim
    | clo id cs =>
      have e1 : mVar i s = .bad := by simp [mVar, e, SV.val]
      rw [e1] at h
      exact h.elim
    | lst xs =>
      obtain ⟨a, vs, h1, h2, h3, h4⟩ := hs
      have e1 : mVar i s = .ok (.list xs) { s with ρ := s.ρ.set i (.dat (.list xs)) } := by simp [mVar, e, SV.val]
      rw [e1] at h
      obtain ⟨ff, fh, st⟩ := freeze rl h1 h3
      have hd : Da K (upd F a (.lst vs)) (.ref a) (.list xs) := .lst upd_same (h4.mono ff)
      exact ⟨.ref a, h2, h _ _ _ _ st (rl.freeze e h1 h3 h2 hd) hd⟩
    | dk xs =>
      obtain ⟨a, vs, h1, h2, h3, h4⟩ := hs
      have e1 : mVar i s = .ok (kvD xs) { s with ρ := s.ρ.set i (.dat (kvD xs)) } := by simp [mVar, e, SV.val]
      rw [e1] at h
      obtain ⟨ff, fh, st⟩ := freeze rl h1 h3
      have hd : Da K (upd F a (.dK vs)) (.ref a) (kvD xs) := kvD_of upd_same (h4.mono ff)
      exact ⟨.ref a, h2, h _ _ _ _ st (rl.freeze e h1 h3 h2 hd) hd⟩
    | dt xs =>
      obtain ⟨a, vs, h1, h2, h3, h4⟩ := hs
      have e1 : mVar i s = .ok (ktD xs) { s with ρ := s.ρ.set i (.dat (ktD xs)) } := by simp [mVar, e, SV.val]
      rw [e1] at h
      obtain ⟨ff, fh, st⟩ := freeze rl h1 h3
      have hd : Da K (upd F a (.dT vs)) (.ref a) (ktD xs) := ktD_of upd_same (h4.mono ff)
      exact ⟨.ref a, h2, h _ _ _ _ st (rl.freeze e h1 h3 h2 hd) hd⟩
theorem e_var {x : Str} (i : Nat) (hN : X.N[i]? = some x := by rfl) (hv : Vis X.env.scope x := by first | exact Or.inl rfl | exact Or.inr (Or.inl rfl) | exact Or.inr (Or.inr rfl)) (hd : (x == ("__debug__" : Str)) = false := by decide)
    (hcd : (x == ("__classdict__" : Str)) = false := by decide) : PE X (.Name x pos) (tM X.K cl W (mVar i)) := (pv i hN hv hd hcd).imp fun σ H Q q => mVar_of q
/-- the name as an operand -/
theorem e_sl {x : Str} (i : Nat) (hN : X.N[i]? = some x := by rfl) (hv : Vis X.env.scope x := by first | exact Or.inl rfl | exact Or.inr (Or.inl rfl) | exact Or.inr (Or.inr rfl)) (hd : (x == ("__debug__" : Str)) = false := by decide)
    (hcd : (x == ("__classdict__" : Str)) = false := by decide) : PE X (.Name x pos) (tO X.K cl W (.sl i)) := pv i hN hv hd hcd
def mC (d : D) : S0 → R D := fun s => .ok d s
theorem mC_of {K : PySem.W.Frag} {v : V} {d : D} (hd : ∀ F, Da K F v d) {σ : L2.St} {H : Hp} {Q : VK} (q : tM K cl W (mC d) σ H Q) : tC v σ H Q := by
  obtain ⟨g, F, A, s, rl, h⟩ := q
  exact h F H A v .refl rl (hd F)
theorem e_int {i : Int} {j} : PE X (.Constant (.int i) j pos) (tM X.K cl W (mC (.int i))) := pe_int.imp fun σ H Q q => mC_of (fun _ => .int i) q
theorem e_bl {b : Bool} {j} : PE X (.Constant (.bool b) j pos) (tM X.K cl W (mC (.bool b))) := pe_bl.imp fun σ H Q q => mC_of (fun _ => .bl b) q
theorem e_non {j} : PE X (.Constant .none j pos) (tM X.K cl W (mC .none)) := pe_non.imp fun σ H Q q => mC_of (fun _ => .non) q
theorem e_str {x : Str} {j} : PE X (.Constant (.str x) j pos) (tM X.K cl W (mC (.str x))) := pe_str.imp fun σ H Q q => mC_of (fun _ => .str x) q
/-- what a module's name stands for -/
def Con0 (K : PySem.W.Frag) (mg : Str → Option Value) (x : Str) (d : D) : Prop := ∃ u v, mg x = some u ∧ RelV v u ∧ ∀ F, Da K F v d
theorem e_glob {x : Str} {d : D} (hg : Gl X x) (hc : Con0 X.K X.mg x d) (hd : (x == ("__debug__" : Str)) = false := by decide) : PE X (.Name x pos) (tM X.K cl W (mC d)) := by
  obtain ⟨u, v, h1, h2, h3⟩ := hc
  exact (pe_glob hg h1 h2 hd).imp fun σ H Q q => mC_of h3 q

/-! ### and, or, not, if -/
def mB (f : Bool → S0 → R D) (m : S0 → R D) : S0 → R D := fun s => (m s).bind fun d s1 => match d with
  | .bool b => f b s1
  | _ => .bad
def mAnd (ma mb : S0 → R D) : S0 → R D := mB (fun b s => if b then mb s else .ok (.bool false) s) ma
def mOr (ma mb : S0 → R D) : S0 → R D := mB (fun b s => if b then .ok (.bool true) s else mb s) ma
def mNot (ma : S0 → R D) : S0 → R D := mB (fun b s => .ok (.bool (!b)) s) ma
theorem mB_of {K : PySem.W.Frag} {h : Bool → S0 → R D} {m : S0 → R D} {σ : L2.St} {H : Hp} {Q : VK} (q : tM K cl W (mB h m) σ H Q) : tM K cl W m σ H fun x H1 => ∃ c, x = .bl c ∧ tM K cl W (h c) σ H1 Q := by
  obtain ⟨g, F, A, s, rl, q⟩ := q
  refine ⟨g, F, A, s, rl, Post.bind up_da q fun d s1 F' H' A' v e st rl' l h' => ?_⟩
  cases d with
  | bool b =>
    cases (show v = .bl b from Da.bl_eq l)
    exact ⟨b, rfl, g, F', A', s1, rl', h'⟩
  | _ => exact h'.elim
theorem tM_ok {K : PySem.W.Frag} {d : D} {v : V} {σ : L2.St} {H : Hp} {Q : VK} (hd : ∀ F, Da K F v d) (q : tM K cl W (fun s => .ok d s) σ H Q) : Q v H := mC_of hd q
theorem e_one {op} {m : S0 → R D} (h : PE X a (tM X.K cl W m)) : PE X (.BoolOp op [a] pos) (tM X.K cl W m) := pe_one h
theorem e_and {ma mb : S0 → R D} {rest : List Expr} (ha : PE X a (tM X.K cl W ma)) (hb : PE X (.BoolOp .And (b :: rest) pos) (tM X.K cl W mb)) : PE X (.BoolOp .And (a :: b :: rest) pos) (tM X.K cl W (mAnd ma mb)) := by
  refine (pe_and ha hb).imp fun σ H Q q => ?_
  obtain ⟨g, F, A, s, rl, h⟩ := mB_of q
  refine ⟨g, F, A, s, rl, h.mono fun v H' ⟨c, e, h⟩ => ⟨c, e, ?_⟩⟩
  cases c with
  | true => exact h
  | false => exact tM_ok (fun _ => .bl false) h
theorem e_or {ma mb : S0 → R D} {rest : List Expr} (ha : PE X a (tM X.K cl W ma)) (hb : PE X (.BoolOp .Or (b :: rest) pos) (tM X.K cl W mb)) : PE X (.BoolOp .Or (a :: b :: rest) pos) (tM X.K cl W (mOr ma mb)) := by
  refine (pe_or ha hb).imp fun σ H Q q => ?_
  obtain ⟨g, F, A, s, rl, h⟩ := mB_of q
  refine ⟨g, F, A, s, rl, h.mono fun v H' ⟨c, e, h⟩ => ⟨c, e, ?_⟩⟩
  cases c with
  | true => exact tM_ok (fun _ => .bl true) h
  | false => exact h
theorem e_not {ma : S0 → R D} (ha : PE X a (tM X.K cl W ma)) : PE X (.UnaryOp .Not a pos) (tM X.K cl W (mNot ma)) := by
  refine (pe_not ha).imp fun σ H Q q => ?_
  obtain ⟨g, F, A, s, rl, h⟩ := mB_of q
  exact ⟨g, F, A, s, rl, h.mono fun v H' ⟨c, e, h⟩ => ⟨c, e, tM_ok (fun _ => .bl (!c)) h⟩⟩

/-! ### tests -/
abbrev tT (K : PySem.W.Frag) (cl : Cl) (W : WX) (m : S0 → R Bool) : TT := tX K cl W (fun _ => rBo) m
def toB (m : S0 → R D) : S0 → R Bool := fun s => (m s).bind fun d s1 => match d with
  | .bool b => .ok b s1
  | _ => .bad
theorem toB_of {K : PySem.W.Frag} {m : S0 → R D} {σ : L2.St} {H : Hp} {Q : Bool → Hp → Prop} (q : tT K cl W (toB m) σ H Q) : tB (tM K cl W m) σ H Q := by
  obtain ⟨g, F, A, s, rl, q⟩ := q
  refine ⟨g, F, A, s, rl, Post.bind up_bo q fun d s1 F' H' A' v e st rl' l h' => ?_⟩
  cases d with
  | bool b =>
    cases (show v = .bl b from Da.bl_eq l)
    exact ⟨b, rfl, h' F' H' A' b .refl rl' rfl⟩
  | _ => exact h'.elim
/-- an expression whose value is a truth, as a test -/
theorem c_val {m : S0 → R D} (h : PE X e (tM X.K cl W m)) (he : ∀ whole, isTrue e X.env whole = (do let v ← whole; standAt e.pos; holding [v] (truthy v)) := by intro _; rfl) : PT X e (tT X.K cl W (toB m)) := (pt_val h he).imp fun σ H Q q => toB_of q
theorem c_cmp {op : CmpOp} {r : R2} (ho : OpR X (compareOp op) r) (hr : VR X.K (r2l r) f) (ha : PE X a (tO X.K cl W o1)) (hb : PE X b (tO X.K cl W o2)) (hm : behindInMarks op b = false) : PT X (.Compare a [op] [b] pos) (tT X.K cl W (toB (mF f [o1, o2]))) := by
  refine (pt_cmpR ho ha hb hm).imp fun σ H Q q => ?_
  obtain ⟨g, F, A, s, rl, h⟩ := toB_of q
  exact op2_of hr ⟨g, F, A, s, rl, h⟩
def bAnd (ma mb : S0 → R Bool) : S0 → R Bool := fun s => (ma s).bind fun b s1 => if b then mb s1 else .ok false s1
def bOr (ma mb : S0 → R Bool) : S0 → R Bool := fun s => (ma s).bind fun b s1 => if b then .ok true s1 else mb s1
def bNot (ma : S0 → R Bool) : S0 → R Bool := fun s => (ma s).bind fun b s1 => .ok (!b) s1
theorem c_and1 {t : TT} (h : PT X a t) : PW X (.BoolOp .And [a] pos) t := pw_and1 h
theorem c_or1 {t : TT} (h : PT X a t) : PW X (.BoolOp .Or [a] pos) t := pw_or1 h
theorem c_and {ma mb : S0 → R Bool} {rest : List Expr} (ha : PT X a (tT X.K cl W ma)) (hb : PW X (.BoolOp .And (b :: rest) pos) (tT X.K cl W mb)) : PW X (.BoolOp .And (a :: b :: rest) pos) (tT X.K cl W (bAnd ma mb)) := by
  refine (pw_and ha hb).imp fun σ H Q q => ?_
  obtain ⟨g, F, A, s, rl, h⟩ := q
  refine ⟨g, F, A, s, rl, Post.bind up_bo h fun c s1 F' H' A' v e st rl' l h' => ?_⟩
  cases (show v = c from l)
  cases c with
  | true => exact ⟨g, F', A', s1, rl', h'⟩
  | false => exact h' F' H' A' false .refl rl' rfl
theorem c_or {ma mb : S0 → R Bool} {rest : List Expr} (ha : PT X a (tT X.K cl W ma)) (hb : PW X (.BoolOp .Or (b :: rest) pos) (tT X.K cl W mb)) : PW X (.BoolOp .Or (a :: b :: rest) pos) (tT X.K cl W (bOr ma mb)) := by
  refine (pw_or ha hb).imp fun σ H Q q => ?_
  obtain ⟨g, F, A, s, rl, h⟩ := q
  refine ⟨g, F, A, s, rl, Post.bind up_bo h fun c s1 F' H' A' v e st rl' l h' => ?_⟩
  cases (show v = c from l)
  cases c with
  | true => exact h' F' H' A' true .refl rl' rfl
  | false => exact ⟨g, F', A', s1, rl', h'⟩
theorem c_not {ma : S0 → R Bool} (ha : PT X a (tT X.K cl W ma)) : PT X (.UnaryOp .Not a pos) (tT X.K cl W (bNot ma)) := by
  refine (pt_not ha).imp fun σ H Q q => ?_
  obtain ⟨g, F, A, s, rl, h⟩ := q
  refine ⟨g, F, A, s, rl, Post.bind up_bo h fun c s1 F' H' A' v e st rl' l h' => ?_⟩
  cases (show v = c from l)
  exact h' F' H' A' (!c) .refl rl' rfl
def mIf (t : S0 → R Bool) (ma mb : S0 → R D) : S0 → R D := fun s => (t s).bind fun b s1 => if b then ma s1 else mb s1
theorem e_if {c : Expr} {t : S0 → R Bool} {ma mb : S0 → R D} (hc : PT X c (tT X.K cl W t)) (ha : PE X a (tM X.K cl W ma)) (hb : PE X b (tM X.K cl W mb)) : PE X (.IfExp c a b pos) (tM X.K cl W (mIf t ma mb)) := by
  refine (pe_ifExp hc ha hb).imp fun σ H Q q => ?_
  obtain ⟨g, F, A, s, rl, h⟩ := q
  refine ⟨g, F, A, s, rl, Post.bind up_da h fun c s1 F' H' A' v e st rl' l h' => ?_⟩
  cases (show v = c from l)
  cases c with
  | true => exact ⟨g, F', A', s1, rl', h'⟩
  | false => exact ⟨g, F', A', s1, rl', h'⟩
/-- a < b < c, whole numbers -/
def mChain (p p' : Int → Int → Bool) (o1 o2 o3 : Opd) : S0 → R D := fun s => (evalO [o1, o2] s).bind fun ds s1 => match ds with
  | [.int i, .int j] => if p i j then (evalO [o3] s1).bind fun es s2 => (match es with
      | [.int k] => .ok (.bool (p' j k)) s2
      | _ => .bad) else .ok (.bool false) s1
  | _ => .bad
theorem tO_mono {K : PySem.W.Frag} {o : Opd} {σ : L2.St} {H : Hp} {Q Q' : VK} (i : ∀ v H, Q v H → Q' v H) (h : tO K cl W o σ H Q) : tO K cl W o σ H Q' := by
  cases o with
  | m f =>
    obtain ⟨g, F, A, s, rl, h⟩ := h
    exact ⟨g, F, A, s, rl, h.mono i⟩
  | sl i' =>
    obtain ⟨v, h1, h2⟩ := h
    exact ⟨v, h1, i _ _ h2⟩
theorem two_of {K : PySem.W.Frag} {σ : L2.St} {H : Hp} {P : List V → Hp → Prop} (h : tX K cl W (fun _ => rPkS K) (evalO [o1, o2]) σ H P) : tO K cl W o1 σ H fun x H1 => tO K cl W o2 σ H1 fun y H2 => P [x, y] H2 := args_of [o1, o2] σ H P h
theorem one_of {K : PySem.W.Frag} {σ : L2.St} {H : Hp} {P : List V → Hp → Prop} (h : tX K cl W (fun _ => rPkS K) (evalO [o]) σ H P) : tO K cl W o σ H fun x H1 => P [x] H1 := args_of [o] σ H P h
theorem chain_of {K : PySem.W.Frag} {p p' : Int → Int → Bool} {o3 : Opd} {σ : L2.St} {H : Hp} {Q : VK} (q : tM K cl W (mChain p p' o1 o2 o3) σ H Q) :
    tChain (rI0 fun i j => .bl (p i j)) (rI0 fun i j => .bl (p' i j)) (tO K cl W o1) (tO K cl W o2) (tO K cl W o3) σ H Q := by
  obtain ⟨g, F, A, s, rl, q⟩ := q
  have key : tX K cl W (fun _ => rPkS K) (evalO [o1, o2]) σ H fun vs H2 => ∃ i j, vs = [.int i, .int j] ∧ (if p i j = true then tO K cl W o3 σ H2 fun z H3 => ∃ k, z = .int k ∧ Q (.bl (p' j k)) H3 else Q (.bl false) H2) := by
    refine ⟨g, F, A, s, rl, Post.bind (R1 := rPkS K) up_da q fun ds s1 F' H' A' vs e st rl' l h' => ?_⟩
    split at h'
    · rename_i i j
      cases l with
      | cons p1 l =>
        cases l with
        | cons p2 l =>
          cases l
          cases p1.int_eq
          cases p2.int_eq
          refine ⟨i, j, rfl, ?_⟩
          by_cases hp : p i j = true
          · rw [if_pos hp] at h' ⊢
            have z : tX K cl W (fun _ => rPkS K) (evalO [o3]) σ H' fun vs H3 => ∃ z, vs = [z] ∧ ∃ k, z = .int k ∧ Q (.bl (p' j k)) H3 := by
              refine ⟨g, F', A', s1, rl', Post.bind (R1 := rPkS K) up_da h' fun es s2 F2 H2 A2 ws e2 st2 rl2 l2 h2 => ?_⟩
              split at h2
              · rename_i k
                cases l2 with
                | cons p3 l2 =>
                  cases l2
                  cases p3.int_eq
                  exact ⟨_, rfl, k, rfl, h2 F2 H2 A2 _ .refl rl2 (.bl _)⟩
              · exact h2.elim
            refine tO_mono (fun v H hv => ?_) (one_of z)
            obtain ⟨z, e, h⟩ := hv
            cases e
            exact h
          · rw [if_neg hp] at h' ⊢
            exact h' F' H' A' _ .refl rl' (.bl _)
    · exact h'.elim
  refine tO_mono (fun x H1 h1 => tO_mono (fun y H2 h2 => ?_) h1) (two_of key)
  obtain ⟨i, j, e, h⟩ := h2
  cases e
  refine ⟨i, j, rfl, rfl, p i j, rfl, ?_⟩
  by_cases hp : p i j = true
  · rw [if_pos hp] at h
    rw [hp, if_pos rfl]
    refine tO_mono (fun z H3 h3 => ?_) h
    obtain ⟨k, e, h4⟩ := h3
    exact ⟨j, k, rfl, e, h4⟩
  · rw [if_neg hp] at h
    rw [if_neg hp]
    exact h
theorem e_chain {op op' : CmpOp} {p p' : Int → Int → Bool} {c : Expr} {o3 : Opd} (ho : OpR X (compareOp op) (rI0 fun i j => .bl (p i j))) (ho' : OpR X (compareOp op') (rI0 fun i j => .bl (p' i j))) (ha : PE X a (tO X.K cl W o1)) (hb : PE X b (tO X.K cl W o2)) (hc : PE X c (tO X.K cl W o3))
    (hm : lastMarks [op, op'] [b, c] = false := by with_unfolding_all rfl) : PE X (.Compare a [op, op'] [b, c] pos) (tM X.K cl W (mChain p p' o1 o2 o3)) :=
  (pe_chain ho ho' ha hb hc hm).imp fun σ H Q q => chain_of q
theorem c_chain {op op' : CmpOp} {p p' : Int → Int → Bool} {c : Expr} {o3 : Opd} (ho : OpR X (compareOp op) (rI0 fun i j => .bl (p i j))) (ho' : OpR X (compareOp op') (rI0 fun i j => .bl (p' i j))) (ha : PE X a (tO X.K cl W o1)) (hb : PE X b (tO X.K cl W o2)) (hc : PE X c (tO X.K cl W o3)) (hm : lastMarks [op, op'] [b, c] = false := by with_unfolding_all rfl) : PT X (.Compare a [op, op'] [b, c] pos) (tT X.K cl W (toB (mChain p p' o1 o2 o3))) :=
  (pt_chain ho ho' ha hb hc hm).imp fun σ H Q q => by
    obtain ⟨g, F, A, s, rl, h⟩ := toB_of q
    exact chain_of ⟨g, F, A, s, rl, h⟩
end
end Lf

set_option Elab.async false
set_option linter.all false
set_option maxRecDepth 100000
/-! Lf3: what built-in operations are of data. -/
namespace Lf
open PySem PySem.Spec PyProof.Rows L2

theorem OpR.or {X : Cx} {f : Value → Value → Sem Value} {r r' : R2} (h : OpR X f r) (h' : OpR X f r') : OpR X f (fun x y H Q => r x y H Q ∨ r' x y H Q) := by
  intro pins s σ H x y v u Q I rx ry q
  rcases q with q | q
  · exact h pins s σ H x y v u Q I rx ry q
  · exact h' pins s σ H x y v u Q I rx ry q
section
variable {K : PySem.W.Frag} {F H : Hp} {Q : VK}
theorem ret0 {v : V} {d : D} (e : Same F H) (q : ∀ F' H' v, Nw F H F' H' → Da K F' v d → Q v H') (h : Da K F v d) : Q v H := q F H v (.refl e) h
theorem retN {p : Addr} {vs : List V} {ds : List D} (e : Same F H) (q : ∀ F' H' v, Nw F H F' H' → Da K F' v (.list ds) → Q v H') (hp : H p = none) (h : DaS K F vs ds) : Q (.ref p) (upd H p (.lst vs)) := by
  have n := Nw.new (o := .lst vs) e hp
  exact q _ _ _ n (.lst upd_same (h.mono n.ff))
theorem retT {p : Addr} {vs : List V} {ds : List D} (e : Same F H) (q : ∀ F' H' v, Nw F H F' H' → Da K F' v (.tuple ds) → Q v H') (hp : H p = none) (h : DaS K F vs ds) : Q (.ref p) (upd H p (.tup vs)) := by
  have n := Nw.new (o := .tup vs) e hp
  exact q _ _ _ n (.tup (.inl (.inl upd_same)) (h.mono n.ff))
end
def line : Nat := 16777216
theorem line_eq : line = sizeLine := sizeLine_eq.symm

/-! ### numbers -/
def dSub : List D → Option D
  | [.int i, .int j] => some (.int (i - j))
  | _ => none
def dMod : List D → Option D
  | [.int i, .int j] => if j = 0 then none else some (.int (i.fmod j))
  | _ => none
def dFloor : List D → Option D
  | [.int i, .int j] => if 0 < j ∧ j.natAbs.log2 < 9000 then some (.int (i / j)) else if j ≠ 0 ∧ j.natAbs < 1073741824 then some (.int (i.fdiv j)) else none
  | _ => none
def dPow : List D → Option D
  | [.int i, .int j] => if 0 ≤ j ∧ j ≤ 1000000 ∧ i.natAbs < 2 ^ 64 then some (.int (i ^ j.toNat)) else none
  | _ => none
def dBitAnd : List D → Option D
  | [.int i, .int j] => some (.int (Builtin.bitAnd i j))
  | _ => none
def dNeg : List D → Option D
  | [.int i] => some (.int (-i))
  | _ => none
def dCmp (p : Int → Int → Bool) : List D → Option D
  | [.int i, .int j] => some (.bool (p i j))
  | _ => none
def dLt := dCmp fun i j => decide (i < j)
def dLe := dCmp fun i j => decide (i ≤ j)
def dGt := dCmp fun i j => decide (j < i)
def dGe := dCmp fun i j => decide (j ≤ i)
/-- +: numbers, texts, tuples, lists -/
def dAdd : List D → Option D
  | [.int i, .int j] => some (.int (i + j))
  | [.str x, .str y] => if x.length + y.length ≤ line then some (.str (x ++ y)) else none
  | [.tuple xs, .tuple ys] => if xs.length + ys.length ≤ line then some (.tuple (xs ++ ys)) else none
  | [.list xs, .list ys] => if xs.length + ys.length ≤ line then some (.list (xs ++ ys)) else none
  | _ => none
/-- *: numbers; a list several times -/
def dMul : List D → Option D
  | [.int i, .int j] => if Builtin.Int.intBits i + Builtin.Int.intBits j ≤ 134217728 then some (.int (i * j)) else none
  | [.list xs, .int k] => if -(2 ^ 63) ≤ k ∧ k < 2 ^ 63 ∧ xs.length * k.toNat ≤ line then some (.list (List.replicate k.toNat xs).flatten) else none
  | _ => none
def dAbs : List D → Option D
  | [.int i] => some (.int (if i < 0 then -i else i))
  | _ => none
def dMax2 : List D → Option D
  | [.int i, .int j] => some (.int (if j > i then j else i))
  | _ => none
def dMin2 : List D → Option D
  | [.int i, .int j] => some (.int (if j < i then j else i))
  | _ => none
def dInt : List D → Option D
  | [.int i] => some (.int i)
  | [.bool b] => some (.int (if b then 1 else 0))
  | _ => none
def dGcd : List D → Option D
  | [.int i, .int j] => some (.int ((Nat.gcd i.natAbs j.natAbs : Nat) : Int))
  | _ => none
def dBits : List D → Option D
  | [.int i] => some (.int (Builtin.Int.intBits i : Nat))
  | _ => none
/-! ### == -/
def eqOk (d e : D) : Bool := noDict d && noDict e && SeqAt.shaped d && SeqAt.shaped e
def dEq : List D → Option D
  | [d, e] => if eqOk d e then some (.bool (PyData.eqv d e)) else none
  | _ => none
def dNe : List D → Option D
  | [d, e] => if eqOk d e then some (.bool (!PyData.eqv d e)) else none
  | _ => none
def isNone : D → Bool
  | .none => true
  | _ => false
def dIsN : List D → Option D
  | [d, .none] => some (.bool (isNone d))
  | _ => none
def dNotN : List D → Option D
  | [d, .none] => some (.bool (!isNone d))
  | _ => none
def flatD : D → Bool
  | .none => true
  | .bool _ => true
  | .int _ => true
  | .str _ => true
  | _ => false
/-- in: a flat thing among flat things -/
def dIn : List D → Option D
  | [d, .list ds] => if flatD d && ds.all flatD then some (.bool (ds.any fun z => PyData.eqv z d)) else none
  | [d, .tuple ds] => if flatD d && ds.all flatD then some (.bool (ds.any fun z => PyData.eqv z d)) else none
  | _ => none
def dNotIn : List D → Option D
  | [d, .list ds] => if flatD d && ds.all flatD then some (.bool (!ds.any fun z => PyData.eqv z d)) else none
  | [d, .tuple ds] => if flatD d && ds.all flatD then some (.bool (!ds.any fun z => PyData.eqv z d)) else none
  | _ => none
/-! ### rows -/
def dLen : List D → Option D
  | [.list ds] => some (.int ds.length)
  | [.tuple ds] => some (.int ds.length)
  | _ => none
def asBools : List D → Option (List Bool)
  | [] => some []
  | .bool b :: r => (asBools r).map (b :: ·)
  | _ => none
def asInts : List D → Option (List Int)
  | [] => some []
  | .int i :: r => (asInts r).map (i :: ·)
  | _ => none
def dAll : List D → Option D
  | [.list ds] => (asBools ds).map fun bs => .bool (bs.all id)
  | _ => none
def dAny : List D → Option D
  | [.list ds] => (asBools ds).map fun bs => .bool (bs.any id)
  | [.tuple ds] => (asInts ds).map fun ns => .bool (ns.any fun n => n != 0)
  | _ => none
def dSum : List D → Option D
  | [.list ds] => (asInts ds).map fun ns => .int ns.sum
  | [.tuple ds] => (asInts ds).map fun ns => .int ns.sum
  | _ => none
def dTuple : List D → Option D
  | [.list ds] => some (.tuple ds)
  | [.tuple ds] => some (.tuple ds)
  | _ => none
def dList : List D → Option D
  | [.list ds] => some (.list ds)
  | [.tuple ds] => some (.list ds)
  | _ => none
/-- xs[i] -/
def dIx : List D → Option D
  | [.list ds, .int i] => atI ds i
  | [.tuple ds, .int i] => atI ds i
  | _ => none
section
variable {K : PySem.W.Frag}
theorem asInts_map : ∀ {ds : List D} {ns : List Int}, asInts ds = some ns → ds = ns.map PyData.int
  | [], ns, h => by
    cases h
    rfl
  | .int i :: r, ns, h => by
    obtain ⟨ns', h1, h2⟩ := Option.map_eq_some_iff.mp (show (asInts r).map (i :: ·) = some ns from h)
    subst h2
    rw [asInts_map h1]
    rfl
  | .none :: _, _, h => by cases h
  | .bool _ :: _, _, h => by cases h
  | .str _ :: _, _, h => by cases h
  | .list _ :: _, _, h => by cases h
  | .tuple _ :: _, _, h => by cases h
  | .dict _ :: _, _, h => by cases h
theorem asBools_map : ∀ {ds : List D} {ns : List Bool}, asBools ds = some ns → ds = ns.map PyData.bool
  | [], ns, h => by
    cases h
    rfl
  | .bool i :: r, ns, h => by
    obtain ⟨ns', h1, h2⟩ := Option.map_eq_some_iff.mp (show (asBools r).map (i :: ·) = some ns from h)
    subst h2
    rw [asBools_map h1]
    rfl
  | .none :: _, _, h => by cases h
  | .int _ :: _, _, h => by cases h
  | .str _ :: _, _, h => by cases h
  | .list _ :: _, _, h => by cases h
  | .tuple _ :: _, _, h => by cases h
  | .dict _ :: _, _, h => by cases h
theorem pk1 {F H : Hp} {vs : List V} {a : D} (l : PkS K F H vs [a]) : ∃ x, vs = [x] ∧ Pk K F H x a := by
  cases l with
  | cons h r =>
    cases r
    exact ⟨_, rfl, h⟩
theorem pk2 {F H : Hp} {vs : List V} {a b : D} (l : PkS K F H vs [a, b]) : ∃ x y, vs = [x, y] ∧ Pk K F H x a ∧ Pk K F H y b := by
  cases l with
  | cons h r =>
    cases r with
    | cons h2 r =>
      cases r
      exact ⟨_, _, rfl, h, h2⟩
theorem vr_I {C : Int → Int → Prop} {g : Int → Int → V} {f : List D → Option D} (h : ∀ ds d, f ds = some d → ∃ i j, ds = [.int i, .int j] ∧ C i j ∧ ∀ F, Da K F (g i j) d) : VR K (r2l (rI C g)) f := by
  intro F H vs ds d Q e l hf q
  obtain ⟨i, j, e1, c, hd⟩ := h ds d hf
  subst e1
  obtain ⟨x, y, rfl, p1, p2⟩ := pk2 l
  exact ⟨x, y, rfl, i, j, p1.int_eq, p2.int_eq, c, ret0 e q (hd F)⟩
theorem vr_I0 {g : Int → Int → V} {f : List D → Option D} (h : ∀ ds d, f ds = some d → ∃ i j, ds = [.int i, .int j] ∧ ∀ F, Da K F (g i j) d) : VR K (r2l (rI0 g)) f := by
  intro F H vs ds d Q e l hf q
  obtain ⟨i, j, e1, hd⟩ := h ds d hf
  subst e1
  obtain ⟨x, y, rfl, p1, p2⟩ := pk2 l
  exact ⟨x, y, rfl, i, j, p1.int_eq, p2.int_eq, ret0 e q (hd F)⟩
theorem v_sub : VR K (r2l (rI0 fun i j => .int (i - j))) dSub := vr_I0 fun ds d h => by
  unfold dSub at h
  split at h
  · cases h
    exact ⟨_, _, rfl, fun _ => .int _⟩
  · cases h
theorem v_cmp {p : Int → Int → Bool} : VR K (r2l (rI0 fun i j => .bl (p i j))) (dCmp p) := vr_I0 fun ds d h => by
  unfold dCmp at h
  split at h
  · cases h
    exact ⟨_, _, rfl, fun _ => .bl _⟩
  · cases h
theorem v_mod : VR K (r2l (rI (fun _ j => j ≠ 0) fun i j => .int (i.fmod j))) dMod := vr_I fun ds d h => by
  unfold dMod at h
  split at h
  · split at h
    · cases h
    · cases h
      exact ⟨_, _, rfl, by assumption, fun _ => .int _⟩
  · cases h
theorem v_pow : VR K (r2l (rI CPow fun i j => .int (i ^ j.toNat))) dPow := vr_I fun ds d h => by
  unfold dPow at h
  split at h
  · split at h
    · cases h
      exact ⟨_, _, rfl, by assumption, fun _ => .int _⟩
    · cases h
  · cases h
theorem v_bitand : VR K (r2l (rI0 fun i j => .int (Builtin.bitAnd i j))) dBitAnd := vr_I0 fun ds d h => by
  unfold dBitAnd at h
  split at h
  · cases h
    exact ⟨_, _, rfl, fun _ => .int _⟩
  · cases h
def rFloor : R2 := fun x y H Q => rI CDivW (fun i j => .int (i / j)) x y H Q ∨ rI CDivN (fun i j => .int (i.fdiv j)) x y H Q
theorem op_floor {X : Cx} : OpR X (binaryOp .FloorDiv) rFloor := OpR.or op_fdivW op_fdivN
theorem v_floor : VR K (r2l rFloor) dFloor := by
  intro F H vs ds d Q e l hf q
  unfold dFloor at hf
  split at hf
  · obtain ⟨x, y, rfl, p1, p2⟩ := pk2 l
    split at hf
    · cases hf
      exact ⟨x, y, rfl, .inl ⟨_, _, p1.int_eq, p2.int_eq, by assumption, ret0 e q (.int _)⟩⟩
    · split at hf
      · cases hf
        exact ⟨x, y, rfl, .inr ⟨_, _, p1.int_eq, p2.int_eq, by assumption, ret0 e q (.int _)⟩⟩
      · cases hf
  · cases hf
/-- a rule for one operand, a scalar -/
theorem v_neg : VR K (r1l fun x H Q => ∃ i, x = .int i ∧ Q (.int (-i)) H) dNeg := by
  intro F H vs ds d Q e l hf q
  unfold dNeg at hf
  split at hf
  · obtain ⟨x, rfl, p1⟩ := pk1 l
    cases hf
    exact ⟨x, rfl, _, p1.int_eq, ret0 e q (.int _)⟩
  · cases hf
theorem v_abs : VR K (fun xs H Q => ∃ i, xs = [.int i] ∧ Q (.int (if i < 0 then -i else i)) H) dAbs := by
  intro F H vs ds d Q e l hf q
  unfold dAbs at hf
  split at hf
  · obtain ⟨x, rfl, p1⟩ := pk1 l
    cases hf
    exact ⟨_, by rw [p1.int_eq], ret0 e q (.int _)⟩
  · cases hf
theorem v_max2 : VR K (fun xs H Q => ∃ i j, xs = [.int i, .int j] ∧ Q (.int (if j > i then j else i)) H) dMax2 := by
  intro F H vs ds d Q e l hf q
  unfold dMax2 at hf
  split at hf
  · obtain ⟨x, y, rfl, p1, p2⟩ := pk2 l
    cases hf
    exact ⟨_, _, by rw [p1.int_eq, p2.int_eq], ret0 e q (.int _)⟩
  · cases hf
theorem v_min2 : VR K (fun xs H Q => ∃ i j, xs = [.int i, .int j] ∧ Q (.int (if j < i then j else i)) H) dMin2 := by
  intro F H vs ds d Q e l hf q
  unfold dMin2 at hf
  split at hf
  · obtain ⟨x, y, rfl, p1, p2⟩ := pk2 l
    cases hf
    exact ⟨_, _, by rw [p1.int_eq, p2.int_eq], ret0 e q (.int _)⟩
  · cases hf
theorem v_int : VR K (fun xs H Q => (∃ i, xs = [.int i] ∧ Q (.int i) H) ∨ ∃ k, xs = [.bl k] ∧ Q (.int (if k then 1 else 0)) H) dInt := by
  intro F H vs ds d Q e l hf q
  unfold dInt at hf
  split at hf
  · obtain ⟨x, rfl, p1⟩ := pk1 l
    cases hf
    exact .inl ⟨_, by rw [p1.int_eq], ret0 e q (.int _)⟩
  · obtain ⟨x, rfl, p1⟩ := pk1 l
    cases hf
    exact .inr ⟨_, by rw [p1.bl_eq], ret0 e q (.int _)⟩
  · cases hf
theorem v_gcd : VR K rGcd dGcd := by
  intro F H vs ds d Q e l hf q
  unfold dGcd at hf
  split at hf
  · obtain ⟨x, y, rfl, p1, p2⟩ := pk2 l
    cases hf
    exact ⟨_, _, by rw [p1.int_eq, p2.int_eq], ret0 e q (.int _)⟩
  · cases hf
/-! ### + and * -/
/-- + of two lists that are read (H knows both) -/
def rAddAll (K : PySem.W.Frag) : R2 := fun x y H Q => rI0 (fun i j => .int (i + j)) x y H Q ∨ (∃ i j, x = .str i ∧ y = .str j ∧ i.length + j.length ≤ sizeLine ∧ Q (.str (i ++ j)) H) ∨ rCatA K x y H Q ∨ rCat x y H Q
theorem op_addAll {X : Cx} : OpR X (binaryOp .Add) (rAddAll X.K) := OpR.or op_add (OpR.or op_add_str (OpR.or op_catA op_cat))
theorem v_addAll : VR K (r2l (rAddAll K)) dAdd := by
  intro F H vs ds d Q e l hf q
  unfold dAdd at hf
  split at hf
  · obtain ⟨x, y, rfl, p1, p2⟩ := pk2 l
    cases hf
    exact ⟨x, y, rfl, .inl ⟨_, _, p1.int_eq, p2.int_eq, ret0 e q (.int _)⟩⟩
  · obtain ⟨x, y, rfl, p1, p2⟩ := pk2 l
    split at hf
    · rename_i hl
      cases hf
      exact ⟨x, y, rfl, .inr (.inl ⟨_, _, p1.str_eq, p2.str_eq, by rw [← line_eq]; exact hl, ret0 e q (.str _)⟩)⟩
    · cases hf
  · obtain ⟨x, y, rfl, p1, p2⟩ := pk2 l
    split at hf
    · rename_i hl
      cases hf
      obtain ⟨a, vs, rfl, h1, h2⟩ := p1.tup_of e
      obtain ⟨b, ws, rfl, h3, h4⟩ := p2.tup_of e
      have l1 := h2.length
      have l2 := h4.length
      refine ⟨_, _, rfl, .inr (.inr (.inl ⟨a, b, vs, ws, rfl, rfl, sqt_mono e h1, sqt_mono e h3, by rw [l1, l2, ← line_eq]; exact hl, fun z => ?_, fun z z2 => ?_, fun z z2 p hp => retT e q hp (h2.append h4)⟩))⟩
      · subst z
        cases h2
        exact ret0 e q (.tup h3 h4)
      · subst z2
        cases h4
        refine ret0 e q ?_
        rw [List.append_nil]
        exact .tup h1 h2
    · cases hf
  · obtain ⟨x, y, rfl, p1, p2⟩ := pk2 l
    split at hf
    · rename_i hl
      cases hf
      obtain ⟨a, vs, rfl, h1, h2⟩ := p1.lst_of e
      obtain ⟨b, ws, rfl, h3, h4⟩ := p2.lst_of e
      have l1 := h2.length
      have l2 := h4.length
      exact ⟨_, _, rfl, .inr (.inr (.inr ⟨a, b, vs, ws, rfl, rfl, h1, h3, by rw [l1, l2, ← line_eq]; exact hl, fun p hp => retN e q hp (h2.append h4)⟩))⟩
    · cases hf
  · cases hf
theorem DaS.rep {F : Hp} {vs : List V} {ds : List D} (h : DaS K F vs ds) : ∀ n : Nat, DaS K F (List.replicate n vs).flatten (List.replicate n ds).flatten
  | 0 => .nil
  | n + 1 => by
    rw [List.replicate_succ, List.replicate_succ, List.flatten_cons, List.flatten_cons]
    exact h.append (DaS.rep h n)
def rMulAll : R2 := fun x y H Q => rI CMulX (fun i j => .int (i * j)) x y H Q ∨ rRep x y H Q
theorem op_mulAll {X : Cx} : OpR X (binaryOp .Mult) rMulAll := OpR.or op_mulX op_rep
theorem v_mulAll : VR K (r2l rMulAll) dMul := by
  intro F H vs ds d Q e l hf q
  unfold dMul at hf
  split at hf
  · obtain ⟨x, y, rfl, p1, p2⟩ := pk2 l
    split at hf
    · rename_i hl
      cases hf
      refine ⟨x, y, rfl, .inl ⟨_, _, p1.int_eq, p2.int_eq, ?_, ret0 e q (.int _)⟩⟩
      unfold CMulX
      omega
    · cases hf
  · obtain ⟨x, y, rfl, p1, p2⟩ := pk2 l
    split at hf
    · rename_i hl
      cases hf
      obtain ⟨a, vs, rfl, h1, h2⟩ := p1.lst_of e
      exact ⟨_, _, rfl, .inr ⟨a, _, vs, rfl, p2.int_eq, h1, hl.1, hl.2.1, by rw [h2.length, ← line_eq]; exact hl.2.2, fun p hp => retN e q hp (h2.rep _)⟩⟩
    · cases hf
  · cases hf
/-! ### == -/
theorem eqOk_and {d e : D} (h : eqOk d e = true) : noDict d = true ∧ noDict e = true ∧ SeqAt.shaped d = true ∧ SeqAt.shaped e = true := by
  unfold eqOk at h
  simp only [Bool.and_eq_true] at h
  exact ⟨h.1.1.1, h.1.1.2, h.1.2, h.2⟩
theorem v_eq : VR K (r2l (rEqD K)) dEq := by
  intro F H vs ds d Q e l hf q
  unfold dEq at hf
  split at hf
  · obtain ⟨x, y, rfl, p1, p2⟩ := pk2 l
    split at hf
    · rename_i hl
      cases hf
      obtain ⟨n1, n2, s1, s2⟩ := eqOk_and hl
      exact ⟨x, y, rfl, _, _, (p1.all e).dp n1, (p2.all e).dp n2, s1, s2, ret0 e q (.bl _)⟩
    · cases hf
  · cases hf
theorem v_ne : VR K (r2l (rNeD K)) dNe := by
  intro F H vs ds d Q e l hf q
  unfold dNe at hf
  split at hf
  · obtain ⟨x, y, rfl, p1, p2⟩ := pk2 l
    split at hf
    · rename_i hl
      cases hf
      obtain ⟨n1, n2, s1, s2⟩ := eqOk_and hl
      exact ⟨x, y, rfl, _, _, (p1.all e).dp n1, (p2.all e).dp n2, s1, s2, ret0 e q (.bl _)⟩
    · cases hf
  · cases hf
theorem Pk.isNon {F H : Hp} {v : V} {d : D} (h : Pk K F H v d) : decide (v = .non) = isNone d := by
  cases h with
  | da h => cases h <;> rfl
  | _ => rfl
theorem v_isN : VR K (r2l fun x y H Q => y = .non ∧ Q (.bl (decide (x = .non))) H) dIsN := by
  intro F H vs ds d Q e l hf q
  unfold dIsN at hf
  split at hf
  · obtain ⟨x, y, rfl, p1, p2⟩ := pk2 l
    cases hf
    exact ⟨x, y, rfl, p2.non_eq, ret0 e q (by rw [p1.isNon]; exact .bl _)⟩
  · cases hf
theorem v_notN : VR K (r2l fun x y H Q => y = .non ∧ Q (.bl (!decide (x = .non))) H) dNotN := by
  intro F H vs ds d Q e l hf q
  unfold dNotN at hf
  split at hf
  · obtain ⟨x, y, rfl, p1, p2⟩ := pk2 l
    cases hf
    exact ⟨x, y, rfl, p2.non_eq, ret0 e q (by rw [p1.isNon]; exact .bl _)⟩
  · cases hf
theorem Da.flat {F : Hp} {v : V} {d : D} (h : Da K F v d) (f : flatD d = true) : flatV v = true := by
  cases h <;> first | rfl | cases f
theorem DaS.flat : ∀ {F : Hp} {vs : List V} {ds : List D}, DaS K F vs ds → ds.all flatD = true → vs.all flatV = true
  | _, _, _, .nil, _ => rfl
  | _, _, _, .cons h r, f => by
    simp only [List.all_cons, Bool.and_eq_true] at f ⊢
    exact ⟨Da.flat h f.1, DaS.flat r f.2⟩
theorem eqV_eqv {F : Hp} {v w : V} {d e : D} (h : Da K F v d) (h' : Da K F w e) (f : flatD d = true) (f' : flatD e = true) : eqV v w = PyData.eqv d e := by
  cases h <;> cases h' <;> simp_all [eqV, PyData.eqv, flatD]
theorem inV_eqv {F : Hp} {w : V} {e : D} (h' : Da K F w e) (f' : flatD e = true) : ∀ {vs : List V} {ds : List D}, DaS K F vs ds → ds.all flatD = true → inV w vs = ds.any fun z => PyData.eqv z e
  | _, _, .nil, _ => rfl
  | _, _, .cons h r, f => by
    simp only [List.all_cons, Bool.and_eq_true] at f
    show (eqV _ w || inV w _) = (PyData.eqv _ e || _)
    rw [eqV_eqv h h' f.1 f', inV_eqv h' f' r f.2]
theorem v_in : VR K (r2l (rIn K false)) dIn := by
  intro F H vs ds d Q e l hf q
  unfold dIn at hf
  split at hf
  · obtain ⟨x, y, rfl, p1, p2⟩ := pk2 l
    split at hf
    · rename_i hl
      cases hf
      simp only [Bool.and_eq_true] at hl
      obtain ⟨a, vs, rfl, h1, h2⟩ := p2.lst_of e
      have hx := p1.all e
      exact ⟨_, _, rfl, a, vs, rfl, .inl (.of h1), hx.flat hl.1, h2.flat hl.2, ret0 e q (by rw [inV_eqv hx hl.1 (h2.mono e) hl.2]; exact .bl _)⟩
    · cases hf
  · obtain ⟨x, y, rfl, p1, p2⟩ := pk2 l
    split at hf
    · rename_i hl
      cases hf
      simp only [Bool.and_eq_true] at hl
      obtain ⟨a, vs, rfl, h1, h2⟩ := p2.tup_of e
      have hx := p1.all e
      exact ⟨_, _, rfl, a, vs, rfl, .inr (sqt_mono e h1), hx.flat hl.1, h2.flat hl.2, ret0 e q (by rw [inV_eqv hx hl.1 (h2.mono e) hl.2]; exact .bl _)⟩
    · cases hf
  · cases hf
theorem v_notIn : VR K (r2l (rIn K true)) dNotIn := by
  intro F H vs ds d Q e l hf q
  unfold dNotIn at hf
  split at hf
  · obtain ⟨x, y, rfl, p1, p2⟩ := pk2 l
    split at hf
    · rename_i hl
      cases hf
      simp only [Bool.and_eq_true] at hl
      obtain ⟨a, vs, rfl, h1, h2⟩ := p2.lst_of e
      have hx := p1.all e
      exact ⟨_, _, rfl, a, vs, rfl, .inl (.of h1), hx.flat hl.1, h2.flat hl.2, ret0 e q (by rw [inV_eqv hx hl.1 (h2.mono e) hl.2]; exact .bl _)⟩
    · cases hf
  · obtain ⟨x, y, rfl, p1, p2⟩ := pk2 l
    split at hf
    · rename_i hl
      cases hf
      simp only [Bool.and_eq_true] at hl
      obtain ⟨a, vs, rfl, h1, h2⟩ := p2.tup_of e
      have hx := p1.all e
      exact ⟨_, _, rfl, a, vs, rfl, .inr (sqt_mono e h1), hx.flat hl.1, h2.flat hl.2, ret0 e q (by rw [inV_eqv hx hl.1 (h2.mono e) hl.2]; exact .bl _)⟩
    · cases hf
  · cases hf
/-! ### rows -/
theorem v_len : VR K (fun xs H Q => ∃ p ys, xs = [.ref p] ∧ (SqL K H p ys ∨ SqT K H p ys) ∧ Q (.int ys.length) H) dLen := by
  intro F H vs ds d Q e l hf q
  unfold dLen at hf
  split at hf
  · obtain ⟨x, rfl, p1⟩ := pk1 l
    cases hf
    obtain ⟨a, vs, rfl, h1, h2⟩ := p1.lst_of e
    exact ⟨a, vs, rfl, .inl (.of h1), ret0 e q (by rw [h2.length]; exact .int _)⟩
  · obtain ⟨x, rfl, p1⟩ := pk1 l
    cases hf
    obtain ⟨a, vs, rfl, h1, h2⟩ := p1.tup_of e
    exact ⟨a, vs, rfl, .inr (sqt_mono e h1), ret0 e q (by rw [h2.length]; exact .int _)⟩
  · cases hf
theorem v_all : VR K (rAll K) dAll := by
  intro F H vs ds d Q e l hf q
  unfold dAll at hf
  split at hf
  · obtain ⟨x, rfl, p1⟩ := pk1 l
    obtain ⟨bs, h1, h2⟩ := Option.map_eq_some_iff.mp hf
    subst h2
    obtain ⟨a, vs, rfl, h1', h2⟩ := p1.lst_of e
    rw [asBools_map h1] at h2
    have ev := h2.bools
    subst ev
    exact ⟨a, bs, rfl, .of h1', ret0 e q (.bl _)⟩
  · cases hf
/-- any of a list of truths, of a tuple of numbers -/
def rAnyT (K : PySem.W.Frag) : List V → Hp → VK → Prop := fun vs H Q => ∃ (a : Addr) (ns : List Int), vs = [V.ref a] ∧ SqT K H a (ns.map V.int) ∧ Q (.bl (ns.any fun n => n != 0)) H
def rSumT (K : PySem.W.Frag) : List V → Hp → VK → Prop := fun vs H Q => ∃ (a : Addr) (ns : List Int), vs = [V.ref a] ∧ SqT K H a (ns.map V.int) ∧ Q (.int ns.sum) H
theorem any_rangeI : ∀ ns : List Int, (List.range ns.length).any (fun i => ns.getD i 0 != 0) = ns.any fun n => n != 0
  | [] => rfl
  | b :: bs => by
    rw [List.length_cons, List.range_succ_eq_map, List.any_cons, List.any_map, List.any_cons, ← any_rangeI bs]
    all_goals rfl
theorem truth_ints {prog : Program} {w : World} {A : Around} {ns : List Int} {its : List Value} (r : Vals (ns.map V.int) its) :
    TruthOf prog w A (fun i v => its.toArray[i]? = some v) (fun i => ns.getD i 0 != 0) := fun i v s Q E hv hq => by
  have hv' : its[i]? = some v := by simpa using hv
  have hl := r.length
  rw [List.length_map] at hl
  have hi : i < ns.length := by
    rw [hl]
    exact (List.getElem?_eq_some_iff.mp hv').1
  obtain ⟨u, hu, ru⟩ := r.get (i := i) (x := .int ns[i]) (by rw [List.getElem?_map, List.getElem?_eq_getElem hi]; rfl)
  rw [hv'] at hu
  cases hu
  obtain ⟨t, rfl⟩ := ru
  have hg : ns.getD i 0 = ns[i] := by rw [List.getD_eq_getElem?_getD, List.getElem?_eq_getElem hi] <;> rfl
  have hq' : Q (ns.getD i 0 != 0) s := hq
  rw [hg] at hq'
  exact PyProof.Rows.truthy_int hq'
theorem cr_anyT {X : Cx} (hc : X.calm = true) : CallR X (.builtin "any") (rAnyT X.K) := by
  intro pins s σ H vs us Q I r h
  obtain ⟨a, ns, rfl, hs, q⟩ := h
  obtain ⟨its, rv, hl, _⟩ := I.tuple hs
  rw [Vals.ref1 r]
  have ht : s.heap.IsTuple a its.toArray := hl
  have hlt : a < s.heap.objs.size := by
    obtain ⟨_, e, _⟩ := ht
    exact Heap.lt_size e
  refine call_any_walk (wpAny_pyIter_tuple ht ?_)
  refine ⟨_, _, _, _, _, _, _, rfl, Walks.tuple (A := X.A.in1) (I.ok.hd hc) _ a (Nat.ne_of_lt hlt) its.toArray, ⟨⟨_, Heap.get?_push_size _ rfl, rfl, rfl⟩, ht.at fun o e => Heap.get?_push_of_some _ e⟩, truth_ints rv, fun h' tk hk => ?_⟩
  refine ⟨.bl _, H, I.kept fun b o eo => hk b o (fun hmem => ?_) (Heap.get?_push_of_some _ eo), ?_, q⟩
  · rcases List.mem_cons.mp hmem with e1 | hmem
    · exact absurd (e1 ▸ Heap.lt_size eo) (Nat.lt_irrefl _)
    · cases hmem
  · show Value.bool _ = Value.bool _
    have hlen := rv.length
    rw [List.length_map] at hlen
    rw [← any_rangeI, List.size_toArray, hlen]
theorem cr_sumT {X : Cx} (hc : X.calm = true) : CallR X (.builtin "sum") (rSumT X.K) := by
  intro pins s σ H vs us Q I r h
  obtain ⟨a, ns, rfl, hs, q⟩ := h
  obtain ⟨its, rv, hl, _⟩ := I.tuple hs
  rw [Vals.ref1 r]
  have hi := rv.ints
  obtain ⟨xs, e⟩ := hi.allInts.items
  have hn : numsOf (intItems xs).toList = ns := by rw [← e]; exact hi.numsOf
  rw [nums_intItems] at hn
  have ht : s.heap.IsTuple a its.toArray := hl
  rw [e] at ht
  refine PySem.W.ktm_sumG (I.ok.hd hc) ht fun h' tk t' hk => ?_
  refine ⟨.int _, H, I.kept hk, ⟨t', ?_⟩, q⟩
  rw [preSum_eq, List.take_of_length_le (by simp), hn]
def rAnyAll (K : PySem.W.Frag) : List V → Hp → VK → Prop := fun xs H Q => rAny K xs H Q ∨ rAnyT K xs H Q
def rSumAll (K : PySem.W.Frag) : List V → Hp → VK → Prop := fun xs H Q => rSum K xs H Q ∨ rSumT K xs H Q
theorem cr_anyAll {X : Cx} (hc : X.calm = true) : CallR X (.builtin "any") (rAnyAll X.K) := (cr_any hc).or (cr_anyT hc)
theorem cr_sumAll {X : Cx} (hc : X.calm = true) : CallR X (.builtin "sum") (rSumAll X.K) := (cr_sum hc).or (cr_sumT hc)
theorem v_any : VR K (rAnyAll K) dAny := by
  intro F H vs ds d Q e l hf q
  unfold dAny at hf
  split at hf
  · obtain ⟨x, rfl, p1⟩ := pk1 l
    obtain ⟨bs, h1, h2⟩ := Option.map_eq_some_iff.mp hf
    subst h2
    obtain ⟨a, vs, rfl, h1', h2⟩ := p1.lst_of e
    rw [asBools_map h1] at h2
    have ev := h2.bools
    subst ev
    exact .inl ⟨a, bs, rfl, .of h1', ret0 e q (.bl _)⟩
  · obtain ⟨x, rfl, p1⟩ := pk1 l
    obtain ⟨bs, h1, h2⟩ := Option.map_eq_some_iff.mp hf
    subst h2
    obtain ⟨a, vs, rfl, h1', h2⟩ := p1.tup_of e
    rw [asInts_map h1] at h2
    have ev := h2.ints
    subst ev
    exact .inr ⟨a, bs, rfl, sqt_mono e h1', ret0 e q (.bl _)⟩
  · cases hf
theorem v_sum : VR K (rSumAll K) dSum := by
  intro F H vs ds d Q e l hf q
  unfold dSum at hf
  split at hf
  · obtain ⟨x, rfl, p1⟩ := pk1 l
    obtain ⟨bs, h1, h2⟩ := Option.map_eq_some_iff.mp hf
    subst h2
    obtain ⟨a, vs, rfl, h1', h2⟩ := p1.lst_of e
    rw [asInts_map h1] at h2
    have ev := h2.ints
    subst ev
    exact .inl ⟨a, bs, rfl, .of h1', ret0 e q (.int _)⟩
  · obtain ⟨x, rfl, p1⟩ := pk1 l
    obtain ⟨bs, h1, h2⟩ := Option.map_eq_some_iff.mp hf
    subst h2
    obtain ⟨a, vs, rfl, h1', h2⟩ := p1.tup_of e
    rw [asInts_map h1] at h2
    have ev := h2.ints
    subst ev
    exact .inr ⟨a, bs, rfl, sqt_mono e h1', ret0 e q (.int _)⟩
  · cases hf
theorem v_tuple : VR K (fun xs H Q => ∃ p ys, xs = [.ref p] ∧ ((SqL K H p ys ∧ ∀ l, H l = none → Q (.ref l) (upd H l (.tup ys))) ∨ (SqT K H p ys ∧ Q (.ref p) H))) dTuple := by
  intro F H vs ds d Q e l hf q
  unfold dTuple at hf
  split at hf
  · obtain ⟨x, rfl, p1⟩ := pk1 l
    cases hf
    obtain ⟨a, vs, rfl, h1, h2⟩ := p1.lst_of e
    exact ⟨a, vs, rfl, .inl ⟨.of h1, fun p hp => retT e q hp h2⟩⟩
  · obtain ⟨x, rfl, p1⟩ := pk1 l
    cases hf
    obtain ⟨a, vs, rfl, h1, h2⟩ := p1.tup_of e
    exact ⟨a, vs, rfl, .inr ⟨sqt_mono e h1, ret0 e q (.tup h1 h2)⟩⟩
  · cases hf
theorem v_list : VR K (fun xs H Q => ∃ p ys, xs = [.ref p] ∧ (SqL K H p ys ∨ SqT K H p ys) ∧ ∀ l, H l = none → Q (.ref l) (upd H l (.lst ys))) dList := by
  intro F H vs ds d Q e l hf q
  unfold dList at hf
  split at hf
  · obtain ⟨x, rfl, p1⟩ := pk1 l
    cases hf
    obtain ⟨a, vs, rfl, h1, h2⟩ := p1.lst_of e
    exact ⟨a, vs, rfl, .inl (.of h1), fun p hp => retN e q hp h2⟩
  · obtain ⟨x, rfl, p1⟩ := pk1 l
    cases hf
    obtain ⟨a, vs, rfl, h1, h2⟩ := p1.tup_of e
    exact ⟨a, vs, rfl, .inr (sqt_mono e h1), fun p hp => retN e q hp h2⟩
  · cases hf
theorem atI_das {F : Hp} {vs : List V} {ds : List D} {i : Int} {d : D} (h : DaS K F vs ds) (e : atI ds i = some d) : ∃ v, atI vs i = some v ∧ Da K F v d := by
  unfold atI at e ⊢
  rw [h.length]
  cases q : ixN ds.length i with
  | none =>
    rw [q] at e
    cases e
  | some j =>
    rw [q] at e
    exact h.get e
theorem v_ix : VR K (r2l (rIx K)) dIx := by
  intro F H vs ds d Q e l hf q
  unfold dIx at hf
  split at hf
  · obtain ⟨x, y, rfl, p1, p2⟩ := pk2 l
    obtain ⟨a, vs, rfl, h1, h2⟩ := p1.lst_of e
    obtain ⟨v, h3, h4⟩ := atI_das h2 hf
    exact ⟨_, _, rfl, .inl ⟨a, vs, _, v, rfl, p2.int_eq, .of h1, h3, ret0 e q h4⟩⟩
  · obtain ⟨x, y, rfl, p1, p2⟩ := pk2 l
    obtain ⟨a, vs, rfl, h1, h2⟩ := p1.tup_of e
    obtain ⟨v, h3, h4⟩ := atI_das h2 hf
    exact ⟨_, _, rfl, .inr (.inl ⟨a, vs, _, v, rfl, p2.int_eq, sqt_mono e h1, h3, ret0 e q h4⟩)⟩
  · cases hf
end
end Lf

set_option Elab.async false
set_option linter.all false
set_option maxRecDepth 100000
/-! Lf4: displays, isinstance, slices, methods. -/
namespace Lf
open PySem PySem.Spec PyProof.Rows L2

/-! ### parts that stand for good -/
def evalM : List (S0 → R D) → S0 → R (List D)
  | [], s => .ok [] s
  | f :: r, s => (f s).bind fun d s1 => (evalM r s1).bind fun ds s2 => .ok (d :: ds) s2
def tMs (K : PySem.W.Frag) (cl : Cl) (W : WX) : List (S0 → R D) → TA
  | [] => tNil
  | o :: r => tCons (tM K cl W o) (tMs K cl W r)
section
variable {K : PySem.W.Frag} {cl : Cl} {W : WX}
theorem das_of : ∀ (os : List (S0 → R D)) (σ : L2.St) (H : Hp) (Q : List V → Hp → Prop), tX K cl W (fun _ => rDaS K) (evalM os) σ H Q → tMs K cl W os σ H Q
  | [], σ, H, Q, ⟨g, F, A, s, rl, h⟩ => h F H A [] .refl rl .nil
  | f :: r, σ, H, Q, ⟨g, F, A, s, rl, h⟩ => by
    refine ⟨g, F, A, s, rl, Post.bind up_das h fun d s1 F' H' A' v e st rl' da h' => ?_⟩
    refine das_of r σ H' _ ⟨g, F', A', s1, rl', Post.bind (R1 := rDaS K) up_das h' fun ds s2 F2 H2 A2 vs e2 st2 rl2 l2 h2 => ?_⟩
    exact h2 F2 H2 A2 (v :: vs) .refl rl2 (.cons (Da.mono st2.ff da) l2)
end
def mTup (ms : List (S0 → R D)) : S0 → R D := fun s => (evalM ms s).bind fun ds s1 => if ds.length ≤ line then .ok (.tuple ds) s1 else .bad
def nLst (ms : List (S0 → R D)) : S0 → R (List D) := fun s => (evalM ms s).bind fun ds s1 => if ds.length ≤ line then .ok ds s1 else .bad
/-- a new list that is never written again -/
def mFrz (n : S0 → R (List D)) : S0 → R D := fun s => (n s).bind fun ds s1 => .ok (.list ds) s1
section
variable {X : Cx} {cl : Cl} {W : WX} {a b e : Expr} {es : List Expr} {o : Opd} {os : List Opd} {pos : Pos} {ms : List (S0 → R D)}
theorem e_tup {x1} (h : PA X es (tMs X.K cl W ms)) : PE X (.Tuple es x1 pos) (tM X.K cl W (mTup ms)) := (pe_tup h).imp fun σ H Q q => by
  obtain ⟨g, F, A, s, rl, q⟩ := q
  refine das_of ms σ H _ ⟨g, F, A, s, rl, Post.bind (R1 := rDaS X.K) up_da q fun ds s1 F' H' A' vs e st rl' l h' => ?_⟩
  split at h'
  · rename_i hl
    have l' : DaS X.K F' vs ds := l
    refine ⟨by rw [l'.length, ← line_eq]; exact hl, fun p hp => ?_⟩
    have n := Nw.new (o := .tup vs) rl'.same hp
    exact h'.here (R1 := rDa X.K) rl' n (.tup (.inl (.inl upd_same)) (l'.mono n.ff))
  · exact h'.elim
theorem nl_fresh {K : PySem.W.Frag} {g : Gd} {F H : Hp} {A : Nat → Option Addr} {s : S0} {σ : L2.St} {p : Addr} {vs : List V} {ds : List D} (rl : Rel K g F H A s σ) (hp : H p = none) (l : DaS K F vs ds) :
    Rel K g F (upd H p (.lst vs)) A s σ ∧ Step g F H A F (upd H p (.lst vs)) A ∧ rNl K g H A F (upd H p (.lst vs)) (.ref p) ds := by
  have hA : ∀ j, A j ≠ some p := fun j z => (rl.own j p z).2.1 (.inl hp)
  have hd : ¬ isDk g p := fun z => rl.dkne p z hp
  have ff : F p = none := rl.same.free hp
  have hh : Same H (upd H p (.lst vs)) := fun b u h => by
    rw [upd_ne (ne_of_none h hp)]
    exact h
  refine ⟨?_, ⟨Same.refl F, fun b h => .inl h, fun b o h _ _ => hh b o h, fun i b h => .inl ⟨i, h⟩, fun b h z => h (Same.free hh z)⟩, p, vs, rfl, hp, hA, hd, ff, upd_same, l⟩
  refine ⟨rl.same.trans hh, rl.len, fun i sv h => (rl.slot i sv h).mono (Same.refl F) fun b u _ z => hh b u z, fun i b h => ?_, rl.sep, rl.dkb, fun k h => ?_, rl.tab.wr hd fun φ z => by rw [hp] at z; cases z⟩
  · obtain ⟨h1, h2, h3⟩ := rl.own i b h
    refine ⟨h1, fun z => h2 ?_, h3⟩
    have nb : b ≠ p := fun z => hA i (by rw [h, z])
    unfold Fz at z ⊢
    rw [upd_ne nb] at z
    exact z
  · have q := rl.deck k h
    exact ⟨q.ne, q.fa, q.fl, hh _ _ q.ha, hh _ _ q.hl⟩
theorem n_lst (h : PA X es (tMs X.K cl W ms)) : PE X (.List es pos) (tNl X.K cl W (nLst ms)) := (pe_lst h).imp fun σ H Q q => by
  obtain ⟨g, F, A, s, rl, q⟩ := q
  refine das_of ms σ H _ ⟨g, F, A, s, rl, Post.bind (R1 := rDaS X.K) up_nl q fun ds s1 F' H' A' vs e st rl' l h' => ?_⟩
  split at h'
  · rename_i hl
    have l' : DaS X.K F' vs ds := l
    refine ⟨by rw [l'.length, ← line_eq]; exact hl, fun p hp => ?_⟩
    obtain ⟨r1, st1, n1⟩ := nl_fresh rl' hp l'
    exact h' _ _ _ _ st1 r1 n1
  · exact h'.elim
/-- a new list, taken for data -/
theorem frz_nl {K : PySem.W.Frag} {g : Gd} {F H H0 : Hp} {A : Nat → Option Addr} {s : S0} {σ : L2.St} {v : V} {ds : List D} (rl : Rel K g F H A s σ) (n : rNl K g H0 A F H v ds) : ∃ F', Rel K g F' H A s σ ∧ Da K F' v (.list ds) ∧ Same F F' ∧ (∀ b, F' b ≠ none → F b ≠ none ∨ (H0 b = none)) := by
  obtain ⟨p, vs, rfl, h1, h2, h3, h4, h5, h6⟩ := n
  have ff : Same F (upd F p (.lst vs)) := fun b u e => by
    rw [upd_ne (ne_of_none e h4)]
    exact e
  have fh : Same (upd F p (.lst vs)) H := fun b u e => by
    by_cases q : b = p
    · subst q
      rw [upd_same] at e
      rw [h5]
      exact e
    · rw [upd_ne q] at e
      exact rl.same _ _ e
  refine ⟨_, ⟨fh, rl.len, fun i sv h => (rl.slot i sv h).mono ff fun b u _ z => z, fun i b h => ?_, rl.sep, rl.dkb, fun k h => ?_, rl.tab.wrF h3⟩, .lst upd_same (h6.mono ff), ff, fun b h => ?_⟩
  · obtain ⟨q1, q2, q3⟩ := rl.own i b h
    have nb : b ≠ p := fun z => h2 i (by rw [h, z])
    exact ⟨by rw [upd_ne nb]; exact q1, q2, q3⟩
  · have q := rl.deck k h
    have hg : g.b = true := by
      have z := rl.dkb
      rw [h] at z
      exact z.symm
    exact ⟨q.ne, by rw [upd_ne (fun z => h3 (.inl ⟨hg, .inl z.symm⟩))]; exact q.fa, by rw [upd_ne (fun z => h3 (.inl ⟨hg, .inr z.symm⟩))]; exact q.fl, q.ha, q.hl⟩
  · by_cases q : b = p
    · subst q
      exact .inr h1
    · rw [upd_ne q] at h
      exact .inl h
theorem mFrz_of {K : PySem.W.Frag} {n : S0 → R (List D)} {σ : L2.St} {H : Hp} {Q : VK} (q : tM K cl W (mFrz n) σ H Q) : tNl K cl W n σ H Q := by
  obtain ⟨g, F, A, s, rl, q⟩ := q
  refine ⟨g, F, A, s, rl, ?_⟩
  have q : Post K cl W (rDa K) g F H A σ ((n s).bind fun ds s1 => .ok (.list ds) s1) Q := q
  cases e : n s with
  | ok ds s1 =>
    rw [e] at q
    intro F' H' A' v st rl' nl
    obtain ⟨F2, r2, d2, ff, fn⟩ := frz_nl rl' nl
    refine q F2 H' A' v ⟨st.ff.trans ff, fun b h => ?_, st.fr, st.an, st.tr⟩ r2 d2
    rcases fn b h with h | h
    · exact st.fn b h
    · exact .inr (.inl (.inl h))
  | exc c d s' =>
    rw [e] at q
    exact q
  | bad =>
    rw [e] at q
    exact q
theorem e_frz {n : S0 → R (List D)} (h : PE X e (tNl X.K cl W n)) : PE X e (tM X.K cl W (mFrz n)) := h.imp fun σ H Q q => mFrz_of q

/-! ### isinstance -/
def tyName : D → String
  | .none => "NoneType"
  | .bool _ => "bool"
  | .int _ => "int"
  | .str _ => "str"
  | .list _ => "list"
  | .tuple _ => "tuple"
  | .dict _ => "dict"
theorem Da.ty {K : PySem.W.Frag} {H : Hp} : ∀ {v : V} {d : D}, Da K H v d → TyX K H v (.type (tyName d))
  | _, _, .non => .base .non
  | _, _, .bl b => .base (.bl b)
  | _, _, .int i => .base (.int i)
  | _, _, .str x => .base (.str x)
  | _, _, .lst h _ => .base (.lst h)
  | _, _, .tup h _ => by
    rcases h with (h | ⟨o, h⟩) | ⟨o, its, n, h1, h2, _⟩
    · exact .base (.tup h)
    · exact .fTuple h
    · exact .kTuple h1 h2
  | _, _, .dk h _ _ => .base (.dK h)
  | _, _, .dt h _ _ => .base (.dT h)
theorem Pk.ty {K : PySem.W.Frag} {F H : Hp} {v : V} {d : D} (e : Same F H) (h : Pk K F H v d) : TyX K H v (.type (tyName d)) := (h.all e).ty
/-- is it of this built-in kind -/
def isTy (T : String) (d : D) : Bool := (kitB (tyName d) T).getD false
def kitOk (T : String) : Bool := ["NoneType", "bool", "int", "str", "list", "tuple", "dict"].all fun n => (kitB n T).isSome
theorem kit_isTy {K : PySem.W.Frag} {T : String} (h : kitOk T = true) (d : D) : PySem.W.kitOne K (.type (tyName d)) (.type T) = some (isTy T d) := by
  apply kit_ty
  have h2 : (kitB (tyName d) T).isSome = true := List.all_eq_true.mp h _ (by cases d <;> simp [tyName])
  unfold isTy
  cases e : kitB (tyName d) T with
  | none =>
    rw [e] at h2
    cases h2
  | some b => rfl
def dIsi (T : String) : List D → Option D
  | [d] => some (.bool (isTy T d))
  | _ => none
def dIsi2 (T U : String) : List D → Option D
  | [d] => some (.bool (isTy T d || isTy U d))
  | _ => none
def dIsi3 (T U W : String) : List D → Option D
  | [d] => some (.bool (isTy T d || (isTy U d || isTy W d)))
  | _ => none
theorem isi1_of {K : PySem.W.Frag} {T : String} (hk : kitOk T = true) {σ : L2.St} {H : Hp} {Q : VK} (q : tM K cl W (mF (dIsi T) [o]) σ H Q) : tCB (rIsi K) (tCons (tO K cl W o) (tCons (tC (.ty T)) tNil)) σ H Q := by
  have vr : VR K (r1l fun x H Q => ∃ (t : Value) (b : Bool), TyX K H x t ∧ PySem.W.kitOne K t (.type T) = some b ∧ Q (.bl b) H) (dIsi T) := by
    intro F H vs ds d Q e l hf q
    unfold dIsi at hf
    split at hf
    · obtain ⟨x, rfl, p1⟩ := pk1 l
      cases hf
      exact ⟨x, rfl, _, _, p1.ty e, kit_isTy hk _, ret0 e q (.bl _)⟩
    · cases hf
  refine tO_mono (fun v H1 h => ?_) (op1_of vr q)
  obtain ⟨t, b, h1, h2, h3⟩ := h
  exact ⟨v, .ty T, t, .type T, b, rfl, .ty T, h1, h2, h3⟩
theorem isi2_of {K : PySem.W.Frag} {T U : String} (hk : kitOk T = true) (hu : kitOk U = true) {σ : L2.St} {H : Hp} {Q : VK} (q : tM K cl W (mF (dIsi2 T U) [o]) σ H Q) : tCB (rIsiT K) (tCons (tO K cl W o) (tCons (tTup (tCons (tC (.ty T)) (tCons (tC (.ty U)) tNil))) tNil)) σ H Q := by
  have vr : VR K (r1l fun x H Q => ∃ (t : Value) (b : Bool), (∀ p o, H p = none → TyX K (upd H p o) x t) ∧ PySem.W.kitAny K t [.type T, .type U] = some b ∧ ∀ p o, H p = none → Q (.bl b) (upd H p o)) (dIsi2 T U) := by
    intro F H vs ds d Q e l hf q
    unfold dIsi2 at hf
    split at hf
    · rename_i d'
      obtain ⟨x, rfl, p1⟩ := pk1 l
      cases hf
      refine ⟨x, rfl, .type (tyName d'), isTy T d' || isTy U d', fun p o hp => ?_, ?_, fun p o hp => ?_⟩
      · have n := Nw.new (o := o) e hp
        exact (p1.mono_nw n).ty n.fh
      · refine kitAny_cons (kit_isTy hk d') (fun h => kitAny_cons (kit_isTy hu d') (fun h' => ?_) fun h' => ?_) fun h => ?_
        · rw [h, h']
          exact kitAny_nil
        · rw [h, h'] <;> rfl
        · rw [h] <;> rfl
      · have n := Nw.new (o := o) e hp
        exact q _ _ _ n (.bl _)
    · cases hf
  refine tO_mono (fun v H1 h => ?_) (op1_of vr q)
  obtain ⟨t, b, h1, h2, h3⟩ := h
  refine ⟨by show 2 ≤ sizeLine; decide, fun p hp => ?_⟩
  exact ⟨v, p, _, t, _, b, rfl, upd_same, .cons (.ty T) (.cons (.ty U) .nil), h1 p _ hp, h2, h3 p _ hp⟩
/-- isinstance(e, T) -/
theorem e_isi {T : String} {x : Str} {p p2 : Pos} (hk : kitOk T = true) (hT : bootBuiltins x = some (.type T)) (ha : PE X a (tO X.K cl W o)) (hg : Gl X "isinstance") (hm : X.mg "isinstance" = none) (hg2 : Gl X x) (hm2 : X.mg x = none) (hv : bootBuiltins "isinstance" = some (.builtin "isinstance") := by decide +kernel)
    (hn : x ≠ "__name__" := by decide) (hd : (x == ("__debug__" : Str)) = false := by decide) (hs : starEach (a :: [.Name x p2]) X.env = (false, eval a X.env) :: starEach [.Name x p2] X.env := by rfl) : PE X (.Call (.Name "isinstance" p) [a, .Name x p2] [] pos) (tM X.K cl W (mF (dIsi T) [o])) :=
  (pe_callB call_isi hg hm hv (pa_cons ha (pa_cons (pe_bltn (v := .ty T) hg2 hm2 hT rfl hn hd) pa_nil) hs) (he := hs)).imp fun σ H Q q => isi1_of hk q
/-- isinstance(e, (T, U)) -/
theorem e_isi2 {T U : String} {x y : Str} {p p2 p3 p4 : Pos} {x1} (hk : kitOk T = true) (hu : kitOk U = true) (hT : bootBuiltins x = some (.type T)) (hU : bootBuiltins y = some (.type U)) (ha : PE X a (tO X.K cl W o)) (hg : Gl X "isinstance") (hm : X.mg "isinstance" = none) (hg2 : Gl X x) (hm2 : X.mg x = none) (hg3 : Gl X y) (hm3 : X.mg y = none)
    (hv : bootBuiltins "isinstance" = some (.builtin "isinstance") := by decide +kernel) (hn : x ≠ "__name__" := by decide) (hd : (x == ("__debug__" : Str)) = false := by decide) (hn3 : y ≠ "__name__" := by decide) (hd3 : (y == ("__debug__" : Str)) = false := by decide)
    (hs : starEach (a :: [.Tuple [.Name x p2, .Name y p3] x1 p4]) X.env = (false, eval a X.env) :: starEach [.Tuple [.Name x p2, .Name y p3] x1 p4] X.env := by rfl) : PE X (.Call (.Name "isinstance" p) [a, .Tuple [.Name x p2, .Name y p3] x1 p4] [] pos) (tM X.K cl W (mF (dIsi2 T U) [o])) :=
  (pe_callB call_isiT hg hm hv (pa_cons ha (pa_cons (pe_tup (pa_cons (pe_bltn (v := .ty T) hg2 hm2 hT rfl hn hd) (pa_cons (pe_bltn (v := .ty U) hg3 hm3 hU rfl hn3 hd3) pa_nil))) pa_nil) hs) (he := hs)).imp fun σ H Q q => isi2_of hk hu q
/-- e.bit_length() -/
theorem v_bits {K : PySem.W.Frag} : VR K (r1l fun x H Q => ∃ i, x = .int i ∧ Q (.int (Builtin.Int.intBits i : Nat)) H) dBits := by
  intro F H vs ds d Q e l hf q
  unfold dBits at hf
  split at hf
  · obtain ⟨x, rfl, p1⟩ := pk1 l
    cases hf
    exact ⟨x, rfl, _, p1.int_eq, ret0 e q (.int _)⟩
  · cases hf
theorem e_bits {apos : Pos} (ha : PE X a (tO X.K cl W o)) (hbase : attributeBase a "bit_length" X.env (eval a X.env) = eval a X.env := by rfl) (hline : (apos.endLine == pos.line) = true := by rfl) : PE X (.Call (.Attribute a "bit_length" apos) [] [] pos) (tM X.K cl W (mF dBits [o])) :=
  (pe_bits ha hbase hline).imp fun σ H Q q => op1_of v_bits q
end
end Lf

set_option Elab.async false
set_option linter.all false
set_option maxRecDepth 100000
/-! Lf5: statements, targets, loops. -/
namespace Lf
open PySem PySem.Spec PyProof.Rows L2

inductive RS where
  | nx (s : S0)
  | rt (d : D) (s : S0)
  | bk (s : S0)
  | ct (s : S0)
  | exc (c : Str) (d : D) (s : S0)
  | bad
def R.toS {α : Type} (r : R α) (k : α → S0 → RS) : RS := match r with
  | .ok a s => k a s
  | .exc c d s => .exc c d s
  | .bad => .bad
def RS.seq (r : RS) (k : S0 → RS) : RS := match r with
  | .nx s => k s
  | r => r
def PostS (K : PySem.W.Frag) (cl : Cl) (W : WX) (g : Gd) (F H : Hp) (A : Nat → Option Addr) (r : RS) (E : Ends) : Prop := match r with
  | .nx s' => ∀ F' H' A' σ', Step g F H A F' H' A' → Rel K g F' H' A' s' σ' → E.nx σ' H'
  | .bk s' => ∀ F' H' A' σ', Step g F H A F' H' A' → Rel K g F' H' A' s' σ' → E.bk σ' H'
  | .ct s' => ∀ F' H' A' σ', Step g F H A F' H' A' → Rel K g F' H' A' s' σ' → E.ct σ' H'
  | .rt d s' => ∀ F' H' A' σ' v, Step g F H A F' H' A' → Rel K g F' H' A' s' σ' → Da K F' v d → E.rt v H'
  | .exc c d s' => ∀ F' H' A' σ' v dp, Step g F H A F' H' A' → Rel K g F' H' A' s' σ' → Da K F' v d → H' dp = some (.xd [("thing", v)]) → W (.ref (cl c)) (some dp) σ' H'
  | .bad => False
abbrev MS := S0 → RS
def tS (K : PySem.W.Frag) (cl : Cl) (W : WX) (m : MS) : TS := fun E σ H => ∃ g F A s, Rel K g F H A s σ ∧ PostS K cl W g F H A (m s) E
section
variable {K : PySem.W.Frag} {cl : Cl} {W : WX} {g : Gd} {F H F' H' : Hp} {A A' : Nat → Option Addr} {σ : L2.St} {s s' : S0} {E E' : Ends} {α β : Type} {R1 : Hp → (Nat → Option Addr) → Hp → Hp → β → α → Prop}
theorem PostS.after {r : RS} (st : Step g F H A F' H' A') (h : PostS K cl W g F H A r E) : PostS K cl W g F' H' A' r E := by
  cases r with
  | nx s' => exact fun F2 H2 A2 σ' s2 r2 => h F2 H2 A2 σ' (st.trans s2) r2
  | bk s' => exact fun F2 H2 A2 σ' s2 r2 => h F2 H2 A2 σ' (st.trans s2) r2
  | ct s' => exact fun F2 H2 A2 σ' s2 r2 => h F2 H2 A2 σ' (st.trans s2) r2
  | rt d s' => exact fun F2 H2 A2 σ' v s2 r2 => h F2 H2 A2 σ' v (st.trans s2) r2
  | exc c d s' => exact fun F2 H2 A2 σ' v dp s2 r2 => h F2 H2 A2 σ' v dp (st.trans s2) r2
  | bad => exact h
theorem PostS.ofE {r : R α} {k : α → S0 → RS} {Q : β → Hp → Prop} (h : PostS K cl W g F H A (r.toS k) E)
    (hk : ∀ a s1 F' H' A' v, r = .ok a s1 → Step g F H A F' H' A' → Rel K g F' H' A' s1 σ → R1 H A' F' H' v a → PostS K cl W g F' H' A' (k a s1) E → Q v H') : Post K cl W R1 g F H A σ r Q := by
  cases r with
  | ok a s1 => exact fun F' H' A' v st rl l => hk a s1 F' H' A' v rfl st rl l (PostS.after st h)
  | exc c d s' => exact fun F' H' A' v dp st rl l e => h F' H' A' σ v dp st rl l e
  | bad => exact h
end
section
variable {X : Cx} {cl : Cl} {W : WX} {a b e : Expr} {es : List Expr} {o : Opd} {pos : Pos} {m : S0 → R D}

/-! ### blocks -/
def sNop : MS := fun s => .nx s
def sSeq (m k : MS) : MS := fun s => (m s).seq k
theorem seq_of {K : PySem.W.Frag} {m k : MS} {E : Ends} {σ : L2.St} {H : Hp} (q : tS K cl W (sSeq m k) E σ H) : tS K cl W m { E with nx := tS K cl W k E } σ H := by
  obtain ⟨g, F, A, s, rl, h⟩ := q
  refine ⟨g, F, A, s, rl, ?_⟩
  have h : PostS K cl W g F H A ((m s).seq k) E := h
  cases e : m s with
  | nx s1 =>
    rw [e] at h
    exact fun F' H' A' σ' st rl' => ⟨g, F', A', s1, rl', PostS.after st h⟩
  | bk s1 => rw [e] at h; exact h
  | ct s1 => rw [e] at h; exact h
  | rt d s1 => rw [e] at h; exact h
  | exc c d s1 => rw [e] at h; exact h
  | bad => rw [e] at h; exact h
theorem nop_of {K : PySem.W.Frag} {E : Ends} {σ : L2.St} {H : Hp} (q : tS K cl W sNop E σ H) : tNext E σ H := by
  obtain ⟨g, F, A, s, rl, h⟩ := q
  exact h F H A σ .refl rl
theorem b_nil : PSs X [] (tS X.K cl W sNop) := pss_nil.imp fun E σ H q => nop_of q
theorem b_cons {st : Stmt} {rest : List Stmt} {m k : MS} (h1 : PS X st (tS X.K cl W m)) (h2 : PSs X rest (tS X.K cl W k)) : PSs X (st :: rest) (tS X.K cl W (sSeq m k)) := (pss_cons h1 h2).imp fun E σ H q => seq_of q
theorem b_one {st : Stmt} {m : MS} (h1 : PS X st (tS X.K cl W m)) : PSs X [st] (tS X.K cl W m) := pss_one h1
def sBk : MS := fun s => .bk s
def sCt : MS := fun s => .ct s
theorem s_pass : PS X (.Pass pos) (tS X.K cl W sNop) := ps_pass.imp fun E σ H q => nop_of q
theorem s_break : PS X (.Break pos) (tS X.K cl W sBk) := ps_break.imp fun E σ H ⟨g, F, A, s, rl, h⟩ => h F H A σ .refl rl
theorem s_continue : PS X (.Continue pos) (tS X.K cl W sCt) := ps_continue.imp fun E σ H ⟨g, F, A, s, rl, h⟩ => h F H A σ .refl rl
def sRet (m : S0 → R D) : MS := fun s => (m s).toS fun d s1 => .rt d s1
theorem s_ret (h : PE X e (tM X.K cl W m)) : PS X (.Return (some e) pos) (tS X.K cl W (sRet m)) := (ps_ret h).imp fun E σ H ⟨g, F, A, s, rl, h⟩ =>
  ⟨g, F, A, s, rl, PostS.ofE (R1 := rDa X.K) h fun d s1 F' H' A' v e st rl' l h' => h' F' H' A' σ v .refl rl' l⟩
theorem s_retN : PS X (.Return none pos) (tS X.K cl W fun s => .rt .none s) := ps_retN.imp fun E σ H ⟨g, F, A, s, rl, h⟩ => h F H A σ .non .refl rl .non
def sDrop (m : S0 → R D) : MS := fun s => (m s).toS fun _ s1 => .nx s1
theorem s_expr (h : PE X e (tM X.K cl W m)) (hs : swapsWith e none pos.line X.env = pure false := by rfl) : PS X (.Expr e pos) (tS X.K cl W (sDrop m)) := (ps_expr h hs).imp fun E σ H ⟨g, F, A, s, rl, h⟩ =>
  ⟨g, F, A, s, rl, PostS.ofE (R1 := rDa X.K) h fun d s1 F' H' A' v e st rl' l h' => h' F' H' A' σ .refl rl'⟩
def sIf (t : S0 → R Bool) (m k : MS) : MS := fun s => (t s).toS fun b s1 => if b then m s1 else k s1
theorem s_if {c : Expr} {t : S0 → R Bool} {a b : List Stmt} {m k : MS} (hc : PT X c (tT X.K cl W t)) (ha : PSs X a (tS X.K cl W m)) (hb : PSs X b (tS X.K cl W k)) : PS X (.If c a b pos) (tS X.K cl W (sIf t m k)) := (ps_if hc ha hb).imp fun E σ H ⟨g, F, A, s, rl, h⟩ => by
  refine ⟨g, F, A, s, rl, PostS.ofE (R1 := rBo) h fun c s1 F' H' A' v e st rl' l h' => ?_⟩
  cases (show v = c from l)
  cases c with
  | true => exact ⟨g, F', A', s1, rl', h'⟩
  | false => exact ⟨g, F', A', s1, rl', h'⟩

/-! ### targets -/
inductive Pat where
  | nm (i : Nat)
  | tup (ps : List Pat)
mutual
def asgP : Pat → D → List SV → Option (List SV)
  | .nm i, d, ρ => if i < ρ.length then some (ρ.set i (.dat d)) else none
  | .tup ps, .tuple ds, ρ => if ps.length = ds.length then asgPs ps ds ρ else none
  | .tup _, _, _ => none
def asgPs : List Pat → List D → List SV → Option (List SV)
  | p :: ps, d :: ds, ρ => (asgP p d ρ).bind fun ρ' => asgPs ps ds ρ'
  | [], [], ρ => some ρ
  | _, _, _ => none
end
def gP (K : PySem.W.Frag) (p : Pat) : TG := fun v σ H Q => ∃ g F A s d, Rel K g F H A s σ ∧ Da K F v d ∧ (match asgP p d s.ρ with
  | some ρ' => ∀ A' σ', (∀ i b, A' i = some b → ∃ j, A j = some b) → Rel K g F H A' { s with ρ := ρ' } σ' → Q σ' H
  | none => False)
def gPs (K : PySem.W.Frag) (ps : List Pat) : TGs := fun vs σ H Q => ∃ g F A s ds, Rel K g F H A s σ ∧ DaS K F vs ds ∧ (match asgPs ps ds s.ρ with
  | some ρ' => ∀ A' σ', (∀ i b, A' i = some b → ∃ j, A j = some b) → Rel K g F H A' { s with ρ := ρ' } σ' → Q σ' H
  | none => False)
theorem PG.imp {X : Cx} {e : Expr} {t t' : TG} (h : PG X e t) (i : ∀ v σ H Q, t' v σ H Q → t v σ H Q) : PG X e t' := ⟨fun pins s σ H v u Q I r q => h.run pins s σ H v u Q I r (i v σ H Q q)⟩
theorem PGs.imp {X : Cx} {e : List Expr} {t t' : TGs} (h : PGs X e t) (i : ∀ v σ H Q, t' v σ H Q → t v σ H Q) : PGs X e t' := ⟨fun pins s σ H v u Q I r q => h.run pins s σ H v u Q I r (i v σ H Q q)⟩
theorem Rel.setP {K : PySem.W.Frag} {g : Gd} {F H : Hp} {A : Nat → Option Addr} {s : S0} {σ : L2.St} (r : Rel K g F H A s σ) {i : Nat} {d : D} {v : V} (h : Da K F v d) (hi : i < s.ρ.length) : ∀ j b, setA A i none j = some b → ∃ k, A k = some b := fun j b e => by
  by_cases q : j = i
  · rw [q, setA_same] at e
    cases e
  · rw [setA_ne q] at e
    exact ⟨j, e⟩
theorem g_name {i : Nat} {x : Str} (hN : X.N.Nodup) (hi : X.N[i]? = some x) (hx : Loc X.env.scope x) (hf : X.fn x = true ∨ X.env.scope.names.lookup x = some .local := by first | exact .inl rfl | exact .inr rfl | assumption) : PG X (.Name x pos) (gP X.K (.nm i)) :=
  PG.imp (pg_name hN hi hx hf) fun v σ H Q q => by
    obtain ⟨g, F, A, s, d, rl, da, h⟩ := q
    have h : (match (if i < s.ρ.length then some (s.ρ.set i (.dat d)) else none : Option (List SV)) with
      | some ρ' => ∀ A' σ', (∀ i b, A' i = some b → ∃ j, A j = some b) → Rel X.K g F H A' { s with ρ := ρ' } σ' → Q σ' H
      | none => False) := by simpa only [asgP] using h
    by_cases hl : i < s.ρ.length
    · rw [if_pos hl] at h
      exact h _ _ (rl.setP da hl) (rl.setD da hl)
    · rw [if_neg hl] at h
      exact h.elim
theorem gs_nil : PGs X [] (gPs X.K []) := PGs.imp pgs_nil fun vs σ H Q q => by
  obtain ⟨g, F, A, s, ds, rl, da, h⟩ := q
  cases da with
  | nil =>
    refine ⟨rfl, ?_⟩
    have h : ∀ A' σ', (∀ i b, A' i = some b → ∃ j, A j = some b) → Rel X.K g F H A' { s with ρ := s.ρ } σ' → Q σ' H := by simpa only [asgPs] using h
    exact h A σ (fun i b e => ⟨i, e⟩) rl
  | cons _ _ =>
    simp only [asgPs] at h
theorem gs_cons {p : Pat} {ps : List Pat} (h1 : PG X e (gP X.K p)) (h2 : PGs X es (gPs X.K ps)) (hs : (assignEach (e :: es) X.env).map (·.2) = assign e X.env :: (assignEach es X.env).map (·.2) := by rfl) : PGs X (e :: es) (gPs X.K (p :: ps)) :=
  PGs.imp (pgs_cons h1 h2 hs) fun vs σ H Q q => by
    obtain ⟨g, F, A, s, ds, rl, da, h⟩ := q
    cases da with
    | nil => simp only [asgPs] at h
    | cons d1 dr =>
      rename_i v vr d dr'
      refine ⟨v, vr, rfl, g, F, A, s, d, rl, d1, ?_⟩
      simp only [asgPs] at h
      cases e1 : asgP p d s.ρ with
      | none =>
        rw [e1] at h
        exact h.elim
      | some ρ1 =>
        rw [e1] at h
        intro A1 σ1 a1 r1
        refine ⟨g, F, A1, _, dr', r1, dr, ?_⟩
        have h : (match asgPs ps dr' ρ1 with
          | some ρ' => ∀ A' σ', (∀ i b, A' i = some b → ∃ j, A j = some b) → Rel X.K g F H A' { s with ρ := ρ' } σ' → Q σ' H
          | none => False) := h
        show (match asgPs ps dr' ρ1 with
          | some ρ' => ∀ A' σ', (∀ i b, A' i = some b → ∃ j, A1 j = some b) → Rel X.K g F H A' { s with ρ := ρ' } σ' → Q σ' H
          | none => False)
        cases e2 : asgPs ps dr' ρ1 with
        | none =>
          rw [e2] at h
          exact h.elim
        | some ρ2 =>
          rw [e2] at h
          exact fun A' σ' a2 r2 => h A' σ' (fun i b z => by
            obtain ⟨j, z2⟩ := a2 i b z
            exact a1 j b z2) r2
theorem g_tup {k : Nat} {ps : List Pat} {n : Nat} (hc : X.calm = true) (h : PGs X es (gPs X.K ps)) (hn : (assignEach es X.env).length = n := by rfl) (hl : ps.length = n := by rfl) (hst : (assignEach es X.env).findIdx? (·.1) = none := by rfl) : PG X (.Tuple es k pos) (gP X.K (.tup ps)) :=
  PG.imp (pg_tup hc h hn hst) fun v σ H Q q => by
    obtain ⟨g, F, A, s, d, rl, da, h⟩ := q
    cases da with
    | tup hq r =>
      rename_i a vs ds
      simp only [asgP] at h
      by_cases e1 : ps.length = ds.length
      · rw [if_pos e1] at h
        exact ⟨a, vs, rfl, sqt_mono rl.same hq, by rw [r.length, ← e1, hl], g, F, A, s, ds, rl, r, h⟩
      · rw [if_neg e1] at h
        exact h.elim
    | _ => simp only [asgP] at h
theorem st_own {g : Gd} {F H : Hp} {A A' : Nat → Option Addr} (h : ∀ i b, A' i = some b → ∃ j, A j = some b) : Step g F H A F H A' :=
  ⟨Same.refl F, fun b h => .inl h, fun b o h _ _ => h, fun i b e => .inl (h i b e), fun _ h => h⟩
/-- target = data -/
def sPat (p : Pat) (m : S0 → R D) : MS := fun s => (m s).toS fun d s1 => match asgP p d s1.ρ with
  | some ρ' => .nx { s1 with ρ := ρ' }
  | none => .bad
theorem pat_of {K : PySem.W.Frag} {p : Pat} {E : Ends} {σ : L2.St} {H : Hp} (q : tS K cl W (sPat p m) E σ H) : tAsg (tM K cl W m) (gP K p) E σ H := by
  obtain ⟨g, F, A, s, rl, h⟩ := q
  refine ⟨g, F, A, s, rl, PostS.ofE (R1 := rDa K) h fun d s1 F' H' A' v e st rl' l h' => ⟨g, F', A', s1, d, rl', l, ?_⟩⟩
  cases e1 : asgP p d s1.ρ with
  | none =>
    rw [e1] at h'
    exact h'.elim
  | some ρ' =>
    rw [e1] at h'
    exact fun A2 σ2 a2 r2 => h' F' H' A2 σ2 (st_own a2) r2
theorem s_asg {tg : Expr} {p : Pat} (he : PE X e (tM X.K cl W m)) (hg : PG X tg (gP X.K p)) (hs : swapsWithSole [tg] e pos.line X.env = pure false := by rfl) (hw : swappedStores [tg] e X.env = pure none := by rfl)
    (h1 : (assignEach [tg] X.env).map (·.2) = [assign tg X.env] := by rfl) : PS X (.Assign [tg] e pos) (tS X.K cl W (sPat p m)) := (ps_asg he hg hs hw h1).imp fun E σ H q => pat_of q
/-- name = data -/
def sSet (i : Nat) (m : S0 → R D) : MS := fun s => (m s).toS fun d s1 => if i < s1.ρ.length then .nx { s1 with ρ := s1.ρ.set i (.dat d) } else .bad
theorem s_set {i : Nat} {x : Str} {pos' : Pos} (hN : X.N.Nodup) (hi : X.N[i]? = some x) (hx : Loc X.env.scope x) (he : PE X e (tM X.K cl W m)) (hs : swapsWith e (some (.Name x pos')) pos.line X.env = pure false := by rfl) (hf : X.fn x = true ∨ X.env.scope.names.lookup x = some .local := by first | exact .inl rfl | exact .inr rfl | assumption) :
    PS X (.Assign [.Name x pos'] e pos) (tS X.K cl W (sSet i m)) := (ps_set hN hi hx he hs hf).imp fun E σ H ⟨g, F, A, s, rl, h⟩ =>
  ⟨g, F, A, s, rl, PostS.ofE (R1 := rDa X.K) h fun d s1 F' H' A' v e st rl' l h' => by
    split at h'
    · rename_i hl
      exact h' F' H' _ _ (st_own (rl'.setP l hl)) (rl'.setD l hl)
    · exact h'.elim⟩
/-- name = a new list, which the name alone holds -/
def sSetN (i : Nat) (n : S0 → R (List D)) : MS := fun s => (n s).toS fun ds s1 => if i < s1.ρ.length then .nx { s1 with ρ := s1.ρ.set i (.lst ds) } else .bad
theorem s_setN {i : Nat} {x : Str} {pos' : Pos} {n : S0 → R (List D)} (hN : X.N.Nodup) (hi : X.N[i]? = some x) (hx : Loc X.env.scope x) (he : PE X e (tNl X.K cl W n)) (hs : swapsWith e (some (.Name x pos')) pos.line X.env = pure false := by rfl) (hf : X.fn x = true ∨ X.env.scope.names.lookup x = some .local := by first | exact .inl rfl | exact .inr rfl | assumption) :
    PS X (.Assign [.Name x pos'] e pos) (tS X.K cl W (sSetN i n)) := (ps_set hN hi hx he hs hf).imp fun E σ H ⟨g, F, A, s, rl, h⟩ => by
  refine ⟨g, F, A, s, rl, ?_⟩
  have h : PostS X.K cl W g F H A ((n s).toS fun ds s1 => if i < s1.ρ.length then .nx { s1 with ρ := s1.ρ.set i (.lst ds) } else .bad) E := h
  cases e1 : n s with
  | bad =>
    rw [e1] at h
    exact h
  | exc c d s' =>
    rw [e1] at h
    exact fun F' H' A' v dp st rl l e => h F' H' A' σ v dp st rl l e
  | ok ds s1 =>
    rw [e1] at h
    intro F' H' A' v st rl' nl
    have h : PostS X.K cl W g F H A (if i < s1.ρ.length then .nx { s1 with ρ := s1.ρ.set i (.lst ds) } else .bad) E := h
    obtain ⟨p, vs, rfl, h1, h2, h3, h4, h5, h6⟩ := nl
    by_cases hl : i < s1.ρ.length
    · rw [if_pos hl] at h
      have nz : ¬ Fz H' p := fz_no h5 id
      refine h F' H' (setA A' i (some p)) _ ⟨st.ff, st.fn, st.fr, fun j b z => ?_, st.tr⟩ (rl'.set (sv := .lst ds) ⟨p, vs, rfl, rfl, h5, h6⟩ hl fun b z => ?_)
      · by_cases q : j = i
        · rw [q, setA_same] at z
          cases z
          exact .inr h1
        · rw [setA_ne q] at z
          exact st.an j b z
      · cases z
        exact ⟨h4, nz, h3, fun j _ => h2 j⟩
    · rw [if_neg hl] at h
      exact h.elim
end
end Lf

set_option Elab.async false
set_option linter.all false
set_option maxRecDepth 100000
/-! Lf6: loops. -/
namespace Lf
open PySem PySem.Spec PyProof.Rows L2

/-- what is walked gives these data, one a turn, as long as F0 stands -/
structure ItOk (K : PySem.W.Frag) (J : It) (ds : List D) (F0 : Hp) : Prop where
  go : ∀ (i : Nat) (F H : Hp), Same F0 F → Same F H → i < ds.length → J.go i H
  yld : ∀ (i : Nat) (F H : Hp) (x : V) (H' : Hp) (d : D), Same F0 F → Same F H → ds[i]? = some d → J.yld i H x H' → ∃ F', Nw F H F' H' ∧ Da K F' x d
  stop : ∀ (F H : Hp), Same F0 F → Same F H → J.stop ds.length H
def iM (K : PySem.W.Frag) (cl : Cl) (W : WX) (mi : S0 → R (List D)) : TI := fun σ H Rr => ∃ g F A s, Rel K g F H A s σ ∧ (match mi s with
  | .ok ds s1 => ∀ J F' H' A', Step g F H A F' H' A' → Rel K g F' H' A' s1 σ → ItOk K J ds F' → Rr J H'
  | .exc c d s' => ∀ F' H' A' v dp, Step g F H A F' H' A' → Rel K g F' H' A' s' σ → Da K F' v d → H' dp = some (.xd [("thing", v)]) → W (.ref (cl c)) (some dp) σ H'
  | .bad => False)
theorem PI.imp {X : Cx} {tg e : Expr} {t t' : TI} (h : PI X tg e t) (i : ∀ σ H Q, t' σ H Q → t σ H Q) : PI X tg e t' := ⟨fun pins s σ H Q I q => h.run pins s σ H Q I (i σ H Q q)⟩
/-- the items of data -/
def items : D → Option (List D)
  | .list ds => some ds
  | .tuple ds => some ds
  | _ => none
section
variable {K : PySem.W.Frag} {F0 : Hp} {a : Addr} {vs : List V} {ds : List D}
theorem it_list (h : F0 a = some (.lst vs)) (r : DaS K F0 vs ds) : ItOk K (Itl K a) ds F0 where
  go := fun i F H e1 e2 hi => by
    have hl : i < vs.length := by rw [r.length]; exact hi
    exact ⟨vs, vs[i], .of (e2 _ _ (e1 _ _ h)), by simp [hl]⟩
  yld := fun i F H x H' d e1 e2 hd y => by
    obtain ⟨rfl, y⟩ := y
    obtain ⟨v, h1, h2⟩ := r.get hd
    have h3 := y vs (.of (e2 _ _ (e1 _ _ h)))
    rw [h1] at h3
    cases h3
    exact ⟨F, .refl e2, h2.mono e1⟩
  stop := fun F H e1 e2 => ⟨vs, .of (e2 _ _ (e1 _ _ h)), by rw [r.length]; exact Nat.le_refl _⟩
theorem it_tup (h : SqT K F0 a vs) (r : DaS K F0 vs ds) : ItOk K (Itt K a) ds F0 where
  go := fun i F H e1 e2 hi => by
    have hl : i < vs.length := by rw [r.length]; exact hi
    exact ⟨vs, vs[i], sqt_mono e2 (sqt_mono e1 h), by simp [hl]⟩
  yld := fun i F H x H' d e1 e2 hd y => by
    obtain ⟨rfl, y⟩ := y
    obtain ⟨v, h1, h2⟩ := r.get hd
    have h3 := y vs (sqt_mono e2 (sqt_mono e1 h))
    rw [h1] at h3
    cases h3
    exact ⟨F, .refl e2, h2.mono e1⟩
  stop := fun F H e1 e2 => ⟨vs, sqt_mono e2 (sqt_mono e1 h), by rw [r.length]; exact Nat.le_refl _⟩
def rangeD (lo : Int) (n : Nat) : List D := (List.range n).map fun (i : Nat) => PyData.int (lo + (i : Int))
theorem rangeD_get {lo : Int} {n i : Nat} {d : D} (h : (rangeD lo n)[i]? = some d) : i < n ∧ d = .int (lo + (i : Int)) := by
  unfold rangeD at h
  rw [List.getElem?_map] at h
  by_cases hi : i < n
  · rw [List.getElem?_range hi] at h
    exact ⟨hi, (Option.some.inj h).symm⟩
  · rw [List.getElem?_eq_none (by simpa using Nat.le_of_not_lt hi)] at h
    cases h
theorem it_range {lo : Int} {n : Nat} : ItOk K (Itr lo n) (rangeD lo n) F0 where
  go := fun i F H e1 e2 hi => by
    have : i < n := by simpa [rangeD] using hi
    exact this
  yld := fun i F H x H' d e1 e2 hd y => by
    obtain ⟨rfl, rfl⟩ := y
    obtain ⟨_, rfl⟩ := rangeD_get hd
    exact ⟨F, .refl e2, .int _⟩
  stop := fun F H e1 e2 => by
    show n ≤ (rangeD lo n).length
    simp [rangeD]
theorem nw_pair {F H : Hp} {T : Addr} {x y : V} {d e : D} (s : Same F H) (hT : H T = none) (h1 : Da K F x d) (h2 : Da K F y e) : ∃ F', Nw F H F' (upd H T (.tup [x, y])) ∧ Da K F' (.ref T) (.tuple [d, e]) := by
  have n := Nw.new (o := .tup [x, y]) s hT
  exact ⟨_, n, .tup (.inl (.inl upd_same)) (.cons (h1.mono n.ff) (.cons (h2.mono n.ff) .nil))⟩
def enumD (ds : List D) : List D := ds.zipIdx.map fun p => PyData.tuple [.int (p.2 : Nat), p.1]
theorem enumD_get {ds : List D} {i : Nat} {d : D} (h : (enumD ds)[i]? = some d) : ∃ e, ds[i]? = some e ∧ d = .tuple [.int (i : Nat), e] := by
  unfold enumD at h
  rw [List.getElem?_map, List.getElem?_zipIdx] at h
  cases e : ds[i]? with
  | none =>
    rw [e] at h
    cases h
  | some z =>
    rw [e] at h
    refine ⟨z, rfl, ?_⟩
    have h := Option.some.inj h
    simpa using h.symm
theorem it_enum (h : F0 a = some (.lst vs)) (r : DaS K F0 vs ds) : ItOk K (Ite K a) (enumD ds) F0 where
  go := fun i F H e1 e2 hi => by
    have hl : i < vs.length := by rw [r.length]; simpa [enumD] using hi
    exact ⟨vs, vs[i], .of (e2 _ _ (e1 _ _ h)), by simp [hl]⟩
  yld := fun i F H x H' d e1 e2 hd y => by
    obtain ⟨T, z, rfl, hT, rfl, y⟩ := y
    obtain ⟨e, he, rfl⟩ := enumD_get hd
    obtain ⟨v, h1, h2⟩ := r.get he
    have h3 := y vs (.of (e2 _ _ (e1 _ _ h)))
    rw [h1] at h3
    cases h3
    exact nw_pair e2 hT (.int _) (h2.mono e1)
  stop := fun F H e1 e2 => ⟨vs, .of (e2 _ _ (e1 _ _ h)), by rw [r.length]; simp [enumD]⟩
end
section
variable {X : Cx} {cl : Cl} {W : WX} {a b e tg : Expr} {es : List Expr} {o : Opd} {pos : Pos} {m : S0 → R D}
def mItL (m : S0 → R D) : S0 → R (List D) := fun s => (m s).bind fun d s1 => match d with
  | .list ds => .ok ds s1
  | _ => .bad
def mItT (m : S0 → R D) : S0 → R (List D) := fun s => (m s).bind fun d s1 => match d with
  | .tuple ds => .ok ds s1
  | _ => .bad
theorem iM_of {K : PySem.W.Frag} {α : Type} {m : S0 → R α} {k : α → S0 → R (List D)} {β : Type} {R1 : Hp → (Nat → Option Addr) → Hp → Hp → β → α → Prop} {Q1 : β → Hp → Prop} {g : Gd} {F H : Hp} {A : Nat → Option Addr} {s : S0} {σ : L2.St} {Rr : It → Hp → Prop}
    (h : match (m s).bind k with
      | .ok ds s1 => ∀ J F' H' A', Step g F H A F' H' A' → Rel K g F' H' A' s1 σ → ItOk K J ds F' → Rr J H'
      | .exc c d s' => ∀ F' H' A' v dp, Step g F H A F' H' A' → Rel K g F' H' A' s' σ → Da K F' v d → H' dp = some (.xd [("thing", v)]) → W (.ref (cl c)) (some dp) σ H'
      | .bad => False)
    (hk : ∀ a s1 F' H' A' v, m s = .ok a s1 → Step g F H A F' H' A' → Rel K g F' H' A' s1 σ → R1 H A' F' H' v a → (match k a s1 with
      | .ok ds s1 => ∀ J F2 H2 A2, Step g F' H' A' F2 H2 A2 → Rel K g F2 H2 A2 s1 σ → ItOk K J ds F2 → Rr J H2
      | .exc c d s' => ∀ F2 H2 A2 v dp, Step g F' H' A' F2 H2 A2 → Rel K g F2 H2 A2 s' σ → Da K F2 v d → H2 dp = some (.xd [("thing", v)]) → W (.ref (cl c)) (some dp) σ H2
      | .bad => False) → Q1 v H') : Post K cl W R1 g F H A σ (m s) Q1 := by
  cases e : m s with
  | bad =>
    rw [e] at h
    exact h.elim
  | exc c d s' =>
    rw [e] at h
    exact h
  | ok a s1 =>
    rw [e] at h
    intro F' H' A' v st rl l
    refine hk a s1 F' H' A' v e st rl l ?_
    have h : (match k a s1 with
      | .ok ds s1 => ∀ J F' H' A', Step g F H A F' H' A' → Rel K g F' H' A' s1 σ → ItOk K J ds F' → Rr J H'
      | .exc c d s' => ∀ F' H' A' v dp, Step g F H A F' H' A' → Rel K g F' H' A' s' σ → Da K F' v d → H' dp = some (.xd [("thing", v)]) → W (.ref (cl c)) (some dp) σ H'
      | .bad => False) := h
    cases e2 : k a s1 with
    | bad =>
      rw [e2] at h
      exact h.elim
    | exc c d s' =>
      rw [e2] at h
      exact fun F2 H2 A2 v dp s2 => h F2 H2 A2 v dp (st.trans s2)
    | ok ds s2 =>
      rw [e2] at h
      exact fun J F2 H2 A2 st2 => h J F2 H2 A2 (st.trans st2)
theorem i_list (h : PE X e (tM X.K cl W m)) : PI X tg e (iM X.K cl W (mItL m)) := PI.imp (pi_list h) fun σ H Rr ⟨g, F, A, s, rl, q⟩ => by
  refine ⟨g, F, A, s, rl, iM_of (R1 := rDa X.K) q fun d s1 F' H' A' v e st rl' l h' => ?_⟩
  cases l with
  | lst h r => exact ⟨_, rfl, ⟨_, .of (rl'.same _ _ h)⟩, h' _ F' H' A' .refl rl' (it_list h r)⟩
  | _ => exact h'.elim
theorem i_tup (h : PE X e (tM X.K cl W m)) : PI X tg e (iM X.K cl W (mItT m)) := PI.imp (pi_tup h) fun σ H Rr ⟨g, F, A, s, rl, q⟩ => by
  refine ⟨g, F, A, s, rl, iM_of (R1 := rDa X.K) q fun d s1 F' H' A' v e st rl' l h' => ?_⟩
  cases l with
  | tup h r => exact ⟨_, rfl, ⟨_, sqt_mono rl'.same h⟩, h' _ F' H' A' .refl rl' (it_tup h r)⟩
  | _ => exact h'.elim
def mRange1 (o : Opd) : S0 → R (List D) := fun s => (evalO [o] s).bind fun ds s1 => match ds with
  | [.int n] => if -(2 ^ 62) ≤ n ∧ n < 2 ^ 62 then .ok (rangeD 0 n.toNat) s1 else .bad
  | _ => .bad
def mRange2 (o o' : Opd) : S0 → R (List D) := fun s => (evalO [o, o'] s).bind fun ds s1 => match ds with
  | [.int lo, .int n] => if -(2 ^ 62) ≤ lo ∧ lo < 2 ^ 62 ∧ -(2 ^ 62) ≤ n ∧ n < 2 ^ 62 then .ok (rangeD lo (n - lo).toNat) s1 else .bad
  | _ => .bad
theorem i_range1 {p : Pos} (hg : Gl X "range") (hm : X.mg "range" = none) (ha : PA X [a] (tAs X.K cl W [o])) (hs : starEach [a] X.env = [(false, eval a X.env)] := by rfl) : PI X tg (.Call (.Name "range" p) [a] [] pos) (iM X.K cl W (mRange1 o)) :=
  PI.imp (pi_range1 hg hm ha hs) fun σ H Rr ⟨g, F, A, s, rl, q⟩ => by
    refine args_of [o] σ H _ ⟨g, F, A, s, rl, iM_of (R1 := rPkS X.K) q fun d s1 F' H' A' v e st rl' l h' => ?_⟩
    split at h'
    · rename_i q
      split at q
      · rename_i d' n
        split at q
        · rename_i hb
          cases q
          obtain ⟨x, rfl, p1⟩ := pk1 l
          exact ⟨n, by rw [p1.int_eq], hb.1, hb.2, h' _ F' H' A' .refl rl' it_range⟩
        · cases q
      · cases q
    · rename_i q
      split at q
      · split at q <;> cases q
      · cases q
    · exact h'.elim
theorem i_range2 {p : Pos} {o' : Opd} (hg : Gl X "range") (hm : X.mg "range" = none) (ha : PA X [a, b] (tAs X.K cl W [o, o'])) (hs : starEach [a, b] X.env = [(false, eval a X.env), (false, eval b X.env)] := by rfl) (hs2 : starEach [b] X.env = [(false, eval b X.env)] := by rfl) : PI X tg (.Call (.Name "range" p) [a, b] [] pos) (iM X.K cl W (mRange2 o o')) :=
  PI.imp (pi_range2 hg hm ha hs hs2) fun σ H Rr ⟨g, F, A, s, rl, q⟩ => by
    refine args_of [o, o'] σ H _ ⟨g, F, A, s, rl, iM_of (R1 := rPkS X.K) q fun d s1 F' H' A' v e st rl' l h' => ?_⟩
    split at h'
    · rename_i q
      split at q
      · rename_i d' lo n
        split at q
        · rename_i hb
          cases q
          obtain ⟨x, y, rfl, p1, p2⟩ := pk2 l
          exact ⟨lo, n, by rw [p1.int_eq, p2.int_eq], hb, h' _ F' H' A' .refl rl' it_range⟩
        · cases q
      · cases q
    · rename_i q
      split at q
      · split at q <;> cases q
      · cases q
    · exact h'.elim
def mEnumL (m : S0 → R D) : S0 → R (List D) := fun s => (m s).bind fun d s1 => match d with
  | .list ds => .ok (enumD ds) s1
  | _ => .bad
theorem i_enumL {p tpos : Pos} {elts : List Expr} {kk : Nat} (hg : Gl X "enumerate") (hm : X.mg "enumerate" = none) (ha : PE X a (tM X.K cl W m)) (hs : starEach [a] X.env = [(false, eval a X.env)] := by rfl) : PI X (.Tuple elts kk tpos) (.Call (.Name "enumerate" p) [a] [] pos) (iM X.K cl W (mEnumL m)) :=
  PI.imp (pi_enum hg hm (pa_cons ha pa_nil (hs.trans rfl)) hs) fun σ H Rr ⟨g, F, A, s, rl, q⟩ => by
    refine ⟨g, F, A, s, rl, iM_of (R1 := rDa X.K) q fun d s1 F' H' A' v e st rl' l h' => ?_⟩
    cases l with
    | lst h r => exact ⟨_, _, rfl, .of (rl'.same _ _ h), h' _ F' H' A' .refl rl' (it_enum h r)⟩
    | _ => exact h'.elim

/-! ### for -/
def forL (p : Pat) (body : MS) : List D → MS
  | [], s => .nx s
  | d :: r, s => match asgP p d s.ρ with
    | none => .bad
    | some ρ' => match body { s with ρ := ρ' } with
      | .nx s' => forL p body r s'
      | .ct s' => forL p body r s'
      | .bk s' => .nx s'
      | x => x
def sFor (mi : S0 → R (List D)) (p : Pat) (body : MS) : MS := fun s => (mi s).toS fun ds s1 => forL p body ds s1
theorem for_of {K : PySem.W.Frag} {mi : S0 → R (List D)} {p : Pat} {body : MS} {E : Ends} {σ : L2.St} {H : Hp} (q : tS K cl W (sFor mi p body) E σ H) : tFor (iM K cl W mi) (gP K p) (tS K cl W body) E σ H := by
  obtain ⟨g, F, A, s, rl, h⟩ := q
  refine ⟨g, F, A, s, rl, ?_⟩
  have h : PostS K cl W g F H A ((mi s).toS fun ds s1 => forL p body ds s1) E := h
  cases e : mi s with
  | bad =>
    rw [e] at h
    exact h
  | exc c d s' =>
    rw [e] at h
    exact fun F' H' A' v dp st rl l e => h F' H' A' σ v dp st rl l e
  | ok ds s1 =>
    rw [e] at h
    intro J F0 H0 A0 st0 rl0 ok
    have h0 : PostS K cl W g F0 H0 A0 (forL p body ds s1) E := PostS.after st0 h
    refine ⟨fun i m σ H => m = ds.length - i ∧ i ≤ ds.length ∧ ∃ F A s, Same F0 F ∧ Rel K g F H A s σ ∧ PostS K cl W g F H A (forL p body (ds.drop i) s) E, ⟨_, rfl, Nat.zero_le _, F0, A0, s1, Same.refl F0, rl0, h0⟩, ?_⟩
    rintro i m σ2 H2 ⟨rfl, hi, F2, A2, s2, sm, r2, h2⟩
    by_cases hl : i < ds.length
    · refine .inr ⟨ok.go i F2 H2 sm r2.same hl, fun σ' H' => ∃ F A s, Same F0 F ∧ Rel K g F H' A s σ' ∧ PostS K cl W g F H' A (forL p body (ds.drop (i + 1)) s) E, fun σ' H' n => ⟨_, by omega, rfl, hl, n⟩, fun x H3 y => ?_⟩
      have hd : ds[i]? = some ds[i] := List.getElem?_eq_getElem hl
      obtain ⟨F3, n3, da⟩ := ok.yld i F2 H2 x H3 _ sm r2.same hd y
      have r3 := r2.nw n3
      have ed : ds.drop i = ds[i] :: ds.drop (i + 1) := List.drop_eq_getElem_cons hl
      rw [ed] at h2
      have h3 := PostS.after (n3.step (A := A2) (g := g)) h2
      refine ⟨g, F3, A2, s2, _, r3, da, ?_⟩
      unfold forL at h3
      cases e1 : asgP p ds[i] s2.ρ with
      | none =>
        rw [e1] at h3
        exact h3
      | some ρ' =>
        rw [e1] at h3
        intro A4 σ4 a4 r4
        have h4 := PostS.after (st_own (g := g) (F := F3) (H := H3) a4) h3
        refine ⟨g, F3, A4, _, r4, ?_⟩
        dsimp only at h4
        cases e2 : body { s2 with ρ := ρ' } with
        | nx s' =>
          rw [e2] at h4
          exact fun F5 H5 A5 σ5 st5 r5 => ⟨F5, A5, s', (sm.trans n3.ff).trans st5.ff, r5, PostS.after st5 h4⟩
        | ct s' =>
          rw [e2] at h4
          exact fun F5 H5 A5 σ5 st5 r5 => ⟨F5, A5, s', (sm.trans n3.ff).trans st5.ff, r5, PostS.after st5 h4⟩
        | bk s' =>
          rw [e2] at h4
          exact h4
        | rt d s' =>
          rw [e2] at h4
          exact h4
        | exc c d s' =>
          rw [e2] at h4
          exact h4
        | bad =>
          rw [e2] at h4
          exact h4
    · have e1 : i = ds.length := by omega
      subst e1
      refine .inl ⟨ok.stop F2 H2 sm r2.same, ?_⟩
      rw [List.drop_length] at h2
      exact h2 F2 H2 A2 σ2 .refl r2
theorem s_for {iter : Expr} {body : List Stmt} {mi : S0 → R (List D)} {p : Pat} {mb : MS} (hp : PassesOwn (model X.prog X.w) X.A X.env X.xe) (hc : X.calm = true) (hi : PI X tg iter (iM X.K cl W mi)) (hg : PG X tg (gP X.K p)) (hb : PSs X body (tS X.K cl W mb)) (hs : ∀ x, foldedSetIterable iter X.env x = pure x := by intro _; rfl) :
    PS X (.For tg iter body [] pos) (tS X.K cl W (sFor mi p mb)) := (ps_for hp hc hi hg hb hs).imp fun E σ H q => for_of q

/-! ### while -/
def whileL (t : S0 → R Bool) (body : MS) : Nat → MS
  | 0, _ => .bad
  | n + 1, s => (t s).toS fun b s1 => if b then (match body s1 with
      | .nx s' => whileL t body n s'
      | .ct s' => whileL t body n s'
      | .bk s' => .nx s'
      | x => x) else .nx s1
/-- fu: how many turns at most -/
def sWhile (fu : S0 → Nat) (t : S0 → R Bool) (body : MS) : MS := fun s => whileL t body (fu s) s
theorem while_of {K : PySem.W.Frag} {fu : S0 → Nat} {t : S0 → R Bool} {body : MS} {E : Ends} {σ : L2.St} {H : Hp} (q : tS K cl W (sWhile fu t body) E σ H) : tWhile (tT K cl W t) (tS K cl W body) E σ H := by
  obtain ⟨g, F, A, s, rl, h⟩ := q
  refine ⟨fun m σ H => ∃ F A s, Rel K g F H A s σ ∧ PostS K cl W g F H A (whileL t body m s) E, ⟨fu s, F, A, s, rl, h⟩, ?_⟩
  rintro m σ2 H2 ⟨F2, A2, s2, r2, h2⟩
  cases m with
  | zero => exact h2.elim
  | succ n =>
    refine ⟨g, F2, A2, s2, r2, PostS.ofE (R1 := rBo) h2 fun c s1 F' H' A' v e st rl' l h' => ?_⟩
    cases (show v = c from l)
    cases c with
    | false => exact h' F' H' A' σ2 .refl rl'
    | true =>
      rw [if_pos rfl] at h' ⊢
      refine ⟨fun σ' H' => ∃ F A s, Rel K g F H' A s σ' ∧ PostS K cl W g F H' A (whileL t body n s) E, fun σ' H' z => ⟨n, Nat.lt_succ_self _, z⟩, g, F', A', s1, rl', ?_⟩
      cases e2 : body s1 with
      | nx s' =>
        rw [e2] at h'
        exact fun F5 H5 A5 σ5 st5 r5 => ⟨F5, A5, s', r5, PostS.after st5 h'⟩
      | ct s' =>
        rw [e2] at h'
        exact fun F5 H5 A5 σ5 st5 r5 => ⟨F5, A5, s', r5, PostS.after st5 h'⟩
      | bk s' =>
        rw [e2] at h'
        exact h'
      | rt d s' =>
        rw [e2] at h'
        exact h'
      | exc c d s' =>
        rw [e2] at h'
        exact h'
      | bad =>
        rw [e2] at h'
        exact h'
theorem s_while {c : Expr} {body : List Stmt} {fu : S0 → Nat} {t : S0 → R Bool} {mb : MS} (hp : PassesOwn (model X.prog X.w) X.A X.env X.xe) (hc : PT X c (tT X.K cl W t)) (hb : PSs X body (tS X.K cl W mb)) : PS X (.While c body [] pos) (tS X.K cl W (sWhile fu t mb)) := (ps_while hp hc hb).imp fun E σ H q => while_of q
end
end Lf

set_option Elab.async false
set_option linter.all false
set_option maxRecDepth 100000
/-! Lf7: what a name alone holds is written; dicts. -/
namespace Lf
open PySem PySem.Spec PyProof.Rows L2

section
variable {K : PySem.W.Frag} {g : Gd} {F H : Hp} {A : Nat → Option Addr} {s : S0} {σ : L2.St}
/-- what the name i alone holds becomes another thing -/
theorem Rel.mut (r : Rel K g F H A s σ) {i : Nat} {sv : SV} {a : Addr} {o : HO} (hi : i < s.ρ.length) (ha : A i = some a) (hv : σ[i]? = some (some (.ref a))) (n : ¬ fzO o) (hs : SlotOk K F (upd H a o) g.ad sv (some (some (.ref a))) (some a)) :
    Rel K g F (upd H a o) A { s with ρ := s.ρ.set i sv } σ ∧ Step g F H A F (upd H a o) A := by
  obtain ⟨h1, h2, h3⟩ := r.own i a ha
  have hx : ∀ φ, H a ≠ some (.ext φ) := fun φ z => by
    have q := r.slot i s.ρ[i] (by simp [hi])
    rw [ha] at q
    cases e : s.ρ[i] with
    | unk => rw [e] at q; cases q
    | dat d => rw [e] at q; cases q.1
    | tup d => rw [e] at q; cases q.1
    | deck => rw [e] at q; cases q.1
    | clo id cs => rw [e] at q; cases q.1
    | lst xs =>
      rw [e] at q
      obtain ⟨_, _, e1, _, e2, _⟩ := q
      cases e1
      rw [z] at e2
      cases e2
    | dk xs =>
      rw [e] at q
      obtain ⟨_, _, e1, _, e2, _⟩ := q
      cases e1
      rw [z] at e2
      cases e2
    | dt xs =>
      rw [e] at q
      obtain ⟨_, _, e1, _, e2, _⟩ := q
      cases e1
      rw [z] at e2
      cases e2
  have eq : ∀ b u, F b = some u → b ≠ a := fun b u e z => by
    rw [z, h1] at e
    cases e
  refine ⟨⟨fun b u e => ?_, by simpa using r.len, fun j sv' h => ?_, fun j b h => ?_, r.sep, r.dkb, fun k h => ?_, r.tab.wr h3 hx⟩, ⟨Same.refl F, fun b h => .inl h, fun b u h hn _ => ?_, fun j b h => .inl ⟨j, h⟩, fun b h z => ?_⟩⟩
  · rw [upd_ne (eq b u e)]
    exact r.same _ _ e
  · by_cases q : j = i
    · subst q
      rw [List.getElem?_set_self hi] at h
      cases h
      rw [ha, hv]
      exact hs
    · rw [List.getElem?_set_ne (Ne.symm q)] at h
      refine (r.slot j sv' h).mono (Same.refl F) fun b u e z => ?_
      have nb : b ≠ a := fun z2 => q (r.sep j i a (by rw [e, z2]) ha)
      rw [upd_ne nb]
      exact z
  · obtain ⟨q1, q2, q3⟩ := r.own j b h
    refine ⟨q1, ?_, q3⟩
    by_cases z : b = a
    · subst z
      exact fz_no upd_same n
    · unfold Fz
      rw [upd_ne z]
      exact q2
  · have q := r.deck k h
    have hg : g.b = true := by
      have z := r.dkb
      rw [h] at z
      exact z.symm
    exact ⟨q.ne, q.fa, q.fl, by rw [upd_ne (fun z => h3 (.inl ⟨hg, .inl z.symm⟩))]; exact q.ha, by rw [upd_ne (fun z => h3 (.inl ⟨hg, .inr z.symm⟩))]; exact q.hl⟩
  · rw [upd_ne (fun z => hn i (by rw [ha, z]))]
    exact h
  · by_cases q : b = a
    · subst q
      rw [upd_same] at z
      cases z
    · rw [upd_ne q] at z
      exact h z
theorem Rel.lst (r : Rel K g F H A s σ) {i : Nat} {xs : List D} (h : s.ρ[i]? = some (.lst xs)) : ∃ a vs, A i = some a ∧ σ[i]? = some (some (.ref a)) ∧ H a = some (.lst vs) ∧ DaS K F vs xs := r.slot i _ h
theorem Rel.mutL (r : Rel K g F H A s σ) {i : Nat} {a : Addr} {vs : List V} {xs : List D} (hi : i < s.ρ.length) (ha : A i = some a) (hv : σ[i]? = some (some (.ref a))) (d : DaS K F vs xs) :
    Rel K g F (upd H a (.lst vs)) A { s with ρ := s.ρ.set i (.lst xs) } σ ∧ Step g F H A F (upd H a (.lst vs)) A :=
  r.mut (sv := .lst xs) hi ha hv id ⟨a, vs, rfl, rfl, upd_same, d⟩
end
/-! ### lists -/
section
variable {X : Cx} {cl : Cl} {W : WX} {a b e : Expr} {es : List Expr} {o : Opd} {pos apos cpos : Pos} {m m2 : S0 → R D}
theorem tyV_lst {K : PySem.W.Frag} {H : Hp} {a : Addr} {vs : List V} (h : H a = some (.lst vs)) : tyV K "list" (.ref a) H := Or.inl ⟨rfl, vs, SqL.of h⟩
/-- xs.append(e) -/
def mApp (i : Nat) (m : S0 → R D) : S0 → R D := fun s => match s.ρ[i]? with
  | some (.lst _) => (m s).bind fun d s1 => (match s1.ρ[i]? with
    | some (.lst xs) => if xs.length < line then .ok .none { s1 with ρ := s1.ρ.set i (.lst (xs ++ [d])) } else .bad
    | _ => .bad)
  | _ => .bad
theorem app_of {K : PySem.W.Frag} {i : Nat} {σ : L2.St} {H : Hp} {Q : VK} (q : tM K cl W (mApp i m) σ H Q) : tBM K "list" rAppend (tVar i) (tCons (tM K cl W m) tNil) σ H Q := by
  obtain ⟨g, F, A, s, rl, h⟩ := q
  unfold mApp at h
  split at h
  · rename_i xs0 e0
    obtain ⟨a, vs, ha, hv, ho, hd⟩ := rl.lst e0
    refine ⟨_, hv, tyV_lst ho, g, F, A, s, rl, Post.bind (R1 := rDa K) up_da h fun d s1 F' H' A' v e st rl' l h' => ?_⟩
    split at h'
    · rename_i xs e1
      split at h'
      · rename_i hz
        obtain ⟨a', vs', ha', hv', ho', hd'⟩ := rl'.lst e1
        rw [hv] at hv'
        cases hv'
        obtain ⟨r2, st2⟩ := rl'.mutL (rl'.lt e1) ha' hv (hd'.append (.cons l .nil))
        exact ⟨a, vs', v, rfl, rfl, ho', by rw [hd'.length, ← line_eq]; exact hz, h' _ _ _ _ st2 r2 .non⟩
      · exact h'.elim
    · exact h'.elim
  · exact h.elim
theorem e_app {x : Str} {p : Pos} (i : Nat) (he : PE X e (tM X.K cl W m)) (hN : X.N[i]? = some x := by rfl) (hv : Vis X.env.scope x := by first | exact Or.inl rfl | exact Or.inr (Or.inl rfl) | exact Or.inr (Or.inr rfl)) (hd : (x == ("__debug__" : Str)) = false := by decide)
    (hcd : (x == ("__classdict__" : Str)) = false := by decide) (hbase : attributeBase (.Name x p) "append" X.env (eval (.Name x p) X.env) = eval (.Name x p) X.env := by rfl)
    (hfew : ((backTo cpos (starEach (e :: []) X.env)).all (fun x => !x.1) && (backToKw cpos (keywordEach [] X.env)).all (fun x => x.1.isSome)
      && decide ((e :: []).length + ([] : List Keyword).length + (if ([] : List Keyword).isEmpty then 0 else 1) < 30)) = true := by rfl)
    (hline : (apos.endLine == cpos.line) = true := by rfl) (hs : starEach (e :: []) X.env = (false, eval e X.env) :: starEach [] X.env := by rfl) (hplain : (backTo cpos (starEach [] X.env)).any (·.1) = false := by rfl) :
    PE X (.Call (.Attribute (.Name x p) "append" apos) [e] [] cpos) (tM X.K cl W (mApp i m)) :=
  (pe_bm PySem.F.plainAttrs_list PySem.F.slot_list_append PySem.F.type_list_append mt_append (pv i hN hv hd hcd) (pa_cons he pa_nil hs) hbase hfew hline hs hplain).imp fun σ H Q q => app_of q
/-- xs.extend(a list) -/
def mExt (i : Nat) (m : S0 → R D) : S0 → R D := fun s => match s.ρ[i]? with
  | some (.lst _) => (m s).bind fun d s1 => (match s1.ρ[i]?, d with
    | some (.lst xs), .list ds => if xs.length + ds.length ≤ line then .ok .none { s1 with ρ := s1.ρ.set i (.lst (xs ++ ds)) } else .bad
    | _, _ => .bad)
  | _ => .bad
theorem ext_of {K : PySem.W.Frag} {i : Nat} {σ : L2.St} {H : Hp} {Q : VK} (q : tM K cl W (mExt i m) σ H Q) : tBM K "list" rExtend (tVar i) (tCons (tM K cl W m) tNil) σ H Q := by
  obtain ⟨g, F, A, s, rl, h⟩ := q
  unfold mExt at h
  split at h
  · rename_i xs0 e0
    obtain ⟨a, vs, ha, hv, ho, hd⟩ := rl.lst e0
    refine ⟨_, hv, tyV_lst ho, g, F, A, s, rl, Post.bind (R1 := rDa K) up_da h fun d s1 F' H' A' v e st rl' l h' => ?_⟩
    split at h'
    · rename_i xs ds e1
      split at h'
      · rename_i hz
        obtain ⟨a', vs', ha', hv', ho', hd'⟩ := rl'.lst e1
        rw [hv] at hv'
        cases hv'
        obtain ⟨b, ws, rfl, hb, hbd⟩ := Da.lst_of l
        obtain ⟨r2, st2⟩ := rl'.mutL (rl'.lt e1) ha' hv (hd'.append hbd)
        exact ⟨a, b, vs', ws, rfl, rfl, ho', rl'.same _ _ hb, by rw [hd'.length, hbd.length, ← line_eq]; exact hz, h' _ _ _ _ st2 r2 .non⟩
      · exact h'.elim
    · exact h'.elim
  · exact h.elim
theorem e_ext {x : Str} {p : Pos} (i : Nat) (he : PE X e (tM X.K cl W m)) (hN : X.N[i]? = some x := by rfl) (hv : Vis X.env.scope x := by first | exact Or.inl rfl | exact Or.inr (Or.inl rfl) | exact Or.inr (Or.inr rfl)) (hd : (x == ("__debug__" : Str)) = false := by decide)
    (hcd : (x == ("__classdict__" : Str)) = false := by decide) (hbase : attributeBase (.Name x p) "extend" X.env (eval (.Name x p) X.env) = eval (.Name x p) X.env := by rfl)
    (hfew : ((backTo cpos (starEach (e :: []) X.env)).all (fun x => !x.1) && (backToKw cpos (keywordEach [] X.env)).all (fun x => x.1.isSome)
      && decide ((e :: []).length + ([] : List Keyword).length + (if ([] : List Keyword).isEmpty then 0 else 1) < 30)) = true := by rfl)
    (hline : (apos.endLine == cpos.line) = true := by rfl) (hs : starEach (e :: []) X.env = (false, eval e X.env) :: starEach [] X.env := by rfl) (hplain : (backTo cpos (starEach [] X.env)).any (·.1) = false := by rfl) :
    PE X (.Call (.Attribute (.Name x p) "extend" apos) [e] [] cpos) (tM X.K cl W (mExt i m)) :=
  (pe_bm PySem.F.plainAttrs_list PySem.F.slot_list_extend PySem.F.type_list_extend mt_extend (pv i hN hv hd hcd) (pa_cons he pa_nil hs) hbase hfew hline hs hplain).imp fun σ H Q q => ext_of q
/-- xs.pop() -/
def mPop (i : Nat) : S0 → R D := fun s => match s.ρ[i]? with
  | some (.lst xs) => (match xs[xs.length - 1]? with
    | some d => .ok d { s with ρ := s.ρ.set i (.lst xs.dropLast) }
    | none => .bad)
  | _ => .bad
theorem DaS.dropLast {K : PySem.W.Frag} {F : Hp} {vs : List V} {ds : List D} (h : DaS K F vs ds) : DaS K F vs.dropLast ds.dropLast := by
  rw [List.dropLast_eq_take, List.dropLast_eq_take, h.length]
  exact h.take _
theorem pop_of {K : PySem.W.Frag} {i : Nat} {σ : L2.St} {H : Hp} {Q : VK} (q : tM K cl W (mPop i) σ H Q) : tBM0 K "list" rPop (tVar i) σ H Q := by
  obtain ⟨g, F, A, s, rl, h⟩ := q
  unfold mPop at h
  split at h
  · rename_i xs e0
    obtain ⟨a, vs, ha, hv, ho, hd⟩ := rl.lst e0
    split at h
    · rename_i d e1
      obtain ⟨v, h1, h2⟩ := hd.get e1
      obtain ⟨r2, st2⟩ := rl.mutL (rl.lt e0) ha hv hd.dropLast
      exact ⟨_, hv, tyV_lst ho, a, vs, v, rfl, rfl, ho, by rw [hd.length]; exact h1, h _ _ _ _ st2 r2 h2⟩
    · exact h.elim
  · exact h.elim
theorem e_pop {x : Str} {p : Pos} (i : Nat) (hN : X.N[i]? = some x := by rfl) (hv : Vis X.env.scope x := by first | exact Or.inl rfl | exact Or.inr (Or.inl rfl) | exact Or.inr (Or.inr rfl)) (hd : (x == ("__debug__" : Str)) = false := by decide)
    (hcd : (x == ("__classdict__" : Str)) = false := by decide) (hbase : attributeBase (.Name x p) "pop" X.env (eval (.Name x p) X.env) = eval (.Name x p) X.env := by rfl) (hline : (apos.endLine == cpos.line) = true := by rfl) :
    PE X (.Call (.Attribute (.Name x p) "pop" apos) [] [] cpos) (tM X.K cl W (mPop i)) :=
  (pe_bm0 PySem.F.plainAttrs_list PySem.F.slot_list_pop PySem.F.type_list_pop mt_pop (pv i hN hv hd hcd) hbase hline).imp fun σ H Q q => pop_of q
/-- xs.pop(k) -/
def mPopAt (i : Nat) (m : S0 → R D) : S0 → R D := fun s => match s.ρ[i]? with
  | some (.lst _) => (m s).bind fun d s1 => (match s1.ρ[i]?, d with
    | some (.lst xs), .int k => if -(2 ^ 63) ≤ k ∧ k < 2 ^ 63 then (match seqIndex? k xs.length with
      | some j => (match xs[j]? with
        | some y => .ok y { s1 with ρ := s1.ρ.set i (.lst (xs.eraseIdx j)) }
        | none => .bad)
      | none => .bad) else .bad
    | _, _ => .bad)
  | _ => .bad
theorem DaS.eraseIdx {K : PySem.W.Frag} {F : Hp} : ∀ {vs : List V} {ds : List D} (j : Nat), DaS K F vs ds → DaS K F (vs.eraseIdx j) (ds.eraseIdx j)
  | _, _, _, .nil => .nil
  | _, _, 0, .cons _ r => r
  | _, _, j + 1, .cons h r => .cons h (DaS.eraseIdx j r)
theorem popAt_of {K : PySem.W.Frag} {i : Nat} {σ : L2.St} {H : Hp} {Q : VK} (q : tM K cl W (mPopAt i m) σ H Q) : tBM K "list" rPopAt (tVar i) (tCons (tM K cl W m) tNil) σ H Q := by
  obtain ⟨g, F, A, s, rl, h⟩ := q
  unfold mPopAt at h
  split at h
  · rename_i xs0 e0
    obtain ⟨a, vs, ha, hv, ho, hd⟩ := rl.lst e0
    refine ⟨_, hv, tyV_lst ho, g, F, A, s, rl, Post.bind (R1 := rDa K) up_da h fun d s1 F' H' A' v e st rl' l h' => ?_⟩
    split at h'
    · rename_i xs k e1
      split at h'
      · rename_i hb
        split at h'
        · rename_i j ej
          split at h'
          · rename_i y ey
            obtain ⟨a', vs', ha', hv', ho', hd'⟩ := rl'.lst e1
            rw [hv] at hv'
            cases hv'
            cases (show v = .int k from Da.int_eq l)
            obtain ⟨v2, h1, h2⟩ := hd'.get ey
            obtain ⟨r2, st2⟩ := rl'.mutL (rl'.lt e1) ha' hv (hd'.eraseIdx j)
            exact ⟨a, vs', k, j, v2, rfl, rfl, ho', hb.1, hb.2, by rw [hd'.length]; exact ej, h1, h' _ _ _ _ st2 r2 h2⟩
          · exact h'.elim
        · exact h'.elim
      · exact h'.elim
    · exact h'.elim
  · exact h.elim
theorem e_popAt {x : Str} {p : Pos} (i : Nat) (he : PE X e (tM X.K cl W m)) (hN : X.N[i]? = some x := by rfl) (hv : Vis X.env.scope x := by first | exact Or.inl rfl | exact Or.inr (Or.inl rfl) | exact Or.inr (Or.inr rfl)) (hd : (x == ("__debug__" : Str)) = false := by decide)
    (hcd : (x == ("__classdict__" : Str)) = false := by decide) (hbase : attributeBase (.Name x p) "pop" X.env (eval (.Name x p) X.env) = eval (.Name x p) X.env := by rfl)
    (hfew : ((backTo cpos (starEach (e :: []) X.env)).all (fun x => !x.1) && (backToKw cpos (keywordEach [] X.env)).all (fun x => x.1.isSome)
      && decide ((e :: []).length + ([] : List Keyword).length + (if ([] : List Keyword).isEmpty then 0 else 1) < 30)) = true := by rfl)
    (hline : (apos.endLine == cpos.line) = true := by rfl) (hs : starEach (e :: []) X.env = (false, eval e X.env) :: starEach [] X.env := by rfl) (hplain : (backTo cpos (starEach [] X.env)).any (·.1) = false := by rfl) :
    PE X (.Call (.Attribute (.Name x p) "pop" apos) [e] [] cpos) (tM X.K cl W (mPopAt i m)) :=
  (pe_bm PySem.F.plainAttrs_list PySem.F.slot_list_pop PySem.F.type_list_pop mt_popAt (pv i hN hv hd hcd) (pa_cons he pa_nil hs) hbase hfew hline hs hplain).imp fun σ H Q q => popAt_of q
/-- xs[k] = e -/
def sSetAt (i : Nat) (mk mv : S0 → R D) : MS := fun s => (mv s).toS fun d s1 => match s1.ρ[i]? with
  | some (.lst _) => (mk s1).toS fun kd s2 => (match s2.ρ[i]?, kd with
    | some (.lst xs), .int k => (match ixN xs.length k with
      | some j => .nx { s2 with ρ := s2.ρ.set i (.lst (xs.set j d)) }
      | none => .bad)
    | _, _ => .bad)
  | _ => .bad
theorem setAt_of {K : PySem.W.Frag} {i : Nat} {E : Ends} {σ : L2.St} {H : Hp} (q : tS K cl W (sSetAt i m m2) E σ H) : tAsg (tM K cl W m2) (gSub (tVar i) (tM K cl W m) rSetL) E σ H := by
  obtain ⟨g, F, A, s, rl, h⟩ := q
  refine ⟨g, F, A, s, rl, PostS.ofE (R1 := rDa K) h fun d s1 F' H' A' v e st rl' l h' => ?_⟩
  split at h'
  · rename_i xs0 e0
    obtain ⟨a, vs, ha, hv, ho, hd⟩ := rl'.lst e0
    refine ⟨_, hv, g, F', A', s1, rl', PostS.ofE (R1 := rDa K) h' fun kd s2 F2 H2 A2 w e2 st2 rl2 l2 h2 => ?_⟩
    split at h2
    · rename_i xs k e1
      split at h2
      · rename_i j ej
        obtain ⟨a', vs', ha', hv', ho', hd'⟩ := rl2.lst e1
        rw [hv] at hv'
        cases hv'
        cases (show w = .int k from Da.int_eq l2)
        obtain ⟨r3, st3⟩ := rl2.mutL (rl2.lt e1) ha' hv (hd'.set j (Da.mono st2.ff l))
        exact ⟨a, vs', k, j, rfl, rfl, ho', by rw [hd'.length]; exact ej, h2 _ _ _ _ st3 r3⟩
      · exact h2.elim
    · exact h2.elim
  · exact h'.elim
theorem s_setAt {x : Str} {p p2 : Pos} {ix : Expr} (i : Nat) (hk : PE X ix (tM X.K cl W m)) (he : PE X e (tM X.K cl W m2)) (hN : X.N[i]? = some x := by rfl) (hv : Vis X.env.scope x := by first | exact Or.inl rfl | exact Or.inr (Or.inl rfl) | exact Or.inr (Or.inr rfl)) (hd : (x == ("__debug__" : Str)) = false := by decide)
    (hcd : (x == ("__classdict__" : Str)) = false := by decide)
    (hs : swapsWithSole [.Subscript (.Name x p) ix p2] e pos.line X.env = pure false := by rfl) (hw : swappedStores [.Subscript (.Name x p) ix p2] e X.env = pure none := by rfl) (h1 : (assignEach [.Subscript (.Name x p) ix p2] X.env).map (·.2) = [assign (.Subscript (.Name x p) ix p2) X.env] := by rfl)
    (ha : ∀ v, assign (.Subscript (.Name x p) ix p2) X.env v = (do
      let ov ← holding [v] (eval (.Name x p) X.env)
      let iv ← holding [v, ov] (eval ix X.env)
      standAt p2
      holding [v, ov, iv] (setItem ov iv v)
      release [v, ov, iv] []) := by intro _; rfl) : PS X (.Assign [.Subscript (.Name x p) ix p2] e pos) (tS X.K cl W (sSetAt i m m2)) :=
  (ps_asg he (pg_sub (pv i hN hv hd hcd) hk set_list ha) hs hw h1).imp fun E σ H q => setAt_of q
end
end Lf

set_option Elab.async false
set_option linter.all false
set_option maxRecDepth 100000
/-! Lf8: list comprehensions. -/
namespace Lf
open PySem PySem.Spec PyProof.Rows L2

/-! ### the block's own names: forgotten, and told again -/
def wipeR (ρ : List SV) : List Nat → List SV
  | [] => ρ
  | v :: vs => (wipeR ρ vs).set v .unk
def backR (ρ0 ρ : List SV) : List Nat → List SV
  | [] => ρ
  | v :: vs => (backR ρ0 ρ vs).set v (ρ0[v]?.getD .unk)
def wipeS (vs : List Nat) (s : S0) : S0 := { s with ρ := wipeR s.ρ vs }
theorem wipeR_length {ρ : List SV} : ∀ vs : List Nat, (wipeR ρ vs).length = ρ.length
  | [] => rfl
  | v :: vs => by unfold wipeR; rw [List.length_set, wipeR_length vs]
theorem backR_length {ρ0 ρ : List SV} : ∀ vs : List Nat, (backR ρ0 ρ vs).length = ρ.length
  | [] => rfl
  | v :: vs => by unfold backR; rw [List.length_set, backR_length vs]
theorem wipeR_in {ρ : List SV} {i : Nat} {sv : SV} : ∀ {vs : List Nat}, i ∈ vs → (wipeR ρ vs)[i]? = some sv → sv = .unk
  | [], h, _ => by cases h
  | v :: vs, h, e => by
    unfold wipeR at e
    by_cases q : v = i
    · subst q
      by_cases hl : v < (wipeR ρ vs).length
      · rw [List.getElem?_set_self hl] at e
        exact (Option.some.inj e).symm
      · rw [List.getElem?_eq_none (by simpa using hl)] at e
        cases e
    · rw [List.getElem?_set_ne q] at e
      rcases List.mem_cons.mp h with h | h
      · exact absurd h.symm q
      · exact wipeR_in h e
theorem wipeR_out {ρ : List SV} {i : Nat} : ∀ {vs : List Nat}, i ∉ vs → (wipeR ρ vs)[i]? = ρ[i]?
  | [], _ => rfl
  | v :: vs, h => by
    unfold wipeR
    rw [List.getElem?_set_ne (fun q => h (by rw [q]; exact List.mem_cons_self)), wipeR_out fun q => h (List.mem_cons_of_mem _ q)]
theorem backR_in {ρ0 ρ : List SV} (hl : ρ0.length = ρ.length) {i : Nat} {sv : SV} : ∀ {vs : List Nat}, i ∈ vs → (backR ρ0 ρ vs)[i]? = some sv → ρ0[i]? = some sv
  | [], h, _ => by cases h
  | v :: vs, h, e => by
    unfold backR at e
    by_cases q : v = i
    · subst q
      by_cases hv : v < (backR ρ0 ρ vs).length
      · rw [List.getElem?_set_self hv] at e
        rw [backR_length, ← hl] at hv
        rw [List.getElem?_eq_getElem hv] at e ⊢
        exact e
      · rw [List.getElem?_eq_none (by simpa using hv)] at e
        cases e
    · rw [List.getElem?_set_ne q] at e
      rcases List.mem_cons.mp h with h | h
      · exact absurd h.symm q
      · exact backR_in hl h e
theorem backR_out {ρ0 ρ : List SV} {i : Nat} : ∀ {vs : List Nat}, i ∉ vs → (backR ρ0 ρ vs)[i]? = ρ[i]?
  | [], _ => rfl
  | v :: vs, h => by
    unfold backR
    rw [List.getElem?_set_ne (fun q => h (by rw [q]; exact List.mem_cons_self)), backR_out fun q => h (List.mem_cons_of_mem _ q)]
def wipeA (A : Nat → Option Addr) (vs : List Nat) : Nat → Option Addr := fun i => if i ∈ vs then none else A i
theorem wipeA_some {A : Nat → Option Addr} {vs : List Nat} {i : Nat} {b : Addr} (h : wipeA A vs i = some b) : A i = some b ∧ i ∉ vs := by
  unfold wipeA at h
  split at h
  · cases h
  · exact ⟨h, by assumption⟩
def backA (A1 A2 : Nat → Option Addr) (vs : List Nat) : Nat → Option Addr := fun i => if i ∈ vs then A1 i else A2 i
section
variable {K : PySem.W.Frag} {g : Gd} {F F1 F2 H H1 H2 : Hp} {A A1 A2 : Nat → Option Addr} {s s1 s2 : S0} {σ σ' : L2.St}
theorem Rel.wipe (r : Rel K g F H A s σ) (vs : List Nat) : Rel K g F H (wipeA A vs) (wipeS vs s) (L2.wipe σ vs) where
  same := r.same
  len := by rw [show (wipeS vs s).ρ = wipeR s.ρ vs from rfl, wipeR_length, L2.wipe_length]; exact r.len
  slot := fun i sv h => by
    have h : (wipeR s.ρ vs)[i]? = some sv := h
    unfold wipeA
    by_cases q : i ∈ vs
    · rw [wipeR_in q h, if_pos q]
      exact rfl
    · rw [wipeR_out q] at h
      rw [if_neg q, L2.wipe_out q]
      exact r.slot i sv h
  own := fun i b h => r.own i b (wipeA_some h).1
  sep := fun i j b h1 h2 => r.sep i j b (wipeA_some h1).1 (wipeA_some h2).1
  dkb := r.dkb
  deck := r.deck
  tab := r.tab
theorem Step.wiped (vs : List Nat) : Step g F H A F H (wipeA A vs) := st_own fun i b h => ⟨i, (wipeA_some h).1⟩
theorem Rel.back (r1 : Rel K g F1 H1 A1 s1 σ) {vs : List Nat} (r2 : Rel K g F2 H2 A2 s2 (L2.wipe σ vs)) (st : Step g F1 H1 (wipeA A1 vs) F2 H2 A2) :
    Rel K g F2 H2 (backA A1 A2 vs) { s2 with ρ := backR s1.ρ s2.ρ vs } σ ∧ Step g F1 H1 A1 F2 H2 (backA A1 A2 vs) := by
  have hlen : s1.ρ.length = s2.ρ.length := by rw [r1.len, r2.len, L2.wipe_length]
  have free : ∀ {i b}, i ∈ vs → A1 i = some b → ∀ j, wipeA A1 vs j ≠ some b := fun {i b} hi h j z => by
    obtain ⟨z1, z2⟩ := wipeA_some z
    exact z2 (r1.sep i j b h z1 ▸ hi)
  have keep : ∀ {i b}, i ∈ vs → A1 i = some b → ∀ u, H1 b = some u → H2 b = some u := fun {i b} hi h u e => st.fr b u e (free hi h) (r1.own i b h).2.2
  have cases2 : ∀ {i b}, backA A1 A2 vs i = some b → (i ∈ vs ∧ A1 i = some b) ∨ (i ∉ vs ∧ A2 i = some b) := fun {i b} h => by
    unfold backA at h
    split at h
    · exact .inl ⟨by assumption, h⟩
    · exact .inr ⟨by assumption, h⟩
  have sm : ∀ b, F1 b = none → H1 b ≠ none → ¬ Fz H1 b → (∀ j, wipeA A1 vs j ≠ some b) → ¬ isDk g b → F2 b = none := fun b h1 h2 h3 h4 h5 => by
    cases q : F2 b with
    | none => rfl
    | some o =>
      rcases st.fn b (by rw [q]; simp) with z | z | ⟨j, z⟩ | z
      · exact absurd h1 z
      · exact absurd z h3
      · exact absurd z (h4 j)
      · exact absurd z h5
  have mix : ∀ {i j b}, i ∈ vs → A1 i = some b → A2 j = some b → False := fun {i j b} hi h1 h2 => by
    rcases st.an j b h2 with ⟨k, z⟩ | z
    · exact free hi h1 k z
    · exact (r1.own i b h1).2.1 (.inl z)
  refine ⟨⟨r2.same, ?_, fun i sv h => ?_, fun i b h => ?_, fun i j b h h' => ?_, r2.dkb, r2.deck, r2.tab⟩, st.ff, fun b h => ?_, fun b o h n nd => ?_, fun i b h => ?_, st.tr⟩
  · show (backR s1.ρ s2.ρ vs).length = _
    rw [backR_length, ← hlen]
    exact r1.len
  · have h : (backR s1.ρ s2.ρ vs)[i]? = some sv := h
    unfold backA
    by_cases q : i ∈ vs
    · rw [if_pos q]
      exact (r1.slot i sv (backR_in hlen q h)).mono st.ff fun b u e z => keep q e u z
    · rw [backR_out q] at h
      rw [if_neg q]
      have z := r2.slot i sv h
      rw [L2.wipe_out q] at z
      exact z
  · rcases cases2 h with ⟨hi, h⟩ | ⟨hi, h⟩
    · obtain ⟨q1, q2, q3⟩ := r1.own i b h
      have nz : H1 b ≠ none := fun z => q2 (.inl z)
      refine ⟨sm b q1 nz q2 (free hi h) q3, fun z => q2 ?_, q3⟩
      cases e : H1 b with
      | none => exact absurd e nz
      | some o =>
        have k := keep hi h o e
        rcases z with z | ⟨xs, z, hx⟩
        · rw [k] at z
          cases z
        · rw [k] at z
          cases z
          exact .inr ⟨_, e, hx⟩
    · exact r2.own i b h
  · rcases cases2 h with ⟨hi, h⟩ | ⟨hi, h⟩
    · rcases cases2 h' with ⟨hj, h'⟩ | ⟨hj, h'⟩
      · exact r1.sep i j b h h'
      · exact (mix hi h h').elim
    · rcases cases2 h' with ⟨hj, h'⟩ | ⟨hj, h'⟩
      · exact (mix hj h' h).elim
      · exact r2.sep i j b h h'
  · rcases st.fn b h with z | z | ⟨j, z⟩ | z
    · exact .inl z
    · exact .inr (.inl z)
    · exact .inr (.inr (.inl ⟨j, (wipeA_some z).1⟩))
    · exact .inr (.inr (.inr z))
  · exact st.fr b o h (fun i z => n i (wipeA_some z).1) nd
  · rcases cases2 h with ⟨hi, h⟩ | ⟨hi, h⟩
    · exact .inl ⟨i, h⟩
    · rcases st.an i b h with ⟨j, z⟩ | z
      · exact .inl ⟨j, (wipeA_some z).1⟩
      · exact .inr z
/-- a list that no name holds is written -/
theorem Rel.poke (r : Rel K g F H A s σ) {p : Addr} {vs : List V} (hF : F p = none) (hA : ∀ j, A j ≠ some p) (hd : ¬ isDk g p) (hx : ∀ φ, H p ≠ some (.ext φ)) : Rel K g F (upd H p (.lst vs)) A s σ where
  same := fun b u e => by
    rw [upd_ne (ne_of_none e hF)]
    exact r.same _ _ e
  len := r.len
  slot := fun i sv h => (r.slot i sv h).mono (Same.refl F) fun b u e z => by
    rw [upd_ne (fun q => hA i (by rw [e, q]))]
    exact z
  own := fun i b h => by
    obtain ⟨h1, h2, h3⟩ := r.own i b h
    refine ⟨h1, fun z => h2 ?_, h3⟩
    unfold Fz at z ⊢
    rw [upd_ne (fun q => hA i (by rw [h, q]))] at z
    exact z
  sep := r.sep
  dkb := r.dkb
  deck := fun k h => by
    have q := r.deck k h
    have hg : g.b = true := by
      have z := r.dkb
      rw [h] at z
      exact z.symm
    exact ⟨q.ne, q.fa, q.fl, by rw [upd_ne (fun z => hd (.inl ⟨hg, .inl z.symm⟩))]; exact q.ha, by rw [upd_ne (fun z => hd (.inl ⟨hg, .inr z.symm⟩))]; exact q.hl⟩
  tab := r.tab.wr hd hx
theorem Step.poke (st : Step g F1 H1 A1 F H A) {p : Addr} {o : HO} (hp : H1 p = none) : Step g F1 H1 A1 F (upd H p o) A := by
  refine ⟨st.ff, st.fn, fun b u h n nd => ?_, st.an, fun b h z => ?_⟩
  · rw [upd_ne (ne_of_none h hp)]
    exact st.fr b u h n nd
  · by_cases q : b = p
    · rw [q, upd_same] at z
      cases z
    · rw [upd_ne q] at z
      exact st.tr b h z
end

/-! ### targets inside a block -/
def gC (K : PySem.W.Frag) (vs : List Nat) (p : Pat) : TG := fun v σ H Q => ∃ g F A s d, Rel K g F H A s σ ∧ Da K F v d ∧ (match asgP p d s.ρ with
  | some ρ' => ∀ A' σ', (∀ i b, A' i = some b → ∃ j, A j = some b) → Rel K g F H A' { s with ρ := ρ' } σ' → L2.wipe σ' vs = L2.wipe σ vs → Q σ' H
  | none => False)
def gCs (K : PySem.W.Frag) (vs : List Nat) (ps : List Pat) : TGs := fun xs σ H Q => ∃ g F A s ds, Rel K g F H A s σ ∧ DaS K F xs ds ∧ (match asgPs ps ds s.ρ with
  | some ρ' => ∀ A' σ', (∀ i b, A' i = some b → ∃ j, A j = some b) → Rel K g F H A' { s with ρ := ρ' } σ' → L2.wipe σ' vs = L2.wipe σ vs → Q σ' H
  | none => False)
theorem wipe_set {σ : L2.St} {i : Nat} {v : Option V} : ∀ {vs : List Nat}, i ∈ vs → L2.wipe (σ.set i v) vs = L2.wipe σ vs
  | [], h => by cases h
  | k :: vs, h => by
    unfold L2.wipe
    by_cases q : i ∈ vs
    · rw [wipe_set q]
    · have e : i = k := by
        rcases List.mem_cons.mp h with h | h
        · exact h
        · exact absurd h q
      subst e
      apply List.ext_getElem?
      intro j
      by_cases z : i = j
      · subst z
        by_cases hl : i < σ.length
        · rw [List.getElem?_set_self (by rw [L2.wipe_length, List.length_set]; exact hl), List.getElem?_set_self (by rw [L2.wipe_length]; exact hl)]
        · rw [List.getElem?_eq_none (by rw [List.length_set, L2.wipe_length, List.length_set]; omega), List.getElem?_eq_none (by rw [List.length_set, L2.wipe_length]; omega)]
      · rw [List.getElem?_set_ne z, List.getElem?_set_ne z]
        by_cases w : j ∈ vs
        · exact wipe_in2 w (by rw [List.length_set])
        · rw [L2.wipe_out w, L2.wipe_out w, List.getElem?_set_ne z]
where
  wipe_in2 {σ τ : L2.St} {j : Nat} : ∀ {vs : List Nat}, j ∈ vs → σ.length = τ.length → (L2.wipe σ vs)[j]? = (L2.wipe τ vs)[j]?
    | [], h, _ => by cases h
    | k :: vs, h, e => by
      unfold L2.wipe
      by_cases q : k = j
      · subst q
        by_cases hl : k < σ.length
        · rw [List.getElem?_set_self (by rw [L2.wipe_length]; exact hl), List.getElem?_set_self (by rw [L2.wipe_length, ← e]; exact hl)]
        · rw [List.getElem?_eq_none (by rw [List.length_set, L2.wipe_length]; omega), List.getElem?_eq_none (by rw [List.length_set, L2.wipe_length]; omega)]
      · rw [List.getElem?_set_ne q, List.getElem?_set_ne q]
        rcases List.mem_cons.mp h with h | h
        · exact absurd h.symm q
        · exact wipe_in2 h e
section
variable {X : Cx} {cl : Cl} {W : WX} {a b e : Expr} {es : List Expr} {o : Opd} {pos : Pos} {m : S0 → R D} {vs : List Nat}
theorem gc_name {i : Nat} {x : Str} (hN : X.N.Nodup) (hi : X.N[i]? = some x) (hx : Loc X.env.scope x) (hm : i ∈ vs := by decide) (hf : X.fn x = true ∨ X.env.scope.names.lookup x = some .local := by first | exact .inl rfl | exact .inr rfl | assumption) : PG X (.Name x pos) (gC X.K vs (.nm i)) :=
  PG.imp (pg_name hN hi hx hf) fun v σ H Q q => by
    obtain ⟨g, F, A, s, d, rl, da, h⟩ := q
    have h : (match (if i < s.ρ.length then some (s.ρ.set i (.dat d)) else none : Option (List SV)) with
      | some ρ' => ∀ A' σ', (∀ i b, A' i = some b → ∃ j, A j = some b) → Rel X.K g F H A' { s with ρ := ρ' } σ' → L2.wipe σ' vs = L2.wipe σ vs → Q σ' H
      | none => False) := by simpa only [asgP] using h
    by_cases hl : i < s.ρ.length
    · rw [if_pos hl] at h
      exact h _ _ (rl.setP da hl) (rl.setD da hl) (wipe_set hm)
    · rw [if_neg hl] at h
      exact h.elim
theorem gcs_nil : PGs X [] (gCs X.K vs []) := PGs.imp pgs_nil fun xs σ H Q q => by
  obtain ⟨g, F, A, s, ds, rl, da, h⟩ := q
  cases da with
  | nil =>
    refine ⟨rfl, ?_⟩
    have h : ∀ A' σ', (∀ i b, A' i = some b → ∃ j, A j = some b) → Rel X.K g F H A' { s with ρ := s.ρ } σ' → L2.wipe σ' vs = L2.wipe σ vs → Q σ' H := by simpa only [asgPs] using h
    exact h A σ (fun i b e => ⟨i, e⟩) rl rfl
  | cons _ _ =>
    simp only [asgPs] at h
theorem gcs_cons {p : Pat} {ps : List Pat} (h1 : PG X e (gC X.K vs p)) (h2 : PGs X es (gCs X.K vs ps)) (hs : (assignEach (e :: es) X.env).map (·.2) = assign e X.env :: (assignEach es X.env).map (·.2) := by rfl) : PGs X (e :: es) (gCs X.K vs (p :: ps)) :=
  PGs.imp (pgs_cons h1 h2 hs) fun xs σ H Q q => by
    obtain ⟨g, F, A, s, ds, rl, da, h⟩ := q
    cases da with
    | nil => simp only [asgPs] at h
    | cons d1 dr =>
      rename_i v vr d dr'
      refine ⟨v, vr, rfl, g, F, A, s, d, rl, d1, ?_⟩
      simp only [asgPs] at h
      cases e1 : asgP p d s.ρ with
      | none =>
        rw [e1] at h
        exact h.elim
      | some ρ1 =>
        rw [e1] at h
        intro A1 σ1 a1 r1 w1
        refine ⟨g, F, A1, _, dr', r1, dr, ?_⟩
        have h : (match asgPs ps dr' ρ1 with
          | some ρ' => ∀ A' σ', (∀ i b, A' i = some b → ∃ j, A j = some b) → Rel X.K g F H A' { s with ρ := ρ' } σ' → L2.wipe σ' vs = L2.wipe σ vs → Q σ' H
          | none => False) := h
        show (match asgPs ps dr' ρ1 with
          | some ρ' => ∀ A' σ', (∀ i b, A' i = some b → ∃ j, A1 j = some b) → Rel X.K g F H A' { s with ρ := ρ' } σ' → L2.wipe σ' vs = L2.wipe σ1 vs → Q σ' H
          | none => False)
        cases e2 : asgPs ps dr' ρ1 with
        | none =>
          rw [e2] at h
          exact h.elim
        | some ρ2 =>
          rw [e2] at h
          exact fun A' σ' a2 r2 w2 => h A' σ' (fun i b z => by
            obtain ⟨j, z2⟩ := a2 i b z
            exact a1 j b z2) r2 (w2.trans w1)
theorem gc_tup {k : Nat} {ps : List Pat} {n : Nat} (hc : X.calm = true) (h : PGs X es (gCs X.K vs ps)) (hn : (assignEach es X.env).length = n := by rfl) (hl : ps.length = n := by rfl) (hst : (assignEach es X.env).findIdx? (·.1) = none := by rfl) : PG X (.Tuple es k pos) (gC X.K vs (.tup ps)) :=
  PG.imp (pg_tup hc h hn hst) fun v σ H Q q => by
    obtain ⟨g, F, A, s, d, rl, da, h⟩ := q
    cases da with
    | tup hq r =>
      rename_i a vs' ds
      simp only [asgP] at h
      by_cases e1 : ps.length = ds.length
      · rw [if_pos e1] at h
        exact ⟨a, vs', rfl, sqt_mono rl.same hq, by rw [r.length, ← e1, hl], g, F, A, s, ds, rl, r, h⟩
      · rw [if_neg e1] at h
        exact h.elim
    | _ => simp only [asgP] at h

/-! ### tests of a block -/
def noX : WX := fun _ _ _ _ => False
def tYesM : S0 → R Bool := fun s => .ok true s
theorem ts_nil : PTs X [] (tT X.K cl W tYesM) := ⟨fun pins s σ H Q I h => by
  obtain ⟨g, F, A, s0, rl, h⟩ := h
  exact pts_nil.run pins s σ H Q I (h F H A true .refl rl rfl)⟩
theorem ts_one {c : Expr} {t : S0 → R Bool} (h : PT X c (tT X.K cl W t)) : PTs X [c] (tT X.K cl W t) := pts_one h

/-! ### the comprehension -/
/-- the rest of the loop -/
def lcL (p : Pat) (vs : List Nat) (t : S0 → R Bool) (m : S0 → R D) : List D → List D → S0 → R (List D)
  | [], acc, s => .ok acc s
  | d :: ds, acc, s => match asgP p d s.ρ with
    | none => .bad
    | some ρ' => (match t { s with ρ := ρ' } with
      | .ok b s1 => if b then (match m s1 with
          | .ok y s2 => if acc.length < line then lcL p vs t m ds (acc ++ [y]) (wipeS vs s2) else .bad
          | _ => .bad) else lcL p vs t m ds acc (wipeS vs s1)
      | _ => .bad)
def mLc (p : Pat) (vs : List Nat) (mi : S0 → R (List D)) (t : S0 → R Bool) (m : S0 → R D) : S0 → R (List D) := fun s => (mi s).bind fun ds s1 => match lcL p vs t m ds [] (wipeS vs s1) with
  | .ok acc s2 => .ok acc { s2 with ρ := backR s1.ρ s2.ρ vs }
  | _ => .bad
theorem lc_of {K : PySem.W.Frag} {p : Pat} {mi : S0 → R (List D)} {t : S0 → R Bool} {σ : L2.St} {H : Hp} {Q : VK} (q : tNl K cl W (mLc p vs mi t m) σ H Q) : tLc (iM K cl W mi) (gC K vs p) (tT K cl noX t) (tM K cl noX m) vs σ H Q := by
  obtain ⟨g, F, A, s, rl, q⟩ := q
  refine ⟨g, F, A, s, rl, ?_⟩
  unfold mLc at q
  cases e1 : mi s with
  | bad =>
    rw [e1] at q
    exact q.elim
  | exc c d s' =>
    rw [e1] at q
    exact q
  | ok ds s1 =>
    rw [e1] at q
    intro J F1 H1 A1 st1 rl1 it D hD
    have q : Post K cl W (rNl K g) g F H A σ (match lcL p vs t m ds [] (wipeS vs s1) with
      | .ok acc s2 => .ok acc { s2 with ρ := backR s1.ρ s2.ρ vs }
      | _ => .bad) Q := q
    have hDF : F1 D = none := rl1.same.free hD
    have hDA : ∀ j, A1 j ≠ some D := fun j z => (rl1.own j D z).2.1 (.inl hD)
    have hDd : ¬ isDk g D := fun z => rl1.dkne D z hD
    let Inv0 (i m' : Nat) (Hh : Hp) : Prop := i + m' = ds.length ∧ ∃ F2 A2 s2 acc accV r, Step g F1 H1 (wipeA A1 vs) F2 Hh A2 ∧ Rel K g F2 Hh A2 s2 (L2.wipe σ vs) ∧ F2 D = none ∧ (∀ j, A2 j ≠ some D) ∧ Hh D = some (.lst accV) ∧ DaS K F2 accV acc ∧ lcL p vs t m (ds.drop i) acc s2 = r ∧ (match lcL p vs t m ds [] (wipeS vs s1) with
      | .ok a z => r = .ok a z
      | _ => False)
    have hok : (match lcL p vs t m ds [] (wipeS vs s1) with
      | .ok a z => lcL p vs t m ds [] (wipeS vs s1) = .ok a z
      | _ => False) := by
      cases e2 : lcL p vs t m ds [] (wipeS vs s1) with
      | ok a z => rfl
      | exc c d z =>
        rw [e2] at q
        exact q
      | bad =>
        rw [e2] at q
        exact q
    refine ⟨Inv0, ⟨ds.length, ⟨by omega, F1, wipeA A1 vs, wipeS vs s1, [], [], _, Step.refl.poke hD, (rl1.wipe vs).poke hDF (fun j z => hDA j (wipeA_some z).1) hDd (fun φ z => by rw [hD] at z; cases z), hDF, fun j z => hDA j (wipeA_some z).1, upd_same, .nil, rfl, by rw [List.drop_zero]; exact hok⟩⟩, ?_⟩
    rintro i m' Hh ⟨him, F2, A2, s2, acc, accV, r, st, rl2, f2, a2, hl, hacc, er, hr⟩
    have sm : Same F1 F2 := st.ff
    rcases Nat.eq_zero_or_pos m' with hz | hz
    · -- the end
      subst hz
      left
      have hi : i = ds.length := by omega
      subst hi
      refine ⟨it.stop F2 Hh sm rl2.same, ?_⟩
      rw [List.drop_length] at er
      have er : R.ok acc s2 = r := er
      cases e2 : lcL p vs t m ds [] (wipeS vs s1) with
      | ok a z =>
        rw [e2] at q hr
        have hr : r = .ok a z := hr
        rw [← er] at hr
        cases hr
        obtain ⟨rb, sb⟩ := rl1.back rl2 st
        refine q F2 Hh _ _ (st1.trans sb) rb ⟨D, accV, rfl, st1.back hD, fun j z => ?_, hDd, f2, hl, hacc⟩
        unfold backA at z
        split at z
        · exact hDA j z
        · exact a2 j z
      | exc c d z =>
        rw [e2] at hr
        exact hr.elim
      | bad =>
        rw [e2] at hr
        exact hr.elim
    · right
      have hi : i < ds.length := by omega
      refine ⟨it.go i F2 Hh sm rl2.same hi, fun H' => Inv0 (i + 1) (m' - 1) H', fun H' w => ⟨m' - 1, by omega, w⟩, fun x H3 hy => ?_⟩
      obtain ⟨F3, nw, hx⟩ := it.yld i F2 Hh x H3 ds[i] sm rl2.same (by simp [hi]) hy
      have hdrop : ds.drop i = ds[i] :: ds.drop (i + 1) := List.drop_eq_getElem_cons hi
      rw [hdrop] at er
      have rl3 := rl2.nw nw
      have st3 := st.trans (nw.step (g := g) (A := A2))
      have f3 : F3 D = none := nw.keepF f2 (fz_no hl id)
      have hl3 : H3 D = some (.lst accV) := nw.hh _ _ hl
      refine ⟨g, F3, A2, s2, ds[i], rl3, hx, ?_⟩
      unfold lcL at er
      have nb : r = .bad ∨ (∃ c d z, r = .exc c d z) → False := fun z => by
        rcases z with z | ⟨c, d, w, z⟩
        · rw [z] at hr
          split at hr
          · cases hr
          · exact hr
        · rw [z] at hr
          split at hr
          · cases hr
          · exact hr
      cases ea : asgP p ds[i] s2.ρ with
      | none =>
        rw [ea] at er
        exact nb (.inl er.symm)
      | some ρ' =>
        rw [ea] at er
        intro A4 σ4 s4 r4 w4
        have w4 : L2.wipe σ4 vs = L2.wipe σ vs := w4.trans (by
          have : L2.wipe (L2.wipe σ vs) vs = L2.wipe σ vs := by
            apply List.ext_getElem?
            intro j
            by_cases z : j ∈ vs
            · exact wipe_set.wipe_in2 z (L2.wipe_length _ _)
            · rw [L2.wipe_out z]
          exact this)
        refine ⟨w4, g, F3, A4, _, r4, ?_⟩
        have er : (match t { s2 with ρ := ρ' } with
          | .ok b s1 => if b then (match m s1 with
              | .ok y s2 => if acc.length < line then lcL p vs t m (ds.drop (i + 1)) (acc ++ [y]) (wipeS vs s2) else .bad
              | _ => .bad) else lcL p vs t m (ds.drop (i + 1)) acc (wipeS vs s1)
          | _ => .bad) = r := er
        have a4 : ∀ j, A4 j ≠ some D := fun j z => by
          obtain ⟨k, z⟩ := s4 j D z
          exact a2 k z
        have st4 : Step g F1 H1 (wipeA A1 vs) F3 H3 A4 := st3.trans (st_own s4)
        cases et : t { s2 with ρ := ρ' } with
        | bad =>
          rw [et] at er
          exact (nb (.inl er.symm)).elim
        | exc c d z =>
          rw [et] at er
          exact (nb (.inl er.symm)).elim
        | ok b s5 =>
          rw [et] at er
          intro F5 H5 A5 v st5 r5 ev
          cases (show v = b from ev)
          have keepD : ∀ {F6 H6 A6}, Step g F3 H3 A4 F6 H6 A6 → F6 D = none ∧ (∀ j, A6 j ≠ some D) ∧ H6 D = some (.lst accV) := fun {F6 H6 A6} st6 => by
            have h6 : H6 D = some (.lst accV) := st6.fr D _ hl3 a4 hDd
            refine ⟨?_, fun j z => ?_, h6⟩
            · cases e : F6 D with
              | none => rfl
              | some u =>
                rcases st6.fn D (by rw [e]; simp) with z | z | ⟨j, z⟩ | z
                · exact absurd f3 z
                · exact absurd z (fz_no hl3 id)
                · exact absurd z (a4 j)
                · exact absurd z hDd
            · rcases st6.an j D z with ⟨k, z⟩ | z
              · exact a4 k z
              · rw [hl3] at z
                cases z
          cases b with
          | false =>
            have er : lcL p vs t m (ds.drop (i + 1)) acc (wipeS vs s5) = r := er
            obtain ⟨k1, k2, k3⟩ := keepD st5
            rw [if_neg (by simp)]
            have rw5 := r5.wipe vs
            rw [w4] at rw5
            exact ⟨by omega, F5, wipeA A5 vs, wipeS vs s5, acc, accV, r, (st4.trans st5).trans (Step.wiped vs), rw5, k1, fun j z => k2 j (wipeA_some z).1, k3, (hacc.mono nw.ff).mono st5.ff, er, hr⟩
          | true =>
            rw [if_pos rfl]
            refine ⟨g, F5, A5, s5, r5, ?_⟩
            have er : (match m s5 with
              | .ok y s2 => if acc.length < line then lcL p vs t m (ds.drop (i + 1)) (acc ++ [y]) (wipeS vs s2) else .bad
              | _ => .bad) = r := er
            cases em : m s5 with
            | bad =>
              rw [em] at er
              exact (nb (.inl er.symm)).elim
            | exc c d z =>
              rw [em] at er
              exact (nb (.inl er.symm)).elim
            | ok y s6 =>
              rw [em] at er
              intro F6 H6 A6 yv st6 r6 dy
              have er : (if acc.length < line then lcL p vs t m (ds.drop (i + 1)) (acc ++ [y]) (wipeS vs s6) else .bad) = r := er
              by_cases hll : acc.length < line
              · rw [if_pos hll] at er
                obtain ⟨k1, k2, k3⟩ := keepD (st5.trans st6)
                refine ⟨accV, k3, by rw [hacc.length, ← line_eq]; exact hll, ?_⟩
                have rw6 := (r6.wipe vs).poke (vs := accV ++ [yv]) k1 (fun j z => k2 j (wipeA_some z).1) hDd (fun φ z => by rw [k3] at z; cases z)
                rw [w4] at rw6
                exact ⟨by omega, F6, wipeA A6 vs, wipeS vs s6, acc ++ [y], accV ++ [yv], r, (((st4.trans st5).trans st6).trans (Step.wiped vs)).poke hD, rw6, k1, fun j z => k2 j (wipeA_some z).1, upd_same, (((hacc.mono nw.ff).mono st5.ff).mono st6.ff).append (.cons dy .nil), er, hr⟩
              · rw [if_neg hll] at er
                exact (nb (.inl er.symm)).elim

theorem e_lc {elt tg iter : Expr} {ifs : List Expr} {scope : Scope} {own : List (Str × Nat)} {mi : S0 → R (List D)} {p : Pat} {t : S0 → R Bool} (hc : X.calm = true) (hN : X.N.Nodup) (ok : BlkOk X.N X.env.scope scope own) (hi : PI X tg iter (iM X.K cl W mi))
    (hg : ∀ (s : Shared) (H : Hp) (C : Addr) (c : List (Str × Addr)) (fp : List Addr), PG (X.blk s H scope (compEnvC scope c C X.env) fp) tg (gC X.K (own.map (·.2)) p))
    (ht : ∀ (s : Shared) (H : Hp) (C : Addr) (c : List (Str × Addr)) (fp : List Addr), PTs (X.blk s H scope (compEnvC scope c C X.env) fp) ifs (tT X.K cl noX t))
    (he : ∀ (s : Shared) (H : Hp) (C : Addr) (c : List (Str × Addr)) (fp : List Addr), PE (X.blk s H scope (compEnvC scope c C X.env) fp) elt (tM X.K cl noX m)) (hs : ∀ x, foldedSetIterable iter X.env x = pure x := by intro _; rfl) :
    PE X (.ListComp elt [⟨tg, iter, ifs, 0⟩] scope pos) (tNl X.K cl W (mLc p (own.map (·.2)) mi t m)) := (pe_lc hc hN hi ok hg ht he hs).imp fun σ H Q q => lc_of q
theorem setN_of {K : PySem.W.Frag} {i : Nat} {n : S0 → R (List D)} {E : Ends} {σ : L2.St} {H : Hp} (q : tS K cl W (sSetN i n) E σ H) : tNl K cl W n σ H fun x H1 => gName i x σ H1 E.nx := by
  obtain ⟨g, F, A, s, rl, h⟩ := q
  refine ⟨g, F, A, s, rl, ?_⟩
  have h : PostS K cl W g F H A ((n s).toS fun ds s1 => if i < s1.ρ.length then .nx { s1 with ρ := s1.ρ.set i (.lst ds) } else .bad) E := h
  cases e1 : n s with
  | bad =>
    rw [e1] at h
    exact h
  | exc c d s' =>
    rw [e1] at h
    exact fun F' H' A' v dp st rl l e => h F' H' A' σ v dp st rl l e
  | ok ds s1 =>
    rw [e1] at h
    intro F' H' A' v st rl' nl
    have h : PostS K cl W g F H A (if i < s1.ρ.length then .nx { s1 with ρ := s1.ρ.set i (.lst ds) } else .bad) E := h
    obtain ⟨p, vs, rfl, h1, h2, h3, h4, h5, h6⟩ := nl
    by_cases hl : i < s1.ρ.length
    · rw [if_pos hl] at h
      have nz : ¬ Fz H' p := fz_no h5 id
      refine h F' H' (setA A' i (some p)) _ ⟨st.ff, st.fn, st.fr, fun j b z => ?_, st.tr⟩ (rl'.set (sv := .lst ds) ⟨p, vs, rfl, rfl, h5, h6⟩ hl fun b z => ?_)
      · by_cases q : j = i
        · rw [q, setA_same] at z
          cases z
          exact .inr h1
        · rw [setA_ne q] at z
          exact st.an j b z
      · cases z
        exact ⟨h4, nz, h3, fun j _ => h2 j⟩
    · rw [if_neg hl] at h
      exact h.elim
theorem s_setLc {i : Nat} {y : Str} {py spos : Pos} {elt tg iter : Expr} {ifs : List Expr} {scope : Scope} {own : List (Str × Nat)} {mi : S0 → R (List D)} {p : Pat} {t : S0 → R Bool} (hc : X.calm = true) (hN : X.N.Nodup) (hy : X.N[i]? = some y) (hyl : X.env.scope.names.lookup y = some .local)
    (hsw : swapsWith (.ListComp elt [⟨tg, iter, ifs, 0⟩] scope pos) (some (.Name y py)) spos.line X.env = pure true) (ok : BlkOk X.N X.env.scope scope own) (hi : PI X tg iter (iM X.K cl W mi))
    (hg : ∀ (s : Shared) (H : Hp) (C : Addr) (c : List (Str × Addr)) (fp : List Addr), PG (X.blk s H scope (compEnvC scope c C X.env) fp) tg (gC X.K (own.map (·.2)) p))
    (ht : ∀ (s : Shared) (H : Hp) (C : Addr) (c : List (Str × Addr)) (fp : List Addr), PTs (X.blk s H scope (compEnvC scope c C X.env) fp) ifs (tT X.K cl noX t))
    (he : ∀ (s : Shared) (H : Hp) (C : Addr) (c : List (Str × Addr)) (fp : List Addr), PE (X.blk s H scope (compEnvC scope c C X.env) fp) elt (tM X.K cl noX m)) (hs : ∀ x, foldedSetIterable iter X.env x = pure x := by intro _; rfl) :
    PS X (.Assign [.Name y py] (.ListComp elt [⟨tg, iter, ifs, 0⟩] scope pos) spos) (tS X.K cl W (sSetN i (mLc p (own.map (·.2)) mi t m))) := (ps_setLc hc hN hy hyl hsw hi ok hg ht he hs).imp fun E σ H q => lc_of (setN_of q)
end
end Lf

set_option Elab.async false
set_option linter.all false
set_option maxRecDepth 100000
/-! Lf9: what a name may be given; a, b = x, y; dicts. -/
namespace Lf
open PySem PySem.Spec PyProof.Rows L2

/-! ### values that a name may hold alone -/
def owner : SV → V → Option Addr
  | .lst _, .ref p => some p
  | .dk _, .ref p => some p
  | .dt _, .ref p => some p
  | _, _ => none
def rSv (K : PySem.W.Frag) (g : Gd) : Hp → (Nat → Option Addr) → Hp → Hp → V → SV → Prop := fun H0 A F H v sv =>
  SlotOk K F H g.ad sv (some (some v)) (owner sv v) ∧ ∀ b, owner sv v = some b → H0 b = none ∧ F b = none ∧ ¬ Fz H b ∧ ¬ isDk g b ∧ ∀ j, A j ≠ some b
abbrev tV (K : PySem.W.Frag) (cl : Cl) (W : WX) (m : S0 → R SV) : TE := tX K cl W (rSv K) m
def R.map {α β : Type} (f : α → β) (r : R α) : R β := match r with
  | .ok a s => .ok (f a) s
  | .exc c d s => .exc c d s
  | .bad => .bad
section
variable {K : PySem.W.Frag} {cl : Cl} {W : WX} {α β γ δ : Type} {R1 : Hp → (Nat → Option Addr) → Hp → Hp → β → α → Prop} {R2 : Hp → (Nat → Option Addr) → Hp → Hp → β → γ → Prop} {g : Gd} {F F1 F2 H H0 H1 H2 F' H' : Hp} {A A1 A2 A' : Nat → Option Addr} {σ : L2.St} {s s' : S0} {v : V} {sv : SV}
theorem up_sv : Up (rSv K g) := fun H H1 A' F' H' v a e h => ⟨h.1, fun b z => ⟨e b (h.2 b z).1, (h.2 b z).2⟩⟩
theorem Post.map {f : α → γ} {r : R α} {Q : β → Hp → Prop} (h : Post K cl W R2 g F H A σ (r.map f) Q) (hk : ∀ a s' F' H' A' v, Step g F H A F' H' A' → Rel K g F' H' A' s' σ → R1 H A' F' H' v a → R2 H A' F' H' v (f a)) : Post K cl W R1 g F H A σ r Q := by
  cases r with
  | ok a s1 => exact fun F' H' A' v st rl l => h F' H' A' v st rl (hk a s1 F' H' A' v st rl l)
  | exc c d s' => exact h
  | bad => exact h
/-- what stands behind a step -/
theorem Step.keep (st : Step g F1 H1 A1 F2 H2 A2) {b : Addr} (hF : F1 b = none) (hz : ¬ Fz H1 b) (hd : ¬ isDk g b) (hA : ∀ j, A1 j ≠ some b) : F2 b = none ∧ ¬ Fz H2 b ∧ (∀ j, A2 j ≠ some b) ∧ ∀ o, H1 b = some o → H2 b = some o := by
  have nz : H1 b ≠ none := fun z => hz (.inl z)
  have kp : ∀ o, H1 b = some o → H2 b = some o := fun o e => st.fr b o e hA hd
  refine ⟨?_, fun z => hz ?_, fun j z => ?_, kp⟩
  · cases q : F2 b with
    | none => rfl
    | some o =>
      rcases st.fn b (by rw [q]; simp) with z | z | ⟨j, z⟩ | z
      · exact absurd hF z
      · exact absurd z hz
      · exact absurd z (hA j)
      · exact absurd z hd
  · cases e : H1 b with
    | none => exact absurd e nz
    | some o =>
      have k := kp o e
      rcases z with z | ⟨xs, z, hx⟩
      · rw [k] at z
        cases z
      · rw [k] at z
        cases z
        exact .inr ⟨_, e, hx⟩
  · rcases st.an j b z with ⟨k, z⟩ | z
    · exact hA k z
    · exact nz z
theorem rSv.step (h : rSv K g H0 A1 F1 H1 v sv) (st : Step g F1 H1 A1 F2 H2 A2) : rSv K g H0 A2 F2 H2 v sv := by
  obtain ⟨h1, h2⟩ := h
  refine ⟨h1.mono st.ff fun b u e z => ?_, fun b e => ?_⟩
  · obtain ⟨q1, q2, q3, q4, q5⟩ := h2 b e
    exact (st.keep q2 q3 q4 q5).2.2.2 u z
  · obtain ⟨q1, q2, q3, q4, q5⟩ := h2 b e
    obtain ⟨k1, k2, k3, _⟩ := st.keep q2 q3 q4 q5
    exact ⟨q1, k1, k2, q4, k3⟩
theorem rSv.dat {d : D} (h : Da K F v d) : rSv K g H0 A F H v (.dat d) := ⟨⟨rfl, v, rfl, h⟩, fun b z => by cases v <;> cases z⟩
theorem rSv.nl {ds : List D} (h : rNl K g H0 A F H v ds) : rSv K g H0 A F H v (.lst ds) := by
  obtain ⟨p, vs, rfl, h1, h2, h3, h4, h5, h6⟩ := h
  refine ⟨⟨p, vs, rfl, rfl, h5, h6⟩, fun b z => ?_⟩
  cases z
  exact ⟨h1, h4, fz_no h5 id, h3, h2⟩
/-- a new thing -/
theorem fresh_ok (rl : Rel K g F H A s σ) {p : Addr} (hp : H p = none) (o : HO) : Rel K g F (upd H p o) A s σ ∧ Step g F H A F (upd H p o) A ∧ F p = none ∧ (∀ j, A j ≠ some p) ∧ ¬ isDk g p := by
  have hA : ∀ j, A j ≠ some p := fun j z => (rl.own j p z).2.1 (.inl hp)
  have hd : ¬ isDk g p := fun z => rl.dkne p z hp
  have ff : F p = none := rl.same.free hp
  have hh : Same H (upd H p o) := fun b u h => by
    rw [upd_ne (ne_of_none h hp)]
    exact h
  refine ⟨?_, ⟨Same.refl F, fun b h => .inl h, fun b o h _ _ => hh b o h, fun i b h => .inl ⟨i, h⟩, fun b h z => h (Same.free hh z)⟩, ff, hA, hd⟩
  refine ⟨rl.same.trans hh, rl.len, fun i sv h => (rl.slot i sv h).mono (Same.refl F) fun b u _ z => hh b u z, fun i b h => ?_, rl.sep, rl.dkb, fun k h => ?_, rl.tab.wr hd fun φ z => by rw [hp] at z; cases z⟩
  · obtain ⟨h1, h2, h3⟩ := rl.own i b h
    refine ⟨h1, fun z => h2 ?_, h3⟩
    have nb : b ≠ p := fun z => hA i (by rw [h, z])
    unfold Fz at z ⊢
    rw [upd_ne nb] at z
    exact z
  · have q := rl.deck k h
    exact ⟨q.ne, q.fa, q.fl, hh _ _ q.ha, hh _ _ q.hl⟩
theorem rSv.set (h : rSv K g H0 A F H v sv) (rl : Rel K g F H A s σ) (st : Step g F1 H1 A1 F H A) (e0 : ∀ b, H0 b = none → H1 b = none) {i : Nat} (hi : i < s.ρ.length) :
    Rel K g F H (setA A i (owner sv v)) { s with ρ := s.ρ.set i sv } (σ.set i (some v)) ∧ Step g F1 H1 A1 F H (setA A i (owner sv v)) := by
  refine ⟨rl.set h.1 hi fun b z => ?_, st.ff, st.fn, st.fr, fun j b z => ?_, st.tr⟩
  · obtain ⟨q1, q2, q3, q4, q5⟩ := h.2 b z
    exact ⟨q2, q3, q4, fun j _ => q5 j⟩
  · by_cases q : j = i
    · rw [q, setA_same] at z
      exact .inr (e0 b (h.2 b z).1)
    · rw [setA_ne q] at z
      exact st.an j b z
end
section
variable {X : Cx} {cl : Cl} {W : WX} {a b e : Expr} {es : List Expr} {o : Opd} {os : List Opd} {pos : Pos} {m m2 : S0 → R D} {mv mv2 : S0 → R SV}
def svD (m : S0 → R D) : S0 → R SV := fun s => (m s).map .dat
def svN (n : S0 → R (List D)) : S0 → R SV := fun s => (n s).map .lst
theorem v_dat (h : PE X e (tM X.K cl W m)) : PE X e (tV X.K cl W (svD m)) := h.imp fun σ H Q ⟨g, F, A, s, rl, q⟩ => ⟨g, F, A, s, rl, Post.map (R1 := rDa X.K) q fun d s' F' H' A' v _ _ l => rSv.dat l⟩
theorem v_new {n : S0 → R (List D)} (h : PE X e (tNl X.K cl W n)) : PE X e (tV X.K cl W (svN n)) := h.imp fun σ H Q ⟨g, F, A, s, rl, q⟩ => ⟨g, F, A, s, rl, Post.map (R1 := rNl X.K g) q fun d s' F' H' A' v _ _ l => rSv.nl l⟩
theorem v_newK : PE X (.Dict [] [] pos) (tV X.K cl W fun s => .ok (.dk []) s) := pe_dnewK.imp fun σ H Q ⟨g, F, A, s, rl, q⟩ => fun p hp => by
  obtain ⟨r1, st, h1, h2, h3⟩ := fresh_ok rl hp (.dK [])
  refine q _ _ _ _ st r1 ⟨⟨p, [], rfl, rfl, upd_same, .nil⟩, fun b z => ?_⟩
  cases z
  exact ⟨hp, h1, fz_no upd_same id, h3, h2⟩
theorem v_newT : PE X (.Dict [] [] pos) (tV X.K cl W fun s => .ok (.dt []) s) := pe_dnewT.imp fun σ H Q ⟨g, F, A, s, rl, q⟩ => fun p hp => by
  obtain ⟨r1, st, h1, h2, h3⟩ := fresh_ok rl hp (.dT [])
  refine q _ _ _ _ st r1 ⟨⟨p, [], rfl, rfl, upd_same, .nil⟩, fun b z => ?_⟩
  cases z
  exact ⟨hp, h1, fz_no upd_same id, h3, h2⟩
/-- a tuple display, seen as one that stands by itself -/
def svT (ms : List (S0 → R D)) : S0 → R SV := fun s => (evalM ms s).bind fun ds s1 => if ds.length ≤ line then .ok (.tup ds) s1 else .bad
theorem rSv.tup {K : PySem.W.Frag} {g : Gd} {F H H0 : Hp} {A : Nat → Option Addr} {p : Addr} {vs : List V} {ds : List D} (h : F p = some (.tup vs)) (l : DaS K F vs ds) : rSv K g H0 A F H (.ref p) (.tup ds) := ⟨⟨rfl, p, vs, rfl, h, l⟩, fun b z => by cases z⟩
theorem v_tup {x1} {ms : List (S0 → R D)} (h : PA X es (tMs X.K cl W ms)) : PE X (.Tuple es x1 pos) (tV X.K cl W (svT ms)) := (pe_tup h).imp fun σ H Q q => by
  obtain ⟨g, F, A, s, rl, q⟩ := q
  refine das_of ms σ H _ ⟨g, F, A, s, rl, Post.bind (R1 := rDaS X.K) up_sv q fun ds s1 F' H' A' vs e st rl' l h' => ?_⟩
  split at h'
  · rename_i hl
    have l' : DaS X.K F' vs ds := l
    refine ⟨by rw [l'.length, ← line_eq]; exact hl, fun p hp => ?_⟩
    have n := Nw.new (o := .tup vs) rl'.same hp
    exact h'.here (R1 := rSv X.K g) rl' n (rSv.tup upd_same (l'.mono n.ff))
  · exact h'.elim
/-- tuple(a list), seen so -/
def svTl (m : S0 → R D) : S0 → R SV := fun s => (m s).bind fun d s1 => match d with
  | .list ds => .ok (.tup ds) s1
  | _ => .bad
theorem v_tupL {x : Str} {p : Pos} (hc : CallR X (.type "tuple") fun xs H Q => ∃ p ys, xs = [.ref p] ∧ ((SqL X.K H p ys ∧ ∀ l, H l = none → Q (.ref l) (upd H l (.tup ys))) ∨ (SqT X.K H p ys ∧ Q (.ref p) H))) (hg : Gl X x) (hm : X.mg x = none) (hv : bootBuiltins x = some (.type "tuple")) (ha : PE X e (tM X.K cl W m)) (hn : x ≠ "__name__" := by decide) (hdb : (x == ("__debug__" : Str)) = false := by decide)
    (he : starEach [e] X.env = (false, eval e X.env) :: starEach [] X.env := by rfl) (hpl : (backTo pos (starEach [] X.env)).any (·.1) = false := by rfl) : PE X (.Call (.Name x p) [e] [] pos) (tV X.K cl W (svTl m)) :=
  (pe_callTy hc hg hm hv (pa_cons ha pa_nil he) hn hdb he hpl).imp fun σ H Q q => by
    obtain ⟨g, F, A, s, rl, q⟩ := q
    refine ⟨g, F, A, s, rl, Post.bind (R1 := rDa X.K) up_sv q fun d s1 F' H' A' v e st rl' l h' => ?_⟩
    split at h'
    · rename_i ds
      obtain ⟨a, vs, rfl, h1, h2⟩ := Da.lst_of l
      refine ⟨a, vs, rfl, .inl ⟨.of (rl'.same _ _ h1), fun p hp => ?_⟩⟩
      have n := Nw.new (o := .tup vs) rl'.same hp
      exact h'.here (R1 := rSv X.K g) rl' n (rSv.tup upd_same (h2.mono n.ff))
    · exact h'.elim
/-- a name that holds data, as it is known -/
def svVar (i : Nat) : S0 → R SV := fun s => match s.ρ[i]? with
  | some (.dat d) => .ok (.dat d) s
  | some (.tup ds) => .ok (.tup ds) s
  | _ => .bad
theorem v_var {x : Str} (i : Nat) (hN : X.N[i]? = some x := by rfl) (hv : Vis X.env.scope x := by first | exact Or.inl rfl | exact Or.inr (Or.inl rfl) | exact Or.inr (Or.inr rfl)) (hd : (x == ("__debug__" : Str)) = false := by decide)
    (hcd : (x == ("__classdict__" : Str)) = false := by decide) : PE X (.Name x pos) (tV X.K cl W (svVar i)) := (pv i hN hv hd hcd).imp fun σ H Q q => by
  obtain ⟨g, F, A, s, rl, q⟩ := q
  unfold svVar at q
  split at q
  · rename_i d e
    obtain ⟨_, v, h1, h2⟩ := rl.slot i _ e
    exact ⟨v, h1, q F H A v .refl rl (rSv.dat h2)⟩
  · rename_i ds e
    obtain ⟨_, a, vs, h1, h2, h3⟩ := rl.slot i _ e
    exact ⟨_, h1, q F H A _ .refl rl (rSv.tup h2 h3)⟩
  · exact q.elim

/-- name = such a value -/
def sSetV (i : Nat) (m : S0 → R SV) : MS := fun s => (m s).toS fun sv s1 => if i < s1.ρ.length then .nx { s1 with ρ := s1.ρ.set i sv } else .bad
theorem PostS.ofV {K : PySem.W.Frag} {g : Gd} {F0 H0 F H : Hp} {A0 A : Nat → Option Addr} {σ : L2.St} {α β : Type} {R1 : Hp → (Nat → Option Addr) → Hp → Hp → β → α → Prop} {r : R α} {k : α → S0 → RS} {E : Ends} {Q : β → Hp → Prop} (st0 : Step g F0 H0 A0 F H A) (h : PostS K cl W g F0 H0 A0 (r.toS k) E)
    (hk : ∀ a s1 F' H' A' v, r = .ok a s1 → Step g F H A F' H' A' → Rel K g F' H' A' s1 σ → R1 H A' F' H' v a → PostS K cl W g F0 H0 A0 (k a s1) E → Q v H') : Post K cl W R1 g F H A σ r Q := by
  cases r with
  | ok a s1 => exact fun F' H' A' v st rl l => hk a s1 F' H' A' v rfl st rl l h
  | exc c d s' => exact fun F' H' A' v dp st rl l e => h F' H' A' σ v dp (st0.trans st) rl l e
  | bad => exact h
theorem setV_of {K : PySem.W.Frag} {i : Nat} {E : Ends} {σ : L2.St} {H : Hp} (q : tS K cl W (sSetV i mv) E σ H) : tV K cl W mv σ H fun x H1 => gName i x σ H1 E.nx := by
  obtain ⟨g, F, A, s, rl, h⟩ := q
  refine ⟨g, F, A, s, rl, PostS.ofV (R1 := rSv K g) Step.refl h fun sv s1 F' H' A' v e st rl' l h' => ?_⟩
  split at h'
  · rename_i hl
    obtain ⟨r2, st2⟩ := rSv.set l rl' st (fun _ z => z) hl
    exact h' F' H' _ _ st2 r2
  · exact h'.elim
theorem s_setV {i : Nat} {x : Str} {pos' : Pos} (hN : X.N.Nodup) (hi : X.N[i]? = some x) (hx : Loc X.env.scope x) (he : PE X e (tV X.K cl W mv)) (hs : swapsWith e (some (.Name x pos')) pos.line X.env = pure false := by rfl) (hf : X.fn x = true ∨ X.env.scope.names.lookup x = some .local := by first | exact .inl rfl | exact .inr rfl | assumption) :
    PS X (.Assign [.Name x pos'] e pos) (tS X.K cl W (sSetV i mv)) := (ps_set hN hi hx he hs hf).imp fun E σ H q => setV_of q
/-- a, b = x, y -/
def sPar (i j : Nat) (m1 m2 : S0 → R SV) : MS := fun s => (m1 s).toS fun v1 s1 => (m2 s1).toS fun v2 s2 => if i < s2.ρ.length ∧ j < s2.ρ.length then .nx { s2 with ρ := (s2.ρ.set i v1).set j v2 } else .bad
theorem par_of {K : PySem.W.Frag} {i j : Nat} {E : Ends} {σ : L2.St} {H : Hp} (q : tS K cl W (sPar i j mv mv2) E σ H) : tPar i j (tCons (tV K cl W mv) (tCons (tV K cl W mv2) tNil)) E σ H := by
  obtain ⟨g, F, A, s, rl, h⟩ := q
  refine ⟨g, F, A, s, rl, PostS.ofV (R1 := rSv K g) Step.refl h fun sv s1 F1 H1 A1 v e st1 rl1 l1 h1 => ⟨g, F1, A1, s1, rl1, PostS.ofV (R1 := rSv K g) st1 h1 fun sw s2 F2 H2 A2 w e2 st2 rl2 l2 h2 => ⟨v, w, rfl, ?_⟩⟩⟩
  split at h2
  · rename_i hl
    have l1' := rSv.step l1 st2
    obtain ⟨r3, st3⟩ := rSv.set l1' rl2 (st1.trans st2) (fun _ z => z) hl.1
    have l2' : rSv K g H1 (setA A2 i (owner sv v)) F2 H2 w sw := by
      refine ⟨l2.1, fun b z => ?_⟩
      obtain ⟨q1, q2, q3, q4, q5⟩ := l2.2 b z
      refine ⟨q1, q2, q3, q4, fun k y => ?_⟩
      by_cases ki : k = i
      · rw [ki, setA_same] at y
        have nz := (l1.2 b y).2.2.1
        exact nz (.inl q1)
      · rw [setA_ne ki] at y
        exact q5 k y
    have hj : j < (s2.ρ.set i sv).length := by simpa using hl.2
    obtain ⟨r4, st4⟩ := rSv.set (s := { s2 with ρ := s2.ρ.set i sv }) l2' r3 st3 (fun b z => st1.back z) hj
    exact h2 F2 H2 _ _ st4 r4
  · exact h2.elim
end
end Lf

set_option Elab.async false
set_option linter.all false
set_option maxRecDepth 100000
/-! LfA: dicts that a name holds. -/
namespace Lf
open PySem PySem.Spec PyProof.Rows L2

abbrev Ky := Sum Key (List Key)
def rKy : Hp → (Nat → Option Addr) → Hp → Hp → V → Ky → Prop := fun _ _ F _ v k => match k with
  | .inl k => v = kV k
  | .inr ks => ∃ a, v = .ref a ∧ F a = some (.tup (ks.map kV))
abbrev tK (K : PySem.W.Frag) (cl : Cl) (W : WX) (m : S0 → R Ky) : TE := tX K cl W (fun _ => rKy) m
theorem up_ky : Up rKy := fun _ _ _ _ _ _ _ _ h => h
def asKey : D → Option Key
  | .int i => some (.inl i)
  | .str x => some (.inr x)
  | _ => none
def asKeys : List D → Option (List Key)
  | [] => some []
  | d :: r => (asKey d).bind fun k => (asKeys r).map (k :: ·)
section
variable {K : PySem.W.Frag} {F H : Hp}
theorem asKey_of {v : V} {d : D} {k : Key} (h : Da K F v d) (e : asKey d = some k) : v = kV k := by
  cases h <;> first | cases e; rfl | cases e
theorem asKeys_of : ∀ {vs : List V} {ds : List D} {ks : List Key}, DaS K F vs ds → asKeys ds = some ks → vs = ks.map kV
  | _, _, _, .nil, e => by
    cases e
    rfl
  | _, _, ks, .cons (d := d) (ds := ds) h r, e => by
    have e : (asKey d).bind (fun k => (asKeys ds).map (k :: ·)) = some ks := e
    obtain ⟨k, h1, h2⟩ := Option.bind_eq_some_iff.mp e
    obtain ⟨ks', h3, h4⟩ := Option.map_eq_some_iff.mp h2
    subst h4
    rw [List.map_cons, asKey_of h h1, asKeys_of r h3]
end
def kyOf : SV → Option Ky
  | .dat d => (asKey d).map .inl
  | .tup ds => (asKeys ds).map .inr
  | _ => none
def mKy (m : S0 → R SV) : S0 → R Ky := fun s => (m s).bind fun sv s1 => match kyOf sv with
  | some k => .ok k s1
  | none => .bad
theorem rKy_of {K : PySem.W.Frag} {g : Gd} {H0 H1 F H : Hp} {A : Nat → Option Addr} {v : V} {sv : SV} {k : Ky} (h : rSv K g H0 A F H v sv) (e : kyOf sv = some k) : rKy H1 A F H v k := by
  cases sv with
  | dat d =>
    obtain ⟨k', h1, h2⟩ := Option.map_eq_some_iff.mp e
    subst h2
    obtain ⟨⟨_, v', h3, h4⟩, _⟩ := h
    cases h3
    exact asKey_of h4 h1
  | tup ds =>
    obtain ⟨k', h1, h2⟩ := Option.map_eq_some_iff.mp e
    subst h2
    obtain ⟨⟨_, a, vs, h3, h4, h5⟩, _⟩ := h
    cases h3
    exact ⟨a, rfl, by rw [h4, asKeys_of h5 h1]⟩
  | _ => cases e
section
variable {X : Cx} {cl : Cl} {W : WX} {a b e : Expr} {es : List Expr} {o : Opd} {os : List Opd} {pos : Pos} {m m2 : S0 → R D} {mv mv2 : S0 → R SV} {mk : S0 → R Ky}
theorem k_of (h : PE X e (tV X.K cl W mv)) : PE X e (tK X.K cl W (mKy mv)) := h.imp fun σ H Q ⟨g, F, A, s, rl, q⟩ => ⟨g, F, A, s, rl, Post.bind (R1 := rSv X.K g) up_ky q fun sv s1 F' H' A' v e st rl' l h' => by
  split at h'
  · rename_i k ek
    exact h' F' H' A' v .refl rl' (rKy_of (K := X.K) (g := g) (H0 := H) l ek)
  · exact h'.elim⟩
/-! ### what dicts hold -/
def valM {κ β : Type} [DecidableEq κ] (kvs : List (κ × β)) (k : κ) : Option β := (kvs.find? fun kv => decide (kv.1 = k)).map (·.2)
def putM {κ β : Type} [DecidableEq κ] (kvs : List (κ × β)) (k : κ) (v : β) : List (κ × β) :=
  if (kvs.any fun kv => decide (kv.1 = k)) = true then kvs.map (fun kv => if kv.1 = k then (kv.1, v) else kv) else kvs ++ [(k, v)]
theorem val_kv {K : PySem.W.Frag} {F : Hp} {κ : Type} [DecidableEq κ] {k : κ} : ∀ {vs : List (κ × V)} {ds : List (κ × D)}, KVd K F vs ds → (valV vs k = none ∧ valM ds k = none) ∨ ∃ v d, valV vs k = some v ∧ valM ds k = some d ∧ Da K F v d
  | _, _, .nil => .inl ⟨rfl, rfl⟩
  | (k1, v) :: vs, (k2, d) :: ds, .cons h r => by
    obtain ⟨h1, h2⟩ := h
    have h1 : k1 = k2 := h1
    subst h1
    by_cases e : k1 = k
    · refine .inr ⟨v, d, ?_, ?_, h2⟩
      · unfold valV
        rw [List.find?_cons_of_pos (by simpa using e)]
        rfl
      · unfold valM
        rw [List.find?_cons_of_pos (by simpa using e)]
        rfl
    · have ih := val_kv (k := k) r
      have e1 : valV ((k1, v) :: vs) k = valV vs k := by
        unfold valV
        rw [List.find?_cons_of_neg (by simpa using e)]
      have e2 : valM ((k1, d) :: ds) k = valM ds k := by
        unfold valM
        rw [List.find?_cons_of_neg (by simpa using e)]
      rw [e1, e2]
      exact ih
theorem any_kv {K : PySem.W.Frag} {F : Hp} {κ : Type} [DecidableEq κ] {k : κ} : ∀ {vs : List (κ × V)} {ds : List (κ × D)}, KVd K F vs ds → (vs.any fun kv => decide (kv.1 = k)) = (ds.any fun kv => decide (kv.1 = k))
  | _, _, .nil => rfl
  | (k1, v) :: vs, (k2, d) :: ds, .cons h r => by
    obtain ⟨h1, h2⟩ := h
    have h1 : k1 = k2 := h1
    subst h1
    rw [List.any_cons, List.any_cons, any_kv r]
theorem map_kv {K : PySem.W.Frag} {F : Hp} {κ : Type} [DecidableEq κ] {k : κ} {w : V} {e : D} (q : Da K F w e) : ∀ {vs : List (κ × V)} {ds : List (κ × D)}, KVd K F vs ds → KVd K F (vs.map fun kv => if kv.1 = k then (kv.1, w) else kv) (ds.map fun kv => if kv.1 = k then (kv.1, e) else kv)
  | _, _, .nil => .nil
  | (k1, v) :: vs, (k2, d) :: ds, .cons h r => by
    obtain ⟨h1, h2⟩ := h
    have h1 : k1 = k2 := h1
    subst h1
    refine .cons ?_ (map_kv q r)
    by_cases e : k1 = k
    · show ((if k1 = k then (k1, w) else (k1, v)).1 = (if k1 = k then (k1, _) else (k1, d)).1) ∧ Da K F (if k1 = k then (k1, w) else (k1, v)).2 (if k1 = k then (k1, _) else (k1, d)).2
      rw [if_pos e, if_pos e]
      exact ⟨rfl, q⟩
    · show ((if k1 = k then (k1, w) else (k1, v)).1 = (if k1 = k then (k1, _) else (k1, d)).1) ∧ Da K F (if k1 = k then (k1, w) else (k1, v)).2 (if k1 = k then (k1, _) else (k1, d)).2
      rw [if_neg e, if_neg e]
      exact ⟨rfl, h2⟩
theorem app_kv {K : PySem.W.Frag} {F : Hp} {κ : Type} : ∀ {vs vs' : List (κ × V)} {ds ds' : List (κ × D)}, KVd K F vs ds → KVd K F vs' ds' → KVd K F (vs ++ vs') (ds ++ ds')
  | _, _, _, _, .nil, s => s
  | _, _, _, _, .cons h r, s => .cons h (app_kv r s)
theorem put_kv {K : PySem.W.Frag} {F : Hp} {κ : Type} [DecidableEq κ] {k : κ} {w : V} {e : D} (q : Da K F w e) {vs : List (κ × V)} {ds : List (κ × D)} (h : KVd K F vs ds) : KVd K F (putK vs k w) (putM ds k e) := by
  unfold putK putM
  rw [any_kv h]
  split
  · exact map_kv q h
  · exact app_kv h (.cons ⟨rfl, q⟩ .nil)
theorem len_kv {K : PySem.W.Frag} {F : Hp} {κ : Type} {vs : List (κ × V)} {ds : List (κ × D)} (h : KVd K F vs ds) : vs.length = ds.length := Paired.length h
/-- what the dict in a slot holds at a key -/
def dGet : SV → Ky → Option (Option D)
  | .dk kvs, .inl k => some (valM kvs k)
  | .dt kvs, .inr ks => some (valM kvs ks)
  | _, _ => none
theorem dget_of {K : PySem.W.Frag} {g : Gd} {H0 F H : Hp} {A : Nat → Option Addr} {s : S0} {σ : L2.St} {i : Nat} {sv : SV} {k : Ky} {o : Option D} {y : V} (rl : Rel K g F H A s σ) (hs : s.ρ[i]? = some sv) (hk : rKy H0 A F H y k) (e : dGet sv k = some o) :
    ∃ a, σ[i]? = some (some (.ref a)) ∧ ((o = none ∧ DGet H a y none) ∨ ∃ v d, o = some d ∧ DGet H a y (some v) ∧ Da K F v d) := by
  have hsl := rl.slot i sv hs
  cases sv with
  | dk kvs =>
    cases k with
    | inl k =>
      obtain ⟨a, vs, _, h1, h2, h3⟩ := hsl
      cases (show y = kV k from hk)
      have e : some (valM kvs k) = some o := e
      cases e
      refine ⟨a, h1, ?_⟩
      rcases val_kv (k := k) h3 with ⟨q1, q2⟩ | ⟨v, d, q1, q2, q3⟩
      · left
        exact ⟨q2, by rw [← q1]; exact DGet.k h2⟩
      · right
        exact ⟨v, d, q2, by rw [← q1]; exact DGet.k h2, q3⟩
    | inr ks => cases e
  | dt kvs =>
    cases k with
    | inl k => cases e
    | inr ks =>
      obtain ⟨a, vs, _, h1, h2, h3⟩ := hsl
      obtain ⟨b, rfl, hb⟩ := (show ∃ b, y = .ref b ∧ F b = some (.tup (ks.map kV)) from hk)
      have e : some (valM kvs ks) = some o := e
      cases e
      refine ⟨a, h1, ?_⟩
      rcases val_kv (k := ks) h3 with ⟨q1, q2⟩ | ⟨v, d, q1, q2, q3⟩
      · left
        exact ⟨q2, by rw [← q1]; exact DGet.t h2 (rl.same _ _ hb)⟩
      · right
        exact ⟨v, d, q2, by rw [← q1]; exact DGet.t h2 (rl.same _ _ hb), q3⟩
  | _ => cases k <;> cases e
/-- k in d -/
def mDIn (mk : S0 → R Ky) (i : Nat) : S0 → R D := fun s => (mk s).bind fun k s1 => match (s1.ρ[i]?).bind fun sv => dGet sv k with
  | some o => .ok (.bool o.isSome) s1
  | none => .bad
def mDNotIn (mk : S0 → R Ky) (i : Nat) : S0 → R D := fun s => (mk s).bind fun k s1 => match (s1.ρ[i]?).bind fun sv => dGet sv k with
  | some o => .ok (.bool (!o.isSome)) s1
  | none => .bad
theorem din_of {K : PySem.W.Frag} {i : Nat} {σ : L2.St} {H : Hp} {Q : VK} (q : tM K cl W (mDIn mk i) σ H Q) : tDIn (tK K cl W mk) (tVar i) σ H Q := by
  obtain ⟨g, F, A, s, rl, h⟩ := q
  refine ⟨g, F, A, s, rl, Post.bind (R1 := rKy) up_da h fun k s1 F' H' A' y e st rl' l h' => ?_⟩
  split at h'
  · rename_i o eo
    obtain ⟨sv, e1, e2⟩ := Option.bind_eq_some_iff.mp eo
    obtain ⟨a, e3, e4⟩ := dget_of rl' e1 l e2
    rcases e4 with ⟨z, e4⟩ | ⟨v, d, z, e4, _⟩
    · subst z
      exact ⟨_, e3, a, none, rfl, e4, h' F' H' A' _ .refl rl' (.bl _)⟩
    · subst z
      exact ⟨_, e3, a, some v, rfl, e4, h' F' H' A' _ .refl rl' (.bl _)⟩
  · exact h'.elim
theorem dnotin_of {K : PySem.W.Frag} {i : Nat} {σ : L2.St} {H : Hp} {Q : VK} (q : tM K cl W (mDNotIn mk i) σ H Q) : tDNotIn (tK K cl W mk) (tVar i) σ H Q := by
  obtain ⟨g, F, A, s, rl, h⟩ := q
  refine ⟨g, F, A, s, rl, Post.bind (R1 := rKy) up_da h fun k s1 F' H' A' y e st rl' l h' => ?_⟩
  split at h'
  · rename_i o eo
    obtain ⟨sv, e1, e2⟩ := Option.bind_eq_some_iff.mp eo
    obtain ⟨a, e3, e4⟩ := dget_of rl' e1 l e2
    rcases e4 with ⟨z, e4⟩ | ⟨v, d, z, e4, _⟩
    · subst z
      exact ⟨_, e3, a, none, rfl, e4, h' F' H' A' _ .refl rl' (.bl _)⟩
    · subst z
      exact ⟨_, e3, a, some v, rfl, e4, h' F' H' A' _ .refl rl' (.bl _)⟩
  · exact h'.elim
theorem e_din {x : Str} {p : Pos} (hu : X.A.units + 1 < cLine) (i : Nat) (hk : PE X e (tK X.K cl W mk)) (hm : behindInMarks .In (.Name x p) = false := by rfl) (hN : X.N[i]? = some x := by rfl) (hv : Vis X.env.scope x := by first | exact Or.inl rfl | exact Or.inr (Or.inl rfl) | exact Or.inr (Or.inr rfl)) (hd : (x == ("__debug__" : Str)) = false := by decide)
    (hcd : (x == ("__classdict__" : Str)) = false := by decide) : PE X (.Compare e [.In] [.Name x p] pos) (tM X.K cl W (mDIn mk i)) := (pe_cmp (pc_din hu hk (pv i hN hv hd hcd)) hm).imp fun σ H Q q => din_of q
theorem e_dnotin {x : Str} {p : Pos} (hu : X.A.units + 1 < cLine) (i : Nat) (hk : PE X e (tK X.K cl W mk)) (hm : behindInMarks .NotIn (.Name x p) = false := by rfl) (hN : X.N[i]? = some x := by rfl) (hv : Vis X.env.scope x := by first | exact Or.inl rfl | exact Or.inr (Or.inl rfl) | exact Or.inr (Or.inr rfl)) (hd : (x == ("__debug__" : Str)) = false := by decide)
    (hcd : (x == ("__classdict__" : Str)) = false := by decide) : PE X (.Compare e [.NotIn] [.Name x p] pos) (tM X.K cl W (mDNotIn mk i)) := (pe_cmp (pc_dnotin hu hk (pv i hN hv hd hcd)) hm).imp fun σ H Q q => dnotin_of q
theorem c_din {x : Str} {p : Pos} (hu : X.A.units + 1 < cLine) (i : Nat) (hk : PE X e (tK X.K cl W mk)) (hm : behindInMarks .In (.Name x p) = false := by rfl) (hN : X.N[i]? = some x := by rfl) (hv : Vis X.env.scope x := by first | exact Or.inl rfl | exact Or.inr (Or.inl rfl) | exact Or.inr (Or.inr rfl)) (hd : (x == ("__debug__" : Str)) = false := by decide)
    (hcd : (x == ("__classdict__" : Str)) = false := by decide) : PT X (.Compare e [.In] [.Name x p] pos) (tT X.K cl W (toB (mDIn mk i))) := (pt_cmp (pc_din hu hk (pv i hN hv hd hcd)) hm).imp fun σ H Q q => by
  have z : tB (tM X.K cl W (mDIn mk i)) σ H Q := toB_of q
  exact din_of z
theorem c_dnotin {x : Str} {p : Pos} (hu : X.A.units + 1 < cLine) (i : Nat) (hk : PE X e (tK X.K cl W mk)) (hm : behindInMarks .NotIn (.Name x p) = false := by rfl) (hN : X.N[i]? = some x := by rfl) (hv : Vis X.env.scope x := by first | exact Or.inl rfl | exact Or.inr (Or.inl rfl) | exact Or.inr (Or.inr rfl)) (hd : (x == ("__debug__" : Str)) = false := by decide)
    (hcd : (x == ("__classdict__" : Str)) = false := by decide) : PT X (.Compare e [.NotIn] [.Name x p] pos) (tT X.K cl W (toB (mDNotIn mk i))) := (pt_cmp (pc_dnotin hu hk (pv i hN hv hd hcd)) hm).imp fun σ H Q q => by
  have z : tB (tM X.K cl W (mDNotIn mk i)) σ H Q := toB_of q
  exact dnotin_of z
/-- d[k] -/
def mDGet (i : Nat) (mk : S0 → R Ky) : S0 → R D := fun s => match s.ρ[i]? with
  | some _ => (mk s).bind fun k s1 => (match (s1.ρ[i]?).bind fun sv => dGet sv k with
    | some (some d) => .ok d s1
    | _ => .bad)
  | none => .bad
theorem slot_ref {K : PySem.W.Frag} {g : Gd} {F H : Hp} {A : Nat → Option Addr} {s : S0} {σ : L2.St} {i : Nat} (rl : Rel K g F H A s σ) (h : (∃ kvs, s.ρ[i]? = some (.dk kvs)) ∨ ∃ kvs, s.ρ[i]? = some (.dt kvs)) : ∃ a, σ[i]? = some (some (.ref a)) ∧ IsD H a := by
  rcases h with ⟨kvs, h⟩ | ⟨kvs, h⟩
  · obtain ⟨a, vs, _, h1, h2, _⟩ := rl.slot i _ h
    exact ⟨a, h1, .inl ⟨vs, .inl h2⟩⟩
  · obtain ⟨a, vs, _, h1, h2, _⟩ := rl.slot i _ h
    exact ⟨a, h1, .inr ⟨vs, .inl h2⟩⟩
/-- is the slot a dict's -/
def isDk' : Option SV → Bool
  | some (.dk _) => true
  | some (.dt _) => true
  | _ => false
theorem isDk_or {o : Option SV} (h : isDk' o = true) : (∃ kvs, o = some (.dk kvs)) ∨ ∃ kvs, o = some (.dt kvs) := by
  unfold isDk' at h
  split at h
  · exact .inl ⟨_, rfl⟩
  · exact .inr ⟨_, rfl⟩
  · cases h
def mDGetK (i : Nat) (mk : S0 → R Ky) : S0 → R D := fun s => if isDk' s.ρ[i]? then (mk s).bind fun k s1 => (match (s1.ρ[i]?).bind fun sv => dGet sv k with
    | some (some d) => .ok d s1
    | _ => .bad) else .bad
theorem dgetk_of {K : PySem.W.Frag} {i : Nat} {σ : L2.St} {H : Hp} {Q : VK} (q : tM K cl W (mDGetK i mk) σ H Q) : tDGet (tVar i) (tK K cl W mk) σ H Q := by
  obtain ⟨g, F, A, s, rl, h⟩ := q
  unfold mDGetK at h
  by_cases hd : isDk' s.ρ[i]? = true
  · rw [if_pos hd] at h
    obtain ⟨a, ha, hi⟩ := slot_ref rl (isDk_or hd)
    refine ⟨_, ha, g, F, A, s, rl, Post.bind (R1 := rKy) up_da h fun k s1 F' H' A' y e st rl' l h' => ?_⟩
    split at h'
    · rename_i d eo
      obtain ⟨sv, e1, e2⟩ := Option.bind_eq_some_iff.mp eo
      obtain ⟨a', e3, e4⟩ := dget_of rl' e1 l e2
      rw [ha] at e3
      cases e3
      rcases e4 with ⟨z, e4⟩ | ⟨v, d', z, e4, e5⟩
      · cases z
      · cases z
        exact ⟨a, v, rfl, e4, h' F' H' A' _ .refl rl' e5⟩
    · exact h'.elim
  · rw [if_neg hd] at h
    exact h.elim
theorem e_dget {x : Str} {p : Pos} (hu : X.A.units + 1 < cLine) (i : Nat) (hk : PE X e (tK X.K cl W mk)) (hs : NoSl e) (hN : X.N[i]? = some x := by rfl) (hv : Vis X.env.scope x := by first | exact Or.inl rfl | exact Or.inr (Or.inl rfl) | exact Or.inr (Or.inr rfl)) (hd : (x == ("__debug__" : Str)) = false := by decide)
    (hcd : (x == ("__classdict__" : Str)) = false := by decide) : PE X (.Subscript (.Name x p) e pos) (tM X.K cl W (mDGetK i mk)) := (pe_dget hu (pv i hN hv hd hcd) hk hs).imp fun σ H Q q => dgetk_of q
/-- d.get(k, e) -/
def mDGet2 (i : Nat) (mk : S0 → R Ky) (m : S0 → R D) : S0 → R D := fun s => if isDk' s.ρ[i]? then (mk s).bind fun k s1 => (m s1).bind fun d0 s2 => (match (s2.ρ[i]?).bind fun sv => dGet sv k with
    | some o => .ok (o.getD d0) s2
    | _ => .bad) else .bad
theorem rKy.mono {H0 F F' H H' : Hp} {A A' : Nat → Option Addr} {v : V} {k : Ky} (e : Same F F') (h : rKy H0 A F H v k) : rKy H0 A' F' H' v k := by
  cases k with
  | inl k => exact h
  | inr ks =>
    obtain ⟨a, h1, h2⟩ := h
    exact ⟨a, h1, e _ _ h2⟩
theorem dget2_of {K : PySem.W.Frag} {i : Nat} {σ : L2.St} {H : Hp} {Q : VK} (q : tM K cl W (mDGet2 i mk m) σ H Q) : tDGet2 (tVar i) (tK K cl W mk) (tM K cl W m) σ H Q := by
  obtain ⟨g, F, A, s, rl, h⟩ := q
  unfold mDGet2 at h
  by_cases hd : isDk' s.ρ[i]? = true
  · rw [if_pos hd] at h
    obtain ⟨a, ha, hi⟩ := slot_ref rl (isDk_or hd)
    refine ⟨_, ha, a, rfl, hi, g, F, A, s, rl, Post.bind (R1 := rKy) up_da h fun k s1 F' H' A' y e st rl' l h' => ⟨g, F', A', s1, rl', Post.bind (R1 := rDa K) up_da h' fun d0 s2 F2 H2 A2 z e2 st2 rl2 l2 h2 => ?_⟩⟩
    split at h2
    · rename_i o eo
      obtain ⟨sv, e1, e2⟩ := Option.bind_eq_some_iff.mp eo
      obtain ⟨a', e3, e4⟩ := dget_of rl2 e1 (rKy.mono (H0 := H') (A := A') (H := H') (A' := A2) (H' := H2) st2.ff l) e2
      rw [ha] at e3
      cases e3
      rcases e4 with ⟨z, e4⟩ | ⟨v, d', z, e4, e5⟩
      · cases z
        exact ⟨none, e4, h2 F2 H2 A2 _ .refl rl2 l2⟩
      · cases z
        exact ⟨some v, e4, h2 F2 H2 A2 _ .refl rl2 e5⟩
    · exact h2.elim
  · rw [if_neg hd] at h
    exact h.elim
theorem e_dget2 {x : Str} {p apos cpos : Pos} {f : Expr} (hu : X.A.units + 1 < cLine) (i : Nat) (hk : PE X e (tK X.K cl W mk)) (hf : PE X f (tM X.K cl W m)) (hm : M2 X (.Name x p) "get" apos e f cpos := by exact ⟨by rfl, by rfl, by rfl, by rfl⟩) (hN : X.N[i]? = some x := by rfl) (hv : Vis X.env.scope x := by first | exact Or.inl rfl | exact Or.inr (Or.inl rfl) | exact Or.inr (Or.inr rfl)) (hd : (x == ("__debug__" : Str)) = false := by decide)
    (hcd : (x == ("__classdict__" : Str)) = false := by decide) : PE X (.Call (.Attribute (.Name x p) "get" apos) [e, f] [] cpos) (tM X.K cl W (mDGet2 i mk m)) := (pe_dget2 hu (pv i hN hv hd hcd) hk hf hm).imp fun σ H Q q => dget2_of q
/-- d[k] = e -/
def dPut : SV → Ky → D → Option SV
  | .dk kvs, .inl k, d => if kvs.length < line then some (.dk (putM kvs k d)) else none
  | .dt kvs, .inr ks, d => if kvs.length < line then some (.dt (putM kvs ks d)) else none
  | _, _, _ => none
def sDput (i : Nat) (mk : S0 → R Ky) (m : S0 → R D) : MS := fun s => (m s).toS fun d s1 => if isDk' s1.ρ[i]? then (mk s1).toS fun k s2 => (match (s2.ρ[i]?).bind fun sv => dPut sv k d with
    | some sv => .nx { s2 with ρ := s2.ρ.set i sv }
    | none => .bad) else .bad
theorem dput_of {K : PySem.W.Frag} {i : Nat} {E : Ends} {σ : L2.St} {H : Hp} (q : tS K cl W (sDput i mk m) E σ H) : sDPut (tVar i) (tK K cl W mk) (tM K cl W m) E σ H := by
  obtain ⟨g, F, A, s, rl, h⟩ := q
  refine ⟨g, F, A, s, rl, PostS.ofE (R1 := rDa K) h fun d s1 F' H' A' v e st rl' l h' => ?_⟩
  by_cases hd : isDk' s1.ρ[i]? = true
  · rw [if_pos hd] at h'
    obtain ⟨a, ha, hi⟩ := slot_ref rl' (isDk_or hd)
    refine ⟨_, ha, g, F', A', s1, rl', PostS.ofE (R1 := rKy) h' fun k s2 F2 H2 A2 y e2 st2 rl2 l2 h2 => ?_⟩
    split at h2
    · rename_i sv' eo
      obtain ⟨sv, e1, e2⟩ := Option.bind_eq_some_iff.mp eo
      have l' : Da K F2 v d := Da.mono st2.ff l
      have hsl := rl2.slot i sv e1
      have hlt := rl2.lt e1
      cases sv with
      | dk kvs =>
        cases k with
        | inr ks => cases e2
        | inl k =>
          obtain ⟨a', vs, hA, h3, h4, h5⟩ := hsl
          rw [ha] at h3
          cases h3
          cases (show y = kV k from l2)
          have e2 : (if kvs.length < line then some (SV.dk (putM kvs k d)) else none) = some sv' := e2
          by_cases hz : kvs.length < line
          · rw [if_pos hz] at e2
            cases e2
            obtain ⟨r3, st3⟩ := rl2.mut (sv := .dk (putM kvs k d)) (o := .dK (putK vs k v)) hlt hA ha id ⟨a, _, rfl, rfl, upd_same, put_kv l' h5⟩
            exact ⟨a, _, rfl, DPut.k h4 (by rw [len_kv h5, ← line_eq]; exact hz), h2 _ _ _ _ st3 r3⟩
          · rw [if_neg hz] at e2
            cases e2
      | dt kvs =>
        cases k with
        | inl k => cases e2
        | inr ks =>
          obtain ⟨a', vs, hA, h3, h4, h5⟩ := hsl
          rw [ha] at h3
          cases h3
          obtain ⟨b, rfl, hb⟩ := (show ∃ b, y = .ref b ∧ F2 b = some (.tup (ks.map kV)) from l2)
          have e2 : (if kvs.length < line then some (SV.dt (putM kvs ks d)) else none) = some sv' := e2
          by_cases hz : kvs.length < line
          · rw [if_pos hz] at e2
            cases e2
            obtain ⟨r3, st3⟩ := rl2.mut (sv := .dt (putM kvs ks d)) (o := .dT (putK vs ks v)) hlt hA ha id ⟨a, _, rfl, rfl, upd_same, put_kv l' h5⟩
            exact ⟨a, _, rfl, DPut.t h4 (rl2.same _ _ hb) (by rw [len_kv h5, ← line_eq]; exact hz), h2 _ _ _ _ st3 r3⟩
          · rw [if_neg hz] at e2
            cases e2
      | _ => cases k <;> cases e2
    · exact h2.elim
  · rw [if_neg hd] at h'
    exact h'.elim
theorem s_dput {x : Str} {p pos' : Pos} (hu : X.A.units + 1 < cLine) (i : Nat) (hk : PE X e (tK X.K cl W mk)) (he : PE X b (tM X.K cl W m)) (hs : swapsWith b (some (.Subscript (.Name x p) e pos')) pos.line X.env = pure false := by rfl) (hN : X.N[i]? = some x := by rfl) (hv : Vis X.env.scope x := by first | exact Or.inl rfl | exact Or.inr (Or.inl rfl) | exact Or.inr (Or.inr rfl)) (hd : (x == ("__debug__" : Str)) = false := by decide)
    (hcd : (x == ("__classdict__" : Str)) = false := by decide) : PS X (.Assign [.Subscript (.Name x p) e pos'] b pos) (tS X.K cl W (sDput i mk m)) := (ps_dput hu (pv i hN hv hd hcd) hk he hs).imp fun E σ H q => dput_of q
end
end Lf

set_option Elab.async false
set_option linter.all false
set_option maxRecDepth 100000
/-! LfC: defs: what they promise, how they are called. -/
namespace Lf
open PySem PySem.Spec PyProof.Rows L2

inductive RF where
  | ok (d : D) (k : Option Deck)
  | exc (c : Str) (d : D) (k : Option Deck)
  | bad
def noA : Nat → Option Addr := fun _ => none
def DkRel (K : PySem.W.Frag) (g : Gd) (F H : Hp) (k : Option Deck) : Prop := k.isSome = g.b ∧ (∀ x, k = some x → DeckOk F H g.ad g.l x) ∧ TabOk K g F H
def PostF (K : PySem.W.Frag) (cl : Cl) (g : Gd) (F H : Hp) (r : RF) (Q : VK) (E : XK) : Prop := match r with
  | .ok d k => ∀ F' H' v, Step g F H noA F' H' noA → Same F' H' → DkRel K g F' H' k → Da K F' v d → Q v H'
  | .exc c d k => ∀ F' H' v dp, Step g F H noA F' H' noA → Same F' H' → DkRel K g F' H' k → Da K F' v d → H' dp = some (.xd [("thing", v)]) → E (.ref (cl c)) (some dp) H'
  | .bad => False
/-- a def's promise: it does as its mirror m tells, of n arguments -/
def spM (K : PySem.W.Frag) (cl : Cl) (n : Nat) (m : S0 → RF) : Sp := fun vs H Q E => ∃ g F s, s.ρ.length = n ∧ Rel K g F H noA s (vs.map some) ∧ PostF K cl g F H (m s) Q E
theorem spM_len {K : PySem.W.Frag} {cl : Cl} {n : Nat} {m : S0 → RF} (vs : List V) (H : Hp) (Q : VK) (E : XK) (h : spM K cl n m vs H Q E) : vs.length = n := by
  obtain ⟨g, F, s, h1, h2, _⟩ := h
  have z := h2.len
  rw [List.length_map] at z
  rw [← z, h1]
/-- the mirror of a def by its body's -/
def fnM (mb : MS) (pad : Nat) : S0 → RF := fun s => match mb { s with ρ := s.ρ ++ List.replicate pad .unk } with
  | .nx s' => .ok .none s'.dk
  | .rt d s' => .ok d s'.dk
  | .exc c d s' => .exc c d s'.dk
  | _ => .bad
section
variable {K : PySem.W.Frag} {cl : Cl} {g : Gd} {F F' H H' : Hp} {A A' : Nat → Option Addr} {s s' : S0} {σ : L2.St}
theorem step_drop (st : Step g F H noA F' H' A') : Step g F H noA F' H' noA := ⟨st.ff, st.fn, st.fr, fun i b h => (nomatch (show (none : Option Addr) = some b from h)), st.tr⟩
theorem Rel.dkr (r : Rel K g F H A s σ) : DkRel K g F H s.dk := ⟨r.dkb, r.deck, r.tab⟩
theorem Rel.pad (r : Rel K g F H noA s σ) (n : Nat) : Rel K g F H noA { s with ρ := s.ρ ++ List.replicate n .unk } (σ ++ List.replicate n none) where
  same := r.same
  len := by
    show (s.ρ ++ List.replicate n SV.unk).length = _
    rw [List.length_append, List.length_append, List.length_replicate, List.length_replicate, r.len]
  slot := fun i sv h => by
    have h : (s.ρ ++ List.replicate n SV.unk)[i]? = some sv := h
    by_cases hi : i < s.ρ.length
    · rw [List.getElem?_append_left hi] at h
      rw [List.getElem?_append_left (by rw [← r.len]; exact hi)]
      exact r.slot i sv h
    · rw [List.getElem?_append_right (Nat.le_of_not_lt hi), List.getElem?_replicate] at h
      split at h
      · cases h
        exact rfl
      · cases h
  own := fun i b h => nomatch (show (none : Option Addr) = some b from h)
  sep := fun i j b h _ => nomatch (show (none : Option Addr) = some b from h)
  dkb := r.dkb
  deck := r.deck
  tab := r.tab
/-- behind a callee -/
theorem Rel.callee (r : Rel K g F H A s σ) (st : Step g F H noA F' H' noA) (e : Same F' H') {k : Option Deck} (dk : DkRel K g F' H' k) : Rel K g F' H' A { s with dk := k } σ ∧ Step g F H A F' H' A := by
  have kp : ∀ i b, A i = some b → F' b = none ∧ ¬ Fz H' b ∧ ∀ u, H b = some u → H' b = some u := fun i b h => by
    obtain ⟨h1, h2, h3⟩ := r.own i b h
    obtain ⟨k1, k2, _, k4⟩ := Step.keep st h1 h2 h3 fun j z => nomatch (show (none : Option Addr) = some b from z)
    exact ⟨k1, k2, k4⟩
  refine ⟨⟨e, r.len, fun i sv h => (r.slot i sv h).mono st.ff fun b u z => (kp i b z).2.2 u, fun i b h => ⟨(kp i b h).1, (kp i b h).2.1, (r.own i b h).2.2⟩, r.sep, dk.1, dk.2.1, dk.2.2⟩, st.ff, fun b h => ?_, fun b o h _ nd => st.fr b o h (fun i z => nomatch (show (none : Option Addr) = some b from z)) nd, fun i b h => .inl ⟨i, h⟩, st.tr⟩
  rcases st.fn b h with z | z | ⟨i, z⟩ | z
  · exact .inl z
  · exact .inr (.inl z)
  · exact nomatch (show (none : Option Addr) = some b from z)
  · exact .inr (.inr (.inr z))
end
/-- a def keeps its promise, by its body -/
theorem okM {P : Program} {w : World} {K : PySem.W.Frag} {mg : Str → Option Value} {base : Heap} {x qual : Str} {params : Arguments} {body : List Stmt} {scope : Scope} {dvs : List V} {kws : List (Str × V)} {f : Addr} {fd : FuncData} {N ps : List Str} {k pad : Nat} {cl : Cl} {mb : MS}
    (F : FunD K x qual params body scope dvs kws f fd) (S : FnScope N ps scope) (hn : ps.length + pad = N.length)
    (hb : ∀ (cdv : Value) (A : Around) (outer : List Env) (s : Shared) (H : Hp) (E : XK), Room k (A.deeper (envOfC qual scope s.heap.objs.size f cdv)) →
      PSs (cxOf (L2.CX P w) P w K mg base N qual scope f cdv A outer s H E) body (tS K cl (fun c d _ H => E c d H) mb)) : FnOk P w K mg base (L2.CX P w) (k + 1) f fd ps (spM K cl ps.length (fnM mb pad)) := by
  refine F.ok S spM_len fun cdv A outer s H vs Q E hr h => ⟨_, hb cdv A outer s H E hr, ?_⟩
  have hl := spM_len vs H Q E h
  obtain ⟨g, F0, s0, h1, h2, h3⟩ := h
  have e1 : N.length - vs.length = pad := by rw [hl]; omega
  have r2 := h2.pad pad
  refine ⟨g, F0, noA, _, (by unfold L2.start; rw [e1]; exact r2), ?_⟩
  unfold fnM at h3
  cases e : mb { s0 with ρ := s0.ρ ++ List.replicate pad .unk } with
  | nx s' =>
    rw [e] at h3
    exact fun F' H' A' σ' st rl => h3 F' H' .non (step_drop st) rl.same rl.dkr .non
  | rt d s' =>
    rw [e] at h3
    exact fun F' H' A' σ' v st rl da => h3 F' H' v (step_drop st) rl.same rl.dkr da
  | exc c d s' =>
    rw [e] at h3
    exact fun F' H' A' σ' v dp st rl da ex => h3 F' H' v dp (step_drop st) rl.same rl.dkr da ex
  | bk s' => rw [e] at h3; exact h3.elim
  | ct s' => rw [e] at h3; exact h3.elim
  | bad => rw [e] at h3; exact h3.elim

/-! ### calls -/
inductive Ag where
  | m (f : S0 → R D)
  | dk (i : Nat)
def tAg (K : PySem.W.Frag) (cl : Cl) (W : WX) : Ag → TE
  | .m f => tM K cl W f
  | .dk i => tVar i
def tAgs (K : PySem.W.Frag) (cl : Cl) (W : WX) : List Ag → TA
  | [] => tNil
  | o :: r => tCons (tAg K cl W o) (tAgs K cl W r)
def evalAg : List Ag → S0 → R (List SV)
  | [], s => .ok [] s
  | .m f :: r, s => (f s).bind fun d s1 => (evalAg r s1).bind fun svs s2 => .ok (.dat d :: svs) s2
  | .dk i :: r, s => match s.ρ[i]? with
    | some .deck => (evalAg r s).bind fun svs s2 => .ok (.deck :: svs) s2
    | _ => .bad
def ArgOk (K : PySem.W.Frag) (g : Gd) (F H : Hp) (v : V) (sv : SV) : Prop := SlotOk K F H g.ad sv (some (some v)) none
def rAgs (K : PySem.W.Frag) (g : Gd) : Hp → (Nat → Option Addr) → Hp → Hp → List V → List SV → Prop := fun _ _ F H vs svs => Paired (ArgOk K g F H) vs svs
theorem up_ags {K : PySem.W.Frag} {g : Gd} : Up (rAgs K g) := fun _ _ _ _ _ _ _ _ h => h
theorem ArgOk.mono {K : PySem.W.Frag} {g : Gd} {F F' H H' : Hp} {v : V} {sv : SV} (e : Same F F') (h : ArgOk K g F H v sv) : ArgOk K g F' H' v sv := by
  unfold ArgOk at h ⊢
  exact SlotOk.mono e (fun b u z => nomatch z) h
section
variable {K : PySem.W.Frag} {cl : Cl} {W : WX}
theorem ags_of : ∀ (os : List Ag) (σ : L2.St) (H : Hp) (Q : List V → Hp → Prop), tX K cl W (rAgs K) (evalAg os) σ H Q → tAgs K cl W os σ H Q
  | [], σ, H, Q, ⟨g, F, A, s, rl, h⟩ => h F H A [] .refl rl .nil
  | .m f :: r, σ, H, Q, ⟨g, F, A, s, rl, h⟩ => by
    refine ⟨g, F, A, s, rl, Post.bind (R1 := rDa K) up_ags h fun d s1 F' H' A' v e st rl' l h' => ?_⟩
    refine ags_of r σ H' _ ⟨g, F', A', s1, rl', Post.bind (R1 := rAgs K g) up_ags h' fun svs s2 F2 H2 A2 vs e2 st2 rl2 l2 h2 => ?_⟩
    exact h2 F2 H2 A2 _ .refl rl2 (.cons (show ArgOk K g F2 H2 v (.dat d) from ⟨rfl, v, rfl, Da.mono st2.ff l⟩) l2)
  | .dk i :: r, σ, H, Q, ⟨g, F, A, s, rl, h⟩ => by
    unfold evalAg at h
    split at h
    · rename_i e1
      have hs : σ[i]? = some (some (.ref g.ad)) := (rl.slot i _ e1).2
      refine ⟨_, hs, ags_of r σ H _ ⟨g, F, A, s, rl, Post.bind (R1 := rAgs K g) up_ags h fun svs s2 F2 H2 A2 vs e2 st2 rl2 l2 h2 => ?_⟩⟩
      exact h2 F2 H2 A2 _ .refl rl2 (.cons (show ArgOk K g F2 H2 (.ref g.ad) .deck from ⟨rfl, rfl⟩) l2)
    · exact h.elim
theorem evalAg_len : ∀ (os : List Ag) (s s' : S0) (svs : List SV), evalAg os s = .ok svs s' → svs.length = os.length
  | [], s, s', svs, h => by
    cases h
    rfl
  | .m f :: r, s, s', svs, h => by
    unfold evalAg at h
    cases e : f s with
    | ok d s1 =>
      rw [e] at h
      have h : (evalAg r s1).bind (fun svs s2 => R.ok (.dat d :: svs) s2) = .ok svs s' := h
      cases e2 : evalAg r s1 with
      | ok ws s2 =>
        rw [e2] at h
        cases h
        exact congrArg (· + 1) (evalAg_len r s1 s' ws e2)
      | exc c d s2 => rw [e2] at h; cases h
      | bad => rw [e2] at h; cases h
    | exc c d s2 => rw [e] at h; cases h
    | bad => rw [e] at h; cases h
  | .dk i :: r, s, s', svs, h => by
    unfold evalAg at h
    split at h
    · cases e2 : evalAg r s with
      | ok ws s2 =>
        rw [e2] at h
        cases h
        exact congrArg (· + 1) (evalAg_len r s s' ws e2)
      | exc c d s2 => rw [e2] at h; cases h
      | bad => rw [e2] at h; cases h
    · cases h
/-- what a call comes to -/
def RF.toR (r : RF) (s : S0) : R D := match r with
  | .ok d k => .ok d { s with dk := k }
  | .exc c d k => .exc c d { s with dk := k }
  | .bad => .bad
def mCall (mf : S0 → RF) (os : List Ag) : S0 → R D := fun s => (evalAg os s).bind fun svs s1 => (mf ⟨svs, s1.dk⟩).toR s1
theorem args_rel {g : Gd} {F H : Hp} {A : Nat → Option Addr} {s : S0} {σ : L2.St} {vs : List V} {svs : List SV} (rl : Rel K g F H A s σ) (l : Paired (ArgOk K g F H) vs svs) : Rel K g F H noA ⟨svs, s.dk⟩ (vs.map some) where
  same := rl.same
  len := by
    rw [List.length_map]
    exact (Paired.length l).symm
  slot := fun i sv h => by
    have key : ∀ {vs : List V} {svs : List SV} {i : Nat}, Paired (ArgOk K g F H) vs svs → svs[i]? = some sv → SlotOk K F H g.ad sv (vs.map some)[i]? none := by
      intro vs svs i l
      induction l generalizing i with
      | nil =>
        intro h
        simp at h
      | cons a b ih =>
        intro h
        cases i with
        | zero =>
          simp at h
          subst h
          exact a
        | succ j =>
          have := ih (i := j) (by simpa using h)
          simpa using this
    exact key l h
  own := fun i b h => nomatch (show (none : Option Addr) = some b from h)
  sep := fun i j b h _ => nomatch (show (none : Option Addr) = some b from h)
  dkb := rl.dkb
  deck := rl.deck
  tab := rl.tab
theorem call_of {mf : S0 → RF} {os : List Ag} {n : Nat} (hn : os.length = n) {σ : L2.St} {H : Hp} {Q : VK} (q : tM K cl W (mCall mf os) σ H Q) : tCallS (spM K cl n mf) (WE W) (tAgs K cl W os) σ H Q := by
  obtain ⟨g, F, A, s, rl, h⟩ := q
  refine ags_of os σ H _ ⟨g, F, A, s, rl, Post.bind (R1 := rAgs K g) up_da h fun svs s1 F' H' A' vs e st rl' l h' => ?_⟩
  refine ⟨g, F', ⟨svs, s1.dk⟩, (evalAg_len os s s1 svs e).trans hn, args_rel rl' l, ?_⟩
  cases e2 : mf ⟨svs, s1.dk⟩ with
  | bad =>
    rw [e2] at h'
    exact h'.elim
  | ok d k =>
    rw [e2] at h'
    intro F2 H2 v st2 sm dk da
    obtain ⟨r3, st3⟩ := rl'.callee st2 sm dk
    exact h' F2 H2 A' v st3 r3 da
  | exc c d k =>
    rw [e2] at h'
    intro F2 H2 v dp st2 sm dk da ex
    obtain ⟨r3, st3⟩ := rl'.callee st2 sm dk
    exact h' F2 H2 A' v dp st3 r3 da ex
end
section
variable {X : Cx} {cl : Cl} {W : WX} {a b e : Expr} {es : List Expr} {os : List Ag} {pos : Pos} {m : S0 → R D}
theorem ag_nil : PA X [] (tAgs X.K cl W []) := pa_nil
theorem ag_cons {o : Ag} (h1 : PE X e (tAg X.K cl W o)) (h2 : PA X es (tAgs X.K cl W os)) (hs : starEach (e :: es) X.env = (false, eval e X.env) :: starEach es X.env := by rfl) : PA X (e :: es) (tAgs X.K cl W (o :: os)) := pa_cons h1 h2 hs
theorem ag_m (h : PE X e (tM X.K cl W m)) : PE X e (tAg X.K cl W (.m m)) := h
theorem ag_dk {x : Str} (i : Nat) (hN : X.N[i]? = some x := by rfl) (hv : Vis X.env.scope x := by first | exact Or.inl rfl | exact Or.inr (Or.inl rfl) | exact Or.inr (Or.inr rfl)) (hd : (x == ("__debug__" : Str)) = false := by decide)
    (hcd : (x == ("__classdict__" : Str)) = false := by decide) : PE X (.Name x pos) (tAg X.K cl W (.dk i)) := pv i hN hv hd hcd
theorem e_call {k : Nat} {f : Addr} {fd : FuncData} {ps : List Str} {mf : S0 → RF} {x : Str} {p : Pos} (G : FnOk X.prog X.w X.K X.mg X.base (L2.CX X.prog X.w) k f fd ps (spM X.K cl ps.length mf)) (hr : Room k X.A) (hg : Gl X x) (hm : X.mg x = some (.ref f)) (hk : PySem.W.keepIn X.K (.ref f) = true) (hb : Binds X.K fd ps []) (tk : Takes X W)
    (ha : PA X (e :: es) (tAgs X.K cl W os)) (hl : os.length = ps.length := by rfl) (hdb : (x == ("__debug__" : Str)) = false := by decide) (he : starEach (e :: es) X.env = (false, eval e X.env) :: starEach es X.env := by rfl) (hpl : (backTo pos (starEach es X.env)).any (·.1) = false := by rfl) :
    PE X (.Call (.Name x p) (e :: es) [] pos) (tM X.K cl W (mCall mf os)) := (pe_callS G hr hg hm hk hb (fun σ => passAt tk σ) ha hdb he hpl).imp fun σ H Q q => call_of hl q
end
end Lf

set_option Elab.async false
set_option linter.all false
set_option maxRecDepth 100000
/-! LfE: own errors over Exception, with a field thing. -/
namespace Lf
namespace Er
open PySem PySem.W PySem.Calls PyProof.Rows PySem.HandSPX
abbrev exT : List Value := [.type "Exception", .type "BaseException", .type "object"]
def iA (p1 p2 : Pos) : Arguments := { posonlyargs := [], args := [{ arg := "self", annotation := none, pos := p1 }, { arg := "thing", annotation := none, pos := p2 }], vararg := none, kwonlyargs := [], kw_defaults := [], kwarg := none, defaults := [] }
def iB (q1 q2 q3 q4 : Pos) : List Stmt := [.Assign [.Attribute (.Name "self" q1) "thing" q2] (.Name "thing" q3) q4]
def iS : Scope := { kind := .function, names := [(PySem.Str.ofString "self", .local), (PySem.Str.ofString "thing", .local)], isGenerator := false, isCoroutine := false, more := [] }
/-- what stands of the class x, at C, and of its __init__, at fI -/
structure ErrC (K : Frag) (mg : Str → Option Value) (x : Str) (C fI : Addr) : Prop where
  gC : mg x = some (.ref C)
  ci : excInitIn K C exT "Exception.__new__" = true
  sa : findIn K (.ref C) "__setattr__" = some (some (.builtin "object.__setattr__"))
  ga : findIn K (.ref C) "__getattribute__" = some (some (.builtin "BaseException.__getattribute__"))
  gg : findIn K (.ref C) "__getattr__" = some none
  noN : findIn K (.ref C) "thing" = some none
  iC : findIn K (.ref C) "__init__" = some (some (.ref fI))
  tC : typeIn K (.ref fI) = some (.type "function")
  kC : keepIn K (.ref C) = true
  exC : subIn K (.ref C) (.type "BaseException") = some true
  tyC : typeIn K (.ref C) = some (.type "type")
  hdC : hasDictIn K C = true
  fn : ∃ (oc : Value) (od : Option Addr) (kV doc pm : Value) (an : Option Addr) (cdv ct : Value) (osl : Array (Option Value)) (q : Str) (p1 p2 q1 q2 q3 q4 : Pos),
    K.lookup fI = some ⟨oc, od, .func (fnOf "__init__" q (iA p1 p2) (iB q1 q2 q3 q4) iS .none kV doc pm an cdv ct), osl⟩ ∧ codeIn K cdv q = true
theorem excCls_of {K : Frag} {C : Addr} {bmB : List Value} {newId : String} (q : excInitIn K C bmB newId = true) : ∃ cd bm, clsIn K C = some cd ∧ cd.mro = .ref C :: bm ∧ excTail bmB bm = true := by
  unfold excInitIn at q
  split at q
  · rename_i dd cd sl ho
    split at q
    · rename_i C' bm k0 k1 k2 k3 n k5 hm hs
      simp only [Bool.and_eq_true, beq_iff_eq] at q
      obtain ⟨⟨⟨e1, _⟩, _⟩, ht⟩ := q
      subst e1
      exact ⟨cd, bm, by unfold clsIn; rw [ho], hm, ht⟩
    · cases q
  · cases q
theorem kept_but {K : Frag} {h h' : Heap} {x : Addr} (X : K.In h) (hx : K.lookup x = none) (k : ∀ b o, b ≠ x → h.get? b = some o → h'.get? b = some o) : K.In h' := fun a o e =>
  k a o (fun z => by rw [z, hx] at e; cases e) (X a o e)
theorem ldC {M : Model} {s : Shared} {name : Str} {scope : Scope} {L a : Addr} {cd : Value} {m : Str → Option Value} {x : Str} {pos : Pos} {v : Value} {Q : Value → Shared → Prop} {A : Around} {E : Value → Shared → Prop} (hn : s.heap.Ns L m) (hv : m x = some v) (h : Q v s)
    (hk : scope.kind = .function := by rfl) (hl : (envOfC name scope L a cd).kindOf x = some .local := by rfl) (hd : (x == ("__debug__" : Str)) = false := by decide) :
    wpAny M A (eval (.Name x pos) (envOfC name scope L a cd)) Q E s := wpAny_Name (wpAny_loadName_local hk hl hn hv h) hd
/-- what __init__ leaves of a fresh exception at x -/
structure InitEnd (h h' : Heap) (x C dx t1 : Addr) (v : Value) : Prop where
  keep : ∀ b o, b ≠ x → h.get? b = some o → h'.get? b = some o
  obj : h'.get? x = some { cls := .ref C, dict := some dx, data := .fields #[.ref t1, .none, .none, .none, .bool false, .none] }
  dbig : h.objs.size ≤ dx
  dne : dx ≠ x
  ns : h'.Ns1 dx (fun y => if y = "thing" then some v else none)
/-- a made error -/
structure OwnMade (h h' : Heap) (e C d : Addr) (v : Value) : Prop where
  keep : ∀ b o, h.get? b = some o → h'.get? b = some o
  new : h.objs.size ≤ e
  obj : ∃ oe vs, h'.get? e = some oe ∧ oe.cls = .ref C ∧ oe.dict = some d ∧ oe.data = .fields vs ∧ vs[1]? = some .none
  dbig : h.objs.size ≤ d
  dne : d ≠ e
  ns : h'.Ns1 d (fun y => if y = "thing" then some v else none)
section
open Builtin Builtin.ObjectAttr
variable {prog : Program} {w : World} {A : Around} {E : Value → Shared → Prop} {R : Result → Shared → Prop} {hp : Heap} {g : Array GenState} {d : Drawn} {t : Nat} {os : OsState}
/-- self.name = v on an exception that has no dict yet -/
theorem exc_osaT {K : Frag} {name : Str} {tk : Tok} {v : Value} {x C : Addr} {fv : Array Value} {cd : ClassData}
    (X : K.In hp) (hx : hp.get? x = some { cls := .ref C, data := .fields fv }) (hcd : clsIn K C = some cd) {bm : List Value} (hmr0 : cd.mro = .ref C :: bm) (hm : excTail exT bm = true) (hh : cd.hasDict = true) (ha : findIn K (.ref C) name = some none)
    (hq : ∀ h' tk' dx, (∀ b o, b ≠ x → hp.get? b = some o → h'.get? b = some o) → hp.objs.size ≤ dx → dx ≠ x → h'.get? x = some { cls := .ref C, dict := some dx, data := .fields fv } →
      h'.Ns1 dx (fun y => if y = name then some v else none) → R (.ok (.ret .none)) ⟨h', g, d, tk', os⟩) :
    codeAny (model prog w) A (.call (.builtin "object.__setattr__") ⟨[.ref x, .str name tk, v], []⟩) R ⟨hp, g, d, t, os⟩ := by
  have I : InstAt hp x { cls := .ref C, data := .fields fv } C none := ⟨hx, rfl, rfl, trivial⟩
  have SF := F.store_object
  have hm2 : excTail exT cd.mro = true := by rw [hmr0]; exact hm
  have hob : cd.mro.contains (.type "object") = true := (excTail_contains "object" _ hm2).trans (by decide +kernel)
  have hxs : x ≠ hp.objs.size := Nat.ne_of_lt (Heap.lt_size hx)
  have sub : Looks (model prog w) hp (isInstance (.ref x) (.type "object")) true := I.type.andThen (looks_mroIn X (by
    unfold mroIn
    rw [hcd, Option.bind_some, hob, if_neg (by rw [hmr0]; exact Bool.false_ne_true)]))
  refine codeAny_call_builtin SF.slot.plain SF.entry (@check_slot (model prog w) _ _ ⟨hp, g, d, t, os⟩ "object.__setattr__" "object" "__setattr__" (.ref x) [.str name tk, v] [] _ SF.kind SF.split sub (SF.args (.ref x) (.str name tk) v) ?_)
  have hmr : Looks (model prog w) hp (mroOf (.ref C)) cd.mro := (looks_clsIn X hcd).andThen .now
  have L3 : Looks (model prog w) hp (storeTaker? none) none := .now
  have hcls : Looks (model prog w) hp (classData C) cd := looks_clsIn X hcd
  rw [osa_eq, refuse_eq]
  refine wpAny_bind (wpAny_bind (I.type.at (wpAny_bind (hmr.at ?_))))
  rw [excTail_pass _ (F.store_Exception.passes _) _ hm2]
  refine wpAny_pure (wpAny_bind (I.type.at (wpAny_bind ((looks_findIn X ha).at (wpAny_bind (L3.at ?_))))))
  show wpAny _ _ (storeInOwnDict (.ref x) (.ref C) (.str name tk) name v false) _ _ _
  obtain ⟨nm, bs, mro, ns, qn, hd, sn, sb, ab, col, del⟩ := cd
  dsimp only at hh
  subst hh
  unfold storeInOwnDict ownDictForStores
  repeat (first | with_reducible refine HandSPX.store_in_new ?_ ?_ | with_reducible refine wpAny_loadPart_at hx ?_ | with_reducible refine hcls.at ?_ | wp_step)
  · exact ⟨_, #[], _, (Heap.get?_update_ne _ _ _ _ hxs.symm).trans (Heap.get?_push_at rfl rfl), rfl, fun e he => absurd he (by simp), fun _ => rfl⟩
  · intro h' tk' hn' hs
    have hx₁ : (hp.push { cls := .type "dict", data := .dict #[] }).get? x = some { cls := .ref C, data := .fields fv } := Heap.get?_push_of_some _ hx
    refine hq h' tk' hp.objs.size (fun b o hb ho => ?_) (Nat.le_refl _) hxs.symm ?_ hn'
    · exact (hs.2 b (Nat.ne_of_lt (Heap.lt_size ho))).trans ((Heap.get?_update_ne _ _ _ _ hb).trans (Heap.get?_push_of_some _ ho))
    · exact (hs.2 x hxs).trans (Heap.get?_update_self _ hx₁ rfl)
end
section
variable {prog : Program} {w : World} {A : Around} {E : Value → Shared → Prop} {R : Result → Shared → Prop} {s : Shared} {K : Frag} {mg : Str → Option Value} {x0 : Str} {C fI : Addr}
theorem err_init (T : ErrC K mg x0 C fI) {x t0 : Addr} {v : Value} (X : K.In s.heap) (hlim : s.heap.NoLimit) (hx : s.heap.get? x = some (excO C t0)) (hnx : K.lookup x = none) (hroom : A.depth < recursionLimit)
    (hq : ∀ h' tk dx, InitEnd s.heap h' x C dx t0 v → R (.ok (.ret .none)) { s with heap := h', toks := tk }) :
    codeAny (model prog w) A (.call (.ref fI) ⟨[.ref x, v], []⟩) R s := by
  obtain ⟨oc, od, kV, doc, pm, an, cdv, ct, osl, q, p1, p2, q1, q2, q3, q4, ho, hcd⟩ := T.fn
  obtain ⟨cd, bm, hcl, hm0, hm⟩ := excCls_of T.ci
  have hdd : cd.hasDict = true := by
    have z := T.hdC
    unfold hasDictIn at z
    rw [hcl] at z
    simpa using z
  refine Att.call_fn (binds := [("self", .ref x), ("thing", v)]) X hlim ho hcd hroom (BindsTo.of_eq (by first | rfl | with_unfolding_all rfl)) (by first | rfl | decide | with_unfolding_all rfl) (fun s₁ IC => ?_) rfl rfl rfl
  obtain ⟨h₁, tk₁, rfl⟩ := IC.toInCall.same
  have k : ∀ b o, s.heap.get? b = some o → h₁.get? b = some o := IC.toInCall.keep
  have hn := IC.toInCall.ns
  have hxL : s.heap.objs.size ≠ x := Nat.ne_of_gt (Heap.lt_size hx)
  have X₁ : K.In h₁ := X.keeps k
  have hx₁ := k _ _ hx
  show wpAny _ _ (execs _ _) _ _ _
  refine wpAny_execs_cons (plainObj_wpAny_Assign_Attribute ?_)
  refine ldC (v := v) hn (by first | rfl | with_unfolding_all rfl | kernel_rfl) (ldC (v := .ref x) hn (by first | rfl | with_unfolding_all rfl | kernel_rfl) ?_)
  refine set_plain X₁ (ox := excO C t0) (od := none) ⟨hx₁, rfl, rfl, trivial⟩ T.sa ?_
  refine exc_osaT X₁ hx₁ hcl hm0 hm hdd T.noN (fun h₃ tk₃ dx k₃ dn dne hx₃ hn₃ => ?_)
  show wpAny _ _ (execs _ _) _ _ _
  have z : s.heap.objs.size < h₁.objs.size := hn.lt
  exact wpAny_execs_nil (hq h₃ tk₃ dx ⟨fun b o hb e => k₃ b o hb (k b o e), hx₃, Nat.le_of_lt (Nat.lt_of_lt_of_le z dn), dne, hn₃⟩)
theorem err_made (T : ErrC K mg x0 C fI) {v : Value} (X : K.In s.heap) (hlim : s.heap.NoLimit) (hroom : A.depth + 1 < recursionLimit)
    (hq : ∀ h' tk e d, OwnMade s.heap h' e C d v → R (.ok (.ret (.ref e))) { s with heap := h', toks := tk }) :
    codeAny (model prog w) A (.call (.ref C) ⟨[v], []⟩) R s := by
  obtain ⟨nm, N, q, bs, bm, hdct, sn, sub, ab, col, dd, k0, k1, k2, k3, k5, hC, hbm⟩ := excInit_of X T.ci
  obtain ⟨hp, g, dr, tk, os⟩ := s
  have k : ∀ b o, hp.get? b = some o → ((hp.push (kdv_tup [v])).push (excO C hp.objs.size)).get? b = some o := fun b o e => Heap.get?_push_of_some _ (Heap.get?_push_of_some _ e)
  have hget : ((hp.push (kdv_tup [v])).push (excO C hp.objs.size)).get? (hp.objs.size + 1) = some (excO C hp.objs.size) := by heap_get
  have hnx : K.lookup (hp.objs.size + 1) = none := by
    cases e : K.lookup (hp.objs.size + 1) with
    | none => rfl
    | some o =>
      have z : hp.get? (hp.objs.size + 1) = some o := X _ _ e
      exact absurd (Nat.lt_of_succ_lt (Heap.lt_size z)) (Nat.lt_irrefl _)
  refine call_own F.excBase_Exception hbm hC (looks_findIn X T.iC) (fun self => bind_fn X self T.tC) (by show 1 ≤ sizeLine; rw [sizeLine_eq]; omega) ?_
  refine err_init (s := ⟨(hp.push (kdv_tup [v])).push (excO C hp.objs.size), g, dr, tk, os⟩) T (X.keeps k) (hlim.keeps k) hget hnx ?_ fun h' tk' dx ⟨k', hx, dn, dne, hns⟩ => ?_
  · show A.depth + 1 < recursionLimit
    exact hroom
  · have old : ∀ b o, hp.get? b = some o → h'.get? b = some o := fun b o e => k' b o (Nat.ne_of_lt (Nat.lt_succ_of_lt (Heap.lt_size e))) (k b o e)
    have z : hp.objs.size + 1 + 1 ≤ dx := by
      first
        | (simpa only [Heap.size_push] using dn)
        | exact dn
        | (have q := dn; rw [Heap.size_push, Heap.size_push] at q; exact q)
    exact ⟨rfl, hq h' tk' (hp.objs.size + 1) dx ⟨old, Nat.le_succ _, ⟨_, _, hx, rfl, rfl, rfl, rfl⟩, Nat.le_trans (Nat.le_trans (Nat.le_succ _) (Nat.le_succ _)) z, dne, hns⟩⟩
end
end Er
open PySem PySem.Spec PyProof.Rows L2
theorem relO_thing {v : V} {v' : Value} (r : RelV v v') (f : Str) : RelO (List.lookup f [(("thing" : Str), v)]) (if f = "thing" then some v' else none) := by
  by_cases hw : f = "thing"
  · subst hw
    rw [if_pos rfl]
    have q : List.lookup ("thing" : Str) [(("thing" : Str), v)] = some v := by simp [List.lookup]
    rw [q]
    exact r
  · rw [if_neg hw]
    have qw : (f == ("thing" : Str)) = false := by simpa using hw
    have q2 : List.lookup f [(("thing" : Str), v)] = none := by simp [List.lookup, qw]
    rw [q2]
    trivial
section
variable {X : Cx} {C fI : Addr}
def tMkE (C : Addr) (ta : TA) : L2.St → Hp → XK → Prop := fun σ H Q => ta σ H fun vs H1 => ∃ v, vs = [v] ∧ ∀ d, H1 d = none → Q (.ref C) (some d) (upd H1 d (.xd [(("thing" : Str), v)]))
theorem pmk_err {a : Expr} {ta : TA} {x : Str} {p pos : Pos} {k : Nat} (T : Er.ErrC X.K X.mg x C fI) (hr : Room k X.A) (ha : PA X [a] ta) (hg : Gl X x)
    (he : starEach (a :: []) X.env = (false, eval a X.env) :: starEach [] X.env := by rfl) (hpl : (backTo pos (starEach [] X.env)).any (·.1) = false := by rfl) (hdb : (x == ("__debug__" : Str)) = false := by decide) :
    PMk X (.Call (.Name x p) [a] [] pos) (tMkE C ta) := by
  intro pins s σ H Q I h
  refine wpAny_Call_Name_kw (ld_glob I hg T.gC ?_ hdb)
  refine PySem.W.callWith_K (h₀ := X.base) I.ok.mod.kin T.kC (thn (ha.run pos pins s σ H _ I h) fun us s1 hh => ?_) he hpl
  obtain ⟨vs, H1, I1, r1, v, ev, q1⟩ := hh
  subst ev
  refine ⟨I1.kIn, ?_⟩
  cases r1 with
  | cons rv rn =>
    rename_i v' us'
    cases rn
    show wpAny _ _ (PySem.call (.ref C) [v']) _ _ _
    have hlim := I1.nolimit
    obtain ⟨hp, g, dr, tk, os⟩ := s1
    refine wpAny_call (Er.err_made T I1.kIn hlim (by have := hr.dp; omega) fun h' tk' e d M => ?_)
    show MkP X pins σ Q (.ref e) ⟨h', g, dr, tk', os⟩
    obtain ⟨oe, fv, hoe, hc, hd, hdat, h1⟩ := M.obj
    have hns := M.ns
    obtain ⟨G', g1, g2⟩ := restrict h' fun b => decide (b ≠ e)
    have gk : ∀ b, b ≠ e → G'.get? b = h'.get? b := fun b hb => g1 b (decide_eq_true hb)
    have ge : G'.get? e = none := g2 e (by simp)
    have old : ∀ b o, hp.get? b = some o → G'.get? b = some o := fun b o q => (gk b (Nat.ne_of_lt (Nat.lt_of_lt_of_le (Heap.lt_size q) M.new))).trans (M.keep b o q)
    have ob : ObjOk X.prog X.w (upd H1 d (.xd [(("thing" : Str), v)])) G' d (.xd [(("thing" : Str), v)]) :=
      ⟨_, hns.at (fun o q => (gk d M.dne).trans q), fun f => relO_thing rv f⟩
    have J : Inv X pins σ (upd H1 d (.xd [(("thing" : Str), v)])) ⟨G', g, dr, tk', os⟩ := I1.laid (t' := tk') old M.dbig ob
    refine ⟨e, oe, fv, ⟨G', g, dr, tk', os⟩, _, .ref C, some d, rfl, J, fun b o q => ?_, ge, hoe, ⟨hc, hd⟩, hdat, h1, ?_, rfl, I1.bare, raises_own T.exC T.tyC, q1 d (I1.hok.fresh M.dbig)⟩
    · by_cases hb : b = e
      · have q' : G'.get? b = some o := q
        rw [hb, ge] at q'; cases q'
      · exact (gk b hb).symm.trans q
    · rw [upd_ne (Ne.symm M.dne)]
      exact I1.hok.fresh M.new
/-- raise x(e) -/
def sRaise (c : Str) (m : S0 → R D) : MS := fun s => (m s).toS fun d s1 => .exc c d s1
theorem s_raise {cl : Cl} {W : WX} {a : Expr} {m : S0 → R D} {x : Str} {p pos pos2 : Pos} {k : Nat} (hc : X.calm = true) (T : Er.ErrC X.K X.mg x (cl x) fI) (hr : Room k X.A) (tk : Takes X W) (ha : PE X a (tM X.K cl W m)) (hg : Gl X x)
    (he : starEach (a :: []) X.env = (false, eval a X.env) :: starEach [] X.env := by rfl) (hpl : (backTo pos (starEach [] X.env)).any (·.1) = false := by rfl) (hdb : (x == ("__debug__" : Str)) = false := by decide) :
    PS X (.Raise (some (.Call (.Name x p) [a] [] pos)) none pos2) (tS X.K cl W (sRaise x m)) := (ps_raise hc tk (pmk_err T hr (pa_cons ha pa_nil he) hg he hpl hdb)).imp fun E σ H ⟨g, F, A, s, rl, h⟩ => by
  refine ⟨g, F, A, s, rl, PostS.ofE (R1 := rDa X.K) h fun d s1 F' H' A' v e st rl' l h' => ⟨v, rfl, fun dp hdp => ?_⟩⟩
  obtain ⟨r2, st2, _⟩ := fresh_ok rl' hdp (.xd [(("thing" : Str), v)])
  exact h' _ _ _ _ v dp st2 r2 l upd_same
end
end Lf

set_option Elab.async false
set_option linter.all false
set_option maxRecDepth 100000
/-! LfH: known objects, tracked for the time of a call. -/
namespace Lf
open PySem PySem.Spec PyProof.Rows L2
open Classical

/-- (F, H), and (G, J), which knows the objects in S too -/
structure Enr (S : Addr → Prop) (h : Heap) (F H G J : Hp) : Prop where
  pf : ∀ b, S b → F b = none
  ph : ∀ b, S b → H b = none
  ob : ∀ b, S b → ∃ o, h.get? b = some o ∧ PinF G b o ∧ J b = some (.frz o (.own 0))
  ef : ∀ b, ¬ S b → G b = F b
  eh : ∀ b, ¬ S b → J b = H b
noncomputable def hdel (S : Addr → Prop) (H : Hp) : Hp := fun b => if S b then none else H b
noncomputable def hadd (S : Addr → Prop) (h : Heap) (H : Hp) : Hp := fun b => if S b then (h.get? b).map fun o => HO.frz o (.own 0) else H b
theorem hdel_in {S : Addr → Prop} {H : Hp} {b : Addr} (h : S b) : hdel S H b = none := if_pos h
theorem hdel_out {S : Addr → Prop} {H : Hp} {b : Addr} (h : ¬ S b) : hdel S H b = H b := if_neg h
theorem hadd_in {S : Addr → Prop} {h : Heap} {H : Hp} {b : Addr} {o : Obj} (q : S b) (e : h.get? b = some o) : hadd S h H b = some (.frz o (.own 0)) := by
  unfold hadd
  rw [if_pos q, e]
  rfl
theorem hadd_out {S : Addr → Prop} {h : Heap} {H : Hp} {b : Addr} (q : ¬ S b) : hadd S h H b = H b := if_neg q
section
variable {K : PySem.W.Frag} {S : Addr → Prop} {h h' B : Heap} {F H G J F' H' G' J' : Hp} {g : Gd} {P : Program} {w : World} {mg : Str → Option Value} {base : Heap} {A : Around} {outer : List Env} {s s' : Shared} {fs : List Addr}
/-- enriched -/
theorem Enr.add (pf : ∀ b, S b → F b = none) (ph : ∀ b, S b → H b = none) (ob : ∀ b, S b → ∃ o, h.get? b = some o) : Enr S h F H (hadd S h F) (hadd S h H) :=
  ⟨pf, ph, fun b q => by
    obtain ⟨o, e⟩ := ob b q
    exact ⟨o, e, hadd_in q e, hadd_in q e⟩, fun b q => hadd_out q, fun b q => hadd_out q⟩
/-- stripped -/
theorem Enr.del (sm : Same G J) (ob : ∀ b, S b → ∃ o, h.get? b = some o ∧ PinF G b o) : Enr S h (hdel S G) (hdel S J) G J :=
  ⟨fun b q => hdel_in q, fun b q => hdel_in q, fun b q => by
    obtain ⟨o, e1, e2⟩ := ob b q
    exact ⟨o, e1, e2, sm _ _ e2⟩, fun b q => (hdel_out q).symm, fun b q => (hdel_out q).symm⟩
theorem Enr.pin (e : Enr S h F H G J) {b : Addr} (q : S b) : ∃ o, h.get? b = some o ∧ J b = some (.frz o (.own 0)) := by
  obtain ⟨o, h1, _, h2⟩ := e.ob b q
  exact ⟨o, h1, h2⟩
theorem Enr.notS (e : Enr S h F H G J) {b : Addr} {o : HO} (q : J b = some o) (n : ∀ ob u, o ≠ .frz ob u) : ¬ S b := fun z => by
  obtain ⟨o', _, h2⟩ := e.pin z
  rw [q] at h2
  exact n _ _ (Option.some.inj h2)
theorem Enr.notSF (e : Enr S h F H G J) {b : Addr} {o : HO} (q : G b = some o) (n : ∀ ob u, o ≠ .frz ob u) : ¬ S b := fun z => by
  obtain ⟨o', _, h2, _⟩ := e.ob b z
  have h2 : G b = some (.frz o' (.own 0)) := h2
  rw [q] at h2
  exact n _ _ (Option.some.inj h2)
theorem Enr.notSH (e : Enr S h F H G J) {b : Addr} {o : HO} (q : H b = some o) : ¬ S b := fun z => by
  rw [e.ph b z] at q
  cases q
/-! ### the heap itself -/
theorem hok_up (e : Enr S h F H G J) (k : HOk P w H h') (hx : ∀ b, S b → ∀ o, h.get? b = some o → h'.get? b = some o) : HOk P w J h' := fun b u q => by
  by_cases z : S b
  · obtain ⟨o, e1, e2⟩ := e.pin z
    rw [q] at e2
    cases e2
    have e3 := hx b z o e1
    exact ⟨e3, ⟨o, e3⟩⟩
  · rw [e.eh b z] at q
    refine (k b u q).stay (fun _ _ _ q => q) (fun c q2 => ?_) fun c xs q2 => ?_
    · rw [e.eh c (e.notSH q2)]
      exact q2
    · rw [e.eh c (e.notSH q2)]
      exact q2
theorem hok_down (e : Enr S h F H G J) (k : HOk P w J h') : HOk P w H h' := fun b u q => by
  have z := e.notSH q
  have q2 : J b = some u := by
    rw [e.eh b z]
    exact q
  refine (k b u q2).stay (fun _ _ _ q => q) (fun c q3 => ?_) fun c xs q3 => ?_
  · rw [← e.eh c (e.notS q3 fun _ _ z => by cases z)]
    exact q3
  · rw [← e.eh c (e.notS q3 fun _ _ z => by cases z)]
    exact q3
theorem env0_up (e : Enr S s.heap F H G J) (E0 : Env0 P w K mg base A outer s H) (nb : ∀ b, S b → base.get? b = none) (nf : ∀ b, S b → b ∉ frs outer) : Env0 P w K mg base A outer s J :=
  ⟨E0.frames, E0.mod, fun b o q => by
    have z : ¬ S b := fun z => by
      rw [nb b z] at q
      cases q
    exact ⟨(E0.bs b o q).1, by rw [e.eh b z]; exact (E0.bs b o q).2⟩, E0.bsz, E0.funs, fun b q => by
    have z : ¬ S b := fun z => nf b z q
    rw [e.eh b z]
    exact E0.frf b q, hok_up e E0.hok fun _ _ _ q => q, E0.bare⟩
theorem env0_down (e : Enr S s.heap F H G J) (E0 : Env0 P w K mg base A outer s J) : Env0 P w K mg base A outer s H :=
  ⟨E0.frames, E0.mod, fun b o q => by
    refine ⟨(E0.bs b o q).1, ?_⟩
    have z := (E0.bs b o q).2
    by_cases y : S b
    · exact e.ph b y
    · rw [← e.eh b y]
      exact z, E0.bsz, E0.funs, fun b q => by
    by_cases y : S b
    · exact e.ph b y
    · rw [← e.eh b y]
      exact E0.frf b q, hok_down e E0.hok, E0.bare⟩
/-- what a callee that knows S has done, told without S -/
theorem un_down (e : Enr S h F H G J) (U : Un fs [] J J' h h') (k : HOk P w J' h') : Un fs [] H (hdel S J') h h' := by
  have fz : ∀ b, S b → ∃ o, h.get? b = some o ∧ J' b = some (.frz o (.own 0)) := fun b z => by
    obtain ⟨o, e1, e2⟩ := e.pin z
    exact ⟨o, e1, U.frzs b o _ e2⟩
  refine ⟨fun b o q n hf hx => ?_, fun b o q n hf hx => ?_, fun b o q n hx => ?_, U.there, fun b xs q => ?_, fun b o u q => ?_, fun b ps q => ?_⟩
  · by_cases z : S b
    · obtain ⟨o', e1, e2⟩ := fz b z
      rw [q] at e1
      cases e1
      exact (show ObjOk P w J' h' b (.frz o (.own 0)) from k b _ e2).1
    · exact U.keep b o q (by rw [e.eh b z]; exact n) hf hx
  · by_cases z : S b
    · obtain ⟨o', e1, e2⟩ := fz b z
      rw [q] at e1
      cases e1
      exact ⟨o.slots, by
        have y := (show ObjOk P w J' h' b (.frz o (.own 0)) from k b _ e2).1
        exact y⟩
    · exact U.slot b o q (by rw [e.eh b z]; exact n) hf hx
  · by_cases z : S b
    · exact hdel_in z
    · rw [hdel_out z]
      exact U.free b o q (by rw [e.eh b z]; exact n) hx
  · have z := e.notSH q
    rw [hdel_out z]
    exact U.tups b xs (by rw [e.eh b z]; exact q)
  · have z := e.notSH q
    rw [hdel_out z]
    exact U.frzs b o u (by rw [e.eh b z]; exact q)
  · have z := e.notSH q
    rw [hdel_out z]
    exact U.tbls b ps (by rw [e.eh b z]; exact q)
theorem hok_del (e : Enr S h F H G J) (fz : ∀ b, S b → ∃ o, J' b = some (.frz o (.own 0))) (k : HOk P w J' B) : HOk P w (hdel S J') B := fun b u q => by
  have z : ¬ S b := fun z => by
    rw [hdel_in z] at q
    cases q
  rw [hdel_out z] at q
  refine (k b u q).stay (fun _ _ _ q => q) (fun c q3 => ?_) fun c xs q3 => ?_
  · have y : ¬ S c := fun y => by
      obtain ⟨o, e2⟩ := fz c y
      rw [q3] at e2
      cases e2
    rw [hdel_out y]
    exact q3
  · have y : ¬ S c := fun y => by
      obtain ⟨o, e2⟩ := fz c y
      rw [q3] at e2
      cases e2
    rw [hdel_out y]
    exact q3
theorem cr_down {Q : VK} {E : XK} {r : Result} (e : Enr S s.heap F H G J) (c : CR (L2.CX P w) outer P w J s (fun v J' => (∀ b, S b → J' b = J b) → Q v (hdel S J')) (fun c d J' => (∀ b, S b → J' b = J b) → E c d (hdel S J')) r s') :
    CR (L2.CX P w) outer P w H s Q E r s' := by
  cases r with
  | ok f =>
    cases f with
    | ret u =>
      obtain ⟨v, J', os, bare, U, k, rv, q⟩ := c
      have fz : ∀ b, S b → J' b = J b := fun b z => by
        obtain ⟨o, e1, e2⟩ := e.pin z
        rw [e2]
        exact U.frzs b o _ e2
      exact ⟨v, hdel S J', os, bare, un_down e U k, hok_del e (fun b z => by
        obtain ⟨o, e1, e2⟩ := e.pin z
        exact ⟨o, U.frzs b o _ e2⟩) k, rv, q fz⟩
    | next => exact c
    | brk => exact c
    | cont => exact c
  | error u =>
    obtain ⟨a, B, J', cls, d, eu, fl, k, U, na, os, bare, q⟩ := c
    have fz : ∀ b, S b → ∃ o, s.heap.get? b = some o ∧ J' b = some (.frz o (.own 0)) := fun b z => by
      obtain ⟨o, e1, e2⟩ := e.pin z
      exact ⟨o, e1, U.frzs b o _ e2⟩
    refine ⟨a, B, hdel S J', cls, d, eu, fl, hok_del e (fun b z => by
        obtain ⟨o, _, e2⟩ := fz b z
        exact ⟨o, e2⟩) k, ⟨fun b o q n hf => ?_, U.slot, fun b o q n => ?_, U.there, fun b xs q => ?_, fun b o u q => ?_, fun b ps q => ?_⟩, ?_, os, bare, q fun b z => by
        obtain ⟨o, e1, e2⟩ := e.pin z
        rw [e2]
        exact U.frzs b o _ e2⟩
    · by_cases z : S b
      · obtain ⟨o', e1, e2⟩ := fz b z
        rw [q] at e1
        cases e1
        exact (show ObjOk P w J' B b (.frz o (.own 0)) from k b _ e2).1
      · exact U.keep b o q (by rw [e.eh b z]; exact n) hf
    · by_cases z : S b
      · exact hdel_in z
      · rw [hdel_out z]
        exact U.free b o q (by rw [e.eh b z]; exact n)
    · have z := e.notSH q
      rw [hdel_out z]
      exact U.tups b xs (by rw [e.eh b z]; exact q)
    · have z := e.notSH q
      rw [hdel_out z]
      exact U.frzs b o u (by rw [e.eh b z]; exact q)
    · have z := e.notSH q
      rw [hdel_out z]
      exact U.tbls b ps (by rw [e.eh b z]; exact q)
    · by_cases z : S a
      · exact hdel_in z
      · rw [hdel_out z]
        exact na
/-- the known objects, put back -/
noncomputable def hback (S : Addr → Prop) (J H' : Hp) : Hp := fun b => if S b then J b else H' b
theorem hback_in {b : Addr} (z : S b) : hback S J H' b = J b := if_pos z
theorem hback_out {b : Addr} (z : ¬ S b) : hback S J H' b = H' b := if_neg z
theorem hok_back (e : Enr S h F H G J) (k : HOk P w H' B) (hn : ∀ b, S b → H' b = none) (hx : ∀ b, S b → ∀ o, h.get? b = some o → B.get? b = some o) : HOk P w (hback S J H') B := fun b u q => by
  by_cases z : S b
  · obtain ⟨o, e1, e2⟩ := e.pin z
    rw [hback_in z, e2] at q
    cases q
    have e3 := hx b z o e1
    exact ⟨e3, ⟨o, e3⟩⟩
  · rw [hback_out z] at q
    have y : ∀ {c : Addr} {o : HO}, H' c = some o → ¬ S c := fun {c o} q3 y => by
      rw [hn c y] at q3
      cases q3
    refine (k b u q).stay (fun _ _ _ q => q) (fun c q3 => ?_) fun c xs q3 => ?_
    · rw [hback_out (y q3)]
      exact q3
    · rw [hback_out (y q3)]
      exact q3
theorem cr_up {Q : VK} {E : XK} {r : Result} (e : Enr S s.heap F H G J) (nf : ∀ b, S b → b ∉ frs outer) (c : CR (L2.CX P w) outer P w H s (fun v H' => (∀ b, S b → H' b = none) → Q v (hback S J H')) (fun c d H' => (∀ b, S b → H' b = none) → E c d (hback S J H')) r s') :
    CR (L2.CX P w) outer P w J s Q E r s' := by
  have nS : ∀ {b : Addr}, J b = none → ¬ S b := fun {b} q z => by
    obtain ⟨o, _, e2⟩ := e.pin z
    rw [q] at e2
    cases e2
  cases r with
  | ok f =>
    cases f with
    | ret u =>
      obtain ⟨v, H', os, bare, U, k, rv, q⟩ := c
      have hn : ∀ b, S b → H' b = none := fun b z => by
        obtain ⟨o, e1, _⟩ := e.pin z
        exact U.free b o e1 (e.ph b z) (by simp)
      have hx : ∀ b, S b → ∀ o, s.heap.get? b = some o → s'.heap.get? b = some o := fun b z o e1 => U.keep b o e1 (e.ph b z) (nf b z) (by simp)
      refine ⟨v, hback S J H', os, bare, ⟨fun b o q n hf hx => ?_, fun b o q n hf hx => ?_, fun b o q n hx => ?_, U.there, fun b xs q => ?_, fun b o u q => ?_, fun b ps q => ?_⟩, hok_back e k hn hx, rv, q hn⟩
      · exact U.keep b o q (by rw [← e.eh b (nS n)]; exact n) hf hx
      · exact U.slot b o q (by rw [← e.eh b (nS n)]; exact n) hf hx
      · rw [hback_out (nS n)]
        exact U.free b o q (by rw [← e.eh b (nS n)]; exact n) hx
      · have z := e.notS q fun _ _ y => by cases y
        rw [hback_out z]
        exact U.tups b xs (by rw [← e.eh b z]; exact q)
      · by_cases z : S b
        · rw [hback_in z]
          exact q
        · rw [hback_out z]
          exact U.frzs b o u (by rw [← e.eh b z]; exact q)
      · have z := e.notS q fun _ _ y => by cases y
        rw [hback_out z]
        exact U.tbls b ps (by rw [← e.eh b z]; exact q)
    | next => exact c
    | brk => exact c
    | cont => exact c
  | error u =>
    obtain ⟨a, B, H', cls, d, eu, fl, k, U, na, os, bare, q⟩ := c
    have hn : ∀ b, S b → H' b = none := fun b z => by
      obtain ⟨o, e1, _⟩ := e.pin z
      exact U.free b o e1 (e.ph b z)
    have hx : ∀ b, S b → ∀ o, s.heap.get? b = some o → B.get? b = some o := fun b z o e1 => U.keep b o e1 (e.ph b z) (nf b z)
    have nSa : ¬ S a := fun z => by
      obtain ⟨o, e1, _⟩ := e.pin z
      have y := hx a z o e1
      rw [fl.2.1] at y
      cases y
    refine ⟨a, B, hback S J H', cls, d, eu, fl, hok_back e k hn hx, ⟨fun b o q n hf => ?_, U.slot, fun b o q n => ?_, U.there, fun b xs q => ?_, fun b o u q => ?_, fun b ps q => ?_⟩, ?_, os, bare, q hn⟩
    · exact U.keep b o q (by rw [← e.eh b (nS n)]; exact n) hf
    · rw [hback_out (nS n)]
      exact U.free b o q (by rw [← e.eh b (nS n)]; exact n)
    · have z := e.notS q fun _ _ y => by cases y
      rw [hback_out z]
      exact U.tups b xs (by rw [← e.eh b z]; exact q)
    · by_cases z : S b
      · rw [hback_in z]
        exact q
      · rw [hback_out z]
        exact U.frzs b o u (by rw [← e.eh b z]; exact q)
    · have z := e.notS q fun _ _ y => by cases y
      rw [hback_out z]
      exact U.tbls b ps (by rw [← e.eh b z]; exact q)
    · rw [hback_out nSa]
      exact na
end
end Lf

set_option Elab.async false
set_option linter.all false
set_option maxRecDepth 100000
/-! LfI: lambdas: handed to a def, called there. -/
namespace Lf
open PySem PySem.Spec PyProof.Rows L2
open Classical

section
variable {K : PySem.W.Frag} {S : Addr → Prop} {h : Heap} {F H G J F' H' G' J' : Hp} {g : Gd} {cl : Cl} {s : S0} {σ : L2.St} {A : Nat → Option Addr}
/-! ### data -/
mutual
theorem Da.through (e : ∀ b o, G b = some o → (∀ ob, o ≠ .frz ob (.own 0)) → F b = some o) : ∀ {v : V} {d : D}, Da K G v d → Da K F v d
  | _, _, .non => .non
  | _, _, .bl b => .bl b
  | _, _, .int i => .int i
  | _, _, .str x => .str x
  | _, _, .lst h r => .lst (e _ _ h fun _ z => by cases z) (DaS.through e r)
  | _, _, .tup h r => .tup (by
      rcases h with (h | ⟨o, h⟩) | h
      · exact .inl (.inl (e _ _ h fun _ z => by cases z))
      · exact .inl (.inr ⟨o, e _ _ h fun _ z => by cases z⟩)
      · exact .inr h) (DaS.through e r)
  | _, _, .dk h l r => .dk (e _ _ h fun _ z => by cases z) l (DaS.through e r)
  | _, _, .dt h l r => .dt (e _ _ h fun _ z => by cases z) l (DaS.through e r)
theorem DaS.through (e : ∀ b o, G b = some o → (∀ ob, o ≠ .frz ob (.own 0)) → F b = some o) : ∀ {vs : List V} {ds : List D}, DaS K G vs ds → DaS K F vs ds
  | _, _, .nil => .nil
  | _, _, .cons h r => .cons (Da.through e h) (DaS.through e r)
end
theorem Enr.thr (e : Enr S h F H G J) : ∀ b o, G b = some o → (∀ ob, o ≠ .frz ob (.own 0)) → F b = some o := fun b o q n => by
  have z : ¬ S b := fun z => by
    obtain ⟨o', _, h2, _⟩ := e.ob b z
    have h2 : G b = some (.frz o' (.own 0)) := h2
    rw [q] at h2
    exact n _ (Option.some.inj h2)
  rw [← e.ef b z]
  exact q
theorem Enr.up (e : Enr S h F H G J) : Same F G := fun b o q => by
  have z : ¬ S b := fun z => by
    rw [e.pf b z] at q
    cases q
  rw [e.ef b z]
  exact q
theorem Enr.sam (e : Enr S h F H G J) (sm : Same F H) : Same G J := fun b o q => by
  by_cases z : S b
  · obtain ⟨o', _, h2, h3⟩ := e.ob b z
    have h2 : G b = some (.frz o' (.own 0)) := h2
    rw [h2] at q
    cases q
    exact h3
  · rw [e.eh b z]
    rw [e.ef b z] at q
    exact sm _ _ q
theorem Enr.dn (e : Enr S h F H G J) (sm : Same G J) : Same F H := fun b o q => by
  have z : ¬ S b := fun z => by
    rw [e.pf b z] at q
    cases q
  rw [← e.eh b z]
  exact sm _ _ (by rw [e.ef b z]; exact q)
theorem deckO_fr {l : Addr} {k : Deck} : ∀ ob u, deckO l k ≠ .frz ob u := fun ob u z => by cases z
/-- the deck and the tables, told without S -/
theorem dk_dn (e : Enr S h F H G J) {k : Option Deck} (d : DkRel K g G J k) : DkRel K g F H k := by
  refine ⟨d.1, fun x q => ?_, d.2.2.1, fun p hp => ?_⟩
  · obtain ⟨h1, h2, h3, h4, h5⟩ := d.2.1 x q
    have z1 := e.notS h4 deckO_fr
    have z2 := e.notS h5 fun _ _ z => by cases z
    exact ⟨h1, by rw [← e.ef _ z1]; exact h2, by rw [← e.ef _ z2]; exact h3, by rw [← e.eh _ z1]; exact h4, by rw [← e.eh _ z2]; exact h5⟩
  · obtain ⟨h1, ps, h2, h3, h4⟩ := d.2.2.2 p hp
    have z := e.notS h2 fun _ _ z => by cases z
    refine ⟨by rw [← e.ef _ z]; exact h1, ps, by rw [← e.eh _ z]; exact h2, h3, fun pos cv q => ?_⟩
    obtain ⟨c, e1, e2⟩ := h4 pos cv q
    have y := e.notS e2 fun _ _ z => by
      have z' : HO.ext _ = HO.frz _ _ := z
      cases z'
    exact ⟨c, e1, by rw [← e.eh _ y]; exact e2⟩
theorem dk_up (e : Enr S h F H G J) {k : Option Deck} (d : DkRel K g F H k) : DkRel K g G J k := by
  refine ⟨d.1, fun x q => ?_, d.2.2.1, fun p hp => ?_⟩
  · obtain ⟨h1, h2, h3, h4, h5⟩ := d.2.1 x q
    have z1 := e.notSH h4
    have z2 := e.notSH h5
    exact ⟨h1, by rw [e.ef _ z1]; exact h2, by rw [e.ef _ z2]; exact h3, by rw [e.eh _ z1]; exact h4, by rw [e.eh _ z2]; exact h5⟩
  · obtain ⟨h1, ps, h2, h3, h4⟩ := d.2.2.2 p hp
    have z := e.notSH h2
    refine ⟨by rw [e.ef _ z]; exact h1, ps, by rw [e.eh _ z]; exact h2, h3, fun pos cv q => ?_⟩
    obtain ⟨c, e1, e2⟩ := h4 pos cv q
    exact ⟨c, e1, by rw [e.eh _ (e.notSH e2)]; exact e2⟩
/-- S holds no deck, no table -/
theorem Enr.nd (e : Enr S h F H G J) {k : Option Deck} (d : DkRel K g G J k) {b : Addr} (z : S b) : ¬ isDk g b := fun q => by
  obtain ⟨o, _, h2⟩ := e.pin z
  rcases q with ⟨q1, q2⟩ | ⟨p, hp, q⟩
  · obtain ⟨x, hx⟩ := Option.isSome_iff_exists.mp (d.1.trans q1)
    obtain ⟨_, _, _, h4, h5⟩ := d.2.1 x hx
    rcases q2 with q2 | q2
    · rw [q2, h4] at h2
      exact deckO_fr _ _ (Option.some.inj h2)
    · rw [q2, h5] at h2
      cases h2
  · obtain ⟨_, ps, h3, _⟩ := d.2.2.2 p hp
    rw [← q, h3] at h2
    cases h2
/-- a step, told without S -/
theorem step_dn (e : Enr S h F H G J) (e' : Enr S h F' H' G' J') (st : Step g G J noA G' J' noA) : Step g F H noA F' H' noA := by
  refine ⟨fun b o q => ?_, fun b q => ?_, fun b o q _ nd => ?_, fun i b z => (nomatch (show (none : Option Addr) = some b from z)), fun b q z => ?_⟩
  · have z : ¬ S b := fun z => by
      rw [e.pf b z] at q
      cases q
    rw [← e'.ef b z]
    exact st.ff _ _ (by rw [e.ef b z]; exact q)
  · have z : ¬ S b := fun z => q (e'.pf b z)
    rcases st.fn b (by rw [e'.ef b z]; exact q) with y | y | ⟨i, y⟩ | y
    · exact .inl (by rw [← e.ef b z]; exact y)
    · refine .inr (.inl ?_)
      unfold Fz at y ⊢
      rw [← e.eh b z]
      exact y
    · exact nomatch (show (none : Option Addr) = some b from y)
    · exact .inr (.inr (.inr y))
  · have z := e.notSH q
    rw [← e'.eh b z]
    exact st.fr b o (by rw [e.eh b z]; exact q) (fun i z => nomatch (show (none : Option Addr) = some b from z)) nd
  · have y : ¬ S b := fun y => q (e.ph b y)
    exact st.tr b (by rw [e.eh b y]; exact q) (by rw [e'.eh b y]; exact z)
/-- .. and with S -/
theorem step_up (e : Enr S h F H G J) (e' : Enr S h F' H' G' J') (ps : ∀ b, S b → G' b = G b ∧ J' b = J b) (st : Step g F H noA F' H' noA) : Step g G J noA G' J' noA := by
  refine ⟨fun b o q => ?_, fun b q => ?_, fun b o q _ nd => ?_, fun i b z => (nomatch (show (none : Option Addr) = some b from z)), fun b q z => ?_⟩
  · by_cases z : S b
    · rw [(ps b z).1]
      exact q
    · rw [e'.ef b z]
      exact st.ff _ _ (by rw [← e.ef b z]; exact q)
  · by_cases z : S b
    · exact .inl (by rw [← (ps b z).1]; exact q)
    · rcases st.fn b (by rw [← e'.ef b z]; exact q) with y | y | ⟨i, y⟩ | y
      · exact .inl (by rw [e.ef b z]; exact y)
      · refine .inr (.inl ?_)
        unfold Fz at y ⊢
        rw [e.eh b z]
        exact y
      · exact nomatch (show (none : Option Addr) = some b from y)
      · exact .inr (.inr (.inr y))
  · by_cases z : S b
    · rw [(ps b z).2]
      exact q
    · rw [e'.eh b z]
      exact st.fr b o (by rw [← e.eh b z]; exact q) (fun i z => nomatch (show (none : Option Addr) = some b from z)) nd
  · by_cases y : S b
    · rw [(ps b y).2] at z
      exact q z
    · exact st.tr b (by rw [← e.eh b y]; exact q) (by rw [← e'.eh b y]; exact z)
end

/-! ### a lambda's promise -/
/-- the mirror of a lambda by its body's -/
def lamM (m : S0 → R D) (pad : Nat) (cs : List D) : S0 → RF := fun s => match m { s with ρ := s.ρ ++ (cs.map SV.dat ++ List.replicate pad .unk) } with
  | .ok d s' => .ok d s'.dk
  | .exc c d s' => .exc c d s'.dk
  | .bad => .bad
def allDat (svs : List SV) : Bool := svs.all fun sv => match sv with
  | .dat _ => true
  | _ => false
/-- called, the lambda L does as M tells (M: of what it captured) -/
def LamRun (P : Program) (w : World) (K : PySem.W.Frag) (mg : Str → Option Value) (base : Heap) (clx : Cl) (k : Nat) (L : LamD) (M : List D → S0 → RF) : Prop :=
  ∀ (A : Around) (outer : List Env) (s : Shared) (J : Hp) (us : List Value) (vs : List V) (Q : VK) (E : XK) (g : Gd) (G : Hp) (s0 : S0) (cs : List D) (f : Addr) (cl : List (Str × Addr)) (pm : Value) (c' : Addr) (ctv : Value),
    Room k A → Env0 P w K mg base A outer s J → CloAt K G f L cl pm c' ctv cs → s0.ρ.length = L.ps.length → allDat s0.ρ = true → Rel K g G J noA s0 (vs.map some) → Vals vs us → PostF K clx g G J (M cs s0) Q E →
    codeAny (model P w) A (.call (.ref f) ⟨us, []⟩) (CR (L2.CX P w) outer P w J s Q E) s
abbrev nfL (L : LamD) (cl : List (Str × Addr)) (c' : Addr) : NdefX.NF := ⟨"<lambda>", L.q, L.params, [], L.scope, cl, c'⟩

open NdefX
/-- what the captured cells hold, as a list -/
theorem caps_list {K : PySem.W.Frag} {F : Hp} {cl : List (Str × Addr)} {fr : List Str} {cs : List D} (h : CapsAt K F cl fr cs) : ∃ vs : List V, vs.length = fr.length ∧ DaS K F vs cs ∧ ∀ (i : Nat) (y : Str), fr[i]? = some y → ∃ c o u v, cl.lookup y = some c ∧ PinF F c o ∧ o.data = .cell (some u) ∧ RelV v u ∧ vs[i]? = some v := by
  have key : ∀ (n : Nat), n ≤ fr.length → ∃ vs : List V, vs.length = n ∧ DaS K F vs (cs.take n) ∧ ∀ (i : Nat) (y : Str), i < n → fr[i]? = some y → ∃ c o u v, cl.lookup y = some c ∧ PinF F c o ∧ o.data = .cell (some u) ∧ RelV v u ∧ vs[i]? = some v := by
    intro n
    induction n with
    | zero => exact fun _ => ⟨[], rfl, by rw [List.take_zero]; exact .nil, fun i y hi => absurd hi (Nat.not_lt_zero _)⟩
    | succ n ih =>
      intro hn
      obtain ⟨vs, h1, h2, h3⟩ := ih (Nat.le_of_succ_le hn)
      have hlt : n < fr.length := hn
      obtain ⟨c, o, u, v, d, q1, q2, q3, q4, q5, q6⟩ := h.has n fr[n] (by simp [hlt])
      refine ⟨vs ++ [v], by rw [List.length_append, h1]; rfl, ?_, fun i y hi e => ?_⟩
      · have e : cs.take (n + 1) = cs.take n ++ [d] := by
          rw [List.take_succ, q5]
          rfl
        rw [e]
        exact h2.append (.cons q6 .nil)
      · by_cases z : i < n
        · obtain ⟨c', o', u', v', w1, w2, w3, w4, w5⟩ := h3 i y z e
          exact ⟨c', o', u', v', w1, w2, w3, w4, by rw [List.getElem?_append_left (by rw [h1]; exact z)]; exact w5⟩
        · have ei : i = n := by omega
          subst ei
          rw [List.getElem?_eq_getElem hlt] at e
          cases e
          exact ⟨c, o, u, v, q1, q2, q3, q4, by rw [List.getElem?_append_right (by rw [h1]; exact Nat.le_refl _), h1, Nat.sub_self]; rfl⟩
  obtain ⟨vs, h1, h2, h3⟩ := key fr.length (Nat.le_refl _)
  rw [← h.len, List.take_length] at h2
  exact ⟨vs, h1, h2, fun i y e => h3 i y (List.getElem?_eq_some_iff.mp e).1 e⟩
theorem lam_run {P : Program} {w : World} {K : PySem.W.Frag} {mg : Str → Option Value} {base : Heap} {clx : Cl} {k pad : Nat} {L : LamD} {m : S0 → R D} (NS : NScope L.N L.ps L.fr L.scope) (hN : L.N.length = L.ps.length + L.fr.length + pad)
    (hbind : ∀ (us : List Value) (cl : List (Str × Addr)) (pm cv ctv : Value), us.length = L.ps.length → bindArgs (PySem.W.kla_fn "<lambda>" L.q L.params L.body L.scope cl pm cv ctv) ⟨us, []⟩ = pure (L.ps.zip us))
    (hb : ∀ (cl : List (Str × Addr)) (c' f : Addr) (A : Around) (outer : List Env) (s : Shared) (H : Hp) (E : XK), Room k (A.deeper (envF (nfL L cl c') f s.heap.objs.size)) → PE (ncx (L2.CX P w) P w K mg base L.N (nfL L cl c') f A outer s H E) L.body (tM K clx (fun c d _ H => E c d H) m)) :
    LamRun P w K mg base clx (k + 1) L (lamM m pad) := by
  intro A outer s J us vs Q E g G s0 cs f cl pm c' ctv hr E0 CA hl hd rl rv post
  let S : Addr → Prop := fun b => b = f ∨ ∃ y, cl.lookup y = some b
  have pins : ∀ b, S b → ∃ o, PinF G b o := fun b z => by
    rcases z with z | ⟨y, z⟩
    · subst z
      exact ⟨_, CA.fn⟩
    · obtain ⟨i, hi⟩ := List.mem_iff_getElem?.mp (CA.cap.all y b z)
      obtain ⟨c, o, u, v, d, q1, q2, _⟩ := CA.cap.has i y hi
      rw [z] at q1
      cases q1
      exact ⟨o, q2⟩
  have got : ∀ {b o}, PinF G b o → s.heap.get? b = some o := fun {b o} q => (show ObjOk P w J s.heap b (.frz o (.own 0)) from E0.hok b _ (rl.same _ _ q)).1
  have e : Enr S s.heap (hdel S G) (hdel S J) G J := Enr.del rl.same fun b z => by
    obtain ⟨o, q⟩ := pins b z
    exact ⟨o, got q, q⟩
  have nf : ∀ b, S b → b ∉ frs outer := fun b z q => by
    obtain ⟨o, _, h2⟩ := e.pin z
    rw [E0.frf b q] at h2
    cases h2
  have E1 := env0_down e E0
  have hco : J c' = some (LamX.CodeO c' L.q) := rl.same _ _ CA.co
  obtain ⟨⟨oc, cvs, t, hoc, hdc, hvc⟩, _, _⟩ := (show ObjOk P w J s.heap c' (LamX.CodeO c' L.q) from E0.hok c' _ hco)
  have hf : s.heap.get? f = some (PySem.W.kla_obj "<lambda>" L.q L.params L.body L.scope cl pm c' ctv) := got CA.fn
  have hlu : us.length = L.ps.length := by
    rw [← Vals.length rv]
    have z := rl.len
    rw [List.length_map] at z
    rw [← z, hl]
  have hlv : vs.length = L.ps.length := by rw [Vals.length rv, hlu]
  obtain ⟨cvals, hcl, hcd, hca⟩ := caps_list CA.cap
  have C : CellsAt cl L.fr (cvals.map some) s.heap (hdel S J) := by
    refine ⟨by rw [List.length_map, hcl], fun y c q => ⟨hdel_in (.inr ⟨y, q⟩), ?_⟩, CA.cap.inj, fun i y q => ?_⟩
    · obtain ⟨i, hi⟩ := List.mem_iff_getElem?.mp (CA.cap.all y c q)
      obtain ⟨c2, o, u, v, d, q1, q2, q3, _⟩ := CA.cap.has i y hi
      rw [q] at q1
      cases q1
      exact ⟨_, o, got q2, q3⟩
    · obtain ⟨c, o, u, v, q1, q2, q3, q4, q5⟩ := hca i y q
      refine ⟨c, q1, fun v' ev => ?_⟩
      rw [List.getElem?_map, q5] at ev
      cases ev
      exact ⟨u, q4, o, got q2, q3⟩
  have dkr : DkRel K g G J s0.dk := rl.dkr
  have lim : s.heap.NoLimit := E0.mod.nolimit.keeps fun b o q => (E0.bs b o q).1
  refine codeAny_mono (PySem.W.kla_callFunE (R := CR (L2.CX P w) outer P w (hdel S J) s (fun v H' => (∀ b, S b → H' b = none) → Q v (hback S J H')) (fun c d H' => (∀ b, S b → H' b = none) → E c d (hback S J H'))) hr.depth hf rfl NS.co NS.gen rfl ⟨c', oc, cvs, t, rfl, hoc, hdc, hvc⟩ ?_) fun r s' hq => cr_up e nf hq
  rw [hbind us cl pm _ ctv hlu]
  refine wpAny_pure (wpAny_newFunctionEnv NS.nocell (fun x hx => NS.par x.1 (List.of_mem_zip hx).1) (fun h₁ hns hsb => ⟨lim.fresh _ hsb, ?_⟩) NS.kind)
  show codeAny _ _ (.expr L.body (envF (nfL L cl c') f s.heap.objs.size)) _ _
  have kp : ∀ b o, s.heap.get? b = some o → h₁.get? b = some o := fun b o q => hsb.extBut b o (Nat.ne_of_lt (Heap.lt_size q)) (Heap.get?_push_of_some _ q)
  have I : Inv (ncx (L2.CX P w) P w K mg base L.N (nfL L cl c') f A outer s (hdel S J) (fun c d H' => (∀ b, S b → H' b = none) → E c d (hback S J H'))) [] (startF L.N vs (cvals.map some)) (hdel S J) { s with heap := h₁, toks := s.toks + (L.ps.zip us).length } :=
    inv_startN NS hr.hd E1 hlv rv C hns kp
  refine PySem.W.kla_codeExpr (wpAny_mono ((hb cl c' f A outer s (hdel S J) _ (hr.deeper _)).run [] _ _ (hdel S J) (fun v H' => (∀ b, S b → H' b = none) → Q v (hback S J H')) I ?_) (fun v s' hq => ?_) fun u s' hq => hq)
  · -- the body's reading
    have dn : ∀ {v d}, Da K G v d → Da K (hdel S G) v d := fun {v d} q => q.through e.thr
    have rl1 : Rel K g (hdel S G) (hdel S J) noA { s0 with ρ := s0.ρ ++ (cs.map SV.dat ++ List.replicate pad .unk) } (startF L.N vs (cvals.map some)) := by
      have dk2 := dk_dn e dkr
      refine ⟨e.dn rl.same, ?_, fun i sv q => ?_, fun i b q => (nomatch (show (none : Option Addr) = some b from q)), fun i j b q _ => (nomatch (show (none : Option Addr) = some b from q)), dk2.1, dk2.2.1, dk2.2.2⟩
      · show (s0.ρ ++ (cs.map SV.dat ++ List.replicate pad SV.unk)).length = _
        unfold startF
        rw [List.length_append, List.length_append, List.length_append, List.length_append, List.length_map, List.length_map, List.length_map, List.length_replicate, List.length_replicate, hl, CA.cap.len, hcl, hlv, hN]
        omega
      · have q : (s0.ρ ++ (cs.map SV.dat ++ List.replicate pad SV.unk))[i]? = some sv := q
        unfold startF
        by_cases h1 : i < s0.ρ.length
        · rw [List.getElem?_append_left h1] at q
          have hs := rl.slot i sv q
          rw [List.getElem?_append_left (by rw [List.length_map, hlv, ← hl]; exact h1)]
          have hdat := List.all_eq_true.mp hd sv (List.mem_of_getElem? q)
          cases sv with
          | dat d =>
            obtain ⟨_, v, q1, q2⟩ := hs
            exact ⟨rfl, v, q1, dn q2⟩
          | _ => cases hdat
        · rw [List.getElem?_append_right (Nat.le_of_not_lt h1)] at q
          have ei : i - (List.map some vs).length = i - s0.ρ.length := by rw [List.length_map, hlv, ← hl]
          rw [List.getElem?_append_right (by rw [List.length_map, hlv, ← hl]; exact Nat.le_of_not_lt h1), ei]
          by_cases h2 : i - s0.ρ.length < cs.length
          · rw [List.getElem?_append_left (by rw [List.length_map]; exact h2), List.getElem?_map] at q
            rw [List.getElem?_append_left (by rw [List.length_map, hcl, ← CA.cap.len]; exact h2), List.getElem?_map]
            rw [List.getElem?_eq_getElem h2] at q
            cases q
            obtain ⟨v, q1, q2⟩ := hcd.get (i := i - s0.ρ.length) (d := cs[i - s0.ρ.length]) (by simp [h2])
            rw [q1]
            exact ⟨rfl, v, rfl, dn q2⟩
          · rw [List.getElem?_append_right (by rw [List.length_map]; exact Nat.le_of_not_lt h2), List.getElem?_replicate] at q
            split at q
            · cases q
              exact rfl
            · cases q
    refine ⟨g, hdel S G, noA, _, rl1, ?_⟩
    unfold lamM at post
    -- behind the body
    have back : ∀ {F' H' : Hp}, Step g (hdel S G) (hdel S J) noA F' H' noA → Same F' H' → (∀ b, S b → H' b = none) →
        Enr S s.heap F' H' (hback S G F') (hback S J H') := fun {F' H'} st sm hn => by
      refine ⟨fun b z => ?_, hn, fun b z => ?_, fun b z => hback_out z, fun b z => hback_out z⟩
      · cases q : F' b with
        | none => rfl
        | some o =>
          have y := sm _ _ q
          rw [hn b z] at y
          cases y
      · obtain ⟨o, e1, e2, e3⟩ := e.ob b z
        exact ⟨o, e1, (hback_in z).trans e2, (hback_in z).trans e3⟩
    have fin : ∀ {F' H' : Hp} {A' : Nat → Option Addr} {k : Option Deck}, Step g (hdel S G) (hdel S J) noA F' H' A' → Same F' H' → DkRel K g F' H' k → (∀ b, S b → H' b = none) →
        Step g G J noA (hback S G F') (hback S J H') noA ∧ Same (hback S G F') (hback S J H') ∧ DkRel K g (hback S G F') (hback S J H') k ∧ Same F' (hback S G F') := fun {F' H' A' k} st sm dk hn => by
      have e' := back (step_drop st) sm hn
      exact ⟨step_up e e' (fun b z => ⟨hback_in z, hback_in z⟩) (step_drop st), e'.sam sm, dk_up e' dk, e'.up⟩
    cases em : m { s0 with ρ := s0.ρ ++ (cs.map SV.dat ++ List.replicate pad .unk) } with
    | bad =>
      rw [em] at post
      exact post.elim
    | ok d s' =>
      rw [em] at post
      intro F' H' A' v st rl' da hn
      obtain ⟨q1, q2, q3, q4⟩ := fin st rl'.same rl'.dkr hn
      exact post _ _ v q1 q2 q3 (da.mono q4)
    | exc c d s' =>
      rw [em] at post
      intro F' H' A' v dp st rl' da ex hn
      obtain ⟨q1, q2, q3, q4⟩ := fin st rl'.same rl'.dkr hn
      refine post _ _ v dp q1 q2 q3 (da.mono q4) ?_
      have z : ¬ S dp := fun z => by
        rw [hn dp z] at ex
        cases ex
      rw [hback_out z]
      exact ex
  · obtain ⟨w', H', J', rv', q⟩ := hq
    exact ⟨w', H', J'.os, J'.bare, J'.base, J'.hok, rv', q⟩
end Lf

set_option Elab.async false
set_option linter.all false
set_option maxRecDepth 100000
/-! LfJ: a lambda's call by name; a def that is handed one. -/
namespace Lf
open PySem PySem.Spec PyProof.Rows L2 NdefX LamX

/-! ### called -/
section
variable {X : Cx} {cl : Cl} {W : WX} {a b e : Expr} {es : List Expr} {os : List Ag} {pos : Pos} {m : S0 → R D} {LM : Nat → List D → S0 → RF}
def arL (id : Nat) : Option Nat := (lawL[id]?).map fun L => L.ps.length
def mClo (i : Nat) (os : List Ag) (LM : Nat → List D → S0 → RF) : S0 → R D := fun s => match s.ρ[i]? with
  | some (.clo id cs) => if arL id = some os.length then (evalAg os s).bind fun svs s1 => (if allDat svs = true then (LM id cs ⟨svs, s1.dk⟩).toR s1 else .bad) else .bad
  | _ => .bad
/-- all lambdas do as their mirrors tell -/
def LamsRun (P : Program) (w : World) (K : PySem.W.Frag) (mg : Str → Option Value) (base : Heap) (cl : Cl) (k : Nat) (LM : Nat → List D → S0 → RF) : Prop := ∀ id L, lawL[id]? = some L → LamRun P w K mg base cl k L (LM id)
theorem fnat_of {K : PySem.W.Frag} {pins : List (Addr × Obj)} {σ : L2.St} {H F : Hp} {s : Shared} {f : Addr} {L : LamD} {c : List (Str × Addr)} {pm : Value} {c' : Addr} {ctv : Value} {cs : List D} (I : Inv X pins σ H s) (sm : Same F H) (h : CloAt K F f L c pm c' ctv cs) : PySem.W.FnAt f s.heap := by
  have q := (show ObjOk X.prog X.w H s.heap f (.frz (PySem.W.kla_obj "<lambda>" L.q L.params L.body L.scope c pm c' ctv) (.own 0)) from I.hok f _ (sm _ _ h.fn)).1
  exact ⟨_, _, _, _, q⟩
/-- the rest of a call of it, its arguments known -/
theorem clo_go {k : Nat} {pins : List (Addr × Obj)} {σ : L2.St} {H : Hp} {s : Shared} {f : Addr} {L : LamD} {c : List (Str × Addr)} {pm : Value} {c' : Addr} {ctv : Value} {cs : List D} {g : Gd} {F : Hp} {A : Nat → Option Addr} {s1 : S0} {vs : List V} {us : List Value} {svs : List SV} {id : Nat} {Q : VK}
    (HL : LamsRun X.prog X.w X.K X.mg X.base cl k LM) (hr : Room k X.A) (tk : Takes X W) (I : Inv X pins σ H s) (hl : lawL[id]? = some L) (h : CloAt X.K F f L c pm c' ctv cs) (rl : Rel X.K g F H A s1 σ) (l : Paired (ArgOk X.K g F H) vs svs) (r : Vals vs us) (hn : svs.length = L.ps.length) (hd : allDat svs = true)
    (q : Post X.K cl W (rDa X.K) g F H A σ ((LM id cs ⟨svs, s1.dk⟩).toR s1) Q) : wpAny (model X.prog X.w) X.A (PySem.call (.ref f) us) (EP X pins σ Q) X.xe s := by
  refine wpAny_call (codeAny_mono (HL id L hl X.A X.stack s H us vs Q (WE W σ) g F ⟨svs, s1.dk⟩ cs f c pm c' ctv hr I.env0 h hn hd (args_rel rl l) r ?_) fun r s' hq => ?_)
  · cases e2 : LM id cs ⟨svs, s1.dk⟩ with
    | bad =>
      rw [e2] at q
      exact q.elim
    | ok d k =>
      rw [e2] at q
      intro F2 H2 v st2 sm dk da
      obtain ⟨r3, st3⟩ := rl.callee st2 sm dk
      exact q F2 H2 A v st3 r3 da
    | exc c d k =>
      rw [e2] at q
      intro F2 H2 v dp st2 sm dk da ex
      obtain ⟨r3, st3⟩ := rl.callee st2 sm dk
      exact q F2 H2 A v dp st3 r3 da ex
  · cases r with
    | error u => exact passAt tk σ pins H s u s' I hq
    | ok fl =>
      cases fl with
      | ret u => exact I.after hq
      | next => exact False.elim hq
      | brk => exact False.elim hq
      | cont => exact False.elim hq
theorem arL_of {id n : Nat} (h : arL id = some n) : ∃ L, lawL[id]? = some L ∧ L.ps.length = n := by
  unfold arL at h
  obtain ⟨L, h1, h2⟩ := Option.map_eq_some_iff.mp h
  exact ⟨L, h1, h2⟩
theorem e_clo {k : Nat} {x : Str} {p : Pos} (HL : LamsRun X.prog X.w X.K X.mg X.base cl k LM) (hr : Room k X.A) (tk : Takes X W) (i : Nat) (ha : PA X (e :: es) (tAgs X.K cl W os)) (hN : X.N[i]? = some x := by rfl) (hv : Vis X.env.scope x := by first | exact Or.inl rfl | exact Or.inr (Or.inl rfl) | exact Or.inr (Or.inr rfl)) (hd : (x == ("__debug__" : Str)) = false := by decide)
    (hcd : (x == ("__classdict__" : Str)) = false := by decide) (he : starEach (e :: es) X.env = (false, eval e X.env) :: starEach es X.env := by rfl) (hpl : (backTo pos (starEach es X.env)).any (·.1) = false := by rfl) :
    PE X (.Call (.Name x p) (e :: es) [] pos) (tM X.K cl W (mClo i os LM)) := by
  refine ⟨fun pins s σ H Q I q => ?_⟩
  obtain ⟨g, F, A, s0, rl, h⟩ := q
  unfold mClo at h
  split at h
  · rename_i id cs e0
    split at h
    · rename_i har
      obtain ⟨_, f, L, c, pm, c', ctv, h1, h2, h3⟩ := rl.slot i _ e0
      obtain ⟨L', hL', hps⟩ := arL_of har
      rw [h2] at hL'
      cases hL'
      refine wpAny_Call_Name_kw (thn ((pe_var (pos := p) hN hv hd hcd).run pins s σ H (fun v H1 => v = .ref f ∧ H1 = H) I ⟨.ref f, h1, rfl, rfl⟩) fun u s1 ⟨v, H1, I1, r1, q1⟩ => ?_)
      obtain ⟨ev, eH⟩ := q1
      subst ev
      rw [eH] at I1
      obtain rfl : u = Value.ref f := r1
      refine PySem.W.callWith_F (first := []) (fnat_of I1 rl.same h3) (thn (ha.run pos pins s1 σ H (fun vs H2 => ∃ F2 A2 s2 svs, Same F F2 ∧ svs.length = L.ps.length ∧ allDat svs = true ∧ Rel X.K g F2 H2 A2 s2 σ ∧ Paired (ArgOk X.K g F2 H2) vs svs ∧ Post X.K cl W (rDa X.K) g F2 H2 A2 σ ((LM id cs ⟨svs, s2.dk⟩).toR s2) Q) I1
        (ags_of os σ H _ ⟨g, F, A, s0, rl, Post.bind (R1 := rAgs X.K g) up_da h fun svs s2 F2 H2 A2 vs e2 st2 rl2 l2 h2' => ?_⟩)) fun us s2 ⟨vs, H2, I2, r, F2, A2, s3, svs, ff, hn, hdat, rl2, l2, q2⟩ => ⟨fnat_of I2 rl2.same (h3.mono ff), ?_⟩) he hpl
      · split at h2'
        · rename_i hdat
          exact ⟨F2, A2, s2, svs, st2.ff, (evalAg_len os s0 s2 svs e2).trans hps.symm, hdat, rl2, l2, h2'⟩
        · exact h2'.elim
      · show wpAny _ _ (PySem.call (.ref f) us) _ _ _
        exact clo_go HL hr tk I2 h2 (h3.mono ff) rl2 l2 r hn hdat q2
    · exact h.elim
  · exact h.elim
theorem e_clo0 {k : Nat} {x : Str} {p : Pos} (HL : LamsRun X.prog X.w X.K X.mg X.base cl k LM) (hr : Room k X.A) (tk : Takes X W) (i : Nat) (hN : X.N[i]? = some x := by rfl) (hv : Vis X.env.scope x := by first | exact Or.inl rfl | exact Or.inr (Or.inl rfl) | exact Or.inr (Or.inr rfl)) (hd : (x == ("__debug__" : Str)) = false := by decide)
    (hcd : (x == ("__classdict__" : Str)) = false := by decide) : PE X (.Call (.Name x p) [] [] pos) (tM X.K cl W (mClo i [] LM)) := by
  refine ⟨fun pins s σ H Q I q => ?_⟩
  obtain ⟨g, F, A, s0, rl, h⟩ := q
  unfold mClo at h
  split at h
  · rename_i id cs e0
    split at h
    · rename_i har
      obtain ⟨_, f, L, c, pm, c', ctv, h1, h2, h3⟩ := rl.slot i _ e0
      obtain ⟨L', hL', hps⟩ := arL_of har
      rw [h2] at hL'
      cases hL'
      refine wpAny_Call_Name_kw (thn ((pe_var (pos := p) hN hv hd hcd).run pins s σ H (fun v H1 => v = .ref f ∧ H1 = H) I ⟨.ref f, h1, rfl, rfl⟩) fun u s1 ⟨v, H1, I1, r1, q1⟩ => ?_)
      obtain ⟨ev, eH⟩ := q1
      subst ev
      rw [eH] at I1
      obtain rfl : u = Value.ref f := r1
      refine PySem.W.callWith_F0 (first := []) (fnat_of I1 rl.same h3) ?_
      show wpAny _ _ (PySem.call (.ref f) []) _ _ _
      exact clo_go (svs := []) HL hr tk I1 h2 h3 rl .nil .nil hps.symm rfl h
    · exact h.elim
  · exact h.elim
end
end Lf

set_option Elab.async false
set_option linter.all false
set_option maxRecDepth 100000
/-! LfK: a def that is handed a lambda. -/
namespace Lf
open PySem PySem.Spec PyProof.Rows L2 NdefX LamX

section
variable {X : Cx} {pins : List (Addr × Obj)} {σ : L2.St} {H : Hp} {s : Shared}
/-- a lambda is made; all but its table stays -/
theorem lam_made {T : List (Addr × Str)} {c P : Addr} {params : Arguments} {body : Expr} {scope : Scope} {pos : Pos} {E : Value → Shared → Prop} {Q : Value → Shared → Prop} (I : Inv X pins σ H s) (TB : LamX.TabB X.base X.mg c P) (hcode : X.env.code = .ref c)
    (hm : (P, X.env.qual ++ "<lambda>") ∈ T) (hu : ∀ p ∈ T, p.1 = P → p.2 = X.env.qual ++ "<lambda>") (hT : LamX.Tabs T H) (hdef : defaultsOf params X.env = ([], [])) (hfree : ∀ y ∈ scope.names, y.2 = .free → ∃ c, X.env.cells.lookup y.1 = some c)
    (h : ∀ (f c' : Addr) (pm ctv : Value) (H1 : Hp) (s' : Shared), Inv X pins σ H1 s' → (∀ b o, H b = some o → b ≠ P → H1 b = some o) → LamX.Tabs T H1 → s.heap.objs.size ≤ f →
      s'.heap.get? f = some (PySem.W.kla_obj "<lambda>" (X.env.qual ++ "<lambda>") params body scope (cloFrom X.env.cells scope.names []) pm c' ctv) → H1 f = none → f ∉ frs X.stack → H1 c' = some (LamX.CodeO c' (X.env.qual ++ "<lambda>")) → Q (.ref f) s') :
    wpAny (model X.prog X.w) X.A (eval (.Lambda params body scope pos) X.env) Q E s := by
  obtain ⟨ps, hP, ht, ha⟩ := hT _ hm
  refine PySem.W.kla_eval hdef ?_
  have bP : s.heap.BuiltinsAt X.mg P := TB.bm.keeps I.bk
  have hP' : s.heap.get? P = some { cls := .none, data := .fields ps } := I.hok P _ hP
  have nofr : ∀ f, s.heap.objs.size ≤ f → f ∉ frs X.stack := fun f hf z => by
    rcases List.mem_cons.mp (I.stkSub _ z) with e | e
    · have h1 := I.lt
      rw [← e] at h1
      exact Nat.lt_irrefl _ (Nat.lt_of_lt_of_le h1 hf)
    · exact I.nofs hf e
  cases hc : codeAmong pos ps.toList with
  | none =>
    refine PySem.W.kla_makeFunction (mg := X.mg) (c := c) (P := P) (ps := ps) (closure_ok hfree) I.ok.glob (I.mod.glob.keeps I.bk) hcode (TB.code.keeps I.bk) hP' ht hc TB.gP bP fun c' ctv h' tk hx hge hlt hrec htb => ?_
    obtain ⟨c2, oc, vs, t, e2, hoc, hd, hv⟩ := hrec
    cases e2
    have hsz : s.heap.objs.size ≤ h'.objs.size := Nat.le_trans hge (Nat.le_of_lt hlt)
    have nC : H c' = none := I.hok.fresh hge
    have I1 := LamX.inv_table (t' := tk) (more := #[rawInt pos.line, rawInt pos.col, .ref c']) (h' := h'.push (PySem.W.kla_obj "<lambda>" (X.env.qual ++ "<lambda>") params body scope (cloFrom X.env.cells scope.names []) ((X.mg "__name__").getD .none) c' ctv)) I hP
      (fun b o hb e => Heap.get?_push_of_some _ (hx b o hb e)) (Heap.get?_push_of_some _ htb) hge ⟨oc, vs, t, Heap.get?_push_of_some _ hoc, hd, hv⟩
    have hS : ∀ b o, H b = some o → b ≠ P → (upd (upd H P (.tbl (ps ++ #[rawInt pos.line, rawInt pos.col, .ref c']))) c' (LamX.CodeO c' (X.env.qual ++ "<lambda>"))) b = some o := fun b o e n => by
      rw [upd_ne (ne_of_none e nC), upd_ne n]
      exact e
    have hE : ∀ b o, H b = some o → (∀ ps, o ≠ .tbl ps) → (upd (upd H P (.tbl (ps ++ #[rawInt pos.line, rawInt pos.col, .ref c']))) c' (LamX.CodeO c' (X.env.qual ++ "<lambda>"))) b = some o := fun b o e n =>
      hS b o e fun z => n ps (Option.some.inj (e.symm.trans (by rw [z]; exact hP)))
    have eL : (ps ++ #[rawInt pos.line, rawInt pos.col, .ref c']).toList = ps.toList ++ [rawInt pos.line, rawInt pos.col, .ref c'] := by simp
    refine h h'.objs.size c' ((X.mg "__name__").getD .none) ctv _ _ I1 hS (fun p hp => ?_) hsz (Heap.get?_push_size _ rfl) ?_ (nofr _ hsz) upd_same
    · by_cases hb : p.1 = P
      · rw [hu p hp hb, hb]
        refine ⟨_, by rw [upd_ne (ne_of_none hP nC), upd_same], by rw [eL]; exact PySem.TriplesOk_snoc _ _ _ _ ht, fun p' cv hcv => ?_⟩
        rw [eL] at hcv
        rcases LamX.among_app _ ht hcv with z | z
        · obtain ⟨c0, e1, e2⟩ := ha p' cv z
          exact ⟨c0, e1, hE _ _ e2 LamX.codeO_ne⟩
        · exact ⟨c', z, upd_same⟩
      · obtain ⟨ps', a1, a2, a3⟩ := hT p hp
        refine ⟨ps', by rw [upd_ne (ne_of_none a1 nC), upd_ne hb]; exact a1, a2, fun p' cv hcv => ?_⟩
        obtain ⟨c0, e1, e2⟩ := a3 p' cv hcv
        exact ⟨c0, e1, hE _ _ e2 LamX.codeO_ne⟩
    · have n1 : h'.objs.size ≠ c' := Nat.ne_of_gt hlt
      have n2 : h'.objs.size ≠ P := Nat.ne_of_gt (Nat.lt_of_lt_of_le (Heap.lt_size hP') hsz)
      rw [upd_ne n1, upd_ne n2]
      exact I.hok.fresh hsz
  | some cv =>
    obtain ⟨c', e, hco⟩ := ha pos cv hc
    subst e
    refine PySem.W.kla_makeFunctionHit (mg := X.mg) (c := c) (P := P) (ps := ps) (closure_ok hfree) I.ok.glob (I.mod.glob.keeps I.bk) hcode (TB.code.keeps I.bk) hP' ht hc bP fun ctv h' tk hx hsz => ?_
    have I1 : Inv X pins σ H { s with heap := h'.push (PySem.W.kla_obj "<lambda>" (X.env.qual ++ "<lambda>") params body scope (cloFrom X.env.cells scope.names []) ((X.mg "__name__").getD .none) c' ctv), toks := tk } := I.kept fun b o e => Heap.get?_push_of_some _ (hx b o e)
    exact h h'.objs.size c' ((X.mg "__name__").getD .none) ctv H _ I1 (fun _ _ e _ => e) hT hsz (Heap.get?_push_size _ rfl) (I.hok.fresh hsz) (nofr _ hsz) hco
end
/-! ### the arguments ahead of it -/
section
variable {X : Cx} {cl : Cl} {W : WX}
inductive AgsOk (X : Cx) (cl : Cl) (W : WX) : List Expr → List Ag → Prop
  | nil : AgsOk X cl W [] []
  | cons {e : Expr} {es : List Expr} {o : Ag} {os : List Ag} : PE X e (tAg X.K cl W o) → AgsOk X cl W es os → AgsOk X cl W (e :: es) (o :: os)
theorem spl_ags {pins : List (Addr × Obj)} {σ : L2.St} {T : List (Bool × Sem Value)} : ∀ {es : List Expr} {os : List Ag}, AgsOk X cl W es os → ∀ {s : Shared} {H : Hp} {Q : List Value → Shared → Prop}, Inv X pins σ H s →
    tAgs X.K cl W os σ H (fun vs H' => ∀ us s', Inv X pins σ H' s' → Vals vs us → wpAny (model X.prog X.w) X.A (spliced T) (fun ws s2 => Q (us ++ ws) s2) X.xe s') →
    wpAny (model X.prog X.w) X.A (spliced ((es.map fun e => (false, eval e X.env)) ++ T)) Q X.xe s
  | _, _, .nil, s, H, Q, I, h => h [] s I .nil
  | e :: es, o :: os, .cons h1 h2, s, H, Q, I, h => by
    refine Calls.spliced_cons (thn (h1.run pins s σ H _ I h) fun v s1 ⟨x, H1, I1, r1, q1⟩ => ?_)
    have mono : ∀ (os : List Ag) (σ : L2.St) (H : Hp) (P P' : List V → Hp → Prop), (∀ vs H, P vs H → P' vs H) → tAgs X.K cl W os σ H P → tAgs X.K cl W os σ H P' := by
      intro os
      induction os with
      | nil => exact fun σ H P P' i h => i _ _ h
      | cons o os ih =>
        intro σ H P P' i h
        have h : tAg X.K cl W o σ H fun x H1 => tAgs X.K cl W os σ H1 fun xs H2 => P (x :: xs) H2 := h
        show tAg X.K cl W o σ H fun x H1 => tAgs X.K cl W os σ H1 fun xs H2 => P' (x :: xs) H2
        cases o with
        | m f =>
          obtain ⟨g, F, A, s, rl, h⟩ := h
          exact ⟨g, F, A, s, rl, h.mono fun v H' q => ih _ _ _ _ (fun vs H q => i _ _ q) q⟩
        | dk i' =>
          obtain ⟨v, e1, e2⟩ := h
          exact ⟨v, e1, ih _ _ _ _ (fun vs H q => i _ _ q) e2⟩
    refine spl_ags h2 I1 (mono os σ H1 _ _ (fun vs H' q us s' I' r => ?_) q1)
    exact wpAny_mono (q (v :: us) s' I' (.cons r1 r)) (fun ws s2 q2 => q2) fun _ _ q2 => q2
/-- what the captured slots hold -/
def capOf (ρ : List SV) (j : Nat) : Option D := match ρ[j]? with
  | some (.dat d) => some d
  | some (.tup ds) => some (.tuple ds)
  | _ => none
def capsOf (ρ : List SV) : List Nat → Option (List D)
  | [] => some []
  | j :: js => (capOf ρ j).bind fun d => (capsOf ρ js).map (d :: ·)
theorem capsOf_len {ρ : List SV} : ∀ {js : List Nat} {cs : List D}, capsOf ρ js = some cs → cs.length = js.length
  | [], cs, h => by
    cases h
    rfl
  | j :: js, cs, h => by
    obtain ⟨d, _, h2⟩ := Option.bind_eq_some_iff.mp (show (capOf ρ j).bind (fun d => (capsOf ρ js).map (d :: ·)) = some cs from h)
    obtain ⟨cs', h3, h4⟩ := Option.map_eq_some_iff.mp h2
    subst h4
    exact congrArg (· + 1) (capsOf_len h3)
theorem capsOf_get {ρ : List SV} : ∀ {js : List Nat} {cs : List D} {i j : Nat}, capsOf ρ js = some cs → js[i]? = some j → ∃ d, cs[i]? = some d ∧ capOf ρ j = some d
  | [], _, _, _, _, e => by simp at e
  | k :: js, cs, i, j, h, e => by
    obtain ⟨d, h1, h2⟩ := Option.bind_eq_some_iff.mp (show (capOf ρ k).bind (fun d => (capsOf ρ js).map (d :: ·)) = some cs from h)
    obtain ⟨cs', h3, h4⟩ := Option.map_eq_some_iff.mp h2
    subst h4
    cases i with
    | zero =>
      simp at e
      subst e
      exact ⟨d, rfl, h1⟩
    | succ i =>
      obtain ⟨d', q1, q2⟩ := capsOf_get (i := i) (j := j) h3 (by simpa using e)
      exact ⟨d', by simpa using q1, q2⟩
theorem capOf_rel {K : PySem.W.Frag} {g : Gd} {F H : Hp} {A : Nat → Option Addr} {s : S0} {σ : L2.St} {j : Nat} {d : D} (rl : Rel K g F H A s σ) (h : capOf s.ρ j = some d) : ∃ v, σ[j]? = some (some v) ∧ Da K F v d := by
  unfold capOf at h
  split at h
  · rename_i e
    cases h
    obtain ⟨_, v, h1, h2⟩ := rl.slot j _ e
    exact ⟨v, h1, h2⟩
  · rename_i ds e
    cases h
    obtain ⟨_, a, vs, h1, h2, h3⟩ := rl.slot j _ e
    exact ⟨_, h1, .tup (.inl (.inl h2)) h3⟩
  · cases h
/-- x(.., lambda ..: ..) -/
def mCallC (mf : S0 → RF) (os : List Ag) (id : Nat) (js : List Nat) : S0 → R D := fun s => (evalAg os s).bind fun svs s1 => match capsOf s1.ρ js with
  | some cs => (mf ⟨svs ++ [.clo id cs], s1.dk⟩).toR s1
  | none => .bad
end
end Lf

set_option Elab.async false
set_option linter.all false
set_option maxRecDepth 100000
/-! LfL: the call of a def that is handed a lambda. -/
namespace Lf
open PySem PySem.Spec PyProof.Rows L2 NdefX LamX

section
variable {K : PySem.W.Frag} {g : Gd} {F H : Hp} {A : Nat → Option Addr} {s : S0} {σ : L2.St}
/-- a thing that is never written is known for good -/
theorem freezeO (rl : Rel K g F H A s σ) {a : Addr} {o : HO} (h : H a = some o) (hz : fzO o) : Rel K g (upd F a o) H A s σ ∧ Step g F H A (upd F a o) H A := by
  have ff : Same F (upd F a o) := fun b u e => by
    by_cases q : b = a
    · subst q
      have z := rl.same _ _ e
      rw [h] at z
      rw [upd_same]
      exact z
    · rw [upd_ne q]
      exact e
  have fz : Fz H a := .inr ⟨o, h, hz⟩
  refine ⟨⟨fun b u e => ?_, rl.len, fun i sv q => (rl.slot i sv q).mono ff fun b u _ z => z, fun i b e => ?_, rl.sep, rl.dkb, fun k e => ?_, rl.tab.1, fun p hp => ?_⟩, ff, fun b q => ?_, fun b o e _ _ => e, fun i b e => .inl ⟨i, e⟩, fun _ e => e⟩
  · by_cases q : b = a
    · subst q
      rw [upd_same] at e
      rw [h]
      exact e
    · rw [upd_ne q] at e
      exact rl.same _ _ e
  · obtain ⟨h1, h2, h3⟩ := rl.own i b e
    have nb : b ≠ a := fun z => h2 (by rw [z]; exact fz)
    exact ⟨by rw [upd_ne nb]; exact h1, h2, h3⟩
  · have q := rl.deck k e
    have n1 : g.ad ≠ a := fun z => fz_no q.ha id (z ▸ fz)
    have n2 : g.l ≠ a := fun z => fz_no q.hl id (z ▸ fz)
    exact ⟨q.ne, by rw [upd_ne n1]; exact q.fa, by rw [upd_ne n2]; exact q.fl, q.ha, q.hl⟩
  · obtain ⟨h1, ps, h2, h3⟩ := rl.tab.2 p hp
    have nb : p.1 ≠ a := fun z => fz_no h2 id (by rw [z]; exact fz)
    exact ⟨by rw [upd_ne nb]; exact h1, ps, h2, h3⟩
  · by_cases z : b = a
    · exact .inr (.inl (z ▸ fz))
    · rw [upd_ne z] at q
      exact .inl q
theorem args_rel2 {k : Option Deck} {vs : List V} {svs : List SV} (sm : Same F H) (dk : DkRel K g F H k) (l : Paired (ArgOk K g F H) vs svs) : Rel K g F H noA ⟨svs, k⟩ (vs.map some) where
  same := sm
  len := by
    rw [List.length_map]
    exact (Paired.length l).symm
  slot := fun i sv h => by
    have key : ∀ {vs : List V} {svs : List SV} {i : Nat}, Paired (ArgOk K g F H) vs svs → svs[i]? = some sv → SlotOk K F H g.ad sv (vs.map some)[i]? none := by
      intro vs svs i l
      induction l generalizing i with
      | nil =>
        intro h
        simp at h
      | cons a b ih =>
        intro h
        cases i with
        | zero =>
          simp at h
          subst h
          exact a
        | succ j =>
          have := ih (i := j) (by simpa using h)
          simpa using this
    exact key l h
  own := fun i b h => (nomatch (show (none : Option Addr) = some b from h))
  sep := fun i j b h _ => (nomatch (show (none : Option Addr) = some b from h))
  dkb := dk.1
  deck := dk.2.1
  tab := dk.2.2
/-- a table is written, code objects come -/
theorem Rel.table (rl : Rel K g F H A s σ) {H2 : Hp} {P : Addr} {q : Str} (hP : (P, q) ∈ g.T) (hS : ∀ b o, H b = some o → b ≠ P → H2 b = some o) (T2 : ∀ p ∈ g.T, LamX.TabS H2 p.1 p.2) : Rel K g F H2 A s σ ∧ Step g F H A F H2 A := by
  have dP : isDk g P := .inr ⟨(P, q), hP, rfl⟩
  have nP : ∀ {b}, ¬ isDk g b → b ≠ P := fun n z => n (z ▸ dP)
  obtain ⟨fP, ps, hPt, _⟩ := rl.tab.2 _ hP
  refine ⟨⟨fun b o e => hS b o (rl.same _ _ e) fun z => ?_, rl.len, fun i sv e => (rl.slot i sv e).mono (Same.refl F) fun b u e z => hS b u z (nP (rl.own i b e).2.2), fun i b e => ?_, rl.sep, rl.dkb, fun k e => ?_, rl.tab.1, fun p hp => ⟨(rl.tab.2 p hp).1, T2 p hp⟩⟩,
    Same.refl F, fun b h => .inl h, fun b o e _ nd => hS b o e (nP nd), fun i b e => .inl ⟨i, e⟩, fun b e z => ?_⟩
  · rw [z, show F P = none from fP] at e
    cases e
  · obtain ⟨h1, h2, h3⟩ := rl.own i b e
    refine ⟨h1, fun z => h2 ?_, h3⟩
    cases q : H b with
    | none => exact .inl q
    | some o =>
      have y := hS b o q (nP h3)
      rcases z with z | ⟨u, z, hz⟩
      · rw [y] at z
        cases z
      · rw [y] at z
        cases z
        exact .inr ⟨_, q, hz⟩
  · have d := rl.deck k e
    have n1 : g.ad ≠ P := fun z => by
      have w := d.ha
      rw [z, show H P = some (.tbl ps) from hPt] at w
      cases w
    have n2 : g.l ≠ P := fun z => by
      have w := d.hl
      rw [z, show H P = some (.tbl ps) from hPt] at w
      cases w
    exact ⟨d.ne, d.fa, d.fl, hS _ _ d.ha n1, hS _ _ d.hl n2⟩
  · by_cases y : b = P
    · obtain ⟨ps', w, _⟩ := T2 _ hP
      rw [y, show H2 P = some (.tbl ps') from w] at z
      cases z
    · cases q : H b with
      | none => exact e q
      | some o =>
        rw [hS b o q y] at z
        cases z
end
section
variable {X : Cx} {cl : Cl} {W : WX} {es : List Expr} {os : List Ag} {pos : Pos}
theorem e_callC {L : LamD} {id k : Nat} {js : List Nat} {fa c P : Addr} {fd : FuncData} {ps : List Str} {mf : S0 → RF} {x : Str} {p lpos : Pos} {a0 : Expr} {ar : List Expr} (hL : lawL[id]? = some L) (NS : NScope L.N L.ps L.fr L.scope)
    (Gf : FnOk X.prog X.w X.K X.mg X.base (L2.CX X.prog X.w) k fa fd ps (spM X.K cl ps.length mf)) (hr : Room k X.A) (hg : Gl X x) (hm : X.mg x = some (.ref fa)) (hk : PySem.W.keepIn X.K (.ref fa) = true) (hb : Binds X.K fd ps []) (tk : Takes X W)
    (ha : AgsOk X cl W es os) (hl : os.length + 1 = ps.length) (TB : LamX.TabB X.base X.mg c P) (hcode : X.env.code = .ref c) (hq : L.q = X.env.qual ++ "<lambda>") (hmT : (P, L.q) ∈ lawT X.K) (hu : ∀ p ∈ lawT X.K, p.1 = P → p.2 = L.q)
    (hdef : defaultsOf L.params X.env = ([], [])) (hfree : ∀ y ∈ L.scope.names, y.2 = .free → X.env.scope.names.lookup y.1 = some .cell ∨ X.env.scope.names.lookup y.1 = some .free) (hfr : ∀ y ∈ L.fr, (y, NameKind.free) ∈ L.scope.names) (hjs : js.map (fun j => X.N[j]?) = L.fr.map some) (hfn : ∀ y, X.fn y = true)
    (hdb : (x == ("__debug__" : Str)) = false := by decide) (he : starEach (a0 :: ar) X.env = (false, eval a0 X.env) :: starEach ar X.env := by rfl) (hpl : (backTo pos (starEach ar X.env)).any (·.1) = false := by rfl)
    (hargs : backTo pos (starEach (a0 :: ar) X.env) = (es.map fun e => (false, eval e X.env)) ++ [(false, eval (.Lambda L.params L.body L.scope lpos) X.env)] := by rfl) :
    PE X (.Call (.Name x p) (a0 :: ar) [] pos) (tM X.K cl W (mCallC mf os id js)) := by
  refine ⟨fun pins s σ H Q I q => ?_⟩
  obtain ⟨g, F, A, s0, rl, h⟩ := q
  refine wpAny_Call_Name_kw (ld_glob I hg hm ?_ hdb)
  refine PySem.W.callWith_K (h₀ := X.base) I.ok.mod.kin hk ?_ he hpl
  rw [hargs]
  refine spl_ags ha I (ags_of os σ H _ ⟨g, F, A, s0, rl, Post.bind (R1 := rAgs X.K g) up_da h fun svs s1 F1 H1 A1 vs e1 st1 rl1 l1 h1 => ?_⟩)
  intro us s2 I2 r
  split at h1
  · rename_i cs ecs
    have gT : g.T = lawT X.K := rl1.tab.1
    have hfr' : ∀ y ∈ L.scope.names, y.2 = .free → ∃ c, X.env.cells.lookup y.1 = some c := fun y hy e => (hfree y hy e).elim (fun z => I2.ok.has _ (.inl z)) fun z => I2.ok.has _ (.inr z)
    refine Calls.spliced_cons (lam_made (T := lawT X.K) I2 TB hcode (hq ▸ hmT) (fun p hp e => (hu p hp e).trans hq) (fun p hp => (rl1.tab.2 p (gT ▸ hp)).2) hdef hfr' fun lf c' pm ctv H2 s3 I3 hS T3 hf0 hfo hfN hfs hco => ?_)
    refine Calls.spliced_nil ⟨I3.kIn, ?_⟩
    show wpAny _ _ (PySem.call (.ref fa) (us ++ [.ref lf])) _ _ _
    rw [← hq] at hfo hco
    obtain ⟨rl2, st2⟩ := rl1.table (gT ▸ hmT) hS fun p hp => T3 p (gT ▸ hp)
    obtain ⟨rl3, st3⟩ := freezeO rl2 hco trivial
    have CP : Caps X (cloFrom X.env.cells L.scope.names []) L.fr js := Caps.made I3.ok hfree hfr hjs
    have CC := cells_of I3 CP
    let S : Addr → Prop := fun b => b = lf ∨ ∃ y, (cloFrom X.env.cells L.scope.names []).lookup y = some b
    have ph : ∀ b, S b → H2 b = none := fun b z => by
      rcases z with z | ⟨y, z⟩
      · rw [z]
        exact hfN
      · exact (CC.all y b z).1
    have pf : ∀ b, S b → upd F1 c' (LamX.CodeO c' L.q) b = none := fun b z => by
      cases y : upd F1 c' (LamX.CodeO c' L.q) b with
      | none => rfl
      | some o =>
        have w := rl3.same _ _ y
        rw [ph b z] at w
        cases w
    have ob : ∀ b, S b → ∃ o, s3.heap.get? b = some o := fun b z => by
      rcases z with z | ⟨y, z⟩
      · rw [z]
        exact ⟨_, hfo⟩
      · obtain ⟨v, o, w, _⟩ := (CC.all y b z).2
        exact ⟨o, w⟩
    have e := Enr.add (h := s3.heap) pf ph ob
    have big : ∀ y b, (cloFrom X.env.cells L.scope.names []).lookup y = some b → X.s_0.heap.objs.size ≤ b := fun y b z => I3.ok.cab y b (hfn y) (CP.sub y b z)
    have E0 := env0_up e I3.env0 (fun b z => by
      cases y : X.base.get? b with
      | none => rfl
      | some o =>
        rcases z with z | ⟨x', z⟩
        · exact absurd (Nat.lt_of_lt_of_le (Heap.lt_size (I2.bk b o y)) (z ▸ hf0)) (Nat.lt_irrefl _)
        · exact absurd (Nat.lt_of_lt_of_le (Heap.lt_size (I3.ok.bs b o y).1) (big x' b z)) (Nat.lt_irrefl _)) (fun b z => by
      rcases z with z | ⟨x', z⟩
      · rw [z]
        exact hfs
      · intro hm
        rcases List.mem_cons.mp (I3.stkSub b hm) with w | w
        · exact I3.cne x' b (CP.sub x' b z) w
        · obtain ⟨_, o', ho', _⟩ := I3.ok.funs.mem w
          exact absurd (Nat.lt_of_lt_of_le (Heap.lt_size ho') (big x' b z)) (Nat.lt_irrefl _))
    have hlen : L.fr.length = js.length := by
      have z := congrArg List.length hjs
      rw [List.length_map, List.length_map] at z
      exact z.symm
    have CA : CloAt X.K (hadd S s3.heap (upd F1 c' (LamX.CodeO c' L.q))) lf L (cloFrom X.env.cells L.scope.names []) pm c' ctv cs := by
      refine ⟨hadd_in (.inl rfl) hfo, ?_, (capsOf_len ecs).trans hlen.symm, CC.inj, fun y b z => ?_, fun i y hy => ?_⟩
      · rw [hadd_out (e.notSH hco), upd_same]
      · rcases cloFrom_mem (PySem.mem_of_lookup z) with w | ⟨w, _⟩
        · cases w
        · exact NS.free _ w rfl
      · obtain ⟨c1, hc1, hv1⟩ := CC.has i y hy
        have hi : i < js.length := by rw [← hlen]; exact (List.getElem?_eq_some_iff.mp hy).1
        obtain ⟨d, hd1, hd2⟩ := capsOf_get (i := i) (j := js[i]) ecs (by simp [hi])
        obtain ⟨v, hv2, hv3⟩ := capOf_rel rl3 hd2
        have hsl : (js.map (slotAt σ))[i]? = some (some v) := by
          rw [List.getElem?_map, List.getElem?_eq_getElem hi]
          show some (slotAt σ js[i]) = _
          unfold NdefX.slotAt
          rw [hv2]
        obtain ⟨u, ru, o, ho, hdo⟩ := hv1 v hsl
        exact ⟨c1, o, u, v, d, hc1, hadd_in (.inr ⟨y, hc1⟩) ho, hdo, ru, hd1, hv3.mono e.up⟩
    have la : Paired (ArgOk X.K g (hadd S s3.heap (upd F1 c' (LamX.CodeO c' L.q))) (hadd S s3.heap H2)) (vs ++ [.ref lf]) (svs ++ [.clo id cs]) := by
      have key : ∀ {vs : List V} {svs : List SV}, Paired (ArgOk X.K g F1 H1) vs svs → Paired (ArgOk X.K g (hadd S s3.heap (upd F1 c' (LamX.CodeO c' L.q))) (hadd S s3.heap H2)) (vs ++ [.ref lf]) (svs ++ [.clo id cs]) := by
        intro vs svs l
        induction l with
        | nil => exact .cons (show ArgOk X.K g _ _ (.ref lf) (.clo id cs) from ⟨rfl, lf, L, _, pm, c', ctv, rfl, hL, CA⟩) .nil
        | cons a b ih => exact .cons (ArgOk.mono (st3.ff.trans e.up) a) ih
      exact key l1
    have hvl : (us ++ [Value.ref lf]).length = ps.length := by
      rw [List.length_append, ← Vals.length r, Paired.length l1, evalAg_len os s0 s1 svs e1]
      exact hl
    have sp : spM X.K cl ps.length mf (vs ++ [.ref lf]) (hadd S s3.heap H2) (fun v J' => (∀ b, S b → J' b = hadd S s3.heap H2 b) → Q v (hdel S J')) (fun cc d J' => (∀ b, S b → J' b = hadd S s3.heap H2 b) → WE W σ cc d (hdel S J')) := by
      refine ⟨g, hadd S s3.heap (upd F1 c' (LamX.CodeO c' L.q)), ⟨svs ++ [.clo id cs], s1.dk⟩, ?_, args_rel2 (e.sam rl3.same) (dk_up e rl3.dkr) la, ?_⟩
      · show (svs ++ [SV.clo id cs]).length = ps.length
        rw [List.length_append, evalAg_len os s0 s1 svs e1]
        exact hl
      · have del : ∀ {G' J' : Hp}, Step g (hadd S s3.heap (upd F1 c' (LamX.CodeO c' L.q))) (hadd S s3.heap H2) noA G' J' noA → Same G' J' → Enr S s3.heap (hdel S G') (hdel S J') G' J' := fun {G' J'} st sm => Enr.del sm fun b z => by
          obtain ⟨o, w1, w2, _⟩ := e.ob b z
          exact ⟨o, w1, st.ff _ _ w2⟩
        cases em : mf ⟨svs ++ [.clo id cs], s1.dk⟩ with
        | bad =>
          rw [em] at h1
          exact h1.elim
        | ok d kk =>
          rw [em] at h1
          intro G' J' v st sm dk da fz
          have e' := del st sm
          obtain ⟨r5, st5⟩ := rl3.callee (step_dn e e' st) (e'.dn sm) (dk_dn e' dk)
          exact h1 _ _ _ v (st2.trans (st3.trans st5)) r5 (da.through e'.thr)
        | exc cc d kk =>
          rw [em] at h1
          intro G' J' v dp st sm dk da ex fz
          have e' := del st sm
          obtain ⟨r5, st5⟩ := rl3.callee (step_dn e e' st) (e'.dn sm) (dk_dn e' dk)
          refine h1 _ _ _ v dp (st2.trans (st3.trans st5)) r5 (da.through e'.thr) ?_
          rw [hdel_out (e'.notS ex fun _ _ z => by cases z)]
          exact ex
    have bnd := hb s3 (us ++ [.ref lf]) I3.kIn (by rw [List.append_nil]; exact hvl)
    rw [List.append_nil] at bnd
    refine wpAny_call (codeAny_mono (Gf.run X.A X.stack s3 (hadd S s3.heap H2) ⟨us ++ [.ref lf], []⟩ (us ++ [.ref lf]) (vs ++ [.ref lf]) _ _ hr E0 bnd (r.append (.cons (show L2.RelV (.ref lf) (Value.ref lf) from rfl) .nil)) sp) fun rr s' hq' => ?_)
    have hq2 := cr_down e hq'
    cases rr with
    | error u => exact passAt tk σ pins H2 s3 u s' I3 hq2
    | ok fl =>
      cases fl with
      | ret u => exact I3.after hq2
      | next => exact False.elim hq2
      | brk => exact False.elim hq2
      | cont => exact False.elim hq2
  · exact h1.elim
end
end Lf

set_option Elab.async false
set_option linter.all false
set_option maxRecDepth 100000
/-! LfM: try: .. except (A, B) as e: .. -/
namespace Lf
namespace Er
open PySem PySem.Spec PySem.W PySem.Calls PyProof.Rows
section
variable {prog : Program} {w : World} {A : Around} {E : Value → Shared → Prop} {s : Shared} {K : Frag} {x D : Addr} {ox : Obj} {od : Option Obj}
theorem findObj_dataD {C : Addr} {name : Str} {a g : Value} (hc : (clsIn K C).isSome = true) (ha : findIn K (.ref C) name = some (some a)) (hg : specialIn K a "__get__" = some (some g)) (ht : takesIn K a = some true) : findObj K C od name = some (.bind g a) := by
  obtain ⟨cd, hc⟩ := Option.isSome_iff_exists.mp hc
  unfold findObj
  rw [hc, Option.bind_some, ha, Option.bind_some]
  simp [hg, ht]
theorem kin_classD {Q : Option Value → Shared → Prop} (hga : findIn K (.ref D) "__getattribute__" = some (some (.builtin "BaseException.__getattribute__"))) (hgt : findIn K (.ref D) "__getattr__" = some none) (hsub : subIn K (.ref D) (.type "BaseException") = some true)
    (hdct : hasDictIn K D = true) (ha : findIn K (.ref D) "__class__" = some (some (.builtin "object.__class__")))
    (hn : specialIn K (.builtin "object.__class__") "__get__" = some (some (.builtin "getset_descriptor.__get__"))) (htk : takesIn K (.builtin "object.__class__") = some true) (hm : mroIn K D (.type "object") = some true)
    (X : K.In s.heap) (I : InstAt s.heap x ox D od) (h : Q (some (.ref D)) { s with toks := s.toks + 1 }) : wpAny (model prog w) A (getAttr? (.ref x) "__class__") Q E s := by
  have hf : findObj K D od "__class__" = some (.bind (.builtin "getset_descriptor.__get__") (.builtin "object.__class__")) := findObj_dataD (by obtain ⟨cd, hc, _⟩ := any_some hdct; rw [hc]; rfl) ha hn htk
  obtain ⟨hp, g, d, t, os⟩ := s
  have L0 := I.type (M := model prog w)
  have L1 := looks_findIn (M := model prog w) X hga
  have L2 := looks_findIn (M := model prog w) X hgt
  have L3 := looks_find (M := model prog w) X I hf
  have sub : Looks (model prog w) hp (isInstance (.ref x) (.type "BaseException")) true := L0.andThen (looks_subIn X hsub)
  have hx0 : (false && onTheHeap (Value.builtin "BaseException.__getattribute__")) = false := rfl
  have hx2 : (Value.builtin "BaseException.__getattribute__" == Value.builtin "object.__getattribute__") = false := by decide +kernel
  have hx1 : (onTheHeap (Value.ref D) && Value.builtin "BaseException.__getattribute__" == Value.builtin "object.__getattribute__") = false := by rw [hx2]; rfl
  unfold getAttr? getAttrBy? getAttrBy
  refine wpAny_bind (wpAny_mkText (wpAny_bind (wpAny_attempt (wpAny_holding (wpAny_bind (L0.at (wpAny_bind (L1.at ?_))))))))
  show wpAny _ _ (if (onTheHeap (Value.ref D) && Value.builtin "BaseException.__getattribute__" == Value.builtin "object.__getattribute__") = true then _ else _) _ _ _
  rw [hx1, if_neg Bool.false_ne_true]
  unfold getAttrByItsOwn hookBefore
  refine wpAny_bind ?_
  rw [if_pos (show onTheHeap (Value.ref D) = true from rfl)]
  refine L2.at ?_
  refine wpAny_bind (wpAny_attempt (wpAny_holding ?_))
  unfold callGetattribute
  rw [hx0, if_neg Bool.false_ne_true]
  unfold boundAndCalled
  rw [PySem.F.excAttr_ValueError.ga.bind (.ref x)]
  refine wpAny_bind (wpAny_pure ?_)
  show wpAny _ _ (PySem.call (.builtin "BaseException.__getattribute__") [.ref x, .str "__class__" t]) _ _ _
  refine wpAny_call (codeAny_call_builtin PySem.F.excAttr_ValueError.ga.plain PySem.F.entry_bexc_ga ?_)
  refine @check_slot (model prog w) _ _ ⟨hp, g, d, t + 1, os⟩ "BaseException.__getattribute__" "BaseException" "__getattribute__" (.ref x) [.str "__class__" t] [] _ (by decide +kernel) (by decide +kernel) sub (PySem.F.args_bexc_ga (.ref x) (.str "__class__" t)) ?_
  unfold Builtin.«object.__getattribute__»
  refine wpAny_bind (wpAny_of_eq (a := ((Value.ref x : Value), [Value.str "__class__" t])) (by first | rfl | (simp only [slotArgs]; rfl)) ?_)
  refine wpAny_bind (wpAny_pure (wpAny_bind (L0.at (wpAny_bind (L3.at ?_)))))
  show wpAny _ _ (holding [Value.builtin "object.__class__"] (PySem.call (.builtin "getset_descriptor.__get__") [.builtin "object.__class__", .ref x, .ref D]) >>= ret) _ _ _
  refine wpAny_bind (wpAny_holding (wpAny_call (class_get (s := ⟨hp, g, d, t + 1, os⟩) (ox := ox) (od := od) X I hm ?_)))
  refine wpAny_pure ?_
  show wpAny _ _ (handedOut (.ref D)) _ _ _
  rw [handedOut_of (v := .ref D) rfl]
  first
    | exact wpAny_pure (wpAny_pure h)
    | exact wpAny_pure h
    | exact wpAny_pure (wpAny_bind (wpAny_pure (wpAny_pure h)))
theorem kitx_excD (hga : findIn K (.ref D) "__getattribute__" = some (some (.builtin "BaseException.__getattribute__"))) (hgt : findIn K (.ref D) "__getattr__" = some none) (hsub : subIn K (.ref D) (.type "BaseException") = some true) (hdct : hasDictIn K D = true) (ha : findIn K (.ref D) "__class__" = some (some (.builtin "object.__class__")))
    (hn : specialIn K (.builtin "object.__class__") "__get__" = some (some (.builtin "getset_descriptor.__get__"))) (htk : takesIn K (.builtin "object.__class__") = some true) (hm : mroIn K D (.type "object") = some true) :
    KitX K (.ref x) (.ref D) (fun h => InstAt h x ox D od) where
  ty := fun _ _ _ I => I.type
  it := fun _ _ X _ => by
    obtain ⟨cdD, hcD, _⟩ := any_some hdct
    unfold clsIn at hcD
    split at hcD
    · rename_i c' d' cd' sl' ho
      intro A' Q' E' s' k q
      unfold isType loadHead
      exact wpAny_bind (wpAny_loadPart (k _ _ (X _ _ ho)) (wpAny_pure q))
    · cases hcD
  ne := fun h tp dd its n sl X htp => by
    obtain ⟨cdD, hcD, _⟩ := any_some hdct
    refine Bool.eq_false_iff.mpr fun q => ?_
    have e : D = tp := Value.ref.inj (beq_iff_eq.mp q)
    subst e
    unfold clsIn at hcD
    split at hcD
    · rename_i c' d' cd' sl' ho
      have z := (X _ _ ho).symm.trans htp
      cases z
    · cases hcD
  ca := fun X I k => kin_classD hga hgt hsub hdct ha hn htk hm X I k
end
end Er
open PySem PySem.Spec PyProof.Rows L2
theorem call_isD {X : Cx} {a D dp : Addr} {oe : Obj} {pn : List (Addr × Obj)} (C : ExcC X.K D) (hz : Zc (.ref D) (some dp) oe) (hf : ∃ vs, oe.data = .fields vs) : CallR (X.suite a ((a, oe) :: pn)) (.builtin "isinstance") (fun xs H Q => ∃ fs, H dp = some (.xd fs) ∧ rIsE X.K D a xs H Q) := by
  intro pins s σ H xs us Q I r h
  obtain ⟨fs, hdp, c, cv, b, rfl, hcv, e, q⟩ := h
  cases r with
  | cons rx rr =>
    cases rr with
    | cons rt rr =>
      cases rr
      cases rx
      have ec := hcv _ rt
      subst ec
      obtain ⟨hget, _⟩ := I.pin (a, oe) (List.mem_append.mpr (.inl List.mem_cons_self))
      obtain ⟨vs, hv⟩ := hf
      have hx : ObjOk X.prog X.w H s.heap dp (.xd fs) := I.hok dp _ hdp
      obtain ⟨mA, hns, _⟩ := hx
      obtain ⟨od, ho, _⟩ := L2.lookIn_ns hns
      have J : PySem.W.InstAt s.heap a oe D (some od) := ⟨hget, hz.1, by unfold PySem.W.notCls; rw [hv] <;> rfl, by rw [hz.2]; exact ho⟩
      exact PySem.W.kia_one (Er.kitx_excD C.hg C.hk C.hs C.hd C.ha C.hn C.ht C.hm) I.kIn J e (fun z => nomatch z) fun tk => ⟨.bl b, H, I.kept (t' := tk) fun _ _ z => z, rfl, q⟩

theorem fly_keeps {B h h' : Heap} {l : List Env} {a : Addr} {Z : Obj → Prop} (x : HandSPX.FlyingZ B l a Z h) (k : ∀ b o, h.get? b = some o → h'.get? b = some o) : HandSPX.FlyingZ B l a Z h' := by
  obtain ⟨f1, f2, f3, oe, vs, T, oT, ts, e1, e2, e3, e4, e5, e6, e7, e8, e9⟩ := x
  exact ⟨fun b o q => k _ _ (f1 b o q), f2, f3.of_keeps fun b o q _ => ⟨o, k _ _ q, rfl⟩, oe, vs, T, oT, ts, k _ _ e1, e2, e3, e4, e5, e6, k _ _ e7, e8, e9⟩
/-- the classes that an except clause names -/
inductive NamesL (X : Cx) : List Expr → List Value → Prop
  | nil : NamesL X [] []
  | cons {x : Str} {p : Pos} {c : Value} {es : List Expr} {cs : List Value} : Gl X x → (x == ("__debug__" : Str)) = false → X.mg x = some c → NamesL X es cs → NamesL X (.Name x p :: es) (c :: cs)
def wAsT (K : PySem.W.Frag) (cs : List Value) (i : Nat) (ts : Addr → Value → Option Addr → TS) (Wout : WX) (D : Ends) : WX := fun cls d σ H =>
  ∃ b, PySem.W.exmAny K cls cs = some b ∧ (b = true → ∀ a, H a = none → ts a cls d { nx := fun σ' H' => D.nx (σ'.set i none) H', rt := D.rt, bk := fun σ' H' => D.bk (σ'.set i none) H', ct := fun σ' H' => D.ct (σ'.set i none) H' } (σ.set i (some (.ref a))) H) ∧
    (b = false → Wout cls d σ H)
/-- such a tuple of classes, looked at -/
def TupMatch (K : PySem.W.Frag) (M : Model) (cs : List Value) : Prop := ∀ {cls : Value} {tp e : Addr} {b : Bool} {h : Heap}, K.In h → PySem.W.Looks M h (typeOf (.ref e)) cls → h.get? tp = some { cls := .type "tuple", data := .seq cs.toArray } → PySem.W.exmAny K cls cs = some b → PySem.W.Looks M h (excMatches (.ref e) (.ref tp)) b
section
variable {X : Cx} {n : Str} {i : Nat} {body suite : List Stmt} {b₀ : Stmt} {np pos pos' : Pos} {tb : WX → TS} {ts : Addr → Value → Option Addr → TS} {Wout : WX} {elts : List Expr} {cs : List Value} {kk : Nat}
theorem spl_names {E : Value → Shared → Prop} {a : Addr} {pn : List (Addr × Obj)} {pins : List (Addr × Obj)} {σ : L2.St} {H : Hp} {s : Shared} (S : Inv (X.suite a pn) pins σ H s) : ∀ {elts : List Expr} {cs : List Value}, NamesL X elts cs → ∀ {Q : List Value → Shared → Prop}, Q cs s →
    wpAny (model X.prog X.w) (X.A.mark (some (.ref a))) (spliced (elts.map fun e => (false, eval e X.env))) Q E s
  | _, _, .nil, Q, q => Calls.spliced_nil q
  | _, _, .cons (x := x) hg hd hm r, Q, q => Calls.spliced_cons (ld_glob (X := X.suite a pn) S hg hm (spl_names S r q) hd)
theorem ps_try_asT (hs : X.stack = X.env :: X.outer) (hf : X.env.frame = some X.env.locals) (hN : X.N.Nodup) (hi : X.N[i]? = some n) (hln : X.env.kindOf n = some .local) (hc : NamesL X elts cs) (hcl : cs.length ≤ 100) (hM : TupMatch X.K (model X.prog X.w) cs) (hst : backTo np (starEach elts X.env) = elts.map fun e => (false, eval e X.env)) (tk : Takes X Wout)
    (hb : ∀ (W : WX) (pn : List (Addr × Obj)) (xe : Value → Shared → Prop), Takes (X.tr pn xe) W → PassesOwn (model X.prog X.w) X.A X.env xe → PSs (X.tr pn xe) body (tb W))
    (hsu : ∀ (a : Addr) (oe : Obj) (cls : Value) (d : Option Addr) (pn : List (Addr × Obj)), Zc cls d oe → (∃ vs, oe.data = .fields vs) → PSs (X.suite a ((a, oe) :: pn)) (b₀ :: suite) (ts a cls d)) :
    PS X (.Try body [.ExceptHandler (some (.Tuple elts kk np)) (some n) (b₀ :: suite) pos'] [] [] pos) (fun D σ H => tb (wAsT X.K cs i ts Wout D) D σ H) := by
  refine ⟨fun pins s σ H D I h => ?_⟩
  have ok := I.ok
  have hfr : X.A.frames = some (X.env :: X.outer) := by rw [ok.frames, hs]
  have hloc : Loc X.env.scope n := .inl hln
  refine wpAny_Try_except ?_
  refine wpAny_mono ((hb (wAsT X.K cs i ts Wout D) (X.pn ++ pins) (fun e s₁ => wpAny (model X.prog X.w) X.A (noteFrame e X.env) (fun _ s₂ => wpAny (model X.prog X.w) X.A (setFlight e none) (fun _ s₃ =>
    wpAny (model X.prog X.w) X.A (handleBy e X.env [.ExceptHandler (some (.Tuple elts kk np)) (some n) (b₀ :: suite) pos']) (SP X pins D) X.xe s₃) X.xe s₂) X.xe s₁) (fun u s' xx => ?_) PassesOwn.looking).run [] s σ H D (I.toTry _) h) (fun f s1 hsp => ?_) (fun e s1 he => he)
  · obtain ⟨a, B, sI, pins', σ', H', cls, d, rfl, J', nb, up, sky, na, os, ag, b, hb1, hyes, hno⟩ := xx
    have J : Inv X pins σ' H' sI := J'.ofTry ok
    have sky' : Sky B (X.env :: X.outer) a (Zc cls d) X.env.locals s'.heap := by rw [← hs]; exact sky
    show wpAny (model X.prog X.w) X.A (noteFrame (.ref a) X.env) _ _ _
    refine Sky.land Zc.steady hfr hf sky' fun h0 fl0 up0 => ?_
    have J0 : Inv X pins σ' H' { s' with heap := h0 } := J.landed nb fl0.1 (up.trans up0) os ag
    obtain ⟨oe0, vs0, he0, hz0, hd0⟩ := fl0.there
    have notFr : ∀ {h : Heap} {o : Obj} {vs : Array Value}, h.FunFrames B (X.env :: X.outer) → h.get? a = some o → o.data = .fields vs → a ∉ frs (X.env :: X.outer) := fun {h o vs} ff e dd hm => by
      obtain ⟨_, o', e', hnf⟩ := ff.mem hm
      rw [e] at e'; cases e'
      exact hnf _ dd
    have nfr := notFr fl0.2.2.1 he0 hd0
    have nL : a ≠ X.env.locals := fun z => nfr (List.mem_filterMap.mpr ⟨X.env, List.mem_cons_self, by rw [hf, z]⟩)
    have nF : a ∉ X.fs := fun hm => by
      obtain ⟨e, he, q⟩ := List.mem_filterMap.mp hm
      exact nfr (List.mem_filterMap.mpr ⟨e, List.mem_cons_of_mem _ he, q⟩)
    have S0 := J0.suite he0 hd0 na nL nF
    refine wpAny_handleBy_cons (codeAny_handlers_test ?_) (by intro q; cases q)
    refine wpAny_Tuple_spliced ?_
    rw [hst]
    refine spl_names S0 hc ⟨by rw [sizeLine_eq]; omega, ?_⟩
    -- the tuple lies there
    generalize hh3 : h0.push { cls := .type "tuple", data := .seq cs.toArray } = h3
    have kp : ∀ b o, h0.get? b = some o → h3.get? b = some o := fun b o e => by
      rw [← hh3]
      exact Heap.get?_push_of_some _ e
    have htp : h3.get? h0.objs.size = some { cls := .type "tuple", data := .seq cs.toArray } := by
      rw [← hh3]
      exact Heap.get?_push_size _ rfl
    have fl3 := fly_keeps fl0 kp
    have up3 := up0.trans (Heap.UpToSlots.of_keeps kp)
    have J3 : Inv X pins σ' H' { s' with heap := h3 } := J.landed nb fl3.1 (up.trans up3) os ag
    obtain ⟨oe3, vs3, he3, hz3, hd3⟩ := fl3.there
    have LT : PySem.W.Looks (model X.prog X.w) h3 (typeOf (.ref a)) cls := fun A Q E s k q => wpAny_typeOf_ref (k _ _ he3) (by rw [hz3.1]; exact q)
    have LM := hM (J3.kIn) LT htp hb1
    refine LM.here ?_
    cases b with
    | true =>
      refine codeAny_handlers_suite_as ?_
      refine HandSPX.lands_againZ fl3 fun h4 fl4 up4 => ?_
      have J4 : Inv X pins σ' H' { s' with heap := h4 } := J.landed nb fl4.1 ((up.trans up3).trans up4) os ag
      obtain ⟨oe4, vs4, he4, hz4, hd4⟩ := fl4.there
      have S4 := J4.suite he4 hd4 na nL nF
      refine store_ok (X := X.suite a ((a, oe4) :: (X.pn ++ pins))) (v := .ref a) S4 hN hi hloc rfl (fun s5 S5 => ?_) (.inr hln)
      refine wpAny_mono ((hsu a oe4 cls d (X.pn ++ pins) hz4 ⟨_, hd4⟩).run [] s5 _ H' _ S5 (hyes rfl a na)) (fun f s6 hsp => ?_) (fun _ _ z => False.elim z)
      have end_ : ∀ {σ6 : L2.St} {H6 : Hp} {Q : Shared → Prop}, Inv (X.suite a ((a, oe4) :: (X.pn ++ pins))) [] σ6 H6 s6 → (∀ s7, Inv X pins (σ6.set i none) H6 s7 → Q s7) →
          wpAny (model X.prog X.w) X.A (do bindName X.env n .none; unbindBehindTheSuite X.env n pos') (fun _ s7 => Q s7) X.xe s6 := fun {σ6 H6 Q} S6 hq => gone_ok (S6.unsuite ok) hN hi hln hq
      cases f with
      | next =>
        obtain ⟨σ6, H6, S6, q6⟩ := hsp
        exact end_ S6 fun s7 J7 => ⟨_, _, J7, q6⟩
      | brk =>
        obtain ⟨σ6, H6, S6, q6⟩ := hsp
        exact end_ S6 fun s7 J7 => ⟨_, _, J7, q6⟩
      | cont =>
        obtain ⟨σ6, H6, S6, q6⟩ := hsp
        exact end_ S6 fun s7 J7 => ⟨_, _, J7, q6⟩
      | ret u =>
        obtain ⟨v6, σ6, H6, S6, r6, q6⟩ := hsp
        exact end_ S6 fun s7 J7 => ⟨_, _, _, J7, r6, q6⟩
    | false =>
      show wpAny _ X.A (handleBy (.ref a) X.env []) _ _ _
      refine wpAny_handleBy_nil ?_
      obtain ⟨k1, k2, k3, oe, vs, T, oT, ts', he, hz, hd, h1, hr⟩ := id fl3
      unfold PySem.passOn
      refine wpAny_bind (wpAny_field he hd h1 ?_)
      rw [if_neg (show ¬ ((Value.ref T == Value.none) = true) from by simp)]
      have fin : wpAny (model X.prog X.w) X.A (setFlight (.ref a) X.env.frame) (fun _ s4 => wpAny (model X.prog X.w) X.A (throw (.ref a) : Sem Flow) (SP X pins D) X.xe s4) X.xe { s' with heap := h3 } := by
        rw [hf]
        refine HandSPX.setFlight_upZ fl3 fun h4 hh4 up4 => wpAny_throw (tk _ _ ?_)
        exact ⟨a, B, sI, pins, σ', H', cls, d, rfl, J, nb, (up.trans up3).trans up4, .inr (.inr (by rw [hs]; exact hh4)), na, os, ag, hno rfl⟩
      first
        | exact wpAny_bind (wpAny_pure (wpAny_bind fin))
        | exact wpAny_bind fin
  · cases f with
    | next =>
      obtain ⟨σ', H', J', q⟩ := hsp
      exact wpAny_execs_nil ⟨σ', H', J'.ofTry ok, q⟩
    | brk =>
      obtain ⟨σ', H', J', q⟩ := hsp
      exact ⟨σ', H', J'.ofTry ok, q⟩
    | cont =>
      obtain ⟨σ', H', J', q⟩ := hsp
      exact ⟨σ', H', J'.ofTry ok, q⟩
    | ret u =>
      obtain ⟨v, σ', H', J', r, q⟩ := hsp
      exact ⟨v, σ', H', J'.ofTry ok, r, q⟩
end
end Lf

set_option Elab.async false
set_option linter.all false
set_option maxRecDepth 100000
/-! LfN: try: .. except (A, B) as e: return .. -/
namespace Lf
open PySem PySem.Spec PyProof.Rows L2

/-- what the error's classes tell -/
structure ErrsOk (K : PySem.W.Frag) (cl : Cl) : Prop where
  one : ∀ c x b, lawSub c x = some b → PySem.W.exmOne K (.ref (cl c)) (.ref (cl x)) = some b ∧ PySem.W.kitOne K (.ref (cl c)) (.ref (cl x)) = some b
  xf : ∀ c x b, lawSub c x = some b → XfC K (cl c) ∧ PySem.W.findIn K (.ref (cl c)) "thing" = some none ∧ ExcC K (cl c)
/-- the error that a suite holds: its class c, its thing v -/
structure EnvE (K : PySem.W.Frag) (cl : Cl) (j : Nat) (a : Addr) (cls : Value) (d : Option Addr) (F : Hp) (σ : L2.St) (c : Str) (t : D) : Prop where
  slot : σ[j]? = some (some (.ref a))
  cls : cls = .ref (cl c)
  own : ∃ dp v, d = some dp ∧ F dp = some (.xd [("thing", v)]) ∧ Da K F v t
theorem EnvE.mono {K : PySem.W.Frag} {cl : Cl} {j : Nat} {a : Addr} {cls : Value} {d : Option Addr} {F F' : Hp} {σ : L2.St} {c : Str} {t : D} (e : Same F F') (h : EnvE K cl j a cls d F σ c t) : EnvE K cl j a cls d F' σ c t := by
  obtain ⟨h1, h2, dp, v, h3, h4, h5⟩ := h
  exact ⟨h1, h2, dp, v, h3, e _ _ h4, h5.mono e⟩
def tXE {α β : Type} (K : PySem.W.Frag) (cl : Cl) (j : Nat) (a : Addr) (cls : Value) (d : Option Addr) (Rl : Gd → Hp → (Nat → Option Addr) → Hp → Hp → β → α → Prop) (m : Str → D → S0 → R α) : L2.St → Hp → (β → Hp → Prop) → Prop := fun σ H Q =>
  ∃ g F A s c t, Rel K g F H A s σ ∧ EnvE K cl j a cls d F σ c t ∧ Post K cl noX (Rl g) g F H A σ (m c t s) Q
section
variable {X : Cx} {cl : Cl} {j : Nat} {a : Addr} {cls : Value} {d : Option Addr} {oe : Obj} {pn : List (Addr × Obj)} {e e1 e2 e3 : Expr} {es : List Expr} {pos p1 p2 p3 : Pos} {m m1 m2 : Str → D → S0 → R D} {t : Str → D → S0 → R Bool}
abbrev tE (K : PySem.W.Frag) (cl : Cl) (j : Nat) (a : Addr) (cls : Value) (d : Option Addr) (m : Str → D → S0 → R D) : TE := tXE K cl j a cls d (fun _ => rDa K) m
abbrev tTE (K : PySem.W.Frag) (cl : Cl) (j : Nat) (a : Addr) (cls : Value) (d : Option Addr) (m : Str → D → S0 → R Bool) : TT := tXE K cl j a cls d (fun _ => rBo) m
theorem te_of {m : S0 → R D} (h : PE X e (tM X.K cl noX m)) : PE X e (tE X.K cl j a cls d fun _ _ => m) := h.imp fun σ H Q ⟨g, F, A, s, c, t, rl, _, q⟩ => ⟨g, F, A, s, rl, q⟩
def mThingE : Str → D → S0 → R D := fun c t s => if (lawSub c "HouseError").isSome = true then .ok t s else .bad
def mIsE (x : Str) : Str → D → S0 → R D := fun c _ s => match lawSub c x with
  | some b => .ok (.bool b) s
  | none => .bad
theorem te_thing {n : Str} (EK : ErrsOk X.K cl) (hz : Zc cls d oe) (hf : ∃ vs, oe.data = .fields vs) (hN : X.N[j]? = some n) (hv : Vis X.env.scope n) (hd : (n == ("__debug__" : Str)) = false := by decide) (hcd : (n == ("__classdict__" : Str)) = false := by decide)
    (hb : attributeBase (.Name n p1) "thing" X.env (eval (.Name n p1) X.env) = eval (.Name n p1) X.env := by rfl) :
    PE (X.suite a ((a, oe) :: pn)) (.Attribute (.Name n p1) "thing" pos) (tE X.K cl j a cls d mThingE) := by
  refine ⟨fun pins s σ H Q I q => ?_⟩
  obtain ⟨g, F, A, s0, c, t, rl, en, q⟩ := q
  unfold mThingE at q
  by_cases hs : (lawSub c "HouseError").isSome = true
  · obtain ⟨b, hb'⟩ := Option.isSome_iff_exists.mp hs
    obtain ⟨xf, hno, _⟩ := EK.xf c _ b hb'
    obtain ⟨h1, h2, dp, v, h3, h4, h5⟩ := en
    rw [if_pos hs] at q
    refine (pe_xf (C := cl c) (n := "thing") xf hno hz hf (pv j (X := X.suite a ((a, oe) :: pn)) hN hv hd hcd) hb).run pins s σ H Q I ⟨.ref a, h1, rfl, h2, dp, _, v, h3, rl.same _ _ h4, ?_, ?_⟩
    · simp [List.lookup]
    · exact q F H A v .refl rl h5
  · rw [if_neg hs] at q
    exact q.elim
theorem te_isi {n x : Str} (EK : ErrsOk X.K cl) (hz : Zc cls d oe) (hf : ∃ vs, oe.data = .fields vs) (hN : X.N[j]? = some n) (hv : Vis X.env.scope n) (hgi : Gl X "isinstance") (hmi : X.mg "isinstance" = none) (hgx : Gl X x) (hmx : X.mg x = some (.ref (cl x))) (hd : (n == ("__debug__" : Str)) = false := by decide) (hcd : (n == ("__classdict__" : Str)) = false := by decide) (hdx : (x == ("__debug__" : Str)) = false := by decide)
    (h1 : starEach [.Name n p1, .Name x p2] X.env = (false, eval (.Name n p1) X.env) :: starEach [.Name x p2] X.env := by rfl) (h2 : starEach [.Name x p2] X.env = (false, eval (.Name x p2) X.env) :: starEach [] X.env := by rfl) (hpl : (backTo pos (starEach [.Name x p2] X.env)).any (·.1) = false := by rfl) :
    PE (X.suite a ((a, oe) :: pn)) (.Call (.Name "isinstance" p3) [.Name n p1, .Name x p2] [] pos) (tE X.K cl j a cls d (mIsE x)) := by
  refine ⟨fun pins s σ H Q I q => ?_⟩
  obtain ⟨g, F, A, s0, c, t, rl, en, q⟩ := q
  obtain ⟨e1, e2, dp, v, e3, e4, e5⟩ := en
  unfold mIsE at q
  split at q
  · rename_i b hb
    obtain ⟨_, ki⟩ := EK.one c x b hb
    obtain ⟨_, _, ec⟩ := EK.xf c x b hb
    subst e2
    subst e3
    refine (pe_callB (X := X.suite a ((a, oe) :: pn)) (call_isD ec hz hf) hgi hmi boot_isinstance (pa_cons (pv j (X := X.suite a ((a, oe) :: pn)) hN hv hd hcd) (pa_cons (pe_glob (X := X.suite a ((a, oe) :: pn)) (v := .ref (cl x)) hgx hmx rfl hdx) pa_nil h2) h1) (by decide) (by decide) h1 hpl).run pins s σ H Q I ?_
    exact ⟨.ref a, e1, _, rl.same _ _ e4, .ref (cl x), .ref (cl x), b, rfl, fun u r => r, ki, q F H A _ .refl rl (.bl b)⟩
  · exact q.elim

theorem ct_valE (h : PE X e (tE X.K cl j a cls d m)) (he : ∀ whole, isTrue e X.env whole = (do let v ← whole; standAt e.pos; holding [v] (truthy v)) := by intro _; rfl) : PT X e (tTE X.K cl j a cls d fun c t => toB (m c t)) := (pt_val h he).imp fun σ H Q ⟨g, F, A, s, c, t, rl, en, q⟩ => by
  refine ⟨g, F, A, s, c, t, rl, en, Post.bind (R1 := rDa X.K) up_bo q fun d s1 F' H' A' v e st rl' l h' => ?_⟩
  cases d with
  | bool b =>
    cases (show v = .bl b from Da.bl_eq l)
    exact ⟨b, rfl, h' F' H' A' b .refl rl' rfl⟩
  | _ => exact h'.elim
theorem te_if (hc : PT X e1 (tTE X.K cl j a cls d t)) (ha : PE X e2 (tE X.K cl j a cls d m1)) (hb : PE X e3 (tE X.K cl j a cls d m2)) : PE X (.IfExp e1 e2 e3 pos) (tE X.K cl j a cls d fun c d => mIf (t c d) (m1 c d) (m2 c d)) := (pe_ifExp hc ha hb).imp fun σ H Q ⟨g, F, A, s, c, th, rl, en, q⟩ => by
  refine ⟨g, F, A, s, c, th, rl, en, Post.bind (R1 := rBo) up_da q fun b s1 F' H' A' v e st rl' l h' => ?_⟩
  cases (show v = b from l)
  cases b with
  | true => exact ⟨g, F', A', s1, c, th, rl', en.mono st.ff, h'⟩
  | false => exact ⟨g, F', A', s1, c, th, rl', en.mono st.ff, h'⟩
def tEs (K : PySem.W.Frag) (cl : Cl) (j : Nat) (a : Addr) (cls : Value) (d : Option Addr) : List (Str → D → S0 → R D) → TA
  | [] => tNil
  | o :: r => tCons (tE K cl j a cls d o) (tEs K cl j a cls d r)
theorem daE_of {K : PySem.W.Frag} : ∀ (os : List (Str → D → S0 → R D)) (σ : L2.St) (H : Hp) (Q : List V → Hp → Prop), tXE K cl j a cls d (fun _ => rDaS K) (fun c t => evalM (os.map fun o => o c t)) σ H Q → tEs K cl j a cls d os σ H Q
  | [], σ, H, Q, ⟨g, F, A, s, c, t, rl, en, h⟩ => h F H A [] .refl rl .nil
  | f :: r, σ, H, Q, ⟨g, F, A, s, c, t, rl, en, h⟩ => by
    refine ⟨g, F, A, s, c, t, rl, en, Post.bind (R1 := rDa K) up_das h fun d1 s1 F' H' A' v e st rl' l h' => ?_⟩
    refine daE_of r σ H' _ ⟨g, F', A', s1, c, t, rl', en.mono st.ff, Post.bind (R1 := rDaS K) up_das h' fun ds s2 F2 H2 A2 vs e2 st2 rl2 l2 h2 => ?_⟩
    exact h2 F2 H2 A2 _ .refl rl2 (.cons (Da.mono st2.ff l) l2)
theorem te_nil : PA X [] (tEs X.K cl j a cls d []) := pa_nil
theorem te_cons {os : List (Str → D → S0 → R D)} (h1 : PE X e (tE X.K cl j a cls d m)) (h2 : PA X es (tEs X.K cl j a cls d os)) (hs : starEach (e :: es) X.env = (false, eval e X.env) :: starEach es X.env := by rfl) : PA X (e :: es) (tEs X.K cl j a cls d (m :: os)) := pa_cons h1 h2 hs
theorem te_tup {x1} {os : List (Str → D → S0 → R D)} (h : PA X es (tEs X.K cl j a cls d os)) : PE X (.Tuple es x1 pos) (tE X.K cl j a cls d fun c t => mTup (os.map fun o => o c t)) := (pe_tup h).imp fun σ H Q ⟨g, F, A, s, c, t, rl, en, q⟩ => by
  refine daE_of os σ H _ ⟨g, F, A, s, c, t, rl, en, Post.bind (R1 := rDaS X.K) up_da q fun ds s1 F' H' A' vs e st rl' l h' => ?_⟩
  split at h'
  · rename_i hl
    have l' : DaS X.K F' vs ds := l
    refine ⟨by rw [l'.length, ← line_eq]; exact hl, fun p hp => ?_⟩
    have n := Nw.new (o := .tup vs) rl'.same hp
    exact h'.here (R1 := rDa X.K) rl' n (.tup (.inl (.inl upd_same)) (l'.mono n.ff))
  · exact h'.elim
/-- the suite's statements -/
def tSE (K : PySem.W.Frag) (cl : Cl) (j : Nat) (a : Addr) (cls : Value) (d : Option Addr) (m : Str → D → MS) : TS := fun E σ H => ∃ g F A s c t, Rel K g F H A s σ ∧ EnvE K cl j a cls d F σ c t ∧ PostS K cl noX g F H A (m c t s) E
theorem se_ret (h : PE X e (tE X.K cl j a cls d m)) : PS X (.Return (some e) pos) (tSE X.K cl j a cls d fun c t => sRet (m c t)) := (ps_ret h).imp fun E σ H ⟨g, F, A, s, c, t, rl, en, q⟩ =>
  ⟨g, F, A, s, c, t, rl, en, PostS.ofE (R1 := rDa X.K) q fun d s1 F' H' A' v e st rl' l h' => h' F' H' A' σ v .refl rl' l⟩
end
/-! ### the statement -/
def catchL : List Str → Str → Option Bool
  | [], _ => some false
  | x :: r, c => match lawSub c x, catchL r c with
    | some b, some d => some (b || d)
    | _, _ => none
theorem catchL_ok {K : PySem.W.Frag} {cl : Cl} (EK : ErrsOk K cl) {c : Str} : ∀ {xs : List Str} {b : Bool}, catchL xs c = some b → PySem.W.exmAny K (.ref (cl c)) (xs.map fun x => .ref (cl x)) = some b
  | [], b, h => by
    cases h
    rfl
  | x :: r, b, h => by
    unfold catchL at h
    split at h
    · rename_i b1 d1 e1 e2
      cases h
      show (match PySem.W.exmOne K (.ref (cl c)) (.ref (cl x)), PySem.W.exmAny K (.ref (cl c)) (r.map fun x => Value.ref (cl x)) with
        | some b, some d => some (b || d)
        | _, _ => none) = _
      rw [(EK.one c x b1 e1).1, catchL_ok EK e2]
    · cases h
/-- try: mb / except xs as e: ms, which returns -/
def sTryT (xs : List Str) (j : Nat) (mb : MS) (ms : Str → D → MS) : MS := fun s => match mb s with
  | .exc c t s1 => (match catchL xs c with
    | some true => (match ms c t { s1 with ρ := s1.ρ.set j .unk } with
      | .rt d s2 => if j < s1.ρ.length then .rt d s2 else .bad
      | _ => .bad)
    | some false => .exc c t s1
    | none => .bad)
  | r => r
theorem s_tryT {X : Cx} {cl : Cl} {W : WX} {j kk : Nat} {n : Str} {xs : List Str} {elts : List Expr} {b₀ : Stmt} {body suite : List Stmt} {np pos pos' : Pos} {mb : MS} {ms : Str → D → MS} (hs : X.stack = X.env :: X.outer) (hf : X.env.frame = some X.env.locals) (hN : X.N.Nodup) (hi : X.N[j]? = some n) (hln : X.env.kindOf n = some .local) (EK : ErrsOk X.K cl)
    (hc : NamesL X elts (xs.map fun x => .ref (cl x))) (hcl : xs.length ≤ 100) (hM : TupMatch X.K (model X.prog X.w) (xs.map fun x => .ref (cl x))) (hst : backTo np (starEach elts X.env) = elts.map fun e => (false, eval e X.env)) (tk : Takes X W)
    (hb : ∀ (W : WX) (pn : List (Addr × Obj)) (xe : Value → Shared → Prop), Takes (X.tr pn xe) W → PassesOwn (model X.prog X.w) X.A X.env xe → PSs (X.tr pn xe) body (tS X.K cl W mb))
    (hsu : ∀ (a : Addr) (oe : Obj) (cls : Value) (d : Option Addr) (pn : List (Addr × Obj)), Zc cls d oe → (∃ vs, oe.data = .fields vs) → PSs (X.suite a ((a, oe) :: pn)) (b₀ :: suite) (tSE X.K cl j a cls d ms)) :
    PS X (.Try body [.ExceptHandler (some (.Tuple elts kk np)) (some n) (b₀ :: suite) pos'] [] [] pos) (tS X.K cl W (sTryT xs j mb ms)) :=
  (ps_try_asT (Wout := W) hs hf hN hi hln hc (by rw [List.length_map]; exact hcl) hM hst tk hb hsu).imp fun E σ H ⟨g, F, A, s, rl, q⟩ => by
    refine ⟨g, F, A, s, rl, ?_⟩
    unfold sTryT at q
    cases em : mb s with
    | nx s' => rw [em] at q; exact q
    | rt d s' => rw [em] at q; exact q
    | bk s' => rw [em] at q; exact q
    | ct s' => rw [em] at q; exact q
    | bad => rw [em] at q; exact q
    | exc c t s1 =>
      rw [em] at q
      intro F' H' A' σ' v dp st rl' da ex
      have q : PostS X.K cl W g F H A (match catchL xs c with
        | some true => (match ms c t { s1 with ρ := s1.ρ.set j .unk } with
          | .rt d s2 => if j < s1.ρ.length then .rt d s2 else .bad
          | _ => .bad)
        | some false => .exc c t s1
        | none => .bad) E := q
      cases ec : catchL xs c with
      | none =>
        rw [ec] at q
        exact q.elim
      | some b =>
        rw [ec] at q
        refine ⟨b, catchL_ok EK ec, fun hb a na => ?_, fun hb => ?_⟩
        · subst hb
          have q : PostS X.K cl W g F H A (match ms c t { s1 with ρ := s1.ρ.set j .unk } with
            | .rt d s2 => if j < s1.ρ.length then .rt d s2 else .bad
            | _ => .bad) E := q
          cases es : ms c t { s1 with ρ := s1.ρ.set j .unk } with
          | rt d s2 =>
            rw [es] at q
            have q : PostS X.K cl W g F H A (if j < s1.ρ.length then .rt d s2 else .bad) E := q
            by_cases hj : j < s1.ρ.length
            · rw [if_pos hj] at q
              obtain ⟨rl2, st2⟩ := freezeO rl' ex trivial
              have rl3 := rl2.set (i := j) (sv := .unk) (v := some (.ref a)) (a := none) rfl hj fun b z => by cases z
              refine ⟨g, _, _, _, c, t, rl3, ⟨?_, rfl, dp, v, rfl, upd_same, da.mono st2.ff⟩, ?_⟩
              · rw [List.getElem?_set_self (by rw [← rl2.len]; exact hj)]
              · rw [es]
                intro F2 H2 A2 σ2 w st4 rl4 dw
                have own : ∀ i b, setA A' j none i = some b → ∃ k, A' k = some b := fun i b z => by
                  by_cases y : i = j
                  · rw [y, setA_same] at z
                    cases z
                  · rw [setA_ne y] at z
                    exact ⟨i, z⟩
                exact q F2 H2 A2 σ2 w (st.trans (st2.trans ((st_own own).trans st4))) rl4 dw
            · rw [if_neg hj] at q
              exact q.elim
          | nx s2 => rw [es] at q; exact q.elim
          | bk s2 => rw [es] at q; exact q.elim
          | ct s2 => rw [es] at q; exact q.elim
          | exc c' d s2 => rw [es] at q; exact q.elim
          | bad => rw [es] at q; exact q.elim
        · subst hb
          exact q F' H' A' σ' v dp st rl' da ex
end Lf

set_option Elab.async false
set_option linter.all false
set_option maxRecDepth 100000
/-! LfO: enumerate of a tuple. -/
namespace PySem
open PyProof.Rows
theorem meets_enumerate_new1T {v : Value} {o : Obj} {H : Heap → Prop} (B : Begins v o H) :
    Meets (Builtin.«enumerate.__new__» ⟨[.type "enumerate", v], []⟩) (fun _ R s => H s.heap ∧
      R (.ok (.ret (.ref (s.heap.push o).objs.size))) { s with heap := (s.heap.push o).push { cls := .type "enumerate", data := .fields #[.none, .bool false, .ref s.heap.objs.size, rawInt 0, .none, .none] } }) :=
  .of_wp fun prog w A R s h => by
    obtain ⟨hp, g, d, tk, os⟩ := s; obtain ⟨h1, h⟩ := h
    have hsub := sub_enumerate
    have q1 : ∀ {A' : Around} {E : Value → Shared → Prop} {Q : Value → Shared → Prop}, Q (.ref hp.objs.size) ⟨hp.push o, g, d, tk, os⟩ → wpAny (model prog w) A' (pyIter v) Q E ⟨hp, g, d, tk, os⟩ :=
      fun q => B.iter prog w _ _ ⟨hp, g, d, tk, os⟩ _ h1 q
    wp_walk using q1
    refine wpAny_stack_any fun st => wpAny_pure ?_
    split
    · rename_i c _ _ _ _ _
      cases (c == Value.type "enumerate")
      · wp_walk using q1
        exact ⟨_, rfl, h⟩
      · wp_walk using q1
        exact ⟨_, rfl, h⟩
    · wp_walk using q1
      exact ⟨_, rfl, h⟩
section
variable {prog : Program} {w : World} {A : Around} {E : Value → Shared → Prop} {s : Shared}
theorem call_enumerate_tuple {l : Addr} {items : Array Value} {Q : Value → Shared → Prop} (hL : s.heap.IsTuple l items)
    (h : ∀ h', IsEnum h' (s.heap.objs.size + 1) s.heap.objs.size 0 .none → h'.IsTupleIter s.heap.objs.size l 0 → (∀ b o, s.heap.get? b = some o → h'.get? b = some o) → Q (.ref (s.heap.objs.size + 1)) { s with heap := h' }) :
    wpAny (model prog w) A (call (.type "enumerate") [.ref l]) Q E s := by
  refine callType_new F.called_enumerate (by decide) (F.typeCall_enumerate_1 _) (F.newCall_enumerate_1 _) (fun obj => F.args_object_init_2 obj _) F.entry_enumerate_new
    (meets_enumerate_new1T (begins_tuple l items)) ⟨hL, ?_⟩
  have hz : (s.heap.push { cls := .type "tuple_iterator", data := .fields #[.ref l, .int 0 0] }).objs.size = s.heap.objs.size + 1 := Heap.size_push ..
  show _ ∧ _
  rw [hz]
  have he : IsEnum ((s.heap.push { cls := .type "tuple_iterator", data := .fields #[.ref l, .int 0 0] }).push
      { cls := .type "enumerate", data := .fields #[.none, .bool false, .ref s.heap.objs.size, rawInt 0, .none, .none] }) (s.heap.objs.size + 1) s.heap.objs.size 0 .none := by
    have := Heap.get?_push_size (s.heap.push { cls := .type "tuple_iterator", data := .fields #[.ref l, .int 0 0] })
      (o := { cls := .type "enumerate", data := .fields #[.none, .bool false, .ref s.heap.objs.size, rawInt 0, .none, .none] }) rfl
    rw [hz] at this; exact this
  refine ⟨⟨_, he, rfl⟩, h _ he ⟨_, Heap.get?_push_of_some _ (Heap.get?_push_size _ rfl), rfl, rfl⟩ fun b o x => Heap.get?_push_of_some _ (Heap.get?_push_of_some _ x)⟩
end
end PySem
namespace Lf
open PySem PySem.Spec PyProof.Rows L2
/-- the tuple at a, each item with its number in a new pair -/
def IeT (K : PySem.W.Frag) (a : Addr) : It :=
  ⟨fun i H => ∃ (xs : List V) (x : V), SqT K H a xs ∧ xs[i]? = some x, fun i H v H' => ∃ T x, v = .ref T ∧ H T = none ∧ H' = upd H T (.tup [.int (i : Nat), x]) ∧ ∀ xs, SqT K H a xs → xs[i]? = some x, fun i H => ∃ xs : List V, SqT K H a xs ∧ xs.length = i⟩
theorem turn_enumT {P : Program} {w : World} {K : PySem.W.Frag} {elts : List Expr} {kk : Nat} {tpos : Pos} (a e it : Addr) (items : Array Value) (ha : a ≠ it) (hae : a ≠ e) :
    Turn P w K (.Tuple elts kk tpos) (IeT K a) [e, it] e (fun i h => (∃ old, IsEnum h e it ((i : Nat) : Int) old) ∧ h.IsTupleIter it a i ∧ e ≠ it) where
  mem := by simp
  obj := fun i h st b hb => by
    obtain ⟨⟨old, he⟩, ⟨o, ho, hc, hd⟩, _⟩ := st
    have e' : b = e ∨ b = it := by simpa using hb
    rcases e' with z | z
    · rw [z]; exact ⟨_, he, fun v q => nomatch q⟩
    · rw [z]; exact ⟨o, ho, fun v q => by rw [hd] at q; cases q⟩
  keep := fun i h h' st k => let ⟨⟨old, he⟩, hi, hne⟩ := st; ⟨⟨old, k e (by simp) _ he⟩, hi.at fun o q => k it (by simp) o q, hne⟩
  item := by
    intro X hP hw hK hc i pins s σ H E I hf st hg
    subst hP hw hK
    obtain ⟨⟨old, he⟩, hit, hne⟩ := st
    obtain ⟨xs, x, hq, hx⟩ := hg
    obtain ⟨its, rv, p, hz⟩ := I.tuple hq
    obtain ⟨u, hu, ru⟩ := rv.get hx
    have hel : e < s.heap.objs.size := Heap.lt_size he
    have hil : it < s.heap.objs.size := by obtain ⟨_, q, _⟩ := hit; exact Heap.lt_size q
    have D := Draws.tuple (prog := X.prog) (w := X.w) (A := X.A.in1) (show X.A.in1.handled = none from I.ok.hd hc) it a ha its.toArray
    have hlt : i < its.toArray.size := by
      have := (List.getElem?_eq_some_iff.mp hu).1
      simpa using this
    refine wpAny_pyNext_enum_itemC D he ⟨hit, (show s.heap.IsTuple a its.toArray from p)⟩ hlt hne (by simp [hne, hae.symm]) fun x' h' tk hPx ho hit' hT hsz hk => ?_
    have ex : x' = u := by
      have hu' : its.toArray[i]? = some u := by simpa using hu
      rw [hu'] at hPx
      exact (Option.some.inj hPx).symm
    subst ex
    refine ⟨_, rfl, wpAny_letOwnedTupleGo_enum (s := { s with heap := h', toks := tk + 1 }) ho fun h'' he' sb => ?_⟩
    have hT2 : h''.get? s.heap.objs.size = some { cls := .type "tuple", data := .seq #[.int i tk, x'] } := (sb.2 _ (Nat.ne_of_gt hel)).trans hT
    have new : ObjOk X.prog X.w (upd H s.heap.objs.size (.tup [.int (i : Nat), x])) h'' s.heap.objs.size (.tup [.int (i : Nat), x]) :=
      ⟨by show 2 ≤ sizeLine; decide, [.int i tk, x'], .cons ⟨_, rfl⟩ (.cons ru .nil), ⟨_, hT2, rfl, _, rfl⟩⟩
    have I1 : Inv X pins σ (upd H s.heap.objs.size (.tup [.int (i : Nat), x])) { s with heap := h'', toks := tk + 1 } :=
      I.turnedNew (ch := [e, it]) (fun b ob hb q => (sb.2 b (fun z => hb (by simp [z]))).trans (hk b ob (fun z => hb (by simp [z])) (fun z => hb (by simp [z])) q)) hf (Nat.le_refl _) new
    refine ⟨.ref s.heap.objs.size, _, I1, rfl, ⟨_, x, rfl, I.hok.fresh (Nat.le_refl _), rfl, fun ys hy => by rw [I.tuple_inj hy hq]; exact hx⟩, ⟨⟨x', ?_⟩, hit'.1.at fun o q => (sb.2 it (Ne.symm hne)).trans q, hne⟩, fun b hb => ?_⟩
    · have e1 : ((i + 1 : Nat) : Int) = (i : Int) + 1 := by omega
      rw [e1]; exact he'
    · have hb' : b < s.heap.objs.size := by
        have e' : b = e ∨ b = it := by simpa using hb
        rcases e' with z | z
        · rw [z]; exact hel
        · rw [z]; exact hil
      rw [upd_ne (Nat.ne_of_lt hb')]
      exact (hf b hb).1
  done := by
    intro X hP hw hK hc i pins s σ H E I hf st hg
    subst hP hw hK
    obtain ⟨⟨old, he⟩, hit, hne⟩ := st
    obtain ⟨xs, hq, hx⟩ := hg
    obtain ⟨its, rv, p, hz⟩ := I.tuple hq
    obtain ⟨f0, f1, f2, f3, f4, f5⟩ := hf it (by simp)
    have D := Draws.tuple (prog := X.prog) (w := X.w) (A := X.A.in1) (show X.A.in1.handled = none from I.ok.hd hc) it a ha its.toArray
    have hn : its.toArray.size = i := by
      have hl := rv.length
      rw [List.size_toArray, ← hl, hx]
    refine wpAny_pyNext_enum_endD D he ?_ fun h' eb => ⟨rfl, I.turned (t' := s.toks) (fun b o hb q => eb b o hb q) f0 f1 f3 f4 f5⟩
    rw [hn]
    exact ⟨hit, p⟩
  self := fun A i s Q E st h => let ⟨⟨_, he⟩, _⟩ := st; wpAny_pyIter_enum he h

def iEnT (K : PySem.W.Frag) (ta : TA) : TI := fun σ H R => ta σ H fun vs H1 => ∃ a xs, vs = [.ref a] ∧ SqT K H1 a xs ∧ R (IeT K a) H1
theorem pi_enumT {X : Cx} {e : Expr} {ta : TA} {p pos tpos : Pos} {elts : List Expr} {kk : Nat} (hg : Gl X "enumerate") (hm : X.mg "enumerate" = none) (ha : PA X [e] ta) (hs : starEach [e] X.env = [(false, eval e X.env)] := by rfl) :
    PI X (.Tuple elts kk tpos) (.Call (.Name "enumerate" p) [e] [] pos) (iEnT X.K ta) := by
  refine ⟨fun pins s σ H R I h => ?_⟩
  refine Call_ (ld_blt I hg hm boot_enumerate (PyProof.Rows.callWith_type1 (thn (ha.run pos pins s σ H _ I h) fun us s1 ⟨vs, H1, I1, r1, q1⟩ => ?_) hs rfl))
  obtain ⟨a, xs, ex, hq, q⟩ := q1
  subst ex
  cases r1 with
  | cons r rr =>
    cases rr
    cases r
    obtain ⟨its, rv, p', hz⟩ := I1.tuple hq
    have hal : a < s1.heap.objs.size := by
      obtain ⟨o, z, _⟩ := p'
      exact Heap.lt_size z
    refine call_enumerate_tuple p' fun h' he hit hk => wpAny_pyIter_enum he ?_
    have I2 : Inv X pins σ H1 { s1 with heap := h' } := I1.kept (t' := s1.toks) hk
    refine ⟨s1.heap.objs.size + 1, [s1.heap.objs.size + 1, s1.heap.objs.size], _, _, H1, rfl, I2, turn_enumT a (s1.heap.objs.size + 1) s1.heap.objs.size its.toArray (Nat.ne_of_lt hal) (Nat.ne_of_lt (Nat.lt_succ_of_lt hal)), ⟨⟨.none, he⟩, hit, Nat.succ_ne_self _⟩, fun b hb => ?_, q⟩
    have e' : b = s1.heap.objs.size + 1 ∨ b = s1.heap.objs.size := by simpa using hb
    have hle : s1.heap.objs.size ≤ b := by
      rcases e' with z | z
      · rw [z]; exact Nat.le_add_right _ _
      · rw [z]; exact Nat.le_refl _
    exact I1.fpOk hle (I1.hok.fresh hle)
theorem it_enumT {K : PySem.W.Frag} {F0 : Hp} {a : Addr} {vs : List V} {ds : List D} (h : SqT K F0 a vs) (r : DaS K F0 vs ds) : ItOk K (IeT K a) (enumD ds) F0 where
  go := fun i F H e1 e2 hi => by
    have hl : i < vs.length := by rw [r.length]; simpa [enumD] using hi
    exact ⟨vs, vs[i], sqt_mono e2 (sqt_mono e1 h), by simp [hl]⟩
  yld := fun i F H x H' d e1 e2 hd y => by
    obtain ⟨T, z, rfl, hT, rfl, y⟩ := y
    obtain ⟨e, he, rfl⟩ := enumD_get hd
    obtain ⟨v, h1, h2⟩ := r.get he
    have h3 := y vs (sqt_mono e2 (sqt_mono e1 h))
    rw [h1] at h3
    cases h3
    exact nw_pair e2 hT (.int _) (h2.mono e1)
  stop := fun F H e1 e2 => ⟨vs, sqt_mono e2 (sqt_mono e1 h), by rw [r.length]; simp [enumD]⟩
end Lf

set_option Elab.async false
set_option linter.all false
set_option maxRecDepth 100000
/-! LfP: list(zip(x, y)), x and y lists or tuples. -/
namespace PySem
open Sem (wp)
section
variable {prog : Program} {w : World} {A : Around} {E : Value → Shared → Prop} {s : Shared} {z TI TO T i1 i2 : Addr} {fp1 fp2 : List Addr} {n1 n2 i : Nat} {P1 P2 : Nat → Value → Prop} {St1 St2 : Nat → Heap → Prop} {f : Bool} {oT : Obj}
theorem zipD2_item_held {Q : Value → Shared → Prop} (S : ZipSep2 z TI TO i1 i2 fp1 fp2) (D1 : Draws prog w A i1 fp1 n1 P1 St1) (D2 : Draws prog w A i2 fp2 n2 P2 St2)
    (hz : IsZipHeld s.heap z TI TO T f) (hT : s.heap.get? T = some oT) (hTI : IsTupOf2 s.heap TI (.ref i1) (.ref i2)) (st1 : St1 i s.heap) (st2 : St2 i s.heap) (hlt1 : i < n1) (hlt2 : i < n2)
    (hQ : ∀ x1 x2 h' tk, P1 i x1 → P2 i x2 → IsZipHeld h' z TI TO T true → St1 (i + 1) h' → St2 (i + 1) h' → IsTupOf2 h' s.heap.objs.size x1 x2 → h'.objs.size = s.heap.objs.size + 1 →
      (∀ c o, c ≠ z → c ≠ i1 → c ≠ i2 → s.heap.get? c = some o → h'.get? c = some o) → Q (.ref s.heap.objs.size) { s with heap := h', toks := tk }) :
    wpAny (model prog w) A (Builtin.«zip.__next__» ⟨[.ref z], []⟩) (fun fin s' => ∃ v, fin = .done (.ret v) ∧ Q v s') E s := by
  obtain ⟨hp, g, d, tk0, os⟩ := s
  show wpAny _ _ (field (.ref z) 2 >>= _) _ _ _
  refine wpAny_bind (wpAny_field hz rfl (x := .bool false) rfl ?_)
  show wpAny _ _ (field (.ref z) 3 >>= _) _ _ _
  refine wpAny_bind (wpAny_field hz rfl (x := .ref TI) rfl ?_)
  refine wpAny_bind (wpAny_seqItems hTI rfl ?_)
  show wpAny _ _ (Builtin.SmallTypes.ownedTupleIsFree (.ref z) >>= _) _ _ _
  refine wpAny_bind (wpAny_tupleHeld_zip hz hT fun g0 hz0 hs0 => ?_)
  replace hs0 : Heap.SameBut z hp g0 := hs0
  simp only [Bool.false_eq_true, if_false]
  refine wpAny_bind ?_
  rw [← Array.forIn_toList]
  simp only [List.forIn_cons, List.forIn_nil]
  refine wpAny_bind (wpAny_bind (wpAny_holding ?_))
  show wpAny _ _ (Builtin.SmallTypes.nextOf (.ref i1) >>= _) _ _ ⟨g0, g, d, tk0, os⟩
  refine wpAny_bind (D1.item i _ _ _ hlt1 (D1.over st1 hs0 S.zf1) fun x1 p1 tk1 hx1 sn1 hp1 => wpAny_pure ?_)
  replace hp1 : Heap.SameBut i1 g0 p1 := hp1
  refine wpAny_pure ?_
  refine wpAny_bind (wpAny_bind (wpAny_holding ?_))
  show wpAny _ _ (Builtin.SmallTypes.nextOf (.ref i2) >>= _) _ _ ⟨p1, g, d, tk1, os⟩
  refine wpAny_bind (D2.item i _ _ _ hlt2 (D2.over (D2.over st2 hs0 S.zf2) hp1 S.sep1_2) fun x2 p2 tk2 hx2 sn2 hp2 => wpAny_pure ?_)
  replace hp2 : Heap.SameBut i2 p1 p2 := hp2
  refine wpAny_pure (wpAny_pure ?_)
  show wpAny _ _ (newTuple [x1, x2] >>= _) _ _ ⟨p2, g, d, tk2, os⟩
  refine wpAny_bind (wpAny_newTuple ?_)
  have hsz : p2.objs.size = hp.objs.size := by rw [hp2.1, hp1.1, hs0.1]
  have hz₃ : IsZipHeld p2 z TI TO T true := hp2.extBut _ _ S.zi2 (hp1.extBut _ _ S.zi1 hz0)
  have hk : ∀ c o, c ≠ z → c ≠ i1 → c ≠ i2 → hp.get? c = some o → p2.get? c = some o := fun c o c1 c2 c3 e => hp2.extBut _ _ c3 (hp1.extBut _ _ c2 (hs0.extBut _ _ c1 e))
  have hj1 : St1 (i + 1) p2 := D1.over sn1 hp2 S.sep2_1
  refine wpAny_pure ⟨_, rfl, ?_⟩
  show Q (.ref p2.objs.size) ⟨p2.push { cls := .type "tuple", data := .seq #[x1, x2] }, g, d, tk2, os⟩
  have hpp : IsTupOf2 (p2.push { cls := .type "tuple", data := .seq #[x1, x2] }) p2.objs.size x1 x2 := Heap.get?_push_size _ rfl
  have hz4 : (p2.push { cls := .type "tuple", data := .seq #[x1, x2] }).objs.size = p2.objs.size + 1 := Heap.size_push ..
  rw [hsz] at hpp hz4 ⊢
  exact hQ x1 x2 _ tk2 hx1 hx2 (Heap.get?_push_of_some _ hz₃) (D1.frame _ _ _ hj1 fun b _ o e => Heap.get?_push_of_some _ e) (D2.frame _ _ _ sn2 fun b _ o e => Heap.get?_push_of_some _ e) hpp hz4 fun c o c1 c2 c3 e => Heap.get?_push_of_some _ (hk c o c1 c2 c3 e)
theorem zipD2_end_held {Q : Fin → Shared → Prop} (S : ZipSep2 z TI TO i1 i2 fp1 fp2) (D1 : Draws prog w A i1 fp1 n1 P1 St1) (D2 : Draws prog w A i2 fp2 n2 P2 St2)
    (hz : IsZipHeld s.heap z TI TO T f) (hT : s.heap.get? T = some oT) (hTI : IsTupOf2 s.heap TI (.ref i1) (.ref i2)) (st1 : St1 i s.heap) (st2 : St2 i s.heap) (hle1 : i ≤ n1) (hle2 : i ≤ n2) (hend : i = n1 ∨ i = n2)
    (hE : ∀ h' tk e, (∀ c o, c ≠ z → c ≠ i1 → c ≠ i2 → s.heap.get? c = some o → h'.get? c = some o) → (∃ o, h'.get? e = some o ∧ o.cls = .type "StopIteration") → E (.ref e) { s with heap := h', toks := tk }) :
    wpAny (model prog w) A (Builtin.«zip.__next__» ⟨[.ref z], []⟩) Q E s := by
  obtain ⟨hp, g, d, tk0, os⟩ := s
  show wpAny _ _ (field (.ref z) 2 >>= _) _ _ _
  refine wpAny_bind (wpAny_field hz rfl (x := .bool false) rfl ?_)
  show wpAny _ _ (field (.ref z) 3 >>= _) _ _ _
  refine wpAny_bind (wpAny_field hz rfl (x := .ref TI) rfl ?_)
  refine wpAny_bind (wpAny_seqItems hTI rfl ?_)
  show wpAny _ _ (Builtin.SmallTypes.ownedTupleIsFree (.ref z) >>= _) _ _ _
  refine wpAny_bind (wpAny_tupleHeld_zip hz hT fun g0 hz0 hs0 => ?_)
  replace hs0 : Heap.SameBut z hp g0 := hs0
  simp only [Bool.false_eq_true, if_false]
  refine wpAny_bind ?_
  rw [← Array.forIn_toList]
  simp only [List.forIn_cons, List.forIn_nil]
  refine wpAny_bind (wpAny_bind (wpAny_holding ?_))
  show wpAny _ _ (Builtin.SmallTypes.nextOf (.ref i1) >>= _) _ _ ⟨g0, g, d, tk0, os⟩
  by_cases hlt1 : i < n1
  · refine wpAny_bind (D1.item i _ _ _ hlt1 (D1.over st1 hs0 S.zf1) fun x1 p1 tk1 hx1 sn1 hp1 => wpAny_pure ?_)
    replace hp1 : Heap.SameBut i1 g0 p1 := hp1
    have hi2 : i = n2 := by omega
    refine wpAny_pure ?_
    refine wpAny_bind (wpAny_bind (wpAny_holding ?_))
    show wpAny _ _ (Builtin.SmallTypes.nextOf (.ref i2) >>= _) _ _ ⟨p1, g, d, tk1, os⟩
    refine wpAny_bind (D2.done ⟨p1, g, d, tk1, os⟩ _ _ (by rw [← hi2]; exact (D2.over (D2.over st2 hs0 S.zf2) hp1 S.sep1_2)) fun q e hq he => ?_)
    replace hq : Heap.ExtBut i2 p1 q := hq
    exact hE q tk1 e (fun c o cz c1 c2 x => hq _ _ c2 (hp1.extBut _ _ c1 (hs0.extBut _ _ cz x))) he
  · have hi1 : i = n1 := by omega
    refine wpAny_bind (D1.done ⟨g0, g, d, tk0, os⟩ _ _ (by rw [← hi1]; exact (D1.over st1 hs0 S.zf1)) fun q e hq he => ?_)
    replace hq : Heap.ExtBut i1 g0 q := hq
    exact hE q tk0 e (fun c o cz c1 c2 x => hq _ _ c1 (hs0.extBut _ _ cz x)) he
theorem pyNext_zipD2_item_held {Q : Option Value → Shared → Prop} (S : ZipSep2 z TI TO i1 i2 fp1 fp2) (D1 : Draws prog w A.in1 i1 fp1 n1 P1 St1) (D2 : Draws prog w A.in1 i2 fp2 n2 P2 St2)
    (hz : IsZipHeld s.heap z TI TO T f) (hT : s.heap.get? T = some oT) (hTI : IsTupOf2 s.heap TI (.ref i1) (.ref i2)) (st1 : St1 i s.heap) (st2 : St2 i s.heap) (hlt1 : i < n1) (hlt2 : i < n2)
    (hQ : ∀ x1 x2 h' tk, P1 i x1 → P2 i x2 → IsZipHeld h' z TI TO T true → St1 (i + 1) h' → St2 (i + 1) h' → IsTupOf2 h' s.heap.objs.size x1 x2 → h'.objs.size = s.heap.objs.size + 1 →
      (∀ c o, c ≠ z → c ≠ i1 → c ≠ i2 → s.heap.get? c = some o → h'.get? c = some o) → Q (some (.ref s.heap.objs.size)) { s with heap := h', toks := tk }) :
    wpAny (model prog w) A (pyNext (.ref z)) Q E s := by
  have hTy : s.TypeIs (.ref z) "zip" := ⟨_, hz, rfl⟩
  unfold pyNext
  exact wpAny_bind (wpAny_attempt (wpAny_callSpecial?_slot (name := Str.ofString "__next__") hTy F.slot_zip_next
    (wpAny_call_entry F.slot_zip_next hTy F.entry_zip_next
      (zipD2_item_held S D1 D2 hz hT hTI st1 st2 hlt1 hlt2 fun x1 x2 h' tk y1 y2 b1 d1 d2 b5 b6 b7 => wpAny_pure (hQ x1 x2 h' tk y1 y2 b1 d1 d2 b5 b6 b7)) (F.args_zip_next_1 _))))
theorem pyNext_zipD2_end_held {Q : Option Value → Shared → Prop} (S : ZipSep2 z TI TO i1 i2 fp1 fp2) (D1 : Draws prog w A.in1 i1 fp1 n1 P1 St1) (D2 : Draws prog w A.in1 i2 fp2 n2 P2 St2)
    (hz : IsZipHeld s.heap z TI TO T f) (hT : s.heap.get? T = some oT) (hTI : IsTupOf2 s.heap TI (.ref i1) (.ref i2)) (st1 : St1 i s.heap) (st2 : St2 i s.heap) (hle1 : i ≤ n1) (hle2 : i ≤ n2) (hend : i = n1 ∨ i = n2)
    (hQ : ∀ h' tk, (∀ c o, c ≠ z → c ≠ i1 → c ≠ i2 → s.heap.get? c = some o → h'.get? c = some o) → Q none { s with heap := h', toks := tk }) : wpAny (model prog w) A (pyNext (.ref z)) Q E s := by
  have hTy : s.TypeIs (.ref z) "zip" := ⟨_, hz, rfl⟩
  unfold pyNext
  refine wpAny_bind (wpAny_attempt (wpAny_callSpecial?_slot (name := Str.ofString "__next__") hTy F.slot_zip_next
    (wpAny_call_entry F.slot_zip_next hTy F.entry_zip_next (zipD2_end_held S D1 D2 hz hT hTI st1 st2 hle1 hle2 hend fun h' tk e hk he => ?_) (F.args_zip_next_1 _))))
  obtain ⟨o, ho, hc⟩ := he
  refine wpAny_bind (wpAny_isInstance (T := "StopIteration") (b := true) ⟨o, ho, hc⟩ isSubtype_stop ?_)
  exact wpAny_pure (hQ _ _ hk)
/-! ### the list's own loop -/
/-- the zip's state behind i turns, its tuples held -/
def ZlSt (N0 : Nat) (z TI TO i1 i2 : Addr) (St1 St2 : Nat → Heap → Prop) (i : Nat) (h : Heap) : Prop :=
  ((IsZip h z TI TO .none ∧ ∃ a1 a2, IsTupOf2 h TO a1 a2) ∨ ∃ T f oT, IsZipHeld h z TI TO T f ∧ h.get? T = some oT ∧ N0 ≤ T) ∧ IsTupOf2 h TI (.ref i1) (.ref i2) ∧ St1 i h ∧ St2 i h
/-- what the list holds: a pair's tuple at each place, above N0 -/
def ZlAcc (N0 : Nat) (P1 P2 : Nat → Value → Prop) (h : Heap) (acc : Array Value) (ps : List (Value × Value)) : Prop :=
  ∀ (j : Nat) (p : Value × Value), ps[j]? = some p → P1 j p.1 ∧ P2 j p.2 ∧ ∃ T : Addr, acc[j]? = some (.ref T) ∧ IsTupOf2 h T p.1 p.2 ∧ N0 ≤ T
theorem zl_loop {R : Result → Shared → Prop} (hn : n1 ≤ sizeLine) (he : n1 = n2) (D : Addr) (res : Value) (Sp : ZipSep2 z TI TO i1 i2 fp1 fp2) (D1 : Draws prog w A.in1.in1 i1 fp1 n1 P1 St1) (D2 : Draws prog w A.in1.in1 i2 fp2 n2 P2 St2)
    (dz : D ≠ z) (dI : D ≠ TI) (dO : D ≠ TO) (d1 : D ≠ i1) (d2 : D ≠ i2) (df1 : D ∉ fp1) (df2 : D ∉ fp2) (N0 : Nat) (bz : z < N0) (bO : TO < N0) (b1 : i1 < N0) (b2 : i2 < N0) (bD : D < N0) :
    ∀ (k i : Nat) (s : Shared) (acc : Array Value) (c : Nat) (ps : List (Value × Value)), n1 - i = k → i ≤ n1 → ZlSt N0 z TI TO i1 i2 St1 St2 i s.heap → s.heap.get? D = some { cls := .type "list", dict := none, data := .seq acc c, slots := #[] } → N0 ≤ s.heap.objs.size →
    ps.length = i → acc.size = i → ZlAcc N0 P1 P2 s.heap acc ps →
    (∀ (h' : Heap) (tk : Nat) (acc' : Array Value) (c' : Nat) (ps' : List (Value × Value)), (∀ b o, b ≠ D → b ≠ z → b ≠ TO → b ≠ i1 → b ≠ i2 → s.heap.get? b = some o → h'.get? b = some o) → h'.get? D = some { cls := .type "list", dict := none, data := .seq acc' c', slots := #[] } → acc'.size = n1 → ps'.length = n1 →
      ZlAcc N0 P1 P2 h' acc' ps' → R (.ok (.ret res)) { s with heap := h', toks := tk }) →
    codeAny (model prog w) A (.builtin "list.extend.loop" ⟨[.ref D, .ref z, res], []⟩) R s := by
  have nb : ∀ {T x : Addr}, N0 ≤ T → x < N0 → T ≠ x := fun a b e => Nat.lt_irrefl _ (Nat.lt_of_lt_of_le b (e ▸ a))
  intro k
  induction k with
  | zero =>
    intro i s acc c ps hk hi hst hD hN hps hac hP hR
    have hin : i = n1 := by omega
    refine codeAny_builtin F.entry_extend_loop ?_
    rw [Around.under_plainId F.plain_extend_loop _]
    show wpAny _ A.in1 (pyNext (.ref z) >>= _) _ _ s
    obtain ⟨hz, hTI, st1, st2⟩ := hst
    have fin : ∀ (h' : Heap) (tk : Nat), (∀ c o, c ≠ z → c ≠ TO → c ≠ i1 → c ≠ i2 → s.heap.get? c = some o → h'.get? c = some o) → R (.ok (.ret res)) { s with heap := h', toks := tk } := fun h' tk kp =>
      hR h' tk acc c ps (fun b o _ b1 b2 b3 b4 e => kp b o b1 b2 b3 b4 e) (kp _ _ dz dO d1 d2 hD) (by omega) (by omega) fun j p e => by
        obtain ⟨q1, q2, T, q3, q4, q5⟩ := hP j p e
        exact ⟨q1, q2, T, q3, kp _ _ (nb q5 bz) (nb q5 bO) (nb q5 b1) (nb q5 b2) q4, q5⟩
    rcases hz with ⟨hz, a1, a2, hTO⟩ | ⟨T, f, oT, hz, hT, _⟩
    · exact wpAny_bind (wpAny_pyNext_zipD2_end Sp D1 D2 hz hTI hTO st1 st2 (by omega) (by omega) (by omega) fun h' tk kp => wpAny_pure (fin h' tk kp))
    · exact wpAny_bind (pyNext_zipD2_end_held Sp D1 D2 hz hT hTI st1 st2 (by omega) (by omega) (by omega) fun h' tk kp => wpAny_pure (fin h' tk fun c o c1 _ c3 c4 e => kp c o c1 c3 c4 e))
  | succ k ih =>
    intro i s acc c ps hk hi hst hD hN hps hac hP hR
    have hlt : i < n1 := by omega
    refine codeAny_builtin F.entry_extend_loop ?_
    rw [Around.under_plainId F.plain_extend_loop _]
    show wpAny _ A.in1 (pyNext (.ref z) >>= _) _ _ s
    obtain ⟨hz, hTI, st1, st2⟩ := hst
    have turn : ∀ (x1 x2 : Value) (h' : Heap) (tk : Nat), P1 i x1 → P2 i x2 → ZlSt N0 z TI TO i1 i2 St1 St2 (i + 1) h' → IsTupOf2 h' s.heap.objs.size x1 x2 → s.heap.objs.size ≤ h'.objs.size → (∀ c o, c ≠ z → c ≠ TO → c ≠ i1 → c ≠ i2 → s.heap.get? c = some o → h'.get? c = some o) →
        wpAny (model prog w) A.in1 (updateSeq D (·.push (.ref s.heap.objs.size)) >>= fun _ => again (.builtin "list.extend.loop" ⟨[.ref D, .ref z, res], []⟩)) (fun fin s' => match fin with | .done f => R (.ok f) s' | .again c' => c'.quiet = true ∧ codeAny (model prog w) A c' R s') (fun e s' => R (.error e) s') { s with heap := h', toks := tk } := by
      intro x1 x2 h' tk y1 y2 hst' hT' hsz kp
      have hD' := kp _ _ dz dO d1 d2 hD
      refine wpAny_bind ?_
      refine wpAny_updateSeq (s := { s with heap := h', toks := tk }) hD' rfl (wpAny_pure ⟨plainId_quiet F.plain_extend_loop _, ?_⟩)
        (by rw [hac]; omega) (by show (acc.push _).size ≤ sizeLine + 1; rw [Array.size_push, hac]; omega)
      have oth : ∀ b o, b ≠ D → h'.get? b = some o → (h'.update D (Obj.mapSeq (·.push (.ref s.heap.objs.size)))).get? b = some o := fun b o hb e => (Heap.get?_update_other _ _ (Ne.symm hb)).trans e
      obtain ⟨hz', hTI', st1', st2'⟩ := hst'
      refine ih (i + 1) _ (acc.push (.ref s.heap.objs.size)) _ (ps ++ [(x1, x2)]) (by omega) hlt ⟨?_, oth _ _ dI.symm hTI', D1.frame _ _ _ st1' fun b hb o e => oth b o (fun q => df1 (q ▸ hb)) e, D2.frame _ _ _ st2' fun b hb o e => oth b o (fun q => df2 (q ▸ hb)) e⟩ (Heap.get?_update_self _ hD' rfl) ?_ (by rw [List.length_append, hps]; rfl) (by rw [Array.size_push, hac]) (fun j p e => ?_) (fun h'' tk' acc' c' ps' kp' hD'' ha hl hP' => ?_)
      · rcases hz' with ⟨hz', a1, a2, hTO⟩ | ⟨T, f, oT, hz', hT, hTz⟩
        · exact .inl ⟨oth _ _ dz.symm hz', a1, a2, oth _ _ dO.symm hTO⟩
        · by_cases hTD : T = D
          · exact .inr ⟨T, f, _, oth _ _ dz.symm hz', by rw [hTD]; exact Heap.get?_update_self _ hD' rfl, hTz⟩
          · exact .inr ⟨T, f, oT, oth _ _ dz.symm hz', oth _ _ hTD hT, hTz⟩
      · have e1 : (h'.update D (Obj.mapSeq (·.push (.ref s.heap.objs.size)))).objs.size = h'.objs.size := (Heap.SameBut.update h' D _).1
        show N0 ≤ (h'.update D (Obj.mapSeq (·.push (.ref s.heap.objs.size)))).objs.size
        rw [e1]
        omega
      · by_cases hj : j < ps.length
        · rw [List.getElem?_append_left hj] at e
          obtain ⟨q1, q2, T, q3, q4, q5⟩ := hP j p e
          refine ⟨q1, q2, T, ?_, oth _ _ (nb q5 bD) (kp _ _ (nb q5 bz) (nb q5 bO) (nb q5 b1) (nb q5 b2) q4), q5⟩
          have hja : j < acc.size := by rw [hac, ← hps]; exact hj
          rw [Array.getElem?_push_lt hja]
          rw [Array.getElem?_eq_getElem hja] at q3
          exact q3
        · rw [List.getElem?_append_right (Nat.le_of_not_lt hj)] at e
          have hj0 : j = i := by
            have := (List.getElem?_eq_some_iff.mp e).1
            simp at this
            omega
          subst hj0
          rw [hps, Nat.sub_self] at e
          cases e
          refine ⟨y1, y2, s.heap.objs.size, ?_, oth _ _ (nb hN bD) hT', hN⟩
          rw [← hac, Array.getElem?_push_size]
      · exact hR h'' tk' acc' c' ps' (fun b o n1 n2 n3 n4 n5 e => kp' b o n1 n2 n3 n4 n5 (oth _ _ n1 (kp _ _ n2 n3 n4 n5 e))) hD'' ha hl hP'
    rcases hz with ⟨hz, a1, a2, hTO⟩ | ⟨T, f, oT, hz, hT, hTz⟩
    · refine wpAny_bind (wpAny_pyNext_zipD2_item Sp D1 D2 hz hTI hTO st1 st2 hlt (by omega) fun x1 x2 h' tk y1 y2 hz' hTO' sn1 sn2 hT' hsz kp => ?_)
      exact turn x1 x2 h' tk y1 y2 ⟨.inr ⟨_, false, _, hz', hT', hN⟩, kp _ _ Sp.TIz Sp.TITO Sp.TIi1 Sp.TIi2 hTI, sn1, sn2⟩ hT' (by omega) kp
    · refine wpAny_bind (pyNext_zipD2_item_held Sp D1 D2 hz hT hTI st1 st2 hlt (by omega) fun x1 x2 h' tk y1 y2 hz' sn1 sn2 hT' hsz kp => ?_)
      exact turn x1 x2 h' tk y1 y2 ⟨.inr ⟨T, true, oT, hz', kp _ _ (nb hTz bz) (nb hTz b1) (nb hTz b2) hT, hTz⟩, kp _ _ Sp.TIz Sp.TIi1 Sp.TIi2 hTI, sn1, sn2⟩ hT' (by omega) fun c o c1 _ c3 c4 e => kp c o c1 c3 c4 e
end
/-! ### list(z), z a fresh zip -/
theorem zip_no_len : typeLookup (.type "zip") "__len__" = pure none := am_miss_of_fast (by decide +kernel)
theorem zip_no_hint : typeLookup (.type "zip") "__length_hint__" = pure none := am_miss_of_fast (by decide +kernel)
section
variable {prog : Program} {w : World} {A : Around} {E : Value → Shared → Prop} {s : Shared} {z TI TO i1 i2 : Addr} {fp1 fp2 : List Addr} {n1 n2 : Nat} {P1 P2 : Nat → Value → Prop} {St1 St2 : Nat → Heap → Prop}
theorem zl_hint {r : Addr} {Q : Bool → Shared → Prop} (hT : s.TypeIs (.ref r) "zip") (h : Q true s) : wpAny (model prog w) A (Builtin.List.listLengthHint (.ref r)) Q E s := by
  unfold Builtin.List.listLengthHint
  refine wpAny_bind (wpAny_specialOf hT zip_no_len ?_)
  wp_delta
  refine wpAny_bind (wpAny_specialOf hT zip_no_hint ?_)
  exact wpAny_pure h
theorem zl_extend {R : Result → Shared → Prop} (hh : A.handled = none) (S : Addr) (res : Value) (c₀ : Nat) (N0 : Nat) (hn : n1 ≤ sizeLine) (he : n1 = n2) (Sp : ZipSep2 z TI TO i1 i2 fp1 fp2) (D1 : ∀ A : Around, A.handled = none → Draws prog w A i1 fp1 n1 P1 St1) (D2 : ∀ A : Around, A.handled = none → Draws prog w A i2 fp2 n2 P2 St2)
    (hz : IsZip s.heap z TI TO .none) {a1 a2 : Value} (hTO : IsTupOf2 s.heap TO a1 a2) (hTI : IsTupOf2 s.heap TI (.ref i1) (.ref i2)) (st1 : St1 0 s.heap) (st2 : St2 0 s.heap) (hS : s.heap.get? S = some { cls := .type "list", data := .seq #[] c₀ })
    (dz : S ≠ z) (dI : S ≠ TI) (dO : S ≠ TO) (d1 : S ≠ i1) (d2 : S ≠ i2) (df1 : S ∉ fp1) (df2 : S ∉ fp2) (bz : z < N0) (bO : TO < N0) (b1 : i1 < N0) (b2 : i2 < N0) (bS : S < N0) (bN : N0 ≤ s.heap.objs.size)
    (hR : ∀ (h' : Heap) (tk : Nat) (acc' : Array Value) (c' : Nat) (ps' : List (Value × Value)), (∀ b o, b ≠ S → b ≠ z → b ≠ TO → b ≠ i1 → b ≠ i2 → s.heap.get? b = some o → h'.get? b = some o) → h'.get? S = some { cls := .type "list", dict := none, data := .seq acc' c', slots := #[] } → acc'.size = n1 → ps'.length = n1 →
      ZlAcc N0 P1 P2 h' acc' ps' → R (.ok (.ret res)) { s with heap := h', toks := tk }) :
    wpAny (model prog w) A.in1 (Builtin.List.listExtendWith (.ref S) (.ref z) res)
      (fun fin s' => match fin with | .done f => R (.ok f) s' | .again c' => c'.quiet = true ∧ codeAny (model prog w) A c' R s') (fun e s' => R (.error e) s') s := by
  have hT : s.TypeIs (.ref z) "zip" := ⟨_, hz, rfl⟩
  have key : ∀ (h : Heap) (c₁ tk : Nat), (∀ b o, b ≠ S → s.heap.get? b = some o → h.get? b = some o) → h.get? S = some { cls := .type "list", data := .seq #[] c₁ } → s.heap.objs.size ≤ h.objs.size →
      codeAny (model prog w) A (.builtin "list.extend.loop" ⟨[.ref S, .ref z, res], []⟩) R { s with heap := h, toks := tk } := by
    intro h c₁ tk hk hS₁ hsz
    refine zl_loop hn he S res Sp (D1 A.in1.in1 hh) (D2 A.in1.in1 hh) dz dI dO d1 d2 df1 df2 N0 bz bO b1 b2 bS n1 0 _ #[] c₁ [] rfl (Nat.zero_le _) ⟨.inl ⟨hk _ _ dz.symm hz, a1, a2, hk _ _ dO.symm hTO⟩, hk _ _ dI.symm hTI, ?_, ?_⟩ hS₁ (Nat.le_trans bN hsz) rfl rfl (fun j p e => by simp at e) fun h' tk' acc' c' ps' kp hS' ha hl hP => ?_
    · exact (D1 A hh).frame _ _ _ st1 fun b hb o e => hk b o (fun q => df1 (q ▸ hb)) e
    · exact (D2 A hh).frame _ _ _ st2 fun b hb o e => hk b o (fun q => df2 (q ▸ hb)) e
    · exact hR h' tk' acc' c' ps' (fun b o n1 n2 n3 n4 n5 e => kp b o n1 n2 n3 n4 n5 (hk b o n1 e)) hS' ha hl hP
  unfold Builtin.List.listExtendWith
  refine wpAny_bind (wpAny_typeOf (T := "zip") hT ?_)
  have h1 : Builtin.List.listSameRef (.ref S) (.ref z) = false := by simp [Builtin.List.listSameRef, dz]
  have n1' : (Value.type "zip" == Value.type "list") = false := by decide
  have n2' : (Value.type "zip" == Value.type "tuple") = false := by decide
  simp only [h1, n1', n2', Bool.or_false, Bool.false_eq_true, if_false]
  refine wpAny_bind (wpAny_pyIter_zip hz ?_)
  refine wpAny_bind (wpAny_holding (zl_hint hT ?_))
  refine wpAny_ite_split (fun _ => ?_) (fun _ => wpAny_pure ⟨plainId_quiet PySem.F.plain_extend_loop _, key _ c₀ _ (fun b o _ e => e) hS (Nat.le_refl _)⟩)
  refine wpAny_bind (wpAny_rule ?_)
  refine wpAny_bind ?_
  show wpAny _ _ (updateSeq S (·.push .none) >>= fun _ => updateSeq S (·.pop)) _ _ _
  refine wpAny_bind (wpAny_updateSeq hS rfl ?_)
  have hS₂ := Heap.get?_update_self (Obj.mapSeq (·.push Value.none)) hS rfl
  refine wpAny_updateSeq (hz := by seq_fits) hS₂ rfl ?_
  have hS₃ := Heap.get?_update_self (Obj.mapSeq (·.pop)) hS₂ rfl
  refine wpAny_pure ⟨plainId_quiet PySem.F.plain_extend_loop _, key _ _ _ (fun b o hb e => ?_) hS₃ ?_⟩
  · exact (Heap.get?_update_other _ _ (Ne.symm hb)).trans ((Heap.get?_update_other _ _ (Ne.symm hb)).trans e)
  · exact Nat.le_of_eq (((Heap.SameBut.update (s.heap.update S _) S _).1).trans (Heap.SameBut.update s.heap S _).1).symm
theorem zl_call {Q : Value → Shared → Prop} (hh : A.handled = none) (hn : n1 ≤ sizeLine) (he : n1 = n2) (Sp : ZipSep2 z TI TO i1 i2 fp1 fp2) (D1 : ∀ A : Around, A.handled = none → Draws prog w A i1 fp1 n1 P1 St1) (D2 : ∀ A : Around, A.handled = none → Draws prog w A i2 fp2 n2 P2 St2)
    (hz : IsZip s.heap z TI TO .none) {a1 a2 : Value} (hTO : IsTupOf2 s.heap TO a1 a2) (hTI : IsTupOf2 s.heap TI (.ref i1) (.ref i2)) (st1 : St1 0 s.heap) (st2 : St2 0 s.heap) (b1 : ∀ b ∈ fp1, b < s.heap.objs.size) (b2 : ∀ b ∈ fp2, b < s.heap.objs.size)
    (hQ : ∀ (h' : Heap) (tk : Nat) (acc' : Array Value) (c' : Nat) (ps' : List (Value × Value)), (∀ b o, b ≠ z → b ≠ TO → b ≠ i1 → b ≠ i2 → s.heap.get? b = some o → h'.get? b = some o) → h'.get? s.heap.objs.size = some { cls := .type "list", dict := none, data := .seq acc' c', slots := #[] } → acc'.size = n1 → ps'.length = n1 →
      ZlAcc (s.heap.objs.size + 1) P1 P2 h' acc' ps' → Q (.ref s.heap.objs.size) { s with heap := h', toks := tk }) :
    wpAny (model prog w) A (call (.type "list") [.ref z]) Q E s := by
  refine callType_codes (Q₁ := fun obj s₁ => obj = .ref s.heap.objs.size ∧ s₁ = { s with heap := s.heap.push { cls := .type "list", data := .seq #[] } }) PySem.F.called_list (PySem.F.typeCall_list_1 _) PySem.F.entry_list_init
    (code_list_new _ ⟨rfl, rfl⟩) fun obj s₁ h₁ => ?_
  obtain ⟨rfl, rfl⟩ := h₁
  have hS : (s.heap.push { cls := .type "list", data := .seq #[] }).get? s.heap.objs.size = some { cls := .type "list", data := .seq #[] } := Heap.get?_push_size _ rfl
  refine ⟨⟨_, hS, rfl⟩, PySem.F.args_list_init_2 _ _, ?_⟩
  have lz : z < s.heap.objs.size := Heap.lt_size hz
  have lO : TO < s.heap.objs.size := Heap.lt_size hTO
  have lI : TI < s.heap.objs.size := Heap.lt_size hTI
  have l1 : i1 < s.heap.objs.size := b1 _ Sp.mem1
  have l2 : i2 < s.heap.objs.size := b2 _ Sp.mem2
  show wpAny _ _ (do let old ← Builtin.List.listItems (.ref s.heap.objs.size); Builtin.List.listUpdate (.ref s.heap.objs.size) (fun _ => #[]); letGo old.toList.reverse; Builtin.List.listExtendWith (.ref s.heap.objs.size) (.ref z) .none) _ _ _
  refine wpAny_bind ?_
  unfold Builtin.List.listItems
  refine wpAny_bind (wpAny_seqItems hS rfl (wpAny_pure ?_))
  show wpAny _ _ (updateSeq s.heap.objs.size (fun _ => #[]) >>= fun _ => letGo (#[] : Array Value).toList.reverse >>= fun _ => Builtin.List.listExtendWith (.ref s.heap.objs.size) (.ref z) .none) _ _ _
  refine wpAny_bind (wpAny_updateSeq hS rfl ?_)
  have hS₂ := Heap.get?_update_self (Obj.mapSeq (fun _ => (#[] : Array Value))) hS rfl
  have oth : ∀ b o, s.heap.get? b = some o → ((s.heap.push { cls := .type "list", data := .seq #[] }).update s.heap.objs.size (Obj.mapSeq (fun _ => (#[] : Array Value)))).get? b = some o :=
    fun b o e => (Heap.get?_update_other _ _ (Nat.ne_of_gt (Heap.lt_size e))).trans (Heap.get?_push_of_some _ e)
  refine wpAny_bind (wpAny_letGo ?_)
  refine zl_extend (A := A.in1) hh s.heap.objs.size .none _ (s.heap.objs.size + 1) hn he Sp D1 D2 (oth _ _ hz) (oth _ _ hTO) (oth _ _ hTI) ((D1 A hh).frame _ _ _ st1 fun b _ o e => oth b o e) ((D2 A hh).frame _ _ _ st2 fun b _ o e => oth b o e) hS₂ (Nat.ne_of_gt lz) (Nat.ne_of_gt lI) (Nat.ne_of_gt lO) (Nat.ne_of_gt l1) (Nat.ne_of_gt l2)
    (fun q => Nat.lt_irrefl _ (b1 _ q)) (fun q => Nat.lt_irrefl _ (b2 _ q)) (Nat.lt_succ_of_lt lz) (Nat.lt_succ_of_lt lO) (Nat.lt_succ_of_lt l1) (Nat.lt_succ_of_lt l2) (Nat.lt_succ_self _) ?_ (fun h' tk acc' c' ps' kp hS' ha hl hP => ?_)
  · show s.heap.objs.size + 1 ≤ ((s.heap.push { cls := .type "list", data := .seq #[] }).update s.heap.objs.size _).objs.size
    rw [(Heap.SameBut.update _ _ _).1, Heap.size_push]
    exact Nat.le_refl _
  · exact ⟨rfl, hQ h' tk acc' c' ps' (fun b o n1 n2 n3 n4 e => kp b o (Nat.ne_of_lt (Heap.lt_size e)) n1 n2 n3 n4 (oth b o e)) hS' ha hl hP⟩
end
end PySem

set_option Elab.async false
set_option linter.all false
set_option maxRecDepth 100000
/-! LfQ: list(zip(x, y)), lifted. -/
namespace Lf
open PySem PySem.Spec PyProof.Rows L2

/-! ### many new things at once -/
def orH (N : Addr → Option HO) (H : Hp) : Hp := fun b => match N b with
  | some o => some o
  | none => H b
theorem orH_some {N : Addr → Option HO} {H : Hp} {b : Addr} {o : HO} (h : N b = some o) : orH N H b = some o := by unfold orH; rw [h]
theorem orH_none {N : Addr → Option HO} {H : Hp} {b : Addr} (h : N b = none) : orH N H b = H b := by unfold orH; rw [h]
theorem orH_same {N : Addr → Option HO} {H : Hp} (h : ∀ b o, N b = some o → H b = none) : Same H (orH N H) := fun b o e => by
  cases q : N b with
  | none => rw [orH_none q]; exact e
  | some u =>
    rw [h b u q] at e
    cases e
theorem Inv.laidAll {X : Cx} {pins : List (Addr × Obj)} {σ : L2.St} {H : Hp} {s : Shared} {h' : Heap} {t' : Nat} {N : Addr → Option HO} (I : Inv X pins σ H s) (k : ∀ b u, s.heap.get? b = some u → h'.get? b = some u) (hp : ∀ b o, N b = some o → s.heap.objs.size ≤ b)
    (new : ∀ b o, N b = some o → ObjOk X.prog X.w (orH N H) h' b o) : Inv X pins σ (orH N H) { s with heap := h', toks := t' } := by
  have hN : ∀ b o, N b = some o → H b = none := fun b o e => I.hok.fresh (hp b o e)
  have sm := orH_same hN
  have old : ∀ b o, s.heap.get? b = some o → N b = none := fun b o e => by
    cases q : N b with
    | none => rfl
    | some u => exact absurd (Nat.lt_of_lt_of_le (Heap.lt_size e) (hp b u q)) (Nat.lt_irrefl _)
  refine I.un ⟨fun b o e _ _ _ => k b o e, fun b o e _ _ _ => ⟨o.slots, k b o e⟩, fun b o e n _ => by rw [orH_none (old b o e)]; exact n, fun b o e _ => ⟨o, k b o e⟩, fun b xs e => sm _ _ e, fun b o u e => sm _ _ e, fun b ps e => ⟨#[], by rw [Array.append_empty]; exact sm _ _ e⟩⟩ fun b o e => ?_
  cases q : N b with
  | none =>
    rw [orH_none q] at e
    exact (I.hok b o e).stay (fun c v _ z => k c v z) (fun c z => sm _ _ z) fun c xs z => sm _ _ z
  | some u =>
    rw [orH_some q] at e
    cases e
    exact new b o q
/-! ### rows, list or tuple, as one -/
theorem Da.items_of {K : PySem.W.Frag} {F : Hp} {v : V} {d : D} {ds : List D} (h : Da K F v d) (e : items d = some ds) : ∃ a vs, v = .ref a ∧ DaS K F vs ds ∧ ∀ H, Same F H → (SqL K H a vs ∨ SqT K H a vs) := by
  cases h with
  | lst h r =>
    cases e
    exact ⟨_, _, rfl, r, fun H sm => .inl (.of (sm _ _ h))⟩
  | tup h r =>
    cases e
    exact ⟨_, _, rfl, r, fun H sm => .inr (sqt_mono sm h)⟩
  | _ => cases e
/-- such a row begins -/
theorem seq_begins {X : Cx} {pins : List (Addr × Obj)} {σ : L2.St} {H : Hp} {s : Shared} {a : Addr} {vs : List V} (I : Inv X pins σ H s) (h : SqL X.K H a vs ∨ SqT X.K H a vs) :
    ∃ (its : List Value) (oI : Obj) (H0 : Heap → Prop) (St : Addr → Nat → Heap → Prop), Vals vs its ∧ Begins (.ref a) oI H0 ∧ H0 s.heap ∧ (∀ it, a ≠ it → ∀ (A : Around), A.handled = none → Draws X.prog X.w A it [it, a] its.toArray.size (fun i v => its.toArray[i]? = some v) (St it)) ∧ (∀ (h : Heap) (it : Addr), h.get? it = some oI → H0 h → St it 0 h) ∧ a < s.heap.objs.size := by
  rcases h with h | h
  · obtain ⟨its, rv, p, _⟩ := I.list h
    have pl : s.heap.IsList a its.toArray := p.isList
    refine ⟨its, _, _, fun it i h => h.IsListIter it a i ∧ h.IsList a its.toArray, rv, begins_list a its.toArray, pl, fun it hne A hh => Draws.list hh it a hne its.toArray, fun h it e hl => ⟨⟨_, e, rfl, rfl⟩, hl⟩, ?_⟩
    obtain ⟨o, e, _⟩ := pl
    exact Heap.lt_size e
  · obtain ⟨its, rv, p, _⟩ := I.tuple h
    refine ⟨its, _, _, fun it i h => h.IsTupleIter it a i ∧ h.IsTuple a its.toArray, rv, begins_tuple a its.toArray, p, fun it hne A hh => Draws.tuple hh it a hne its.toArray, fun h it e hl => ⟨⟨_, e, rfl, rfl⟩, hl⟩, ?_⟩
    obtain ⟨o, e, _⟩ := p
    exact Heap.lt_size e
/-! ### the rule -/
def pairD (d e : D) : D := .tuple [d, e]
def lzK (d e : D) (s2 : S0) : R (List D) := match items d, items e with
  | some ds, some es => if ds.length = es.length ∧ ds.length ≤ line then .ok (List.zipWith pairD ds es) s2 else .bad
  | _, _ => .bad
def nLzip (m1 m2 : S0 → R D) : S0 → R (List D) := fun s => (m1 s).bind fun d s1 => (m2 s1).bind fun e s2 => lzK d e s2
theorem lookup_zip : ∀ {ts : List Addr} {os : List HO} {b : Addr} {o : HO}, (ts.zip os).lookup b = some o → ∃ j : Nat, ts[j]? = some b ∧ os[j]? = some o
  | [], _, _, _, h => by simp at h
  | _ :: _, [], _, _, h => by simp at h
  | t :: ts, u :: os, b, o, h => by
    rw [List.zip_cons_cons, List.lookup_cons] at h
    cases q : b == t with
    | true =>
      rw [q] at h
      cases h
      have e : b = t := by simpa using q
      exact ⟨0, by rw [e]; rfl, rfl⟩
    | false =>
      rw [q] at h
      obtain ⟨j, h1, h2⟩ := lookup_zip h
      exact ⟨j + 1, by simpa using h1, by simpa using h2⟩
theorem lookup_has : ∀ {ts : List Addr} {os : List HO} {j : Nat} {b : Addr}, ts.length = os.length → ts[j]? = some b → ∃ o, (ts.zip os).lookup b = some o
  | [], _, _, _, _, h => by simp at h
  | _ :: _, [], _, _, h, _ => by simp at h
  | t :: ts, u :: os, j, b, hl, h => by
    rw [List.zip_cons_cons, List.lookup_cons]
    cases q : b == t with
    | true => exact ⟨u, rfl⟩
    | false =>
      cases j with
      | zero =>
        simp at h
        subst h
        simp at q
      | succ j => exact lookup_has (j := j) (by simpa using hl) (by simpa using h)
theorem DaS.of_get {K : PySem.W.Frag} {F : Hp} : ∀ {vs : List V} {ds : List D}, vs.length = ds.length → (∀ (j : Nat) (v : V) (d : D), vs[j]? = some v → ds[j]? = some d → Da K F v d) → DaS K F vs ds
  | [], [], _, _ => .nil
  | [], _ :: _, h, _ => by simp at h
  | _ :: _, [], h, _ => by simp at h
  | v :: vs, d :: ds, h, f => .cons (f 0 v d rfl rfl) (DaS.of_get (by simpa using h) fun j v d h1 h2 => f (j + 1) v d (by simpa using h1) (by simpa using h2))
section
variable {X : Cx} {cl : Cl} {W : WX} {a b : Expr} {m1 m2 : S0 → R D}
theorem e_lzip {p1 p2 p3 p4 : Pos} (hgl : Gl X "list") (hml : X.mg "list" = none) (hgz : Gl X "zip") (hmz : X.mg "zip" = none) (hc : X.calm = true) (ha : PE X a (tM X.K cl W m1)) (hb : PE X b (tM X.K cl W m2))
    (h1 : starEach [.Call (.Name "zip" p2) [a, b] [] p3] X.env = (false, eval (.Call (.Name "zip" p2) [a, b] [] p3) X.env) :: starEach [] X.env := by rfl) (h2 : starEach [a, b] X.env = (false, eval a X.env) :: starEach [b] X.env := by rfl) (h3 : starEach [b] X.env = (false, eval b X.env) :: starEach [] X.env := by rfl)
    (hp1 : (backTo p4 (starEach [] X.env)).any (·.1) = false := by rfl) (hp2 : (backTo p3 (starEach [b] X.env)).any (·.1) = false := by rfl) :
    PE X (.Call (.Name "list" p1) [.Call (.Name "zip" p2) [a, b] [] p3] [] p4) (tNl X.K cl W (nLzip m1 m2)) := by
  refine ⟨fun pins s σ H Q I q => ?_⟩
  obtain ⟨g, F, A, s0, rl, q⟩ := q
  refine Call_ (ld_blt I hgl hml boot_list (PyProof.Rows.callWith_type1 (args_cons ?_ h1) h1 hp1))
  refine Call_ (ld_blt I hgz hmz PyProof.Rows.boot_zip (PyProof.Rows.callWith_type1 (args_cons ?_ h2) h2 hp2))
  refine thn (ha.run pins s σ H (fun v1 H1 => ∃ F1 A1 s1 d, Step g F H A F1 H1 A1 ∧ Rel X.K g F1 H1 A1 s1 σ ∧ Da X.K F1 v1 d ∧ Post X.K cl W (rNl X.K g) g F1 H1 A1 σ ((m2 s1).bind fun e s2 => lzK d e s2) Q) I ⟨g, F, A, s0, rl, Post.bind (R1 := rDa X.K) up_nl q fun d s1 F1 H1 A1 v1 e1 st1 rl1 d1 q1 => ⟨F1, A1, s1, d, st1, rl1, d1, q1⟩⟩) fun u1 t1 ⟨v1, H1, I1, r1, F1, A1, s1, d, st1, rl1, d1, q1⟩ => ?_
  refine args_cons ?_ h3
  refine thn (hb.run pins t1 σ H1 (fun v2 H2 => ∃ F2 A2 s2 e, Step g F1 H1 A1 F2 H2 A2 ∧ Rel X.K g F2 H2 A2 s2 σ ∧ Da X.K F2 v2 e ∧ Post X.K cl W (rNl X.K g) g F2 H2 A2 σ (lzK d e s2) Q) I1 ⟨g, F1, A1, s1, rl1, Post.bind (R1 := rDa X.K) up_nl q1 fun e s2 F2 H2 A2 v2 e2 st2 rl2 d2 q2 => ⟨F2, A2, s2, e, st2, rl2, d2, q2⟩⟩) fun u2 t2 ⟨v2, H2, I2, r2, F2, A2, s2, e, st2, rl2, d2, q2⟩ => args_nil ?_
  unfold lzK at q2
  split at q2
  · rename_i ds es hds hes
    split at q2
    · rename_i hl
      obtain ⟨a1, vs1, rfl, dd1, sq1⟩ := Da.items_of (Da.mono st2.ff d1) hds
      obtain ⟨a2, vs2, rfl, dd2, sq2⟩ := Da.items_of d2 hes
      obtain rfl : u1 = Value.ref a1 := r1
      obtain rfl : u2 = Value.ref a2 := r2
      obtain ⟨its1, o1, G1, St1, rv1, B1, hG1, D1, S1, l1⟩ := seq_begins I2 (sq1 H2 rl2.same)
      obtain ⟨its2, o2, G2, St2, rv2, B2, hG2, D2, S2, l2⟩ := seq_begins I2 (sq2 H2 rl2.same)
      have n1 : its1.toArray.size = ds.length := by rw [List.size_toArray, ← rv1.length, dd1.length]
      have n2 : its2.toArray.size = ds.length := by rw [List.size_toArray, ← rv2.length, dd2.length, hl.1]
      refine zip_begins2 B1 B2 hG1 hG2 fun h' hz hTI hTO g1 g2 hsz kp => args_nil ?_
      have ne1 : a1 ≠ t2.heap.objs.size := Nat.ne_of_lt l1
      have ne2 : a2 ≠ t2.heap.objs.size + 1 := Nat.ne_of_lt (Nat.lt_succ_of_lt l2)
      have sep : ZipSep2 (t2.heap.objs.size + 4) (t2.heap.objs.size + 2) (t2.heap.objs.size + 3) t2.heap.objs.size (t2.heap.objs.size + 1) [t2.heap.objs.size, a1] [t2.heap.objs.size + 1, a2] :=
        zip_sep2 (fp1 := [a1]) (fp2 := [a2]) (fun b hb => by rw [List.mem_singleton.mp hb]; exact l1) (fun b hb => by rw [List.mem_singleton.mp hb]; exact l2)
      refine zl_call (s := { t2 with heap := h' }) (I2.ok.hd hc) (by rw [n1, ← line_eq]; exact hl.2) (n1.trans n2.symm) sep (D1 _ ne1) (D2 _ ne2) hz hTO hTI (S1 h' _ g1 (B1.keeps _ _ hG1 kp)) (S2 h' _ g2 (B2.keeps _ _ hG2 kp)) ?_ ?_ fun h3 tk acc c ps kp3 hD hac hpl hP => ?_
      · intro b hb
        show b < h'.objs.size
        rw [hsz]
        rcases List.mem_cons.mp hb with z | z
        · rw [z]; exact Nat.lt_add_of_pos_right (by decide)
        · rw [List.mem_singleton.mp z]; exact Nat.lt_of_lt_of_le l1 (Nat.le_add_right _ _)
      · intro b hb
        show b < h'.objs.size
        rw [hsz]
        rcases List.mem_cons.mp hb with z | z
        · rw [z]; exact Nat.add_lt_add_left (by decide) _
        · rw [List.mem_singleton.mp z]; exact Nat.lt_of_lt_of_le l2 (Nat.le_add_right _ _)
      -- the list is there
      have kpA : ∀ b o, t2.heap.get? b = some o → h3.get? b = some o := fun b o y => by
        have lt := Heap.lt_size y
        exact kp3 b o (Nat.ne_of_lt (Nat.lt_of_lt_of_le lt (Nat.le_add_right _ _))) (Nat.ne_of_lt (Nat.lt_of_lt_of_le lt (Nat.le_add_right _ _))) (Nat.ne_of_lt lt) (Nat.ne_of_lt (Nat.lt_of_lt_of_le lt (Nat.le_add_right _ _))) (kp b o y)
      rw [n1] at hac hpl
      have hD : h3.get? (t2.heap.objs.size + 5) = some { cls := .type "list", dict := none, data := .seq acc c, slots := #[] } := by
        have z : h3.get? h'.objs.size = some { cls := .type "list", dict := none, data := .seq acc c, slots := #[] } := hD
        rw [hsz] at z
        exact z
      have hP : ZlAcc (t2.heap.objs.size + 5 + 1) (fun i v => its1.toArray[i]? = some v) (fun i v => its2.toArray[i]? = some v) h3 acc ps := by
        have z : ZlAcc (h'.objs.size + 1) (fun i v => its1.toArray[i]? = some v) (fun i v => its2.toArray[i]? = some v) h3 acc ps := hP
        rw [hsz] at z
        exact z
      show EP X pins σ Q (.ref h'.objs.size) { t2 with heap := h3, toks := tk }
      rw [hsz]
      have lv1 : vs1.length = ds.length := dd1.length
      have lv2 : vs2.length = ds.length := by rw [dd2.length, hl.1]
      -- the tuples' addresses
      obtain ⟨ts, hts⟩ : ∃ ts : List Addr, acc.toList = ts.map Value.ref := by
        refine ⟨acc.toList.map fun v => match v with | .ref T => T | _ => 0, ?_⟩
        apply List.ext_getElem?
        intro j
        rw [List.getElem?_map, List.getElem?_map]
        cases q : acc.toList[j]? with
        | none => rfl
        | some v =>
          have hj : j < ps.length := by
            have y := (List.getElem?_eq_some_iff.mp q).1
            rw [hpl, ← hac]
            simpa using y
          obtain ⟨_, _, T, q3, _⟩ := hP j ps[j] (by simp [hj])
          rw [Array.getElem?_toList, q3] at q
          cases q
          rfl
      have ltn : ts.length = ds.length := by
        have y := congrArg List.length hts
        rw [List.length_map, Array.length_toList, hac] at y
        exact y.symm
      have lon : (List.zipWith (fun x y => HO.tup [x, y]) vs1 vs2).length = ds.length := by rw [List.length_zipWith, lv1, lv2, Nat.min_self]
      -- what a place holds
      have at_ : ∀ (j : Nat) (T : Addr), ts[j]? = some T → ∃ x y u w, vs1[j]? = some x ∧ vs2[j]? = some y ∧ RelV x u ∧ RelV y w ∧ IsTupOf2 h3 T u w ∧ t2.heap.objs.size + 5 + 1 ≤ T := fun j T q => by
        have hj : j < ds.length := by rw [← ltn]; exact (List.getElem?_eq_some_iff.mp q).1
        have hjp : j < ps.length := by rw [hpl]; exact hj
        obtain ⟨q1, q2, T', q3, q4, q5⟩ := hP j ps[j] (by simp [hjp])
        have e1 : acc.toList[j]? = some (Value.ref T) := by rw [hts, List.getElem?_map, q]; rfl
        rw [Array.getElem?_toList, q3] at e1
        cases e1
        obtain ⟨u, hu, ru⟩ := rv1.get (i := j) (x := vs1[j]) (by simp [lv1, hj])
        obtain ⟨w', hw, rw'⟩ := rv2.get (i := j) (x := vs2[j]) (by simp [lv2, hj])
        have z1 : its1[j]? = some ps[j].1 := by simpa using q1
        have z2 : its2[j]? = some ps[j].2 := by simpa using q2
        rw [z1] at hu
        rw [z2] at hw
        cases hu
        cases hw
        exact ⟨vs1[j], vs2[j], _, _, by simp [lv1, hj], by simp [lv2, hj], ru, rw', q4, q5⟩
      let Nt : Addr → Option HO := fun b => (ts.zip (List.zipWith (fun x y => HO.tup [x, y]) vs1 vs2)).lookup b
      have hNt : ∀ b o, Nt b = some o → ∃ j x y u w, o = .tup [x, y] ∧ ts[j]? = some b ∧ vs1[j]? = some x ∧ vs2[j]? = some y ∧ RelV x u ∧ RelV y w ∧ IsTupOf2 h3 b u w ∧ t2.heap.objs.size + 5 + 1 ≤ b := fun b o q => by
        obtain ⟨j, e1, e2⟩ := lookup_zip q
        obtain ⟨x, y, u, w, f1, f2, f3, f4, f5, f6⟩ := at_ j b e1
        have e3 : (List.zipWith (fun x y => HO.tup [x, y]) vs1 vs2)[j]? = some (.tup [x, y]) := by
          rw [List.getElem?_zipWith, f1, f2]
        rw [e3] at e2
        cases e2
        exact ⟨j, x, y, u, w, rfl, e1, f1, f2, f3, f4, f5, f6⟩
      let N : Addr → Option HO := fun b => if b = t2.heap.objs.size + 5 then some (.lst (ts.map V.ref)) else Nt b
      have Nd : N (t2.heap.objs.size + 5) = some (.lst (ts.map V.ref)) := if_pos rfl
      have Ntd : Nt (t2.heap.objs.size + 5) = none := by
        cases q : Nt (t2.heap.objs.size + 5) with
        | none => rfl
        | some o =>
          obtain ⟨_, _, _, _, _, _, _, _, _, _, _, _, f6⟩ := hNt _ o q
          exact absurd f6 (Nat.not_succ_le_self _)
      have Nn : ∀ b, b ≠ t2.heap.objs.size + 5 → N b = Nt b := fun b q => if_neg q
      have hp : ∀ b o, N b = some o → t2.heap.objs.size ≤ b := fun b o q => by
        by_cases z : b = t2.heap.objs.size + 5
        · rw [z]
          exact Nat.le_add_right _ _
        · rw [Nn b z] at q
          obtain ⟨_, _, _, _, _, _, _, _, _, _, _, _, f6⟩ := hNt b o q
          exact Nat.le_trans (Nat.le_trans (Nat.le_add_right _ 5) (Nat.le_succ _)) f6
      have I3 : Inv X pins σ (orH N H2) { t2 with heap := h3, toks := tk } := Inv.laidAll I2 kpA hp fun b o q => by
        by_cases z : b = t2.heap.objs.size + 5
        · rw [z, Nd] at q
          cases q
          rw [z]
          refine ⟨?_, acc.toList, c, ?_, by rw [Array.toArray_toList]; exact hD⟩
          · rw [List.length_map, ltn, ← line_eq]
            exact hl.2
          · rw [hts]
            exact vals_refs ts
        · rw [Nn b z] at q
          obtain ⟨_, x, y, u, w, rfl, _, _, _, f3, f4, f5, _⟩ := hNt b o q
          exact ⟨by show 2 ≤ sizeLine; decide, [u, w], .cons f3 (.cons f4 .nil), ⟨_, f5, rfl, _, rfl⟩⟩
      have fresh : ∀ b o, N b = some o → H2 b = none := fun b o q => I2.hok.fresh (hp b o q)
      have freshT : ∀ b o, Nt b = some o → H2 b = none := fun b o q => by
        have z : b ≠ t2.heap.objs.size + 5 := fun z => by rw [z, Ntd] at q; cases q
        exact fresh b o (by rw [Nn b z]; exact q)
      have nw : Nw F2 H2 (orH Nt F2) (orH N H2) := by
        refine ⟨orH_same fun b o q => rl2.same.free (freshT b o q), orH_same fresh, fun b o q => ?_, fun b q => ?_⟩
        · cases y : Nt b with
          | some u =>
            rw [orH_some y] at q
            cases q
            have z : b ≠ t2.heap.objs.size + 5 := fun z => by rw [z, Ntd] at y; cases y
            exact orH_some (by rw [Nn b z]; exact y)
          | none =>
            rw [orH_none y] at q
            exact orH_same fresh b o (rl2.same _ _ q)
        · cases y : Nt b with
          | some u => exact .inr (.inl (freshT b u y))
          | none =>
            rw [orH_none y] at q
            exact .inl q
      have hd0 : H2 (t2.heap.objs.size + 5) = none := fresh _ _ Nd
      refine ⟨.ref (t2.heap.objs.size + 5), orH N H2, I3, rfl, q2 (orH Nt F2) (orH N H2) A2 _ nw.step (rl2.nw nw) ⟨_, _, rfl, hd0, fun j z => (rl2.own j _ z).2.1 (.inl hd0), fun z => rl2.dkne _ z hd0, by rw [orH_none Ntd]; exact rl2.same.free hd0, orH_some Nd, ?_⟩⟩
      refine DaS.of_get (by rw [List.length_map, ltn, List.length_zipWith, ← hl.1, Nat.min_self]) fun j v d' hv hd' => ?_
      rw [List.getElem?_map] at hv
      cases et : ts[j]? with
      | none =>
        rw [et] at hv
        cases hv
      | some T =>
        rw [et] at hv
        cases hv
        obtain ⟨x, y, u, w, f1, f2, f3, f4, f5, f6⟩ := at_ j T et
        obtain ⟨o, ho⟩ := lookup_has (ltn.trans lon.symm) et
        obtain ⟨j', x', y', u', w', rfl, _, _, _, k3, k4, k5, _⟩ := hNt T o ho
        have k6 : h3.get? T = some { cls := .type "tuple", data := .seq #[u, w] } := f5
        have k7 : h3.get? T = some { cls := .type "tuple", data := .seq #[u', w'] } := k5
        rw [k6] at k7
        have k8 : u = u' ∧ w = w' := by simpa using k7
        have ex : x' = x := k3.inj (k8.1 ▸ f3)
        have ey : y' = y := k4.inj (k8.2 ▸ f4)
        subst ex ey
        have hj : j < ds.length := by rw [← lv1]; exact (List.getElem?_eq_some_iff.mp f1).1
        have hje : j < es.length := by rw [← hl.1]; exact hj
        obtain ⟨xd, g1', g2'⟩ := dd1.getV f1
        obtain ⟨yd, g3', g4'⟩ := dd2.getV f2
        rw [List.getElem?_zipWith, g1', g3'] at hd'
        cases hd'
        exact .tup (.inl (.inl (orH_some ho))) (.cons (g2'.mono nw.ff) (.cons (g4'.mono nw.ff) .nil))
    · exact q2.elim
  · exact q2.elim
end
end Lf

set_option Elab.async false
set_option linter.all false
set_option maxRecDepth 100000
/-! LfR: rows walked whatever they are; slices; calls by name. -/
namespace Lf
open PySem PySem.Spec PyProof.Rows L2

/-! ### a row is walked, list or tuple -/
def mItD (m : S0 → R D) : S0 → R (List D) := fun s => (m s).bind fun d s1 => match items d with
  | some ds => .ok ds s1
  | none => .bad
def mEnT (m : S0 → R D) : S0 → R (List D) := fun s => (m s).bind fun d s1 => match d with
  | .tuple ds => .ok (enumD ds) s1
  | _ => .bad
def mEnum (m : S0 → R D) : S0 → R (List D) := fun s => (m s).bind fun d s1 => match items d with
  | some ds => .ok (enumD ds) s1
  | none => .bad
theorem PI.or {X : Cx} {tg e : Expr} {t t' : TI} (h : PI X tg e t) (h' : PI X tg e t') : PI X tg e (fun σ H Q => t σ H Q ∨ t' σ H Q) := ⟨fun pins s σ H Q I q => q.elim (h.run pins s σ H Q I) (h'.run pins s σ H Q I)⟩
section
variable {X : Cx} {cl : Cl} {W : WX} {a b e tg : Expr} {es : List Expr} {o : Opd} {pos : Pos} {m m1 m2 : S0 → R D}
theorem i_data (h : PE X e (tM X.K cl W m)) : PI X tg e (iM X.K cl W (mItD m)) := PI.imp (PI.or (i_list h) (i_tup h)) fun σ H Rr ⟨g, F, A, s, rl, q⟩ => by
  have key : mItD m s = mItL m s ∨ mItD m s = mItT m s := by
    unfold mItD mItL mItT
    cases m s with
    | bad => exact .inl rfl
    | exc c d s' => exact .inl rfl
    | ok d s1 =>
      cases d with
      | tuple ds => exact .inr rfl
      | _ => exact .inl rfl
  rcases key with z | z
  · exact .inl ⟨g, F, A, s, rl, by rw [z] at q; exact q⟩
  · exact .inr ⟨g, F, A, s, rl, by rw [z] at q; exact q⟩
theorem i_enumT {p tpos : Pos} {elts : List Expr} {kk : Nat} (hg : Gl X "enumerate") (hm : X.mg "enumerate" = none) (ha : PE X a (tM X.K cl W m)) (hs : starEach [a] X.env = [(false, eval a X.env)] := by rfl) : PI X (.Tuple elts kk tpos) (.Call (.Name "enumerate" p) [a] [] pos) (iM X.K cl W (mEnT m)) :=
  PI.imp (pi_enumT hg hm (pa_cons ha pa_nil (hs.trans rfl)) hs) fun σ H Rr ⟨g, F, A, s, rl, q⟩ => by
    refine ⟨g, F, A, s, rl, iM_of (R1 := rDa X.K) q fun d s1 F' H' A' v e st rl' l h' => ?_⟩
    cases l with
    | tup h r => exact ⟨_, _, rfl, sqt_mono rl'.same h, h' _ F' H' A' .refl rl' (it_enumT h r)⟩
    | _ => exact h'.elim
theorem i_enum {p tpos : Pos} {elts : List Expr} {kk : Nat} (hg : Gl X "enumerate") (hm : X.mg "enumerate" = none) (ha : PE X a (tM X.K cl W m)) (hs : starEach [a] X.env = [(false, eval a X.env)] := by rfl) : PI X (.Tuple elts kk tpos) (.Call (.Name "enumerate" p) [a] [] pos) (iM X.K cl W (mEnum m)) :=
  PI.imp (PI.or (i_enumL hg hm ha hs) (i_enumT hg hm ha hs)) fun σ H Rr ⟨g, F, A, s, rl, q⟩ => by
    have key : mEnum m s = mEnumL m s ∨ mEnum m s = mEnT m s := by
      unfold mEnum mEnumL mEnT
      cases m s with
      | bad => exact .inl rfl
      | exc c d s' => exact .inl rfl
      | ok d s1 =>
        cases d with
        | tuple ds => exact .inr rfl
        | _ => exact .inl rfl
    rcases key with z | z
    · exact .inl ⟨g, F, A, s, rl, by rw [z] at q; exact q⟩
    · exact .inr ⟨g, F, A, s, rl, by rw [z] at q; exact q⟩
/-! ### slices -/
def cutD (ds : List D) (lo hi : Option Int) : List D := (ds.drop (HT.sIx ds.length 0 lo)).take (HT.sIx ds.length ds.length hi - HT.sIx ds.length 0 lo)
theorem cut_das {K : PySem.W.Frag} {F : Hp} {vs : List V} {ds : List D} (h : DaS K F vs ds) (lo hi : Option Int) : DaS K F (cutV vs lo hi) (cutD ds lo hi) := by
  unfold cutV cutD
  rw [h.length]
  exact (h.drop _).take _
def part : Option (S0 → R D) → S0 → R (Option Int)
  | none, s => .ok none s
  | some m, s => (m s).bind fun d s1 => match d with
    | .int i => .ok (some i) s1
    | _ => .bad
def mSlice (m : S0 → R D) (lo hi : Option (S0 → R D)) : S0 → R D := fun s => (m s).bind fun d s1 => (part lo s1).bind fun l s2 => (part hi s2).bind fun h s3 => match d with
  | .list ds => .ok (.list (cutD ds l h)) s3
  | .tuple ds => .ok (.tuple (cutD ds l h)) s3
  | _ => .bad
def rSlAll (K : PySem.W.Frag) : V → Option Int → Option Int → Hp → VK → Prop := fun x lo hi H Q => rSlL K x lo hi H Q ∨ rSlA K x lo hi H Q
theorem sl_all : SlR X (rSlAll X.K) := SlR.or sl_list sl_tupA
def tPO (K : PySem.W.Frag) (cl : Cl) (W : WX) (m : Option (S0 → R D)) : TO := fun σ H Q => tX (β := Option Int) K cl W (fun _ _ _ _ _ o o' => o = o') (part m) σ H Q
theorem up_po : Up (fun (_ : Hp) (_ : Nat → Option Addr) (_ _ : Hp) (o o' : Option Int) => o = o') := fun _ _ _ _ _ _ _ _ h => h
theorem po_no : PO X none (tPO X.K cl W none) := ⟨fun pins s σ H Q I ⟨g, F, A, s0, rl, q⟩ => po_none.run pins s σ H Q I (q F H A none .refl rl rfl)⟩
theorem po_so (h : PE X e (tM X.K cl W m)) : PO X (some e) (tPO X.K cl W (some m)) := ⟨fun pins s σ H Q I ⟨g, F, A, s0, rl, q⟩ => (po_some h).run pins s σ H Q I ⟨g, F, A, s0, rl, Post.bind (R1 := rDa X.K) up_po q fun d s1 F' H' A' v e st rl' l h' => by
  cases d with
  | int i =>
    cases (show v = .int i from Da.int_eq l)
    exact ⟨i, rfl, h' F' H' A' (some i) .refl rl' rfl⟩
  | _ => exact h'.elim⟩⟩
theorem e_slice {lo hi : Option Expr} {p2 : Pos} {ml mh : Option (S0 → R D)} (he : PE X e (tM X.K cl W m)) (hl : PO X lo (tPO X.K cl W ml)) (hu : PO X hi (tPO X.K cl W mh)) : PE X (.Subscript e (.Slice lo hi none p2) pos) (tM X.K cl W (mSlice m ml mh)) := (pe_slice sl_all he hl hu).imp fun σ H Q ⟨g, F, A, s, rl, q⟩ => by
  refine ⟨g, F, A, s, rl, Post.bind (R1 := rDa X.K) up_da q fun d s1 F1 H1 A1 v e1 st1 rl1 l1 h1 => ⟨g, F1, A1, s1, rl1, Post.bind up_da h1 fun l s2 F2 H2 A2 l' e2 st2 rl2 l2 h2 => ⟨g, F2, A2, s2, rl2, Post.bind up_da h2 fun u s3 F3 H3 A3 u' e3 st3 rl3 l3 h3 => ?_⟩⟩⟩
  cases (show l' = l from l2)
  cases (show u' = u from l3)
  have dv : Da X.K F3 v d := (Da.mono (st2.ff.trans st3.ff) l1)
  cases d with
  | list ds =>
    obtain ⟨a, vs, rfl, hq, r⟩ := dv.lst_of
    refine .inl ⟨a, vs, rfl, .of (rl3.same _ _ hq), fun p hp => ?_⟩
    have n := Nw.new (o := .lst (cutV vs l u)) rl3.same hp
    exact h3.here (R1 := rDa X.K) rl3 n (.lst upd_same ((cut_das r l u).mono n.ff))
  | tuple ds =>
    obtain ⟨a, vs, rfl, hq, r⟩ := dv.tup_of
    refine .inr ⟨a, vs, rfl, sqt_mono rl3.same hq, fun hw => ?_, fun hw p hp => ?_⟩
    · have ec : cutD ds l u = ds := by
        unfold cutD
        rw [r.length] at hw
        rw [hw.1, hw.2, List.drop_zero, Nat.sub_zero, List.take_length]
      have h3 : Post X.K cl W (rDa X.K) g F3 H3 A3 σ (R.ok (PyData.tuple (cutD ds l u)) s3) Q := h3
      rw [ec] at h3
      exact h3 F3 H3 A3 _ .refl rl3 (.tup hq r)
    · have n := Nw.new (o := .tup (cutV vs l u)) rl3.same hp
      exact h3.here (R1 := rDa X.K) rl3 n (.tup (.inl (.inl upd_same)) ((cut_das r l u).mono n.ff))
  | _ => exact h3.elim
/-! ### a built-in def of a module, by its own name -/
theorem e_callG {id : String} {r : List V → Hp → VK → Prop} {f : List D → Option D} {os : List Opd} {x : Str} {p : Pos} (hc : CallR X (.builtin id) r) (hr : VR X.K r f) (hg : Gl X x) (hm : X.mg x = some (.builtin id)) (ha : PA X (e :: es) (tAs X.K cl W os)) (hdb : (x == ("__debug__" : Str)) = false := by decide)
    (he : starEach (e :: es) X.env = (false, eval e X.env) :: starEach es X.env := by rfl) (hpl : (backTo pos (starEach es X.env)).any (·.1) = false := by rfl) : PE X (.Call (.Name x p) (e :: es) [] pos) (tM X.K cl W (mF f os)) :=
  (pe_callBfun hc hg hm ha hdb he hpl).imp fun σ H Q q => args_of os σ H _ (mF_of hr q)
/-! ### calls by the parameters' names -/
def permL {α : Type} (ix : List Nat) (l : List α) : List α := ix.filterMap (l[·]?)
theorem perm_paired {α β : Type} {Rl : α → β → Prop} {xs : List α} {ys : List β} (h : Paired Rl xs ys) : ∀ ix : List Nat, Paired Rl (permL ix xs) (permL ix ys)
  | [] => .nil
  | i :: r => by
    have key : (xs[i]? = none ∧ ys[i]? = none) ∨ ∃ x y, xs[i]? = some x ∧ ys[i]? = some y ∧ Rl x y := by
      have gen : ∀ {xs : List α} {ys : List β} {i : Nat}, Paired Rl xs ys → (xs[i]? = none ∧ ys[i]? = none) ∨ ∃ x y, xs[i]? = some x ∧ ys[i]? = some y ∧ Rl x y := by
        intro xs ys i h
        induction h generalizing i with
        | nil => exact .inl ⟨by simp, by simp⟩
        | cons a b ih =>
          cases i with
          | zero => exact .inr ⟨_, _, rfl, rfl, a⟩
          | succ j => simpa using ih (i := j)
      exact gen h
    have ih := perm_paired h r
    unfold permL at ih ⊢
    rcases key with ⟨e1, e2⟩ | ⟨x, y, e1, e2, e3⟩
    · rw [List.filterMap_cons_none e1, List.filterMap_cons_none e2]
      exact ih
    · rw [List.filterMap_cons_some e1, List.filterMap_cons_some e2]
      exact .cons e3 ih
def mCallK (mf : S0 → RF) (os : List Ag) (ix : List Nat) : S0 → R D := fun s => (evalAg os s).bind fun svs s1 => (mf ⟨permL ix svs, s1.dk⟩).toR s1
/-- how keywords alone are bound -/
def KwB (K : PySem.W.Frag) (fd : FuncData) (ps ks : List Str) (ix : List Nat) : Prop := ∀ (s : Shared) (ws : List Value), K.In s.heap → ws.length = ks.length → BindsTo s fd ⟨[], ks.zip ws⟩ (ps.zip (permL ix ws))
theorem kwB_of {K : PySem.W.Frag} {x qual : Str} {params : Arguments} {body : List Stmt} {scope : Scope} {kws : List (Str × V)} {f : Addr} {fd : FuncData} {ps ks : List Str} {ix : List Nat} (F : FunD K x qual params body scope [] kws f fd)
    (h : ∀ (kV doc pm : Value) (an : Option Addr) (cdv ct : Value) (ws : List Value), ws.length = ks.length → bindArgs (PySem.W.fnOf x qual params body scope .none kV doc pm an cdv ct) ⟨[], ks.zip ws⟩ = pure (ps.zip (permL ix ws))) : KwB K fd ps ks ix := by
  obtain ⟨oc, od, dV, kV, doc, pm, an, cdv, ct, osl, rfl, lk, hcd, hD, hK⟩ := F.ex
  rcases hD with ⟨_, e⟩ | ⟨e, _⟩
  · subst e
    exact fun s ws _ hl => .of_eq (h kV doc pm an cdv ct ws hl)
  · exact absurd rfl e
theorem e_callK {k : Nat} {f : Addr} {fd : FuncData} {ps ks : List Str} {ix : List Nat} {mf : S0 → RF} {os : List Ag} {kws : List Keyword} {x : Str} {p : Pos} (G : FnOk X.prog X.w X.K X.mg X.base (L2.CX X.prog X.w) k f fd ps (spM X.K cl ps.length mf)) (hr : Room k X.A) (hg : Gl X x) (hm : X.mg x = some (.ref f)) (hk : PySem.W.keepIn X.K (.ref f) = true) (hb : KwB X.K fd ps ks ix) (tk : Takes X W)
    (hkw : PK X kws (tAgs X.K cl W os)) (hlen : os.length = ks.length := by rfl) (hix : ∀ l : List SV, l.length = os.length → (permL ix l).length = ps.length) (hall : (backToKw pos (keywordEach kws X.env)).all (·.1.isSome) = true := by rfl) (hks : (backToKw pos (keywordEach kws X.env)).filterMap (·.1) = ks := by rfl)
    (hdb : (x == ("__debug__" : Str)) = false := by decide) (hpl : ((backTo pos (starEach [] X.env)).any (·.1) || (backToKw pos (keywordEach kws X.env)).any (·.1.isNone)) = false := by rfl) :
    PE X (.Call (.Name x p) [] kws pos) (tM X.K cl W (mCallK mf os ix)) := by
  refine ⟨fun pins s σ H Q I q => ?_⟩
  obtain ⟨g, F, A, s0, rl, h⟩ := q
  refine wpAny_Call_Name_kw (ld_glob I hg hm ?_ hdb)
  refine PySem.W.callWith_KW0 (h₀ := X.base) I.ok.mod.kin hk hall ?_ hpl
  refine thn (hkw.run pos pins s σ H (fun vs H1 => ∃ F1 A1 s1 svs, svs.length = os.length ∧ Rel X.K g F1 H1 A1 s1 σ ∧ Paired (ArgOk X.K g F1 H1) vs svs ∧ Post X.K cl W (rDa X.K) g F1 H1 A1 σ ((mf ⟨permL ix svs, s1.dk⟩).toR s1) Q) I
    (ags_of os σ H _ ⟨g, F, A, s0, rl, Post.bind (R1 := rAgs X.K g) up_da h fun svs s1 F1 H1 A1 vs e1 st1 rl1 l1 h1 => ⟨F1, A1, s1, svs, evalAg_len os s0 s1 svs e1, rl1, l1, h1⟩⟩)) fun us s1 ⟨vs, H1, I1, r, F1, A1, s2, svs, hl, rl1, l1, h1⟩ => ⟨I1.kIn, ?_⟩
  rw [hks]
  have lp := perm_paired l1 ix
  have rp := perm_paired r ix
  have hn : (permL ix us).length = ps.length := by
    have z1 : (permL ix vs).length = (permL ix us).length := Paired.length rp
    have z2 : (permL ix vs).length = (permL ix svs).length := Paired.length lp
    rw [← z1, z2, hix svs hl]
  have lus : us.length = ks.length := by
    have z1 := Vals.length r
    have z2 : vs.length = svs.length := Paired.length l1
    rw [← z1, z2, hl, hlen]
  refine wpAny_call (codeAny_mono (G.run X.A X.stack s1 H1 ⟨[], ks.zip us⟩ (permL ix us) (permL ix vs) Q (WE W σ) hr I1.env0 (hb s1 us I1.kIn lus) rp ⟨g, F1, ⟨permL ix svs, s2.dk⟩, hix svs hl, args_rel rl1 lp, ?_⟩) fun rr s' hq => ?_)
  · cases e2 : mf ⟨permL ix svs, s2.dk⟩ with
    | bad =>
      rw [e2] at h1
      exact h1.elim
    | ok d k =>
      rw [e2] at h1
      intro F2 H2 v st2 sm dk da
      obtain ⟨r3, st3⟩ := rl1.callee st2 sm dk
      exact h1 F2 H2 A1 v st3 r3 da
    | exc c d k =>
      rw [e2] at h1
      intro F2 H2 v dp st2 sm dk da ex
      obtain ⟨r3, st3⟩ := rl1.callee st2 sm dk
      exact h1 F2 H2 A1 v dp st3 r3 da ex
  · cases rr with
    | error u => exact passAt tk σ pins H1 s1 u s' I1 hq
    | ok fl =>
      cases fl with
      | ret u => exact I1.after hq
      | next => exact False.elim hq
      | brk => exact False.elim hq
      | cont => exact False.elim hq
end
end Lf

set_option Elab.async false
set_option linter.all false
set_option maxRecDepth 100000
/-! LfS: isinstance with three types; len and list of dicts; a display's get; a, b = x, y; try .. except X: return. -/
namespace Lf
open PySem PySem.Spec PyProof.Rows L2
section
variable {K : PySem.W.Frag} {cl : Cl} {W : WX} {o : Opd}
theorem isi3_of {T U V' : String} (hk : kitOk T = true) (hu : kitOk U = true) (hw : kitOk V' = true) {σ : L2.St} {H : Hp} {Q : VK} (q : tM K cl W (mF (dIsi3 T U V') [o]) σ H Q) :
    tCB (rIsiT K) (tCons (tO K cl W o) (tCons (tTup (tCons (tC (.ty T)) (tCons (tC (.ty U)) (tCons (tC (.ty V')) tNil)))) tNil)) σ H Q := by
  have vr : VR K (r1l fun x H Q => ∃ (t : Value) (b : Bool), (∀ p o, H p = none → TyX K (upd H p o) x t) ∧ PySem.W.kitAny K t [.type T, .type U, .type V'] = some b ∧ ∀ p o, H p = none → Q (.bl b) (upd H p o)) (dIsi3 T U V') := by
    intro F H vs ds d Q e l hf q
    unfold dIsi3 at hf
    split at hf
    · rename_i d'
      obtain ⟨x, rfl, p1⟩ := pk1 l
      cases hf
      refine ⟨x, rfl, .type (tyName d'), isTy T d' || (isTy U d' || isTy V' d'), fun p o hp => ?_, ?_, fun p o hp => ?_⟩
      · have n := Nw.new (o := o) e hp
        exact (p1.mono_nw n).ty n.fh
      · refine kitAny_cons (kit_isTy hk d') (fun h => kitAny_cons (kit_isTy hu d') (fun h' => kitAny_cons (kit_isTy hw d') (fun h2 => ?_) fun h2 => ?_) fun h' => ?_) fun h => ?_
        · rw [h, h', h2]
          exact kitAny_nil
        · rw [h, h', h2] <;> rfl
        · rw [h, h'] <;> rfl
        · rw [h] <;> rfl
      · have n := Nw.new (o := o) e hp
        exact q _ _ _ n (.bl _)
    · cases hf
  refine tO_mono (fun v H1 h => ?_) (op1_of vr q)
  obtain ⟨t, b, h1, h2, h3⟩ := h
  refine ⟨by show 3 ≤ sizeLine; decide, fun p hp => ?_⟩
  exact ⟨v, p, _, t, _, b, rfl, upd_same, .cons (.ty T) (.cons (.ty U) (.cons (.ty V') .nil)), h1 p _ hp, h2, h3 p _ hp⟩
end
section
variable {X : Cx} {cl : Cl} {W : WX} {a b e : Expr} {es : List Expr} {o : Opd} {pos : Pos}
/-- isinstance(e, (T, U, V)) -/
theorem e_isi3 {T U V' : String} {x y z : Str} {p p2 p3 p4 p5 : Pos} {x1} (hk : kitOk T = true) (hu : kitOk U = true) (hw : kitOk V' = true) (hT : bootBuiltins x = some (.type T)) (hU : bootBuiltins y = some (.type U)) (hV : bootBuiltins z = some (.type V')) (ha : PE X a (tO X.K cl W o)) (hg : Gl X "isinstance") (hm : X.mg "isinstance" = none)
    (hg2 : Gl X x) (hm2 : X.mg x = none) (hg3 : Gl X y) (hm3 : X.mg y = none) (hg4 : Gl X z) (hm4 : X.mg z = none)
    (hv : bootBuiltins "isinstance" = some (.builtin "isinstance") := by decide +kernel) (hn : x ≠ "__name__" := by decide) (hd : (x == ("__debug__" : Str)) = false := by decide) (hn3 : y ≠ "__name__" := by decide) (hd3 : (y == ("__debug__" : Str)) = false := by decide)
    (hn4 : z ≠ "__name__" := by decide) (hd4 : (z == ("__debug__" : Str)) = false := by decide)
    (hs : starEach (a :: [.Tuple [.Name x p2, .Name y p3, .Name z p5] x1 p4]) X.env = (false, eval a X.env) :: starEach [.Tuple [.Name x p2, .Name y p3, .Name z p5] x1 p4] X.env := by rfl) :
    PE X (.Call (.Name "isinstance" p) [a, .Tuple [.Name x p2, .Name y p3, .Name z p5] x1 p4] [] pos) (tM X.K cl W (mF (dIsi3 T U V') [o])) :=
  (pe_callB call_isiT hg hm hv (pa_cons ha (pa_cons (pe_tup (pa_cons (pe_bltn (v := .ty T) hg2 hm2 hT rfl hn hd) (pa_cons (pe_bltn (v := .ty U) hg3 hm3 hU rfl hn3 hd3) (pa_cons (pe_bltn (v := .ty V') hg4 hm4 hV rfl hn4 hd4) pa_nil)))) pa_nil) hs) (he := hs)).imp fun σ H Q q => isi3_of hk hu hw q
end
/-! ### len, list of dicts -/
def dLenA : List D → Option D
  | [.list ds] => some (.int ds.length)
  | [.tuple ds] => some (.int ds.length)
  | [.dict es] => some (.int es.length)
  | [.str x] => if x.length ≤ line then some (.int x.length) else none
  | _ => none
def dListA : List D → Option D
  | [.list ds] => some (.list ds)
  | [.tuple ds] => some (.list ds)
  | [.dict es] => some (.list (es.map (·.1)))
  | _ => none
section
variable {K : PySem.W.Frag} {F H : Hp}
theorem zip_kv {κ : Type} : ∀ {ks : List κ} {vs : List V} {ds : List D}, ks.length = vs.length → DaS K F vs ds → KVd K F (ks.zip vs) (ks.zip ds)
  | [], _, _, _, _ => .nil
  | _ :: _, [], _, h, _ => by simp at h
  | k :: ks, v :: vs, _, h, .cons h1 h2 => .cons ⟨rfl, h1⟩ (zip_kv (by simpa using h) h2)
theorem zip_kd {κ : Type} {f : κ → D} : ∀ (ks : List κ) (ds : List D), (ks.map f).zip ds = (ks.zip ds).map fun p => (f p.1, p.2)
  | [], _ => rfl
  | _ :: _, [] => rfl
  | k :: ks, d :: ds => congrArg _ (zip_kd ks ds)
theorem Pk.dict_of {v : V} {es : List (D × D)} (e : Same F H) (h : Pk K F H v (.dict es)) :
    ∃ a, v = .ref a ∧ ((∃ (vs : List (Key × V)) (ds : List (Key × D)), H a = some (.dK vs) ∧ KVd K F vs ds ∧ es = ds.map fun p => (kD p.1, p.2)) ∨
      ∃ (vs : List (List Key × V)) (ds : List (List Key × D)), H a = some (.dT vs) ∧ KVd K F vs ds ∧ es = ds.map fun p => (PyData.tuple (p.1.map kD), p.2)) := by
  generalize hd : PyData.dict es = d at h
  cases h with
  | da h =>
    cases h <;> cases hd
    · rename_i a ks vs ds h1 h2 h3
      exact ⟨_, rfl, .inl ⟨_, _, e _ _ h1, zip_kv h2 h3, zip_kd _ _⟩⟩
    · rename_i a ks vs ds h1 h2 h3
      exact ⟨_, rfl, .inr ⟨_, _, e _ _ h1, zip_kv h2 h3, zip_kd (f := fun k : List Key => PyData.tuple (k.map kD)) _ _⟩⟩
  | lst => cases hd
  | dk h1 h2 =>
    cases hd
    exact ⟨_, rfl, .inl ⟨_, _, h1, h2, rfl⟩⟩
  | dt h1 h2 =>
    cases hd
    exact ⟨_, rfl, .inr ⟨_, _, h1, h2, rfl⟩⟩
abbrev rLenS : List V → Hp → VK → Prop := fun xs H Q => ∃ z, xs = [.str z] ∧ z.length ≤ sizeLine ∧ Q (.int z.length) H
abbrev rLenK : List V → Hp → VK → Prop := fun xs H Q => ∃ a kvs, xs = [V.ref a] ∧ H a = some (.dK kvs) ∧ Q (.int kvs.length) H
def rLenAll (K : PySem.W.Frag) : List V → Hp → VK → Prop := fun xs H Q => (((∃ p ys, xs = [.ref p] ∧ (SqL K H p ys ∨ SqT K H p ys) ∧ Q (.int ys.length) H) ∨ rLenS xs H Q) ∨ rLenK xs H Q) ∨ rLenT xs H Q
theorem cr_len {X : Cx} : CallR X (.builtin "len") (rLenAll X.K) := ((call_len_seq.or call_len_str).or call_lenD).or call_len_dT
theorem v_lenA : VR K (rLenAll K) dLenA := by
  intro F H vs ds d Q e l hf q
  unfold dLenA at hf
  split at hf
  · exact .inl (.inl (.inl (v_len F H _ _ d Q e l hf q)))
  · exact .inl (.inl (.inl (v_len F H _ _ d Q e l hf q)))
  · obtain ⟨x, rfl, p1⟩ := pk1 l
    cases hf
    obtain ⟨a, rfl, ⟨vs, ds, h1, h2, rfl⟩ | ⟨vs, ds, h1, h2, rfl⟩⟩ := p1.dict_of e
    · refine .inl (.inr ⟨a, vs, rfl, h1, ret0 e q ?_⟩)
      rw [len_kv h2, List.length_map]
      exact .int _
    · refine .inr ⟨a, vs, rfl, h1, ret0 e q ?_⟩
      rw [len_kv h2, List.length_map]
      exact .int _
  · obtain ⟨x, rfl, p1⟩ := pk1 l
    split at hf
    · cases hf
      rename_i hl
      exact .inl (.inl (.inr ⟨_, by rw [p1.str_eq], by rw [← line_eq]; exact hl, ret0 e q (.int _)⟩))
    · cases hf
  · cases hf
def rListAll (K : PySem.W.Frag) : List V → Hp → VK → Prop := fun xs H Q => ((∃ p ys, xs = [.ref p] ∧ (SqL K H p ys ∨ SqT K H p ys) ∧ ∀ l, H l = none → Q (.ref l) (upd H l (.lst ys))) ∨ rListD xs H Q) ∨
  (∃ d kvs, xs = [V.ref d] ∧ Rd H d (.dT kvs) ∧ ∀ p bs, H p = none → IsKeys H kvs bs → Q (.ref p) (upd H p (.lst (bs.map V.ref))))
theorem cr_listA {X : Cx} (hc : X.calm = true) : CallR X (.type "list") (rListAll X.K) := (call_list_of.or (call_list_dK hc)).or (call_list_dT hc)
/-- all tuples of the heap are data from now on -/
def withT (F H : Hp) : Hp := fun b => match F b with
  | some o => some o
  | none => (match H b with
    | some (.tup vs) => some (.tup vs)
    | _ => none)
theorem withT_at {b : Addr} {vs : List V} (e : Same F H) (h : H b = some (.tup vs)) : withT F H b = some (.tup vs) := by
  unfold withT
  cases q : F b with
  | some o =>
    have := e _ _ q
    rw [h] at this
    cases this
    rfl
  | none =>
    show (match H b with
    | some (.tup vs) => some (HO.tup vs)
    | _ => none) = _
    rw [h]
theorem withT_nw (e : Same F H) : Nw F H (withT F H) H := by
  refine ⟨fun b o h => ?_, Same.refl H, fun b o h => ?_, fun b h => ?_⟩
  · unfold withT
    rw [h]
  · unfold withT at h
    split at h
    · rename_i q
      rw [← h]
      exact e _ _ q
    · split at h
      · rename_i q
        rw [← h]
        exact q
      · cases h
  · unfold withT at h
    split at h
    · rename_i q
      exact .inl (by rw [q]; simp)
    · split at h
      · rename_i q
        exact .inr (.inr ⟨_, q, True.intro⟩)
      · exact absurd rfl h
theorem key_das : ∀ ks : List Key, DaS K F (ks.map kV) (ks.map kD)
  | [] => .nil
  | .inl i :: r => .cons (.int i) (key_das r)
  | .inr x :: r => .cons (.str x) (key_das r)
theorem keys_dk : ∀ {vs : List (Key × V)} {ds : List (Key × D)} {F' : Hp}, KVd K F vs ds → DaS K F' (vs.map fun kv => kV kv.1) (ds.map fun p => kD p.1)
  | _, _, _, .nil => .nil
  | (.inl i, _) :: _, (_, _) :: _, _, .cons ⟨h, _⟩ r => by
    cases h
    exact .cons (.int i) (keys_dk r)
  | (.inr x, _) :: _, (_, _) :: _, _, .cons ⟨h, _⟩ r => by
    cases h
    exact .cons (.str x) (keys_dk r)
theorem keys_dt (e : Same F H) {F' : Hp} (hF : Same (withT F H) F') : ∀ {vs : List (List Key × V)} {ds : List (List Key × D)} {bs : List Addr}, KVd K F vs ds → IsKeys H vs bs → DaS K F' (bs.map V.ref) (ds.map fun p => PyData.tuple (p.1.map kD))
  | _, _, _, .nil, .nil => .nil
  | (ks, _) :: _, (_, _) :: _, b :: _, .cons ⟨h, _⟩ r, .cons h2 r2 => by
    cases h
    exact .cons (.tup (.inl (.inl (hF _ _ (withT_at e h2)))) (key_das ks)) (keys_dt e hF r r2)
theorem v_listA : VR K (rListAll K) dListA := by
  intro F H vs ds d Q e l hf q
  unfold dListA at hf
  split at hf
  · exact .inl (.inl (v_list F H _ _ d Q e l hf q))
  · exact .inl (.inl (v_list F H _ _ d Q e l hf q))
  · obtain ⟨x, rfl, p1⟩ := pk1 l
    cases hf
    obtain ⟨a, rfl, ⟨vs, ds, h1, h2, rfl⟩ | ⟨vs, ds, h1, h2, rfl⟩⟩ := p1.dict_of e
    · refine .inl (.inr ⟨a, vs, rfl, h1, fun p hp => retN e q hp ?_⟩)
      rw [List.map_map]
      exact keys_dk h2
    · refine .inr ⟨a, vs, rfl, .inl h1, fun p bs hp hk => ?_⟩
      have n1 := withT_nw e
      have n2 := Nw.new (o := .lst (bs.map V.ref)) n1.fh hp
      refine q _ _ _ (n1.trans n2) (.lst upd_same ?_)
      rw [List.map_map]
      exact keys_dt e n2.ff h2 hk
  · cases hf
end
/-! ### {k: v, ..}.get(x, d): keys and values that are numbers, texts -/
inductive Dis (X : Cx) : List (Option Expr) → List Expr → List (Key × D) → Prop
  | nil : Dis X [] [] []
  | int {k : Expr} {v : Expr} {ks : List (Option Expr)} {vs : List Expr} {kvs : List (Key × D)} (i : Int) (x : V) (d : D) : PE X k (tC (.int i)) → PE X v (tC x) → (∀ K F, Da K F x d) → Dis X ks vs kvs → Dis X (some k :: ks) (v :: vs) ((.inl i, d) :: kvs)
  | str {k : Expr} {v : Expr} {ks : List (Option Expr)} {vs : List Expr} {kvs : List (Key × D)} (i : Str) (x : V) (d : D) : PE X k (tC (.str i)) → PE X v (tC x) → (∀ K F, Da K F x d) → Dis X ks vs kvs → Dis X (some k :: ks) (v :: vs) ((.inr i, d) :: kvs)
def mergeM (kvs more : List (Key × D)) : List (Key × D) := more.foldl (fun acc kv => putM acc kv.1 kv.2) kvs
def mDisGet (kvs : List (Key × D)) (mk : S0 → R Ky) (m : S0 → R D) : S0 → R D := fun s => (mk s).bind fun k s1 => (m s1).bind fun d0 s2 => match dGet (.dk (mergeM [] kvs)) k with
  | some o => .ok (o.getD d0) s2
  | none => .bad
theorem dis_pairs {X : Cx} {pos : Pos} {keys : List (Option Expr)} {values : List Expr} {kvs : List (Key × D)} (h : Dis X keys values kvs) : ∃ (trs : List (TE × TE)) (vs : List (Key × V)), PPs X pos keys values trs ∧
    (∀ σ H Q, Q (vs.map fun kv => (kV kv.1, kv.2)) H → tPairs trs σ H Q) ∧ (∀ K F, KVd K F vs kvs) ∧ keys.length = values.length ∧ keys.all (·.isSome) = true ∧ vs.length = keys.length := by
  induction h with
  | nil => exact ⟨[], [], pps_nil, fun σ H Q q => q, fun K F => .nil, rfl, rfl, rfl⟩
  | int i x d h1 h2 h3 _ ih =>
    obtain ⟨trs, vs, p1, p2, p3, p4, p5, p6⟩ := ih
    exact ⟨_, (.inl i, x) :: vs, pps_cons h1 h2 p1, fun σ H Q q => p2 σ H _ q, fun K F => .cons ⟨rfl, h3 K F⟩ (p3 K F), congrArg (· + 1) p4, p5, congrArg (· + 1) p6⟩
  | str i x d h1 h2 h3 _ ih =>
    obtain ⟨trs, vs, p1, p2, p3, p4, p5, p6⟩ := ih
    exact ⟨_, (.inr i, x) :: vs, pps_cons h1 h2 p1, fun σ H Q q => p2 σ H _ q, fun K F => .cons ⟨rfl, h3 K F⟩ (p3 K F), congrArg (· + 1) p4, p5, congrArg (· + 1) p6⟩
theorem merge_kv {K : PySem.W.Frag} {F : Hp} : ∀ {vs : List (Key × V)} {ds : List (Key × D)} {vs0 : List (Key × V)} {ds0 : List (Key × D)}, KVd K F vs0 ds0 → KVd K F vs ds → KVd K F (mergeK vs0 vs) (mergeM ds0 ds)
  | _, _, _, _, h0, .nil => h0
  | (k, v) :: vs, (_, d) :: ds, vs0, ds0, h0, .cons ⟨h, h'⟩ r => by
    cases h
    exact merge_kv (vs := vs) (ds := ds) (vs0 := putK vs0 k v) (ds0 := putM ds0 k d) (put_kv h' h0) r
section
variable {X : Cx} {cl : Cl} {W : WX} {a b e f : Expr} {es : List Expr} {o : Opd} {pos apos cpos : Pos} {mk : S0 → R Ky} {m : S0 → R D}
theorem disget_of {K : PySem.W.Frag} {kvs : List (Key × D)} {vs : List (Key × V)} {trs : List (TE × TE)} (p2 : ∀ σ H Q, Q (vs.map fun kv => (kV kv.1, kv.2)) H → tPairs trs σ H Q) (p3 : ∀ K F, KVd K F vs kvs) (hl : vs.length ≤ 15) {σ : L2.St} {H : Hp} {Q : VK}
    (q : tM K cl W (mDisGet kvs mk m) σ H Q) : tDGet2 (tDisp trs) (tK K cl W mk) (tM K cl W m) σ H Q := by
  obtain ⟨g, F, A, s, rl, h⟩ := q
  intro p hp
  refine p2 _ _ _ ⟨upd_same, vs, rfl, hl, ?_⟩
  have e1 : upd (upd H p (.dK [])) p (.dK (mergeK [] vs)) = upd H p (.dK (mergeK [] vs)) := by
    funext b
    by_cases q : b = p
    · subst q
      rw [upd_same, upd_same]
    · rw [upd_ne q, upd_ne q, upd_ne q]
  rw [e1]
  obtain ⟨r1, st1, f1, f2, f3⟩ := fresh_ok rl hp (.dK (mergeK [] vs))
  refine ⟨p, rfl, .inl ⟨_, .inl upd_same⟩, g, F, A, s, r1, ?_⟩
  refine Post.bind up_da (Post.after up_da st1 h) fun k s1 F1 H1 A1 y e st rl1 l1 h1 => ⟨g, F1, A1, s1, rl1, ?_⟩
  refine Post.bind up_da h1 fun d0 s2 F2 H2 A2 z e2 st2 rl2 l2 h2 => ?_
  have l1' : rKy H A2 F2 H2 y k := rKy.mono (A := A1) (H := H1) (H' := H2) st2.ff l1
  obtain ⟨k1, k2, k3, k4⟩ := (st.trans st2).keep (b := p) f1 (fz_no upd_same id) f3 f2
  have hp2 := k4 _ upd_same
  cases k with
  | inr ks =>
    exact absurd h2 (by show ¬ Post K cl W (rDa K) g F2 H2 A2 σ (R.bad) Q; exact id)
  | inl k =>
    have ky : y = kV k := l1'
    have kv : KVd K F2 (mergeK [] vs) (mergeM [] kvs) := merge_kv .nil (p3 K F2)
    have h2' : Post K cl W (rDa K) g F2 H2 A2 σ (.ok ((valM (mergeM [] kvs) k).getD d0) s2) Q := h2
    rcases val_kv (k := k) kv with ⟨v1, v2⟩ | ⟨v, d, v1, v2, v3⟩
    · refine ⟨none, .inl ⟨_, k, .inl hp2, ky, v1.symm⟩, ?_⟩
      rw [v2] at h2'
      exact h2' F2 H2 A2 z .refl rl2 l2
    · refine ⟨some v, .inl ⟨_, k, .inl hp2, ky, v1.symm⟩, ?_⟩
      rw [v2] at h2'
      exact h2' F2 H2 A2 v .refl rl2 v3
theorem e_disGet {keys : List (Option Expr)} {values : List Expr} {kvs : List (Key × D)} {dpos : Pos} (hu : X.A.units + 1 < cLine) (hd : Dis X keys values kvs) (h0 : keys ≠ []) (h15 : keys.length ≤ 15) (hk : PE X e (tK X.K cl W mk)) (hf : PE X f (tM X.K cl W m)) (hm : M2 X (.Dict keys values dpos) "get" apos e f cpos) :
    PE X (.Call (.Attribute (.Dict keys values dpos) "get" apos) [e, f] [] cpos) (tM X.K cl W (mDisGet kvs mk m)) := by
  obtain ⟨trs, vs, p1, p2, p3, p4, p5, p6⟩ := dis_pairs (pos := dpos) hd
  exact (pe_dget2 hu (pe_disp p1 p5 p4 h0 h15) hk hf hm).imp fun σ H Q q => disget_of p2 p3 (by rw [p6]; exact h15) q
end
section
variable {X : Cx} {cl : Cl} {W : WX} {a b e : Expr} {es : List Expr} {pos : Pos} {mv mv2 : S0 → R SV}
/-- a, b = x, y -/
theorem s_par {i j : Nat} {x y : Str} {px py pt : Pos} {kt k2 pt2} (hc : X.calm = true) (hN : X.N.Nodup) (hi : X.N[i]? = some x) (hj : X.N[j]? = some y) (hij : i ≠ j)
    (hx : X.env.scope.names.lookup x = some .local) (hy : X.env.scope.names.lookup y = some .local) (ha : PE X a (tV X.K cl W mv)) (hb : PE X b (tV X.K cl W mv2))
    (hw : swappedStores [.Tuple [.Name x px, .Name y py] kt pt] (.Tuple [a, b] k2 pt2) X.env = pure (some [x, y]))
    (hs : swapsWithSole [.Tuple [.Name x px, .Name y py] kt pt] (.Tuple [a, b] k2 pt2) pos.line X.env = pure false := by rfl) (hst : starEach (a :: [b]) X.env = (false, eval a X.env) :: starEach [b] X.env := by rfl) (hst2 : starEach (b :: []) X.env = (false, eval b X.env) :: starEach [] X.env := by rfl) :
    PS X (.Assign [.Tuple [.Name x px, .Name y py] kt pt] (.Tuple [a, b] k2 pt2) pos) (tS X.K cl W (sPar i j mv mv2)) :=
  (ps_par hc hN hi hj hij hx hy (pa_cons ha (pa_cons hb pa_nil hst2) hst) hw hs).imp fun D σ H q => par_of q
end
end Lf

set_option Elab.async false
set_option linter.all false
set_option maxRecDepth 100000
/-! LfD: a, b = x, y where a name is captured (a tuple is made, and taken apart). -/
namespace Lf
open PySem PySem.Spec PyProof.Rows L2 NdefX
section
variable {cl : Cl} {W : WX} {mv mv2 : S0 → R SV}
theorem parC_of {K : PySem.W.Frag} {i j : Nat} {E : Ends} {σ : L2.St} {H : Hp} (q : tS K cl W (sPar i j mv mv2) E σ H) : tAsg (tTup (tCons (tV K cl W mv) (tCons (tV K cl W mv2) tNil))) (gTup K 2 (gCons (gName i) (gCons (gName j) gNil))) E σ H := by
  obtain ⟨g, F, A, s, rl, h⟩ := q
  refine ⟨g, F, A, s, rl, PostS.ofV (R1 := rSv K g) Step.refl h fun sv s1 F1 H1 A1 v e st1 rl1 l1 h1 => ⟨g, F1, A1, s1, rl1, PostS.ofV (R1 := rSv K g) st1 h1 fun sw s2 F2 H2 A2 w e2 st2 rl2 l2 h2 => ⟨by rw [← line_eq]; unfold line; simp, fun p hp => ⟨p, [v, w], rfl, .inl (.inl upd_same), rfl, v, [w], rfl, w, [], rfl, rfl, ?_⟩⟩⟩⟩
  obtain ⟨rl3, st3, _, _, _⟩ := fresh_ok rl2 hp (.tup [v, w])
  split at h2
  · rename_i hl
    have l1' := rSv.step (rSv.step l1 st2) st3
    have l2 := rSv.step l2 st3
    obtain ⟨r3, st4⟩ := rSv.set l1' rl3 ((st1.trans st2).trans st3) (fun _ z => z) hl.1
    have l2' : rSv K g H1 (setA A2 i (owner sv v)) F2 (upd H2 p (.tup [v, w])) w sw := by
      refine ⟨l2.1, fun b z => ?_⟩
      obtain ⟨q1, q2, q3, q4, q5⟩ := l2.2 b z
      refine ⟨q1, q2, q3, q4, fun k y => ?_⟩
      by_cases ki : k = i
      · rw [ki, setA_same] at y
        have nz := (l1.2 b y).2.2.1
        exact nz (.inl q1)
      · rw [setA_ne ki] at y
        exact q5 k y
    have hj : j < (s2.ρ.set i sv).length := by simpa using hl.2
    obtain ⟨r4, st5⟩ := rSv.set (s := { s2 with ρ := s2.ρ.set i sv }) l2' r3 st4 (fun b z => st1.back z) hj
    exact h2 F2 _ _ _ st5 r4
  · exact h2.elim
end
section
variable {X : Cx} {cl : Cl} {W : WX} {a b e : Expr} {es : List Expr} {pos : Pos} {mv mv2 : S0 → R SV}
theorem s_parC {i j : Nat} {x y : Str} {px py pt : Pos} {kt k2 pt2} (hc : X.calm = true) (hN : X.N.Nodup) (hi : X.N[i]? = some x) (hj : X.N[j]? = some y)
    (hx : Loc X.env.scope x) (hy : Loc X.env.scope y) (ha : PE X a (tV X.K cl W mv)) (hb : PE X b (tV X.K cl W mv2))
    (hw : swappedStores [.Tuple [.Name x px, .Name y py] kt pt] (.Tuple [a, b] k2 pt2) X.env = pure none := by rfl)
    (hs : swapsWithSole [.Tuple [.Name x px, .Name y py] kt pt] (.Tuple [a, b] k2 pt2) pos.line X.env = pure false := by rfl) (hst : starEach (a :: [b]) X.env = (false, eval a X.env) :: starEach [b] X.env := by rfl) (hst2 : starEach (b :: []) X.env = (false, eval b X.env) :: starEach [] X.env := by rfl)
    (hfx : X.fn x = true ∨ X.env.scope.names.lookup x = some .local := by first | exact .inl rfl | exact .inr rfl | assumption) (hfy : X.fn y = true ∨ X.env.scope.names.lookup y = some .local := by first | exact .inl rfl | exact .inr rfl | assumption)
    (hp1 : (assignEach [.Name x px, .Name y py] X.env).map (·.2) = assign (.Name x px) X.env :: (assignEach [.Name y py] X.env).map (·.2) := by rfl)
    (hp2 : (assignEach [.Name y py] X.env).map (·.2) = assign (.Name y py) X.env :: (assignEach [] X.env).map (·.2) := by rfl)
    (hn : (assignEach [.Name x px, .Name y py] X.env).length = 2 := by rfl) (hf0 : (assignEach [.Name x px, .Name y py] X.env).findIdx? (·.1) = none := by rfl)
    (h1 : (assignEach [.Tuple [.Name x px, .Name y py] kt pt] X.env).map (·.2) = [assign (.Tuple [.Name x px, .Name y py] kt pt) X.env] := by rfl) :
    PS X (.Assign [.Tuple [.Name x px, .Name y py] kt pt] (.Tuple [a, b] k2 pt2) pos) (tS X.K cl W (sPar i j mv mv2)) :=
  (ps_asg (pe_tup (pa_cons ha (pa_cons hb pa_nil hst2) hst)) (pg_tup hc (pgs_cons (pg_name hN hi hx hfx) (pgs_cons (pg_name hN hj hy hfy) pgs_nil hp2) hp1) hn hf0) hs hw h1).imp fun D σ H q => parC_of q
end
end Lf

set_option Elab.async false
set_option linter.all false
set_option maxRecDepth 100000
/-! LfU: try .. except X: without a name. -/
namespace Lf
open PySem PySem.Spec PyProof.Rows L2
def sTryN (x : Str) (mb ms : MS) : MS := fun s => match mb s with
  | .exc c t s1 => (match lawSub c x with
    | some true => (match ms s1 with
      | .exc _ _ _ => .bad
      | r => r)
    | some false => .exc c t s1
    | none => .bad)
  | r => r
theorem s_tryN {X : Cx} {cl : Cl} {W : WX} {x : Str} {b₀ : Stmt} {body suite : List Stmt} {np pos pos' : Pos} {mb ms : MS} (hs : X.stack = X.env :: X.outer) (hf : X.env.frame = some X.env.locals) (EK : ErrsOk X.K cl)
    (hc : Names X x (.ref (cl x))) (tk : Takes X W)
    (hb : ∀ (W : WX) (pn : List (Addr × Obj)) (xe : Value → Shared → Prop), Takes (X.tr pn xe) W → PassesOwn (model X.prog X.w) X.A X.env xe → PSs (X.tr pn xe) body (tS X.K cl W mb))
    (hsu : ∀ (a : Addr) (oe : Obj) (cls : Value) (d : Option Addr) (pn : List (Addr × Obj)), Zc cls d oe → (∃ vs, oe.data = .fields vs) → PSs (X.suite a ((a, oe) :: pn)) (b₀ :: suite) (tS X.K cl noX ms)) :
    PS X (.Try body [.ExceptHandler (some (.Name x np)) none (b₀ :: suite) pos'] [] [] pos) (tS X.K cl W (sTryN x mb ms)) :=
  (ps_try_only (Wout := W) (ts := fun _ _ _ => tS X.K cl noX ms) hs hf hc tk hb hsu).imp fun E σ H ⟨g, F, A, s, rl, q⟩ => by
    refine ⟨g, F, A, s, rl, ?_⟩
    unfold sTryN at q
    cases em : mb s with
    | nx s' => rw [em] at q; exact q
    | rt d s' => rw [em] at q; exact q
    | bk s' => rw [em] at q; exact q
    | ct s' => rw [em] at q; exact q
    | bad => rw [em] at q; exact q
    | exc c t s1 =>
      rw [em] at q
      intro F' H' A' σ' v dp st rl' da ex
      have q : PostS X.K cl W g F H A (match lawSub c x with
        | some true => (match ms s1 with
          | .exc _ _ _ => .bad
          | r => r)
        | some false => .exc c t s1
        | none => .bad) E := q
      cases ec : lawSub c x with
      | none =>
        rw [ec] at q
        exact q.elim
      | some b =>
        rw [ec] at q
        refine ⟨b, (EK.one c x b ec).1, fun hb a na => ?_, fun hb => ?_⟩
        · subst hb
          have q : PostS X.K cl W g F H A (match ms s1 with
            | .exc _ _ _ => .bad
            | r => r) E := q
          refine ⟨g, F', A', s1, rl', ?_⟩
          cases es : ms s1 with
          | nx s2 =>
            rw [es] at q
            have q : PostS X.K cl W g F H A (.nx s2) E := q
            exact PostS.after st q
          | bk s2 =>
            rw [es] at q
            have q : PostS X.K cl W g F H A (.bk s2) E := q
            exact PostS.after st q
          | ct s2 =>
            rw [es] at q
            have q : PostS X.K cl W g F H A (.ct s2) E := q
            exact PostS.after st q
          | rt d s2 =>
            rw [es] at q
            have q : PostS X.K cl W g F H A (.rt d s2) E := q
            exact PostS.after st q
          | exc c' d' s2 => rw [es] at q; exact q.elim
          | bad => rw [es] at q; exact q.elim
        · subst hb
          have q : PostS X.K cl W g F H A (.exc c t s1) E := q
          exact q F' H' A' σ' v dp st rl' da ex
end Lf

set_option Elab.async false
set_option linter.all false
set_option maxRecDepth 100000
/-! LfV: promises where nothing is being shown (no guard stands on the stack); repr. -/
namespace Lf
open PySem PySem.Spec PyProof.Rows L2
/-- what a def keeps, where no guard stands -/
structure FnG (P : Program) (w : World) (K : PySem.W.Frag) (mg : Str → Option Value) (base : Heap) (CX : CXT) (k : Nat) (f : Addr) (fd : FuncData) (ps : List Str) (sp : Sp) : Prop where
  len : ∀ vs H Q E, sp vs H Q E → vs.length = ps.length
  run : ∀ (A : Around) (outer : List Env) (s : Shared) (H : Hp) (args : Args) (us : List Value) (vs : List V) (Q : VK) (E : XK), A.guards = some [] → Room k A → Env0 P w K mg base A outer s H → BindsTo s fd args (ps.zip us) → Vals vs us → sp vs H Q E →
    codeAny (model P w) A (.call (.ref f) args) (CR CX outer P w H s Q E) s
theorem FnOk.g {P : Program} {w : World} {K : PySem.W.Frag} {mg : Str → Option Value} {base : Heap} {CX : CXT} {k : Nat} {f : Addr} {fd : FuncData} {ps : List Str} {sp : Sp} (F : FnOk P w K mg base CX k f fd ps sp) : FnG P w K mg base CX k f fd ps sp :=
  ⟨F.len, fun A outer s H args us vs Q E _ => F.run A outer s H args us vs Q E⟩
theorem fnG_of {CX : CXT} {P : Program} {w : World} {K : PySem.W.Frag} {mg : Str → Option Value} {base : Heap} {k : Nat} {f : Addr} {name qual : Str} {params : Arguments} {body : List Stmt} {scope : Scope} {dV kV doc pm cdv ct oc : Value} {an od : Option Addr}
    {osl : Array (Option Value)} {N ps : List Str} {sp : Sp} (lk : K.lookup f = some ⟨oc, od, .func (PySem.W.fnOf name qual params body scope dV kV doc pm an cdv ct), osl⟩) (hcd : PySem.W.codeIn K cdv qual = true) (S : FnScope N ps scope)
    (len : ∀ vs H Q E, sp vs H Q E → vs.length = ps.length)
    (hbody : ∀ (A : Around) (outer : List Env) (s : Shared) (H : Hp) (vs : List V) (Q : VK) (E : XK), A.guards = some [] → Room k (A.deeper (envOfC qual scope s.heap.objs.size f cdv)) → sp vs H Q E →
      ∃ t, PSs (cxOf CX P w K mg base N qual scope f cdv A outer s H E) body t ∧ t { nx := fun _ H' => Q .non H', rt := Q } (L2.start N vs) H) :
    FnG P w K mg base CX (k + 1) f (PySem.W.fnOf name qual params body scope dV kV doc pm an cdv ct) ps sp := by
  refine ⟨len, fun A outer s H args us vs Q E hgA hr e0 hb r hsp => ?_⟩
  have hl := len _ _ _ _ hsp
  have KX : K.In s.heap := e0.mod.kin.keeps fun b o e => (e0.bs b o e).1
  have lim : s.heap.NoLimit := e0.mod.nolimit.keeps fun b o e => (e0.bs b o e).1
  have hkind : ∀ y ∈ ps.zip us, scope.names.lookup y.1 = some .local ∨ (scope.names.lookup y.1 = some .cell ∧ ((cellsFrom (s.heap.objs.size + 1) scope.names []).lookup y.1).isSome = true) := fun ⟨n, v⟩ hy => by
    rcases S.par n (List.of_mem_zip hy).1 with q | q
    · exact .inl q
    · exact .inr ⟨q, PySem.W.cellsFrom_some _ _ _ (.inl q)⟩
  refine codeAny_call_function hr.depth (KX _ _ lk) rfl S.co S.gen rfl (PySem.W.codeRec_of KX hcd) (hb _ _ _ _ ?_)
  refine wpAny_newFunctionEnv_cells S.kind hkind fun env he s1 x => ?_
  subst he
  refine ⟨lim.keeps x.toInCall.keep, codeAny_func ?_⟩
  obtain ⟨t, ht, hq⟩ := hbody A outer s H vs Q E hgA (hr.deeper _) hsp
  have I : Inv (cxOf CX P w K mg base N qual scope f cdv A outer s H E) [] (L2.start N vs) H s1 := inv_start S hr.hd e0 hl r x
  refine wpAny_mono (ht.run [] s1 (L2.start N vs) H _ I hq) (fun fl s' hs => ?_) fun e s' hs => hs
  have fin : ∀ {σ' : L2.St} {H' : Hp} {v : V} {u : Value}, Inv (cxOf CX P w K mg base N qual scope f cdv A outer s H E) [] σ' H' s' → RelV v u → Q v H' → CE outer P w H s Q u s' :=
    fun {σ' H' v u} J rv q => ⟨v, H', J.os, J.bare, J.base, J.hok, rv, q⟩
  cases fl with
  | ret u =>
    obtain ⟨v, σ', H', J, rv, q⟩ := hs
    exact fin J rv q
  | next =>
    obtain ⟨σ', H', J, q⟩ := hs
    exact fin (v := V.non) (u := Value.none) J rfl q
  | brk =>
    obtain ⟨_, _, _, q⟩ := hs
    exact False.elim q
  | cont =>
    obtain ⟨_, _, _, q⟩ := hs
    exact False.elim q
/-- a def keeps what its mirror says, where no guard stands -/
theorem okMG {P : Program} {w : World} {K : PySem.W.Frag} {mg : Str → Option Value} {base : Heap} {x qual : Str} {params : Arguments} {body : List Stmt} {scope : Scope} {dvs : List V} {kws : List (Str × V)} {f : Addr} {fd : FuncData} {N ps : List Str} {k pad : Nat} {cl : Cl} {mb : MS}
    (F : FunD K x qual params body scope dvs kws f fd) (S : FnScope N ps scope) (hn : ps.length + pad = N.length)
    (hb : ∀ (cdv : Value) (A : Around) (outer : List Env) (s : Shared) (H : Hp) (E : XK), (cxOf (L2.CX P w) P w K mg base N qual scope f cdv A outer s H E).A.guards = some [] → Room k (A.deeper (envOfC qual scope s.heap.objs.size f cdv)) →
      PSs (cxOf (L2.CX P w) P w K mg base N qual scope f cdv A outer s H E) body (tS K cl (fun c d _ H => E c d H) mb)) : FnG P w K mg base (L2.CX P w) (k + 1) f fd ps (spM K cl ps.length (fnM mb pad)) := by
  obtain ⟨oc, od, dV, kV, doc, pm, an, cdv, ct, osl, rfl, lk, hcd, _, _⟩ := F.ex
  refine fnG_of lk hcd S spM_len fun A outer s H vs Q E hgA hr h => ⟨_, hb cdv A outer s H E hgA hr, ?_⟩
  have hl := spM_len vs H Q E h
  obtain ⟨g, F0, s0, h1, h2, h3⟩ := h
  have e1 : N.length - vs.length = pad := by rw [hl]; omega
  have r2 := h2.pad pad
  refine ⟨g, F0, noA, _, (by unfold L2.start; rw [e1]; exact r2), ?_⟩
  unfold fnM at h3
  cases e : mb { s0 with ρ := s0.ρ ++ List.replicate pad .unk } with
  | nx s' =>
    rw [e] at h3
    exact fun F' H' A' σ' st rl => h3 F' H' .non (step_drop st) rl.same rl.dkr .non
  | rt d s' =>
    rw [e] at h3
    exact fun F' H' A' σ' v st rl da => h3 F' H' v (step_drop st) rl.same rl.dkr da
  | exc c d s' =>
    rw [e] at h3
    exact fun F' H' A' σ' v dp st rl da ex => h3 F' H' v dp (step_drop st) rl.same rl.dkr da ex
  | bk s' => rw [e] at h3; exact h3.elim
  | ct s' => rw [e] at h3; exact h3.elim
  | bad => rw [e] at h3; exact h3.elim
section
variable {X : Cx} {CX : CXT} {k : Nat} {f : Addr} {fd : FuncData} {ps : List Str} {sp : Sp} {E : L2.St → XK} {x : Str} {p pos : Pos} {e : Expr} {es : List Expr} {t : TA}
theorem run_fnG {pins : List (Addr × Obj)} {σ : L2.St} {H : Hp} {s : Shared} {Q : VK} {us : List Value} {vs : List V} (F : FnG X.prog X.w X.K X.mg X.base CX k f fd ps sp) (hgA : X.A.guards = some []) (hr : Room k X.A) (hb : Binds X.K fd ps []) (hx : PassesAt CX X σ (E σ))
    (I : Inv X pins σ H s) (r : Vals vs us) (h : sp vs H Q (E σ)) : wpAny (model X.prog X.w) X.A (PySem.call (.ref f) us) (EP X pins σ Q) X.xe s := by
  have hl : us.length = ps.length := by rw [← r.length]; exact F.len _ _ _ _ h
  have b := hb s us I.kIn (by rw [List.append_nil]; exact hl)
  rw [List.append_nil] at b
  refine wpAny_call (codeAny_mono (F.run X.A X.stack s H ⟨us, []⟩ us vs Q (E σ) hgA hr I.env0 b r h) fun r s' hq => ?_)
  cases r with
  | error e => exact hx pins H s e s' I hq
  | ok fl =>
    cases fl with
    | ret u => exact I.after hq
    | next => exact False.elim hq
    | brk => exact False.elim hq
    | cont => exact False.elim hq
theorem pe_callG' (F : FnG X.prog X.w X.K X.mg X.base CX k f fd ps sp) (hgA : X.A.guards = some []) (hr : Room k X.A) (hg : Gl X x) (hm : X.mg x = some (.ref f)) (hk : PySem.W.keepIn X.K (.ref f) = true) (hb : Binds X.K fd ps []) (hx : ∀ σ, PassesAt CX X σ (E σ))
    (ha : PA X (e :: es) t) (hdb : (x == ("__debug__" : Str)) = false := by decide) (he : starEach (e :: es) X.env = (false, eval e X.env) :: starEach es X.env := by rfl) (hpl : (backTo pos (starEach es X.env)).any (·.1) = false := by rfl) :
    PE X (.Call (.Name x p) (e :: es) [] pos) (tCallS sp E t) := by
  refine ⟨fun pins s σ H Q I h => ?_⟩
  refine wpAny_Call_Name_kw (ld_glob I hg hm ?_ hdb)
  refine PySem.W.callWith_K (h₀ := X.base) I.ok.mod.kin hk (thn (ha.run pos pins s σ H _ I h) fun us s1 ⟨vs, H1, I1, r, q⟩ => ⟨I1.kIn, ?_⟩) he hpl
  exact run_fnG F hgA hr hb (hx σ) I1 r q
end
section
variable {X : Cx} {cl : Cl} {W : WX} {a b e : Expr} {es : List Expr} {os : List Ag} {pos : Pos}
theorem e_callFG {k : Nat} {f : Addr} {fd : FuncData} {ps : List Str} {mf : S0 → RF} {x : Str} {p : Pos} (G : FnG X.prog X.w X.K X.mg X.base (L2.CX X.prog X.w) k f fd ps (spM X.K cl ps.length mf)) (hgA : X.A.guards = some []) (hr : Room k X.A) (hg : Gl X x) (hm : X.mg x = some (.ref f)) (hk : PySem.W.keepIn X.K (.ref f) = true) (hb : Binds X.K fd ps []) (tk : Takes X W)
    (ha : PA X (e :: es) (tAgs X.K cl W os)) (hl : os.length = ps.length := by rfl) (hdb : (x == ("__debug__" : Str)) = false := by decide) (he : starEach (e :: es) X.env = (false, eval e X.env) :: starEach es X.env := by rfl) (hpl : (backTo pos (starEach es X.env)).any (·.1) = false := by rfl) :
    PE X (.Call (.Name x p) (e :: es) [] pos) (tM X.K cl W (mCall mf os)) := (pe_callG' G hgA hr hg hm hk hb (fun σ => passAt tk σ) ha hdb he hpl).imp fun σ H Q q => call_of hl q
end
/-! ### repr of lists and tuples -/
mutual
theorem noDict_has : ∀ d : D, noDict d = true → d.hasDict = false
  | .none, _ => by simp only [PyData.hasDict]
  | .bool _, _ => by simp only [PyData.hasDict]
  | .int _, _ => by simp only [PyData.hasDict]
  | .str _, _ => by simp only [PyData.hasDict]
  | .list xs, h => by
    simp only [PyData.hasDict]
    exact noDicts_has xs (by simpa [noDict] using h)
  | .tuple xs, h => by
    simp only [PyData.hasDict]
    exact noDicts_has xs (by simpa [noDict] using h)
  | .dict _, h => by simp [noDict] at h
theorem noDicts_has : ∀ ds : List D, noDicts ds = true → PyData.hasDictAll ds = false
  | [], _ => by simp only [PyData.hasDictAll]
  | d :: r, h => by
    simp [noDicts] at h
    simp only [PyData.hasDictAll]
    rw [noDict_has d h.1, noDicts_has r h.2] <;> rfl
end
def rRepr (K : PySem.W.Frag) : List V → Hp → VK → Prop := fun xs H Q => ∃ (d : D) (a : Addr), xs = [.ref a] ∧ Dp K H (.ref a) d ∧ d.showable = true ∧ noDict d = true ∧ d.depth ≤ 100 ∧ d.shown.length ≤ sizeLine ∧ Q (.str d.shown) H
theorem cr_repr {X : Cx} (hgA : X.A.guards = some []) (hu : X.A.units + 101 < cLine) : CallR X (.builtin "repr") (rRepr X.K) := by
  intro pins s σ H xs us Q I r h
  obtain ⟨d, a, rfl, h1, h2, h3, h4, h5, q⟩ := h
  obtain ⟨u, rfl, rx⟩ := vals1 r
  obtain rfl : u = .ref a := rx
  obtain ⟨as, rd⟩ := Dp.reads I d _ _ h1 (show RelV (.ref a) (.ref a) from rfl)
  refine repr_of_reads' rd h2 (PyData.noDict_hsm (noDict_has d h3)) hgA (by omega) (fun b o e => e) (fun h' t tk hk => ?_) h5
  exact ⟨.str d.shown, H, I.kept hk, ⟨_, rfl⟩, q⟩
def dRepr : List D → Option D
  | [d] => if (items d).isSome && (d.showable && (noDict d && decide (d.depth ≤ 100 ∧ d.shown.length ≤ line))) then some (.str d.shown) else none
  | _ => none
theorem v_repr {K : PySem.W.Frag} : VR K (rRepr K) dRepr := by
  intro F H vs ds d Q e l hf q
  unfold dRepr at hf
  split at hf
  · rename_i d'
    obtain ⟨x, rfl, p1⟩ := pk1 l
    split at hf
    · rename_i hc
      cases hf
      simp only [Bool.and_eq_true, decide_eq_true_eq] at hc
      obtain ⟨c1, c2, c3, c4, c5⟩ := hc
      have da : Da K H x d' := p1.all e
      have : ∃ a, x = .ref a := by
        cases da <;> first | exact ⟨_, rfl⟩ | (simp [items] at c1)
      obtain ⟨a, rfl⟩ := this
      exact ⟨d', a, rfl, da.dp c3, c2, c3, c4, by rw [← line_eq]; exact c5, ret0 e q (.str _)⟩
    · cases hf
  · cases hf
end Lf

set_option Elab.async false
set_option linter.all false
set_option maxRecDepth 100000
set_option maxHeartbeats 2000000
/-! LfW: the end of a law, from a promise that holds where no guard stands. -/
namespace LamX
open PySem PySem.Spec PyProof.Rows L2
theorem law_callTsG {P : Program} {w : World} {K : PySem.W.Frag} {mg mb : Str → Option Value} {CX : CXT} {k : Nat} {fa a : Addr} {cs : List (Addr × Addr)} {fd : FuncData} {x : Str} {sp : Sp} {s₁ : Shared} {vs : List Value} {ns : List Int}
    (KX : K.In s₁.heap) (hns : s₁.heap.Ns mainGlobals mg) (hb : s₁.heap.Ns builtinsNs mb) (hbb : ∀ x : Str, x ≠ "__name__" → mb x = bootBuiltins x) (hlim : s₁.heap.NoLimit) (hg : s₁.gens = #[])
    (hT : ∀ p ∈ cs, s₁.heap.get? p.2 = some { cls := .none, data := .fields #[] }) (nT : ∀ p ∈ cs, K.lookup p.2 = none) (C : ∀ p ∈ cs, PySem.W.CodeHd s₁.heap p.1 p.2)
    (hbm : ∃ (bm : Addr) (ob : Obj), mg "__builtins__" = some (.ref bm) ∧ bm ≠ builtinsNs ∧ s₁.heap.get? bm = some ob ∧ ob.cls = .type "module" ∧ ob.dict = some builtinsNs ∧ ob.data = .plain)
    (ha : s₁.heap.get? a = some { cls := .type "list", data := .seq vs.toArray }) (hi : IntsAre vs ns) (hl : ns.length ≤ sizeLine) (hr : Room k callerA)
    (F : ∀ base : Heap, K.In base → base.Ns mainGlobals mg → (∀ p ∈ cs, TabB base mg p.1 p.2) → Lf.FnG P w K mg base CX k fa fd [x] sp) (hbind : ∀ (s : Shared) (u : Value), BindsTo s fd ⟨[u], []⟩ [(x, u)])
    (hsp : ∀ H : Hp, (∀ p ∈ cs, H p.2 = some (.tbl #[])) → SqL K H a (ns.map V.int) → sp [.ref a] H (fun v _ => v = .bl true) fun _ _ _ => False)
    (hCX : ∀ H e s', CX [] H s₁ (fun _ _ _ => False) e s' → False) :
    codeAny (model P w) callerA (.call (.ref fa) ⟨[.ref a], []⟩) (fun r s' => r = .ok (.ret (.bool true)) ∧ OldK s₁.heap s'.heap ∧ s'.os = s₁.os ∧ AllBare s'.gens) s₁ := by
  have rv := vals_ints hi
  have lenV := hi.length
  have isT : ∀ b : Addr, b ∈ cs.map (·.2) → s₁.heap.get? b = some { cls := .none, data := .fields #[] } := fun b hb => by
    obtain ⟨p, hp, e⟩ := List.mem_map.mp hb
    rw [← e]
    exact hT p hp
  have aT : a ∉ cs.map (·.2) := fun z => by
    have q := isT a z
    rw [ha] at q
    have z' : Data.seq vs.toArray _ = Data.fields #[] := congrArg Obj.data (Option.some.inj q)
    cases z'
  have memT : ∀ p ∈ cs, p.2 ∈ cs.map (·.2) := fun p hp => List.mem_map.mpr ⟨p, hp, rfl⟩
  -- from an abstract heap in which nothing but the script and the tables may be tracked
  have core : ∀ H : Hp, (∀ p ∈ cs, H p.2 = some (.tbl #[])) → (∀ b, H b = none ∨ b ∈ cs.map (·.2) ∨ ∃ o xs, H b = some (.frz o (.lst xs))) → SqL K H a (ns.map V.int) → HOk P w H s₁.heap → (∀ b, H b ≠ none → b = a ∨ b ∈ cs.map (·.2)) → (H a ≠ none → K.lookup a = none) →
      codeAny (model P w) callerA (.call (.ref fa) ⟨[.ref a], []⟩) (fun r s' => r = .ok (.ret (.bool true)) ∧ OldK s₁.heap s'.heap ∧ s'.os = s₁.os ∧ AllBare s'.gens) s₁ := by
    intro H hH hO hS hok hA hK
    have base_of : ∀ {b : Addr} {o : Obj}, s₁.heap.get? b = some o → H b = none → (hidT s₁.heap H).get? b = some o := fun e n => hidT_get e n
    have noD : ∀ {b : Addr} {o : Obj}, s₁.heap.get? b = some o → (∀ vs n, o.data ≠ .seq vs n) → o.data ≠ .fields #[] → H b = none := fun {b o} e h1 h2 => by
      cases q : H b with
      | none => rfl
      | some u =>
        rcases hA b (by rw [q]; simp) with e' | e'
        · rw [e', ha] at e
          cases e
          exact (h1 _ _ rfl).elim
        · rw [isT b e'] at e
          cases e
          exact (h2 rfl).elim
    have noA : ∀ {b : Addr} {o : Obj} {es : Array DictEntry} {ep : Nat}, s₁.heap.get? b = some o → o.data = .dict es ep → H b = none := fun {b o es ep} e d => by
      refine noD e (fun vs n z => ?_) fun z => ?_
      · rw [d] at z
        cases z
      · rw [d] at z
        cases z
    have nsK : ∀ {b : Addr} {m : Str → Option Value}, s₁.heap.Ns b m → (hidT s₁.heap H).Ns b m := fun {b m} ⟨o, es, ep, e, d, r⟩ => ⟨o, es, ep, base_of e (noA e d), d, r⟩
    have hKb : K.In (hidT s₁.heap H) := fun b o e => base_of (KX b o e) (by
      cases q : H b with
      | none => rfl
      | some u =>
        rcases hA b (by rw [q]; simp) with e' | e'
        · rw [e'] at e q
          rw [hK (by rw [q]; simp)] at e
          cases e
        · obtain ⟨p, hp, ep⟩ := List.mem_map.mp e'
          rw [← ep, nT p hp] at e
          cases e)
    have hM : L2.Mod K mg (hidT s₁.heap H) := ⟨hKb, nsK hns, ⟨mb, nsK hb, hbb⟩, let ⟨mc, h1, h2⟩ := hlim; ⟨mc, nsK h1, h2⟩⟩
    have TB : ∀ p ∈ cs, TabB (hidT s₁.heap H) mg p.1 p.2 := fun p hp => by
      have hTp := hT p hp
      refine ⟨?_, ?_, fun z => ?_⟩
      · obtain ⟨o, us, file, tf, flags, tg, inF, text, tt, e1, r1, r2, r3, r4, r5, r6, r7, r8, hne⟩ := C p hp
        refine ⟨o, us, file, tf, flags, tg, inF, text, tt, base_of e1 (noD e1 (fun vs n z => ?_) fun z => ?_), r1, r2, r3, r4, r5, r6, r7, r8, hne⟩
        · rw [r2] at z
          cases z
        · rw [r2] at z
          cases z
          simp at r3
      · obtain ⟨bm, ob, b1, b2, b3, b4, b5, b6⟩ := hbm
        have nG : bm ≠ mainGlobals := fun q => by
          obtain ⟨o, es, ep, e, hd, _⟩ := hns
          rw [q, e] at b3
          cases b3
          rw [hd] at b6
          cases b6
        have nP : bm ≠ p.2 := fun q => by
          rw [q, hTp] at b3
          cases b3
          cases b6
        refine ⟨bm, ob, b1, b2, nG, nP, base_of b3 (noD b3 (fun vs n z => ?_) fun z => ?_), b4, b5, b6⟩
        · rw [b6] at z
          cases z
        · rw [b6] at z
          cases z
      · obtain ⟨o, es, ep, e, hd, _⟩ := hns
        rw [z, hTp] at e
        cases e
        cases hd
    have e0 : Env0 P w K mg (hidT s₁.heap H) callerA [] s₁ H := ⟨rfl, hM, fun b o e => of_hidT e, Nat.le_of_eq (hidT_size _ _), trivial, fun b hb => absurd (show b ∈ ([] : List Addr) from hb) (by simp), hok, .of_eq hg⟩
    refine codeAny_mono ((F _ hKb (nsK hns) TB).run callerA [] s₁ H ⟨[.ref a], []⟩ [.ref a] [.ref a] _ _ rfl hr e0 (hbind s₁ (.ref a)) (.cons rfl .nil) (hsp H hH hS)) fun r s' h => ?_
    cases r with
    | error e => exact (hCX H e s' h).elim
    | ok fl =>
      cases fl with
      | next => exact False.elim h
      | brk => exact False.elim h
      | cont => exact False.elim h
      | ret u =>
        obtain ⟨v, H', os, bare, un, hok', r', q⟩ := h
        have q' : v = .bl true := q
        subst q'
        obtain rfl : u = Value.bool true := r'
        have key : ∀ b o, b ∉ cs.map (·.2) → s₁.heap.get? b = some o → s'.heap.get? b = some o := fun b o nb e => by
          cases q : H b with
          | none => exact un.keep b o e q (by intro z; exact absurd (show b ∈ ([] : List Addr) from z) (by simp)) (by simp)
          | some u =>
            rcases hO b with z | z | ⟨ob, xs, z⟩
            · rw [q] at z; cases z
            · exact absurd z nb
            · have z2 := un.frzs b ob _ z
              obtain ⟨e1, _⟩ := hok b _ z
              obtain ⟨e2, _⟩ := hok' b _ z2
              rw [e] at e1; cases e1
              exact e2
        have grown : ∀ p ∈ cs, ∃ more : Array Value, s'.heap.get? p.2 = some { cls := .none, data := .fields more } := fun p hp => by
          obtain ⟨more, z⟩ := un.tbls p.2 #[] (hH p hp)
          exact ⟨_, hok' p.2 _ z⟩
        refine ⟨rfl, ⟨fun b o e => ?_, fun b o e => ?_⟩, os, bare⟩
        · by_cases hb : b ∈ cs.map (·.2)
          · obtain ⟨p, hp, ep⟩ := List.mem_map.mp hb
            obtain ⟨more, hm⟩ := grown p hp
            rw [← ep] at e ⊢
            rw [hT p hp] at e
            cases e
            exact .inr (.inl ⟨((C p hp).tab (hT p hp)).isCodeTable, rfl, #[], more, rfl, by rw [Array.empty_append]; exact hm⟩)
          · exact .inl (key b o hb e)
        · by_cases hb : b ∈ cs.map (·.2)
          · obtain ⟨p, hp, ep⟩ := List.mem_map.mp hb
            obtain ⟨more, hm⟩ := grown p hp
            rw [← ep]
            exact ⟨_, hm⟩
          · exact ⟨o, key b o hb e⟩
  cases hk : K.lookup a with
  | some o =>
    have e := KX a o hk
    rw [ha] at e
    cases e
    refine core (fun b => if b ∈ cs.map (·.2) then some (.tbl #[]) else none) (fun p hp => if_pos (memT p hp)) (fun b => ?_) (.inr ⟨_, vs.toArray, _, hk, rfl, rfl, rfl, by rw [List.size_toArray, lenV]; exact hl, by simpa using rv⟩) (fun b u z => ?_) (fun b z => ?_) fun z => absurd (show (if a ∈ cs.map (·.2) then some (HO.tbl #[]) else none) = none from if_neg aT) z
    · by_cases hb : b ∈ cs.map (·.2)
      · exact .inr (.inl hb)
      · exact .inl (if_neg hb)
    · by_cases hb : b ∈ cs.map (·.2)
      · have z' := (if_pos hb).symm.trans z
        cases z'
        exact isT b hb
      · have z' := (if_neg hb).symm.trans z
        cases z'
    · by_cases hb : b ∈ cs.map (·.2)
      · exact .inr hb
      · exact absurd (if_neg hb) z
  | none =>
    refine core (fun b => if b = a then some (.frz { cls := .type "list", data := .seq vs.toArray } (.lst (ns.map V.int))) else if b ∈ cs.map (·.2) then some (.tbl #[]) else none) (fun p hp => (if_neg (show ¬ p.2 = a from fun z => aT (by rw [← z]; exact memT p hp))).trans (if_pos (memT p hp))) (fun b => ?_)
      (.inl (.inr ⟨{ cls := .type "list", data := .seq vs.toArray }, if_pos rfl⟩)) (fun b u z => ?_) (fun b z => ?_) fun _ => hk
    · by_cases hb : b = a
      · exact .inr (.inr ⟨_, _, if_pos hb⟩)
      · by_cases hb2 : b ∈ cs.map (·.2)
        · exact .inr (.inl hb2)
        · exact .inl ((if_neg hb).trans (if_neg hb2))
    · by_cases hb : b = a
      · have z' := (if_pos hb).symm.trans z
        cases z'
        rw [hb]
        exact ⟨ha, by rw [List.length_map]; exact hl, vs, _, rv, ha⟩
      · have z1 := (if_neg hb).symm.trans z
        by_cases hb2 : b ∈ cs.map (·.2)
        · have z' := (if_pos hb2).symm.trans z1
          cases z'
          exact isT b hb2
        · have z' := (if_neg hb2).symm.trans z1
          cases z'
    · by_cases hb : b = a
      · exact .inl hb
      · by_cases hb2 : b ∈ cs.map (·.2)
        · exact .inr hb2
        · exact absurd ((if_neg hb).trans (if_neg hb2)) z
/-- the law at a head -/
def LawAtG (l : PySem.W.OpenLaw) (w : World) (K : PySem.W.Frag) (CX : CXT) (k n : Nat) (x : Str) (mg : Str → Option Value) (fa : Addr) (h : Heap) : Prop :=
  ∃ (fd : FuncData) (cs : List (Addr × Addr)) (sp : Sp), (∀ p ∈ cs, h.get? p.2 = some { cls := .none, data := .fields #[] }) ∧ (∀ p ∈ cs, K.lookup p.2 = none) ∧ (∀ p ∈ cs, PySem.W.CodeHd h p.1 p.2) ∧ (∀ (s : Shared) (u : Value), BindsTo s fd ⟨[u], []⟩ [(x, u)]) ∧
    (∀ (H : Hp) (a : Addr) (ns : List Int), ns.length ≤ n → (∀ z ∈ ns, Builtin.Int.intBits z ≤ 1048576) → (∀ p ∈ cs, H p.2 = some (.tbl #[])) → SqL K H a (ns.map V.int) → sp [.ref a] H (fun v _ => v = .bl true) fun _ _ _ => False) ∧
    ∀ base : Heap, K.In base → base.Ns mainGlobals mg → (∀ p ∈ cs, TabB base mg p.1 p.2) → Lf.FnG l.prog w K mg base CX k fa fd [x] sp
theorem walk_ofTsG {l : PySem.W.OpenLaw} {n k : Nat} {q : Program} {loose : List Str} {XP : (Str → Option Value) → Heap → Prop} {YP : World → Heap → Prop} {d : DefRec} {CX : World → CXT} {x : Str}
    (hn : l.most = some n) (hn2 : n ≤ sizeLine) (hdf : d.params.defaults = []) (hr : Room k callerA)
    (F : ∀ (w : World) (mg : Str → Option Value) (fa : Addr) (h : Heap), YP w h → h.Ns mainGlobals mg → mg d.name = some (.ref fa) → ∃ K : PySem.W.Frag, K.In h ∧ LawAtG l w K (CX w) k n x mg fa h)
    (hCX : ∀ (w : World) (H : Hp) (s : Shared) (e : Value) (s' : Shared), CX w [] H s (fun _ _ _ => False) e s' → False) :
    PySem.W.WalkO q loose XP YP l.row.toRowW d [] (fun f vs => PySem.call f vs) := by
  refine Att.attach_callB hn hdf fun w s₀ s₁ mg mb fa o pm cd doc a vs ns G Y ho hd hcd hmg hobj hints hlen hbits hg => ?_
  obtain ⟨K, KX, fd, cs, sp, hT, nT, C, hb, hsp, hF⟩ := F w mg fa _ Y G.T.g hmg
  exact law_callTsG KX G.T.g G.T.b G.T.builtins G.T.nolimit hg hT nT C G.T.bmain hobj hints (Nat.le_trans hlen hn2) hr hF hb (fun H hH hS => hsp H a ns hlen hbits hH hS) fun H e s' => hCX w H s₁ e s'
end LamX

set_option Elab.async false
set_option linter.all false
set_option maxRecDepth 100000
/-! LfX: the deck: its numbers, its list. -/
namespace Lf
open PySem PySem.Spec PyProof.Rows L2
section
variable {K : PySem.W.Frag} {g : Gd} {F H : Hp} {A : Nat → Option Addr} {s : S0} {σ : L2.St} {k k' : Deck}
theorem Rel.dkT (rl : Rel K g F H A s σ) (hk : s.dk = some k) : g.b = true := by
  rw [← rl.dkb, hk] <;> rfl
theorem Rel.notT (rl : Rel K g F H A s σ) {a : Addr} {o : HO} (ha : H a = some o) (ho : ∀ z, o ≠ .tbl z) : ∀ p ∈ g.T, p.1 ≠ a := fun p hp e => by
  obtain ⟨_, ps, h1, _⟩ := rl.tab.2 p hp
  rw [e, ha] at h1
  exact ho _ (Option.some.inj h1)
theorem Rel.wrDk (rl : Rel K g F H A s σ) (hk : s.dk = some k) {a : Addr} {o o0 : HO} (ha : a = g.ad ∨ a = g.l) (h0 : H a = some o0) (nt : ∀ z, o0 ≠ .tbl z) (ne : ∀ z, o0 ≠ .ext z) (nf : ¬ fzO o) (d' : DeckOk F (upd H a o) g.ad g.l k') :
    Rel K g F (upd H a o) A { s with dk := some k' } σ ∧ Step g F H A F (upd H a o) A := by
  have hd : isDk g a := .inl ⟨rl.dkT hk, ha⟩
  have q := rl.deck k hk
  have fa : F a = none := by
    rcases ha with e | e
    · rw [e]; exact q.fa
    · rw [e]; exact q.fl
  have nA : ∀ j b, A j = some b → b ≠ a := fun j b h z => (rl.own j b h).2.2 (z ▸ hd)
  refine ⟨⟨fun b u h => ?_, rl.len, fun i sv h => ?_, fun i b h => ?_, rl.sep, (rl.dkT hk).symm, fun x hx => ?_, rl.tab.1, fun p hp => ?_⟩, ⟨Same.refl F, fun b h => .inl h, fun b u h n nd => ?_, fun i b h => .inl ⟨i, h⟩, fun b h => ?_⟩⟩
  · rw [upd_ne (ne_of_none h fa)]
    exact rl.same _ _ h
  · exact (rl.slot i sv h).mono (Same.refl F) fun b u hb hu => by
      rw [upd_ne (nA i b hb)]
      exact hu
  · obtain ⟨h1, h2, h3⟩ := rl.own i b h
    refine ⟨h1, fun z => h2 ?_, h3⟩
    rcases z with z | ⟨u, z, hz⟩
    · rw [upd_ne (nA i b h)] at z
      exact .inl z
    · rw [upd_ne (nA i b h)] at z
      exact .inr ⟨u, z, hz⟩
  · cases hx
    exact d'
  · obtain ⟨h1, ps, h2, h3, h4⟩ := rl.tab.2 p hp
    have np := rl.notT h0 nt p hp
    refine ⟨h1, ps, ?_, h3, fun pos cv e => ?_⟩
    · rw [upd_ne np]
      exact h2
    · obtain ⟨c, e1, e2⟩ := h4 pos cv e
      refine ⟨c, e1, ?_⟩
      rw [upd_ne (fun z => ne _ (Option.some.inj (h0.symm.trans (z ▸ e2))))]
      exact e2
  · rw [upd_ne (fun z => nd (by rw [z]; exact hd))]
    exact h
  · by_cases z : b = a
    · rw [z, upd_same]
      simp
    · rw [upd_ne z]
      exact h
/-- the deck's dict is written -/
theorem Rel.wrAd (rl : Rel K g F H A s σ) (hk : s.dk = some k) (hl : k'.left = k.left) : Rel K g F (upd H g.ad (deckO g.l k')) A { s with dk := some k' } σ ∧ Step g F H A F (upd H g.ad (deckO g.l k')) A := by
  have q := rl.deck k hk
  refine rl.wrDk hk (.inl rfl) q.ha (fun z => by unfold deckO; simp) (fun z => by unfold deckO; simp) id ⟨q.ne, q.fa, q.fl, upd_same, ?_⟩
  rw [upd_ne (Ne.symm q.ne), hl]
  exact q.hl
/-- its list is written -/
theorem Rel.wrL (rl : Rel K g F H A s σ) (hk : s.dk = some k) {ns : List Int} : Rel K g F (upd H g.l (.lst (ns.map V.int))) A { s with dk := some { k with left := ns } } σ ∧ Step g F H A F (upd H g.l (.lst (ns.map V.int))) A := by
  have q := rl.deck k hk
  refine rl.wrDk hk (.inr rfl) q.hl (fun z => by simp) (fun z => by simp) id ⟨q.ne, q.fa, q.fl, ?_, upd_same⟩
  rw [upd_ne q.ne]
  exact q.ha
theorem Rel.atDk (rl : Rel K g F H A s σ) {i : Nat} (h : s.ρ[i]? = some .deck) : σ[i]? = some (some (.ref g.ad)) := (rl.slot i _ h).2
end
def isDeck : Option SV → Bool
  | some .deck => true
  | _ => false
theorem isDeck_eq {o : Option SV} (h : isDeck o = true) : o = some .deck := by
  unfold isDeck at h
  split at h
  · rfl
  · cases h
def fldOf (k : Deck) (f : Str) : Option Int := if f = "draws" then some k.draws else if f = "mixed" then some k.mixed else none
/-- deck['draws'], deck['mixed'] -/
def mDkI (i : Nat) (f : Str) : S0 → R D := fun s => if isDeck s.ρ[i]? then (match s.dk with
  | some k => (match fldOf k f with
    | some z => .ok (.int z) s
    | none => .bad)
  | none => .bad) else .bad
/-- deck['draws'] = e -/
def sDkPut (i : Nat) (m : S0 → R D) : MS := fun s => (m s).toS fun d s1 => if isDeck s1.ρ[i]? then (match d, s1.dk with
  | .int z, some k => .nx { s1 with dk := some { k with draws := z } }
  | _, _ => .bad) else .bad
/-- deck['left'] != [] -/
def mDkNe (i : Nat) : S0 → R D := fun s => if isDeck s.ρ[i]? then (match s.dk with
  | some k => .ok (.bool (!k.left.isEmpty)) s
  | none => .bad) else .bad
/-- deck['left'].pop() -/
def mDkPop (i : Nat) : S0 → R D := fun s => if isDeck s.ρ[i]? then (match s.dk with
  | some k => (match k.left[k.left.length - 1]? with
    | some z => .ok (.int z) { s with dk := some { k with left := k.left.dropLast } }
    | none => .bad)
  | none => .bad) else .bad
/-- deck['left'].append(e) -/
def mDkApp (i : Nat) (m : S0 → R D) : S0 → R D := fun s => if isDeck s.ρ[i]? then (match s.dk with
  | some _ => (m s).bind fun d s1 => (match d, s1.dk with
    | .int z, some k => if k.left.length < line then .ok .none { s1 with dk := some { k with left := k.left ++ [z] } } else .bad
    | _, _ => .bad)
  | none => .bad) else .bad
section
variable {K : PySem.W.Frag} {cl : Cl} {W : WX} {m : S0 → R D} {i : Nat} {σ : L2.St} {H : Hp} {Q : VK}
theorem dk_left {K : PySem.W.Frag} {g : Gd} {F H : Hp} {A : Nat → Option Addr} {s : S0} {k : Deck} (rl : Rel K g F H A s σ) (hk : s.dk = some k) : DGet H g.ad (.str "left") (some (.ref g.l)) :=
  .inl ⟨_, .inr "left", .inl (rl.deck k hk).ha, rfl, rfl⟩
theorem dki_of {f : Str} (q : tM K cl W (mDkI i f) σ H Q) : tDGet (tVar i) (tC (.str f)) σ H Q := by
  obtain ⟨g, F, A, s, rl, h⟩ := q
  unfold mDkI at h
  split at h
  · rename_i hd
    split at h
    · rename_i k hk
      split at h
      · rename_i z hz
        refine ⟨_, rl.atDk (isDeck_eq hd), g.ad, .int z, rfl, .inl ⟨_, .inr f, .inl (rl.deck k hk).ha, rfl, ?_⟩, h F H A _ .refl rl (.int z)⟩
        unfold fldOf at hz
        split at hz
        · rename_i e
          subst e
          cases hz
          rfl
        · split at hz
          · rename_i e
            subst e
            cases hz
            rfl
          · cases hz
      · exact h.elim
    · exact h.elim
  · exact h.elim
theorem dkput_of {E : Ends} (q : tS K cl W (sDkPut i m) E σ H) : sDPut (tVar i) (tC (.str "draws")) (tM K cl W m) E σ H := by
  obtain ⟨g, F, A, s, rl, h⟩ := q
  refine ⟨g, F, A, s, rl, PostS.ofE (R1 := rDa K) h fun d s1 F' H' A' v e st rl' l h' => ?_⟩
  split at h'
  · rename_i hd
    split at h'
    · rename_i z k hk
      cases (show v = .int z from Da.int_eq l)
      obtain ⟨r2, st2⟩ := rl'.wrAd (k' := { k with draws := z }) hk rfl
      refine ⟨_, rl'.atDk (isDeck_eq hd), g.ad, _, rfl, .inl ⟨_, .inr "draws", (rl'.deck k hk).ha, rfl, (by show 3 < sizeLine; decide), ?_⟩, h' _ _ _ _ st2 r2⟩
      rfl
    · exact h'.elim
  · exact h'.elim
theorem dkpop_of (q : tM K cl W (mDkPop i) σ H Q) : tBM0 K "list" rPop (tDGet (tVar i) (tC (.str "left"))) σ H Q := by
  obtain ⟨g, F, A, s, rl, h⟩ := q
  unfold mDkPop at h
  split at h
  · rename_i hd
    split at h
    · rename_i k hk
      split at h
      · rename_i z hz
        have hl := (rl.deck k hk).hl
        obtain ⟨r2, st2⟩ := rl.wrL (ns := k.left.dropLast) hk
        refine ⟨_, rl.atDk (isDeck_eq hd), g.ad, _, rfl, dk_left rl hk, tyV_lst hl, g.l, _, .int z, rfl, rfl, hl, ?_, ?_⟩
        · rw [List.length_map, List.getElem?_map, hz] <;> rfl
        · have e : (k.left.map V.int).dropLast = k.left.dropLast.map V.int := by rw [List.map_dropLast]
          rw [e]
          exact h _ _ _ _ st2 r2 (.int z)
      · exact h.elim
    · exact h.elim
  · exact h.elim
theorem dkapp_of (q : tM K cl W (mDkApp i m) σ H Q) : tBM K "list" rAppend (tDGet (tVar i) (tC (.str "left"))) (tCons (tM K cl W m) tNil) σ H Q := by
  obtain ⟨g, F, A, s, rl, h⟩ := q
  unfold mDkApp at h
  split at h
  · rename_i hd
    split at h
    · rename_i k hk
      refine ⟨_, rl.atDk (isDeck_eq hd), g.ad, _, rfl, dk_left rl hk, tyV_lst (rl.deck k hk).hl, g, F, A, s, rl, Post.bind (R1 := rDa K) up_da h fun d s1 F' H' A' v e st rl' l h' => ?_⟩
      split at h'
      · rename_i z k' hk'
        split at h'
        · rename_i hz
          cases (show v = .int z from Da.int_eq l)
          obtain ⟨r2, st2⟩ := rl'.wrL (ns := k'.left ++ [z]) hk'
          have e2 : (k'.left ++ [z]).map V.int = k'.left.map V.int ++ [.int z] := by rw [List.map_append] <;> rfl
          rw [e2] at r2 st2
          exact ⟨g.l, _, _, rfl, rfl, (rl'.deck k' hk').hl, by rw [List.length_map, ← line_eq]; exact hz, h' _ _ _ _ st2 r2 .non⟩
        · exact h'.elim
      · exact h'.elim
    · exact h.elim
  · exact h.elim
theorem das_dp_ints {F : Hp} : ∀ ns : List Int, DpAll K F (ns.map V.int) (ns.map PyData.int)
  | [] => .nil
  | n :: r => .cons (.int n) (das_dp_ints r)
theorem lay_ints : ∀ ns : List Int, PyData.canLayAll0 (ns.map PyData.int) = true
  | [] => by simp only [List.map_nil, PyData.canLayAll0]
  | n :: r => by
    simp only [List.map_cons, PyData.canLayAll0, PyData.canLay0, Bool.true_and]
    exact lay_ints r
theorem depth_ints : ∀ ns : List Int, PyData.depthAll (ns.map PyData.int) ≤ 1
  | [] => by simp [PyData.depthAll]
  | n :: r => by
    have := depth_ints r
    simp only [List.map_cons, PyData.depthAll, PyData.depth]
    omega
theorem shaped_ints (ns : List Int) : SeqAt.shaped (.list (ns.map PyData.int)) = true := by
  have h1 := lay_ints ns
  have h2 := depth_ints ns
  unfold SeqAt.shaped
  have h3 : PyData.depth (.list (ns.map PyData.int)) ≤ 64 := by
    rw [PyData.depth]
    omega
  rw [decide_eq_true h3, Bool.and_true, PyData.canLay0]
  exact h1
theorem dkne_of (q : tM K cl W (mDkNe i) σ H Q) : tOp (rNeD K) (tDGet (tVar i) (tC (.str "left"))) (tLst tNil) σ H Q := by
  obtain ⟨g, F, A, s, rl, h⟩ := q
  unfold mDkNe at h
  split at h
  · rename_i hd
    split at h
    · rename_i k hk
      refine ⟨_, rl.atDk (isDeck_eq hd), g.ad, _, rfl, dk_left rl hk, ?_⟩
      refine ⟨Nat.zero_le _, fun p hp => ?_⟩
      have hl := (rl.deck k hk).hl
      have np : g.l ≠ p := fun z => by
        rw [z, hp] at hl
        cases hl
      obtain ⟨r1, st1, f1, f2, f3⟩ := fresh_ok rl hp (.lst [])
      refine ⟨.list (k.left.map PyData.int), .list [], .lst (.inl (.inl ?_)) (das_dp_ints _), .lst (.inl (.inl upd_same)) .nil, shaped_ints _, shaped_ints [], ?_⟩
      · rw [upd_ne np]
        exact hl
      · have e : (!PyData.eqv (.list (k.left.map PyData.int)) (.list [])) = !k.left.isEmpty := by
          cases k.left with
          | nil => rfl
          | cons a r => rfl
        rw [e]
        exact h _ _ _ _ st1 r1 (.bl _)
    · exact h.elim
  · exact h.elim
end
section
variable {X : Cx} {cl : Cl} {W : WX} {a b e : Expr} {pos apos cpos : Pos} {m : S0 → R D}
theorem e_dkI {x f : Str} {p p2 : Pos} {j} (hu : X.A.units + 1 < cLine) (i : Nat) (hN : X.N[i]? = some x := by rfl) (hv : Vis X.env.scope x := by first | exact Or.inl rfl | exact Or.inr (Or.inl rfl) | exact Or.inr (Or.inr rfl)) (hd : (x == ("__debug__" : Str)) = false := by decide)
    (hcd : (x == ("__classdict__" : Str)) = false := by decide) : PE X (.Subscript (.Name x p) (.Constant (.str f) j p2) pos) (tM X.K cl W (mDkI i f)) := (pe_dget hu (pv i hN hv hd hcd) pe_str (fun _ _ => rfl)).imp fun σ H Q q => dki_of q
theorem e_dkL {x : Str} {p p2 : Pos} {j} (hu : X.A.units + 1 < cLine) (i : Nat) (hN : X.N[i]? = some x := by rfl) (hv : Vis X.env.scope x := by first | exact Or.inl rfl | exact Or.inr (Or.inl rfl) | exact Or.inr (Or.inr rfl)) (hd : (x == ("__debug__" : Str)) = false := by decide)
    (hcd : (x == ("__classdict__" : Str)) = false := by decide) : PE X (.Subscript (.Name x p) (.Constant (.str "left") j p2) pos) (tDGet (tVar i) (tC (.str "left"))) := pe_dget hu (pv i hN hv hd hcd) pe_str (fun _ _ => rfl)
theorem s_dkPut {x : Str} {p p2 pos' : Pos} {j} (hu : X.A.units + 1 < cLine) (i : Nat) (he : PE X b (tM X.K cl W m)) (hs : swapsWith b (some (.Subscript (.Name x p) (.Constant (.str "draws") j p2) pos')) pos.line X.env = pure false := by rfl)
    (hN : X.N[i]? = some x := by rfl) (hv : Vis X.env.scope x := by first | exact Or.inl rfl | exact Or.inr (Or.inl rfl) | exact Or.inr (Or.inr rfl)) (hd : (x == ("__debug__" : Str)) = false := by decide) (hcd : (x == ("__classdict__" : Str)) = false := by decide) :
    PS X (.Assign [.Subscript (.Name x p) (.Constant (.str "draws") j p2) pos'] b pos) (tS X.K cl W (sDkPut i m)) := (ps_dput hu (pv i hN hv hd hcd) pe_str he hs).imp fun D σ H q => dkput_of q
theorem c_dkNe {x : Str} {p p2 p3 p4 : Pos} {j} (hu : X.A.units + 64 < cLine) (i : Nat) (hN : X.N[i]? = some x := by rfl) (hv : Vis X.env.scope x := by first | exact Or.inl rfl | exact Or.inr (Or.inl rfl) | exact Or.inr (Or.inr rfl)) (hd : (x == ("__debug__" : Str)) = false := by decide)
    (hcd : (x == ("__classdict__" : Str)) = false := by decide) : PT X (.Compare (.Subscript (.Name x p) (.Constant (.str "left") j p2) p3) [.NotEq] [.List [] p4] pos) (tT X.K cl W (toB (mDkNe i))) :=
  (pt_cmpR (op_neD hu) (e_dkL (by omega) i hN hv hd hcd) (pe_lst pa_nil) rfl).imp fun σ H Q q => by
    have z : tB (tM X.K cl W (mDkNe i)) σ H Q := toB_of q
    exact dkne_of z
theorem e_dkPop {x : Str} {p p2 p3 : Pos} {j} (hu : X.A.units + 1 < cLine) (i : Nat) (hN : X.N[i]? = some x := by rfl) (hv : Vis X.env.scope x := by first | exact Or.inl rfl | exact Or.inr (Or.inl rfl) | exact Or.inr (Or.inr rfl)) (hd : (x == ("__debug__" : Str)) = false := by decide)
    (hcd : (x == ("__classdict__" : Str)) = false := by decide) (hline : (apos.endLine == cpos.line) = true := by rfl) : PE X (.Call (.Attribute (.Subscript (.Name x p) (.Constant (.str "left") j p2) p3) "pop" apos) [] [] cpos) (tM X.K cl W (mDkPop i)) :=
  (pe_bm0 PySem.F.plainAttrs_list PySem.F.slot_list_pop PySem.F.type_list_pop mt_pop (e_dkL hu i hN hv hd hcd) rfl hline).imp fun σ H Q q => dkpop_of q
theorem e_dkApp {x : Str} {p p2 p3 : Pos} {j} (hu : X.A.units + 1 < cLine) (i : Nat) (he : PE X e (tM X.K cl W m)) (hN : X.N[i]? = some x := by rfl) (hv : Vis X.env.scope x := by first | exact Or.inl rfl | exact Or.inr (Or.inl rfl) | exact Or.inr (Or.inr rfl)) (hd : (x == ("__debug__" : Str)) = false := by decide)
    (hcd : (x == ("__classdict__" : Str)) = false := by decide) (hfew : ((backTo cpos (starEach (e :: []) X.env)).all (fun x => !x.1) && (backToKw cpos (keywordEach [] X.env)).all (fun x => x.1.isSome)
      && decide ((e :: []).length + ([] : List Keyword).length + (if ([] : List Keyword).isEmpty then 0 else 1) < 30)) = true := by rfl)
    (hline : (apos.endLine == cpos.line) = true := by rfl) (hs : starEach (e :: []) X.env = (false, eval e X.env) :: starEach [] X.env := by rfl) (hplain : (backTo cpos (starEach [] X.env)).any (·.1) = false := by rfl) :
    PE X (.Call (.Attribute (.Subscript (.Name x p) (.Constant (.str "left") j p2) p3) "append" apos) [e] [] cpos) (tM X.K cl W (mDkApp i m)) :=
  (pe_bm PySem.F.plainAttrs_list PySem.F.slot_list_append PySem.F.type_list_append mt_append (e_dkL hu i hN hv hd hcd) (pa_cons he pa_nil hs) rfl hfew hline hs hplain).imp fun σ H Q q => dkapp_of q
end
end Lf

set_option Elab.async false
set_option linter.all false
set_option maxRecDepth 100000
/-! LfY: the def that makes the deck. -/
namespace Lf
open PySem PySem.Spec PyProof.Rows L2
/-! ### numbers of few bits -/
theorem bits_le {z : Int} {n : Nat} (h : z.natAbs < 2 ^ n) : Builtin.Int.intBits z ≤ n := by
  unfold Builtin.Int.intBits
  split
  · omega
  · rename_i hz
    have hz : z ≠ 0 := by simpa using hz
    have : z.natAbs.log2 < n := (Nat.log2_lt (by omega)).mpr h
    omega
theorem dMul_ok {i j : Int} (hi : i.natAbs < 2 ^ 60000000) (hj : j.natAbs < 2 ^ 60000000) : dMul [.int i, .int j] = some (.int (i * j)) := by
  show (if Builtin.Int.intBits i + Builtin.Int.intBits j ≤ 134217728 then _ else _) = _
  have h1 := bits_le hi
  have h2 := bits_le hj
  rw [if_pos (by omega)]
def Small (z : Int) : Prop := z.natAbs < 2 ^ 60000000
theorem small_le {z w : Int} (h : Small w) (l : z.natAbs ≤ w.natAbs) : Small z := Nat.lt_of_le_of_lt l h
theorem pow_small {n : Nat} (h : n < 60000000) {z : Int} (hz : z.natAbs < 2 ^ n) : Small z := Nat.lt_of_lt_of_le hz (Nat.pow_le_pow_right (by decide) (Nat.le_of_lt h))
theorem small64 {z : Int} (h : z.natAbs < 18446744073709551616) : Small z := pow_small (n := 64) (by decide) h
/-- the mark's way through the script -/
def mixI (c1 c2 c3 c4 : Int) (z c : Int) : Int := (z * c1 + c.fmod c2 + c3).fmod c4
def mixL (c1 c2 c3 c4 : Int) : List Int → Int → Int
  | [], z => z
  | c :: r, z => mixL c1 c2 c3 c4 r (mixI c1 c2 c3 c4 z c)
def deckMB (c1 c2 c3 c4 : Int) : MS := sSet 2 (mF dMod [.m (mF dInt [.m (mF dAdd [.m (mF dAdd [.m (mF dMul [.sl 2, .m (mC (.int c1))]), .m (mF dMod [.m (mF dInt [.sl 3]), .m (mC (.int c2))])]), .m (mC (.int c3))])]), .m (mC (.int c4))])
theorem deckMB_eq {c1 c2 c3 c4 : Int} (h2 : c2 ≠ 0) (h4 : c4 ≠ 0) (s1 : Small c1) {d0 d1 : SV} {z c : Int} (hz : Small z) {k : Option Deck} :
    deckMB c1 c2 c3 c4 ⟨[d0, d1, .dat (.int z), .dat (.int c)], k⟩ = .nx ⟨[d0, d1, .dat (.int (mixI c1 c2 c3 c4 z c)), .dat (.int c)], k⟩ := by
  have e1 : dMul [.int z, .int c1] = some (.int (z * c1)) := dMul_ok hz s1
  have e2 : dMod [.int c, .int c2] = some (.int (c.fmod c2)) := if_neg h2
  have e3 : dMod [.int (z * c1 + c.fmod c2 + c3), .int c4] = some (.int ((z * c1 + c.fmod c2 + c3).fmod c4)) := if_neg h4
  simp [deckMB, sSet, mF, evalO, look, SV.val, mC, R.bind, R.toS, dInt, e1, e2, e3, dAdd, mixI]
/-- 0 ≤ z < 2^40 -/
def Mid (z : Int) : Prop := 0 ≤ z ∧ z < 1099511627776
theorem Mid.small {z : Int} (h : Mid z) : Small z := small64 (by have := h.1; have := h.2; omega)
theorem mid_mod {z c : Int} (h0 : 0 < c) (h1 : c ≤ 1099511627776) : Mid (z.fmod c) := by
  have a := Int.fmod_nonneg_of_pos z h0
  have b := Int.fmod_lt_of_pos z h0
  exact ⟨a, by omega⟩
theorem deck_for {c1 c2 c3 c4 : Int} (h2 : c2 ≠ 0) (h4 : 0 < c4) (l4 : c4 ≤ 1099511627776) (s1 : Small c1) {d0 d1 : SV} {k : Option Deck} : ∀ (cs : List Int) (z : Int) (d3 : SV), Mid z → ∃ e3, forL (.nm 3) (deckMB c1 c2 c3 c4) (cs.map PyData.int) ⟨[d0, d1, .dat (.int z), d3], k⟩ = .nx ⟨[d0, d1, .dat (.int (mixL c1 c2 c3 c4 cs z)), e3], k⟩
  | [], z, d3, _ => ⟨d3, rfl⟩
  | c :: r, z, d3, hz => by
    obtain ⟨e3, h⟩ := deck_for h2 h4 l4 s1 (d0 := d0) (d1 := d1) (k := k) r (mixI c1 c2 c3 c4 z c) (.dat (.int c)) (mid_mod h4 l4)
    refine ⟨e3, ?_⟩
    show forL (.nm 3) (deckMB c1 c2 c3 c4) (.int c :: r.map PyData.int) _ = _
    unfold forL
    have e1 : asgP (.nm 3) (.int c) [d0, d1, .dat (.int z), d3] = some [d0, d1, .dat (.int z), .dat (.int c)] := rfl
    show (match asgP (.nm 3) (.int c) [d0, d1, .dat (.int z), d3] with
      | none => RS.bad
      | some ρ' => _) = _
    rw [e1]
    show (match deckMB c1 c2 c3 c4 ⟨[d0, d1, .dat (.int z), .dat (.int c)], k⟩ with
      | .nx s' => forL (.nm 3) (deckMB c1 c2 c3 c4) (r.map PyData.int) s'
      | .ct s' => forL (.nm 3) (deckMB c1 c2 c3 c4) (r.map PyData.int) s'
      | .bk s' => .nx s'
      | x => x) = _
    rw [deckMB_eq h2 (by omega) s1 hz.small]
    exact h
theorem mixL_mid {c1 c2 c3 c4 : Int} (h4 : 0 < c4) (l4 : c4 ≤ 1099511627776) : ∀ (cs : List Int) (z : Int), Mid z → Mid (mixL c1 c2 c3 c4 cs z)
  | [], _, h => h
  | _ :: r, _, _ => mixL_mid h4 l4 r _ (mid_mod h4 l4)
/-! ### the way of the def -/
abbrev iScr (K : PySem.W.Frag) : TI := iList K (tSl (rSlL K) (tVar 0) tNoPart (tPart (tC (.int 63))))
def deckLc : S0 → R (List D) := mLc (.nm 3) [3] (fun s => .ok [] s) tYesM (mF dInt [.sl 3])
def tDeckB (K : PySem.W.Frag) (cl : Cl) (W : WX) (c1 c2 c3 c4 : Int) : TS :=
  tSeq (tS K cl W (sSet 2 (mVar 1))) (tSeq (tFor (iScr K) (gP K (.nm 3)) (tS K cl W (deckMB c1 c2 c3 c4)))
    (tRet (tDisp [(tC (.str "left"), tRevL K (tLc (iScr K) (gC K [3] (.nm 3)) (tT K cl noX tYesM) (tM K cl noX (mF dInt [.sl 3])) [3])), (tC (.str "mixed"), tM K cl W (mVar 2)), (tC (.str "draws"), tC (.int 0))])))
def spDeck (K : PySem.W.Frag) (c1 c2 c3 c4 : Int) : Sp := fun vs H Q _ => ∃ (a : Addr) (ns : List Int) (mk : Int), vs = [.ref a, .int mk] ∧ SqL K H a (ns.map V.int) ∧ ns.length ≤ 63 ∧ Mid mk ∧ (∀ p ∈ lawT K, LamX.TabS H p.1 p.2) ∧
  ∀ H' ad l, DeckOk (fun _ => none) H' ad l ⟨ns.reverse, mixL c1 c2 c3 c4 ns mk, 0⟩ → (∀ p ∈ lawT K, LamX.TabS H' p.1 p.2) → Q (.ref ad) H'
section
variable {K : PySem.W.Frag} {cl : Cl} {W : WX}
theorem das_v_ints {F : Hp} : ∀ (ns : List Int), DaS K F (ns.map V.int) (ns.map PyData.int) := DaS.of_ints
theorem cut63 {ns : List Int} (h : ns.length ≤ 63) : cutV (ns.map V.int) none (some 63) = ns.map V.int := by
  have e : HT.sIx (ns.map V.int).length (ns.map V.int).length (some 63) = ns.length := by
    rw [List.length_map]
    have := HT.sIx_nat ns.length ns.length 63
    rw [Nat.min_eq_right h] at this
    exact this
  unfold cutV
  rw [e, HT.sIx_none, List.drop_zero, Nat.sub_zero, List.take_of_length_le (by rw [List.length_map]; exact Nat.le_refl _)]
/-- what the slice of the script comes to -/
theorem scr_of {σ : L2.St} {H : Hp} {a : Addr} {ns : List Int} (h63 : ns.length ≤ 63) (hσ : σ[0]? = some (some (.ref a))) (hs : SqL K H a (ns.map V.int)) {Rr : It → Hp → Prop}
    (q : iM K cl W (fun s => .ok (ns.map PyData.int) s) σ H Rr) : iScr K σ H Rr := by
  obtain ⟨g, F, A, s, rl, h⟩ := q
  refine ⟨_, hσ, 63, rfl, a, _, rfl, hs, fun p hp => ?_⟩
  rw [cut63 h63]
  have n := Nw.new (o := .lst (ns.map V.int)) rl.same hp
  exact ⟨p, rfl, ⟨_, .of upd_same⟩, h _ _ _ A n.step (rl.nw n) (it_list upd_same (das_v_ints ns))⟩
theorem wipe3 (a b c d : SV) (k : Option Deck) : wipeS [3] ⟨[a, b, c, d], k⟩ = ⟨[a, b, c, .unk], k⟩ := rfl
theorem deck_lc {a b c : SV} {k : Option Deck} : ∀ (cs : List Int) (acc : List D), acc.length + cs.length ≤ line → lcL (.nm 3) [3] tYesM (mF dInt [.sl 3]) (cs.map PyData.int) acc ⟨[a, b, c, .unk], k⟩ = .ok (acc ++ cs.map PyData.int) ⟨[a, b, c, .unk], k⟩
  | [], acc, _ => by
    show R.ok acc _ = R.ok (acc ++ []) _
    rw [List.append_nil]
  | z :: r, acc, h => by
    have hl : acc.length < line := by
      rw [List.length_cons] at h
      omega
    have ih := deck_lc (a := a) (b := b) (c := c) (k := k) r (acc ++ [.int z]) (by rw [List.length_append]; simp only [List.length_cons, List.length_nil] at h ⊢; omega)
    have e : mF dInt [.sl 3] ⟨[a, b, c, .dat (.int z)], k⟩ = .ok (.int z) ⟨[a, b, c, .dat (.int z)], k⟩ := rfl
    have e1 : asgP (.nm 3) (.int z) [a, b, c, .unk] = some [a, b, c, .dat (.int z)] := rfl
    rw [List.map_cons]
    unfold lcL
    show (match asgP (.nm 3) (.int z) [a, b, c, .unk] with
      | none => R.bad
      | some ρ' => _) = _
    rw [e1]
    show (match mF dInt [.sl 3] ⟨[a, b, c, .dat (.int z)], k⟩ with
      | .ok y s2 => if acc.length < line then lcL (.nm 3) [3] tYesM (mF dInt [.sl 3]) (r.map PyData.int) (acc ++ [y]) (wipeS [3] s2) else .bad
      | _ => .bad) = _
    rw [e]
    show (if acc.length < line then lcL (.nm 3) [3] tYesM (mF dInt [.sl 3]) (r.map PyData.int) (acc ++ [.int z]) (wipeS [3] ⟨[a, b, c, .dat (.int z)], k⟩) else .bad) = _
    rw [if_pos hl, wipe3, ih, List.append_assoc] <;> rfl
theorem deck_run {c1 c2 c3 c4 : Int} (h2 : c2 ≠ 0) (h4 : 0 < c4) (l4 : c4 ≤ 1099511627776) (s1 : Small c1) {N : List Str} (hN : N.length = 4) {vs : List V} {H : Hp} {Q : VK} {E : XK} (h : spDeck K c1 c2 c3 c4 vs H Q E) :
    tDeckB K cl W c1 c2 c3 c4 { nx := fun _ H' => Q .non H', rt := Q } (L2.start N vs) H := by
  obtain ⟨a, ns, mk, rfl, hs, h63, hmk, hT, q⟩ := h
  have es : L2.start N [.ref a, .int mk] = [some (.ref a), some (.int mk), none, none] := by
    unfold L2.start
    rw [hN] <;> rfl
  rw [es]
  have rl0 : Rel K ⟨false, a, a, lawT K⟩ (fun _ => none) H noA ⟨[.deck, .dat (.int mk), .unk, .unk], none⟩ [some (.ref a), some (.int mk), none, none] := by
    refine ⟨fun b u e => by (cases e), rfl, fun i sv e => ?_, fun i b e => by (cases e), fun i j b e => by (cases e), rfl, fun k e => by (cases e), rfl, fun p hp => ⟨rfl, hT p hp⟩⟩
    match i, e with
    | 0, e =>
      cases e
      exact ⟨rfl, rfl⟩
    | 1, e =>
      cases e
      exact ⟨rfl, _, rfl, .int mk⟩
    | 2, e =>
      cases e
      exact rfl
    | 3, e =>
      cases e
      exact rfl
    | i + 4, e => cases e
  generalize hg : (⟨false, a, a, lawT K⟩ : Gd) = g at rl0
  have gb : g.b = false := by rw [← hg]
  have gT : g.T = lawT K := by rw [← hg]
  have ga : g.ad = a := by rw [← hg]
  have keep : ∀ {F' H' A'}, Step g (fun _ => none) H noA F' H' A' → SqL K H' a (ns.map V.int) := fun {F' H' A'} st => by
    have nd : ∀ o, H a = some o → (∀ z, o ≠ .tbl z) → ¬ isDk g a := fun o e n z => by
      rcases z with ⟨z, _⟩ | ⟨p, hp, e2⟩
      · rw [gb] at z
        cases z
      · rw [gT] at hp
        obtain ⟨ps, e3, _⟩ := hT p hp
        rw [e2, e] at e3
        exact n _ (Option.some.inj e3)
    rcases hs with (z | ⟨o, z⟩) | z
    · exact .inl (.inl (st.fr a _ z (fun i y => by (cases y)) (nd _ z fun y => by simp)))
    · exact .inl (.inr ⟨o, st.fr a _ z (fun i y => by (cases y)) (nd _ z fun y => by simp)⟩)
    · exact .inr z
  have slot0 : ∀ {F' H' A' s' σ'}, Rel K g F' H' A' s' σ' → s'.ρ[0]? = some .deck → σ'[0]? = some (some (.ref a)) := fun r e => by
    rw [← ga]
    exact r.atDk e
  refine ⟨g, _, noA, _, rl0, ?_⟩
  show PostS K cl W g _ H noA (.nx ⟨[.deck, .dat (.int mk), .dat (.int mk), .unk], none⟩) _
  intro F1 H1 A1 σ1 st1 rl1
  have toF : ∀ {E : Ends}, tFor (iM K cl W fun s => .ok (ns.map PyData.int) s) (gP K (.nm 3)) (tS K cl W (deckMB c1 c2 c3 c4)) E σ1 H1 → tFor (iScr K) (gP K (.nm 3)) (tS K cl W (deckMB c1 c2 c3 c4)) E σ1 H1 := fun z => scr_of (cl := cl) (W := W) h63 (slot0 rl1 rfl) (keep st1) z
  refine toF ?_
  refine for_of (mi := fun s => .ok (ns.map PyData.int) s) ?_
  obtain ⟨e3, ef⟩ := deck_for h2 h4 l4 s1 (d0 := .deck) (d1 := .dat (.int mk)) (k := none) ns mk .unk hmk
  refine ⟨g, F1, A1, _, rl1, ?_⟩
  show PostS K cl W g F1 H1 A1 (forL (.nm 3) (deckMB c1 c2 c3 c4) (ns.map PyData.int) ⟨[.deck, .dat (.int mk), .dat (.int mk), .unk], none⟩) _
  rw [ef]
  intro F2 H2 A2 σ2 st2 rl2
  have st02 := st1.trans st2
  intro p hp
  obtain ⟨rl3, st3, p1, p2, p3⟩ := fresh_ok rl2 hp (.dK [])
  have toL : ∀ {Q : VK}, tLc (iM K cl W fun s => .ok (ns.map PyData.int) s) (gC K [3] (.nm 3)) (tT K cl noX tYesM) (tM K cl noX (mF dInt [.sl 3])) [3] σ2 (upd H2 p (.dK [])) Q → tLc (iScr K) (gC K [3] (.nm 3)) (tT K cl noX tYesM) (tM K cl noX (mF dInt [.sl 3])) [3] σ2 (upd H2 p (.dK [])) Q :=
    fun z => scr_of (cl := cl) (W := W) h63 (slot0 rl2 rfl) (keep (st02.trans st3)) z
  simp only [tPairs, tC, tRevL]
  refine toL ?_
  refine lc_of (mi := fun s => .ok (ns.map PyData.int) s) ?_
  refine ⟨g, F2, A2, _, rl3, ?_⟩
  have elc : mLc (.nm 3) [3] (fun s => .ok (ns.map PyData.int) s) tYesM (mF dInt [.sl 3]) ⟨[.deck, .dat (.int mk), .dat (.int (mixL c1 c2 c3 c4 ns mk)), e3], none⟩ = .ok (ns.map PyData.int) ⟨[.deck, .dat (.int mk), .dat (.int (mixL c1 c2 c3 c4 ns mk)), e3], none⟩ := by
    have z := deck_lc (a := .deck) (b := .dat (.int mk)) (c := .dat (.int (mixL c1 c2 c3 c4 ns mk))) (k := none) ns [] (by unfold line; simp only [List.length_nil]; omega)
    show (match lcL (.nm 3) [3] tYesM (mF dInt [.sl 3]) (ns.map PyData.int) [] ⟨[.deck, .dat (.int mk), .dat (.int (mixL c1 c2 c3 c4 ns mk)), .unk], none⟩ with
      | .ok acc s2 => R.ok acc { s2 with ρ := backR [.deck, .dat (.int mk), .dat (.int (mixL c1 c2 c3 c4 ns mk)), e3] s2.ρ [3] }
      | _ => .bad) = _
    rw [z] <;> rfl
  rw [elc]
  intro F4 H4 A4 v st4 rl4 nl
  obtain ⟨b, vs, rfl, n1, n2, n3, n4, n5, n6⟩ := nl
  have ev := n6.ints
  subst ev
  refine ⟨b, _, rfl, .of n5, fun l hl => ?_⟩
  obtain ⟨rl5, st5, l1, l2, l3⟩ := fresh_ok rl4 hl (.lst (ns.map V.int).reverse)
  refine ⟨g, F4, A4, _, rl5, ?_⟩
  show Post K cl W (rDa K) g F4 _ A4 σ2 (.ok (.int (mixL c1 c2 c3 c4 ns mk)) ⟨[.deck, .dat (.int mk), .dat (.int (mixL c1 c2 c3 c4 ns mk)), e3], none⟩) _
  intro F6 H6 A6 v st6 rl6 da
  cases (show v = .int (mixL c1 c2 c3 c4 ns mk) from Da.int_eq da)
  have hp4 : H4 p = some (.dK []) := st4.fr p _ upd_same p2 p3
  have pl : p ≠ l := fun z => by
    rw [z, hl] at hp4
    cases hp4
  have hp6 : H6 p = some (.dK []) := st6.fr p _ (by rw [upd_ne pl]; exact hp4) (fun i z => by
    rcases st4.an i p z with ⟨j, y⟩ | y
    · exact p2 j y
    · rw [upd_same] at y
      cases y) p3
  have hl6 : H6 l = some (.lst (ns.map V.int).reverse) := st6.fr l _ upd_same l2 l3
  refine ⟨hp6, [(.inr "left", .ref l), (.inr "mixed", .int (mixL c1 c2 c3 c4 ns mk)), (.inr "draws", .int 0)], rfl, (by show 3 ≤ 15; decide), ?_⟩
  refine q _ p l ⟨pl, rfl, rfl, ?_, ?_⟩ ?_
  · rw [upd_same]
    rfl
  · rw [upd_ne (Ne.symm pl), hl6, List.map_reverse]
  · intro t ht
    rw [← gT] at ht
    exact ((rl6.tab.wr p3 (fun φ z => by
      rw [hp6] at z
      cases z)).2 t ht).2
end
end Lf

set_option Elab.async false
set_option linter.all false
set_option maxRecDepth 100000
/-! LfZ: the law's own def, in its two forms. -/
namespace Lf
open PySem PySem.Spec PyProof.Rows L2
def deck0 (c1 c2 c3 c4 mk : Int) (ns : List Int) : Deck := ⟨ns.reverse, mixL c1 c2 c3 c4 ns mk, 0⟩
/-- what the law's def keeps: for scripts at which p holds -/
def spLaw (K : PySem.W.Frag) (p : List Int → Prop) : Sp := fun vs H Q _ => ∃ (a : Addr) (ns : List Int), vs = [.ref a] ∧ SqL K H a (ns.map V.int) ∧ ns.length ≤ 63 ∧ p ns ∧ (∀ p ∈ lawT K, LamX.TabS H p.1 p.2) ∧ ∀ H', Q (.bl true) H'
theorem spLaw_len {K : PySem.W.Frag} {p : List Int → Prop} (vs : List V) (H : Hp) (Q : VK) (E : XK) (h : spLaw K p vs H Q E) : vs.length = 1 := by
  obtain ⟨a, ns, rfl, _⟩ := h
  rfl
section
variable {K : PySem.W.Frag} {cl : Cl} {W : WX}
theorem rel_deck {H' : Hp} {ad l : Addr} {k : Deck} {ρ : List SV} {σ : L2.St} (dk : DeckOk (fun _ => none) H' ad l k) (hT : ∀ p ∈ lawT K, LamX.TabS H' p.1 p.2) (hl : ρ.length = σ.length) (h : ∀ (i : Nat) (sv : SV), ρ[i]? = some sv → sv = SV.unk ∨ (sv = SV.deck ∧ σ[i]? = some (some (V.ref ad)))) :
    Rel K ⟨true, ad, l, lawT K⟩ (fun _ => none) H' noA ⟨ρ, some k⟩ σ := by
  refine ⟨fun b u e => by (cases e), hl, fun i sv e => ?_, fun i b e => by (cases e), fun i j b e => by (cases e), rfl, fun x e => ?_, rfl, fun p hp => ⟨rfl, hT p hp⟩⟩
  · rcases h i sv e with z | ⟨z, z2⟩
    · subst z
      exact rfl
    · subst z
      exact ⟨rfl, z2⟩
  · cases e
    exact dk
/-- form 1: return whole(_law_deck(script, mk)) -/
theorem law_run1 {c1 c2 c3 c4 mk : Int} {mf : S0 → RF} {p : List Int → Prop} (hmk : Mid mk) (hp : ∀ ns, ns.length ≤ 63 → p ns → ∃ k', mf ⟨[.deck], some (deck0 c1 c2 c3 c4 mk ns)⟩ = .ok (.bool true) k') {N : List Str} {vs : List V} {H : Hp} {Q : VK} {E : XK} {Ew Ed : L2.St → XK} {nx} (h : spLaw K p vs H Q E) :
    tRet (tCallS (spM K cl 1 mf) Ew (tCons (tCallS (spDeck K c1 c2 c3 c4) Ed (tCons (tVar 0) (tCons (tC (.int mk)) tNil))) tNil)) { nx := nx, rt := Q } (L2.start N vs) H := by
  obtain ⟨a, ns, rfl, hs, h63, hpn, hT, q⟩ := h
  refine ⟨.ref a, rfl, a, ns, mk, rfl, hs, h63, hmk, hT, fun H' ad l dk hT' => ?_⟩
  refine ⟨⟨true, ad, l, lawT K⟩, fun _ => none, ⟨[.deck], some (deck0 c1 c2 c3 c4 mk ns)⟩, rfl, rel_deck dk hT' rfl fun i sv e => ?_, ?_⟩
  · match i, e with
    | 0, e =>
      cases e
      exact .inr ⟨rfl, rfl⟩
    | i + 1, e => cases e
  · obtain ⟨k', ek⟩ := hp ns h63 hpn
    rw [ek]
    intro F2 H2 v _ _ _ da
    cases (show v = .bl true from Da.bl_eq da)
    exact q H2
/-- form 2: deck = _law_deck(script, mk), and what follows -/
theorem scr_run {c1 c2 c3 c4 mk : Int} {j n : Nat} {m : MS} {p : List Int → Prop} (hmk : Mid mk) (hp : ∀ ns, ns.length ≤ 63 → p ns → ∃ s', m ⟨(List.replicate n SV.unk).set j .deck, some (deck0 c1 c2 c3 c4 mk ns)⟩ = .rt (.bool true) s') {N : List Str} (hN : N.length = n) (hj : j < n) {vs : List V} {H : Hp} {Q : VK} {E : XK} {Ed : L2.St → XK} {nx} (h : spLaw K p vs H Q E) :
    tSeq (tAsg (tCallS (spDeck K c1 c2 c3 c4) Ed (tCons (tVar 0) (tCons (tC (.int mk)) tNil))) (gName j)) (tS K cl W m) { nx := nx, rt := Q } (L2.start N vs) H := by
  obtain ⟨a, ns, rfl, hs, h63, hpn, hT, q⟩ := h
  refine ⟨.ref a, rfl, a, ns, mk, rfl, hs, h63, hmk, hT, fun H' ad l dk hT' => ?_⟩
  have len : (L2.start N [.ref a]).length = n := by
    unfold L2.start
    rw [List.length_append, List.length_replicate, List.length_map]
    simp only [List.length_cons, List.length_nil]
    omega
  refine ⟨⟨true, ad, l, lawT K⟩, fun _ => none, noA, ⟨(List.replicate n SV.unk).set j .deck, some (deck0 c1 c2 c3 c4 mk ns)⟩, rel_deck dk hT' (by rw [List.length_set, List.length_set, List.length_replicate, len]) fun i sv e => ?_, ?_⟩
  · by_cases hi : i = j
    · subst hi
      rw [List.getElem?_set_self (by rw [List.length_replicate]; exact hj)] at e
      cases e
      exact .inr ⟨rfl, List.getElem?_set_self (by rw [len]; exact hj)⟩
    · rw [List.getElem?_set_ne (Ne.symm hi)] at e
      exact .inl (List.eq_of_mem_replicate (List.mem_of_getElem? e))
  · obtain ⟨s', ek⟩ := hp ns h63 hpn
    rw [ek]
    intro F2 H2 A2 σ2 v _ _ da
    cases (show v = .bl true from Da.bl_eq da)
    exact q H2
theorem law_run2 {p : List Int → Prop} {N : List Str} {vs : List V} {H : Hp} {Q : VK} {E : XK} {Ew : L2.St → XK} {nx} (h : spLaw K p vs H Q E) : tRet (tCallS (spLaw K p) Ew (tCons (tVar 0) tNil)) { nx := nx, rt := Q } (L2.start N vs) H := by
  obtain ⟨a, ns, rfl, hs, h63, hpn, hT, q⟩ := h
  exact ⟨.ref a, rfl, a, ns, rfl, hs, h63, hpn, hT, q⟩
end
end Lf

set_option Elab.async false
set_option linter.all false
set_option maxRecDepth 100000
/-! LfB: what the head tells, in the forms that the walk wants. -/
namespace Lf
open PySem PySem.Spec PyProof.Rows L2
/-- the function's data at an address -/
def fdOf (K : PySem.W.Frag) (f : Addr) : Option FuncData := match K.lookup f with
  | some ⟨_, _, .func fd, _⟩ => some fd
  | _ => none
theorem fdOf_eq {K : PySem.W.Frag} {x qual : Str} {params : Arguments} {body : List Stmt} {scope : Scope} {dvs : List V} {kws : List (Str × V)} {f : Addr} {fd : FuncData} (F : FunD K x qual params body scope dvs kws f fd) : fdOf K f = some fd := by
  obtain ⟨oc, od, dV, kV, doc, pm, an, cdv, ct, osl, e, lk, _⟩ := F.ex
  unfold fdOf
  rw [lk]
/-- a def of the text that stands where its name says -/
structure Dfn (K : PySem.W.Frag) (mg : Str → Option Value) (x : Str) (st : Stmt) (fd : FuncData) : Prop where
  F : FunD K x x (defArgs st) (defBody st) (defScope st) [] [] (He.ga K x) fd
  g : mg x = some (.ref (He.ga K x))
theorem Dfn.ok {P : Program} {w : World} {K : PySem.W.Frag} {mg : Str → Option Value} {base : Heap} {x : Str} {st : Stmt} {fd : FuncData} {N ps : List Str} {k pad : Nat} {cl : Cl} {mb : MS} (D : Dfn K mg x st fd) (S : FnScope N ps (defScope st)) (hn : ps.length + pad = N.length)
    (hb : ∀ (A : Around) (outer : List Env) (s : Shared) (H : Hp) (E : XK), Room k (A.deeper (envOfC x (defScope st) s.heap.objs.size (He.ga K x) (.ref (He.codeOf K (x, none))))) →
      PSs (cxOf (L2.CX P w) P w K mg base N x (defScope st) (He.ga K x) (.ref (He.codeOf K (x, none))) A outer s H E) (defBody st) (tS K cl (fun c d _ H => E c d H) mb)) : FnOk P w K mg base (L2.CX P w) (k + 1) (He.ga K x) fd ps (spM K cl ps.length (fnM mb pad)) := by
  obtain ⟨oc, od, dV, kV, doc, pm, an, cdv, ct, osl, rfl, lk, hcd, _, _⟩ := D.F.ex
  obtain ⟨c, rfl⟩ := He.codeIn_ref hcd
  have ec : He.codeOf K (x, none) = c := He.codeOf_eq (p := (x, none)) lk rfl
  subst ec
  refine fn_of lk hcd S spM_len fun A outer s H vs Q E hr h => ⟨_, hb A outer s H E hr, ?_⟩
  have hl := spM_len vs H Q E h
  obtain ⟨g, F0, s0, h1, h2, h3⟩ := h
  have e1 : N.length - vs.length = pad := by rw [hl]; omega
  have r2 := h2.pad pad
  refine ⟨g, F0, noA, _, (by unfold L2.start; rw [e1]; exact r2), ?_⟩
  unfold fnM at h3
  cases e : mb { s0 with ρ := s0.ρ ++ List.replicate pad .unk } with
  | nx s' =>
    rw [e] at h3
    exact fun F' H' A' σ' st rl => h3 F' H' .non (step_drop st) rl.same rl.dkr .non
  | rt d s' =>
    rw [e] at h3
    exact fun F' H' A' σ' v st rl da => h3 F' H' v (step_drop st) rl.same rl.dkr da
  | exc c d s' =>
    rw [e] at h3
    exact fun F' H' A' σ' v dp st rl da ex => h3 F' H' v dp (step_drop st) rl.same rl.dkr da ex
  | bk s' => rw [e] at h3; exact h3.elim
  | ct s' => rw [e] at h3; exact h3.elim
  | bad => rw [e] at h3; exact h3.elim
/-- the same where no guard stands -/
theorem Dfn.okG {P : Program} {w : World} {K : PySem.W.Frag} {mg : Str → Option Value} {base : Heap} {x : Str} {st : Stmt} {fd : FuncData} {N ps : List Str} {k pad : Nat} {cl : Cl} {mb : MS} (D : Dfn K mg x st fd) (S : FnScope N ps (defScope st)) (hn : ps.length + pad = N.length)
    (hb : ∀ (A : Around) (outer : List Env) (s : Shared) (H : Hp) (E : XK), (A.deeper (envOfC x (defScope st) s.heap.objs.size (He.ga K x) (.ref (He.codeOf K (x, none))))).guards = some [] → Room k (A.deeper (envOfC x (defScope st) s.heap.objs.size (He.ga K x) (.ref (He.codeOf K (x, none))))) →
      PSs (cxOf (L2.CX P w) P w K mg base N x (defScope st) (He.ga K x) (.ref (He.codeOf K (x, none))) A outer s H E) (defBody st) (tS K cl (fun c d _ H => E c d H) mb)) : FnG P w K mg base (L2.CX P w) (k + 1) (He.ga K x) fd ps (spM K cl ps.length (fnM mb pad)) := by
  obtain ⟨oc, od, dV, kV, doc, pm, an, cdv, ct, osl, rfl, lk, hcd, _, _⟩ := D.F.ex
  obtain ⟨c, rfl⟩ := He.codeIn_ref hcd
  have ec : He.codeOf K (x, none) = c := He.codeOf_eq (p := (x, none)) lk rfl
  subst ec
  refine fnG_of lk hcd S spM_len fun A outer s H vs Q E hgA hr h => ⟨_, hb A outer s H E hgA hr, ?_⟩
  have hl := spM_len vs H Q E h
  obtain ⟨g, F0, s0, h1, h2, h3⟩ := h
  have e1 : N.length - vs.length = pad := by rw [hl]; omega
  have r2 := h2.pad pad
  refine ⟨g, F0, noA, _, (by unfold L2.start; rw [e1]; exact r2), ?_⟩
  unfold fnM at h3
  cases e : mb { s0 with ρ := s0.ρ ++ List.replicate pad .unk } with
  | nx s' =>
    rw [e] at h3
    exact fun F' H' A' σ' st rl => h3 F' H' .non (step_drop st) rl.same rl.dkr .non
  | rt d s' =>
    rw [e] at h3
    exact fun F' H' A' σ' v st rl da => h3 F' H' v (step_drop st) rl.same rl.dkr da
  | exc c d s' =>
    rw [e] at h3
    exact fun F' H' A' σ' v dp st rl da ex => h3 F' H' v dp (step_drop st) rl.same rl.dkr da ex
  | bk s' => rw [e] at h3; exact h3.elim
  | ct s' => rw [e] at h3; exact h3.elim
  | bad => rw [e] at h3; exact h3.elim
/-- a body by hand, where no guard stands -/
theorem Dfn.hand {P : Program} {w : World} {K : PySem.W.Frag} {mg : Str → Option Value} {base : Heap} {x : Str} {st : Stmt} {fd : FuncData} {N ps : List Str} {k : Nat} {sp : Sp} (D : Dfn K mg x st fd) (S : FnScope N ps (defScope st)) (len : ∀ vs H Q E, sp vs H Q E → vs.length = ps.length)
    (hb : ∀ (A : Around) (outer : List Env) (s : Shared) (H : Hp) (vs : List V) (Q : VK) (E : XK), (A.deeper (envOfC x (defScope st) s.heap.objs.size (He.ga K x) (.ref (He.codeOf K (x, none))))).guards = some [] → Room k (A.deeper (envOfC x (defScope st) s.heap.objs.size (He.ga K x) (.ref (He.codeOf K (x, none))))) → sp vs H Q E →
      ∃ t, PSs (cxOf (L2.CX P w) P w K mg base N x (defScope st) (He.ga K x) (.ref (He.codeOf K (x, none))) A outer s H E) (defBody st) t ∧ t { nx := fun _ H' => Q .non H', rt := Q } (L2.start N vs) H) : FnG P w K mg base (L2.CX P w) (k + 1) (He.ga K x) fd ps sp := by
  obtain ⟨oc, od, dV, kV, doc, pm, an, cdv, ct, osl, rfl, lk, hcd, _, _⟩ := D.F.ex
  obtain ⟨c, rfl⟩ := He.codeIn_ref hcd
  have ec : He.codeOf K (x, none) = c := He.codeOf_eq (p := (x, none)) lk rfl
  subst ec
  exact fnG_of lk hcd S len fun A outer s H vs Q E hgA hr h => hb A outer s H vs Q E hgA hr h
/-- the same, whatever stands -/
theorem Dfn.hand0 {P : Program} {w : World} {K : PySem.W.Frag} {mg : Str → Option Value} {base : Heap} {x : Str} {st : Stmt} {fd : FuncData} {N ps : List Str} {k : Nat} {sp : Sp} (D : Dfn K mg x st fd) (S : FnScope N ps (defScope st)) (len : ∀ vs H Q E, sp vs H Q E → vs.length = ps.length)
    (hb : ∀ (A : Around) (outer : List Env) (s : Shared) (H : Hp) (vs : List V) (Q : VK) (E : XK), Room k (A.deeper (envOfC x (defScope st) s.heap.objs.size (He.ga K x) (.ref (He.codeOf K (x, none))))) → sp vs H Q E →
      ∃ t, PSs (cxOf (L2.CX P w) P w K mg base N x (defScope st) (He.ga K x) (.ref (He.codeOf K (x, none))) A outer s H E) (defBody st) t ∧ t { nx := fun _ H' => Q .non H', rt := Q } (L2.start N vs) H) : FnOk P w K mg base (L2.CX P w) (k + 1) (He.ga K x) fd ps sp := by
  obtain ⟨oc, od, dV, kV, doc, pm, an, cdv, ct, osl, rfl, lk, hcd, _, _⟩ := D.F.ex
  obtain ⟨c, rfl⟩ := He.codeIn_ref hcd
  have ec : He.codeOf K (x, none) = c := He.codeOf_eq (p := (x, none)) lk rfl
  subst ec
  exact fn_of lk hcd S len fun A outer s H vs Q E hr h => hb A outer s H vs Q E hr h
/-! ### the errors -/
def excCB (K : PySem.W.Frag) (D : Addr) : Bool :=
  He.eqO (PySem.W.findIn K (.ref D) "__getattribute__") (some (some (.builtin "BaseException.__getattribute__"))) && (He.eqO (PySem.W.findIn K (.ref D) "__getattr__") (some none) && (decide (PySem.W.subIn K (.ref D) (.type "BaseException") = some true) && (PySem.W.hasDictIn K D &&
  (He.eqO (PySem.W.findIn K (.ref D) "__class__") (some (some (.builtin "object.__class__"))) && (He.eqO (PySem.W.specialIn K (.builtin "object.__class__") "__get__") (some (some (.builtin "getset_descriptor.__get__"))) &&
  (decide (PySem.W.takesIn K (.builtin "object.__class__") = some true) && decide (PySem.W.mroIn K D (.type "object") = some true)))))))
theorem excC_ok {K : PySem.W.Frag} {D : Addr} (h : excCB K D = true) : ExcC K D := by
  obtain ⟨h1, h⟩ := He.ba h
  obtain ⟨h2, h⟩ := He.ba h
  obtain ⟨h3, h⟩ := He.ba h
  obtain ⟨h4, h⟩ := He.ba h
  obtain ⟨h5, h⟩ := He.ba h
  obtain ⟨h6, h⟩ := He.ba h
  obtain ⟨h7, h8⟩ := He.ba h
  exact ⟨He.eqO_ok h1, He.eqO_ok h2, of_decide_eq_true h3, h4, He.eqO_ok h5, He.eqO_ok h6, of_decide_eq_true h7, of_decide_eq_true h8⟩
def errOneB (K : PySem.W.Frag) (c : Str) : Bool := (xfB K (He.ga K c) && (He.eqO (PySem.W.findIn K (.ref (He.ga K c)) "thing") (some none) && excCB K (He.ga K c))) && ((("HouseError" : Str) :: lawE)).all fun x => match lawSub c x with
  | some b => decide (PySem.W.exmOne K (.ref (He.ga K c)) (.ref (He.ga K x)) = some b) && decide (PySem.W.kitOne K (.ref (He.ga K c)) (.ref (He.ga K x)) = some b)
  | none => true
def errsB (K : PySem.W.Frag) : Bool := lawE.all fun c => errOneB K c
theorem lawSub_in {c x : Str} {b : Bool} (h : lawSub c x = some b) : c ∈ lawE ∧ x ∈ ("HouseError" :: lawE : List Str) := by
  unfold lawSub at h
  split at h
  · rename_i hc
    refine ⟨hc, ?_⟩
    split at h
    · rename_i e
      rw [e]
      exact List.mem_cons_self
    · split at h
      · rename_i hx
        exact List.mem_cons_of_mem _ hx
      · cases h
  · cases h
theorem errs_ok {K : PySem.W.Frag} (h : errsB K = true) : ErrsOk K (He.ga K) := by
  have all : ∀ c x b, lawSub c x = some b → (xfB K (He.ga K c) && (He.eqO (PySem.W.findIn K (.ref (He.ga K c)) "thing") (some none) && excCB K (He.ga K c))) = true ∧
      (decide (PySem.W.exmOne K (.ref (He.ga K c)) (.ref (He.ga K x)) = some b) && decide (PySem.W.kitOne K (.ref (He.ga K c)) (.ref (He.ga K x)) = some b)) = true := fun c x b e => by
    obtain ⟨hc, hx⟩ := lawSub_in e
    have z := List.all_eq_true.mp h c hc
    obtain ⟨z1, z2⟩ := He.ba z
    refine ⟨z1, ?_⟩
    have z3 := List.all_eq_true.mp z2 x hx
    rw [e] at z3
    exact z3
  refine ⟨fun c x b e => ?_, fun c x b e => ?_⟩
  · obtain ⟨z1, z2⟩ := He.ba (all c x b e).2
    exact ⟨of_decide_eq_true z1, of_decide_eq_true z2⟩
  · obtain ⟨z1, z2⟩ := He.ba (all c x b e).1
    obtain ⟨z3, z4⟩ := He.ba z2
    exact ⟨xfB_ok z1, He.eqO_ok z3, excC_ok z4⟩
def errCB (K : PySem.W.Frag) (C : Addr) : Bool :=
  PySem.W.excInitIn K C Er.exT "Exception.__new__" && (He.eqO (PySem.W.findIn K (.ref C) "__setattr__") (some (some (.builtin "object.__setattr__"))) && (He.eqO (PySem.W.findIn K (.ref C) "__getattribute__") (some (some (.builtin "BaseException.__getattribute__"))) &&
  (He.eqO (PySem.W.findIn K (.ref C) "__getattr__") (some none) && (He.eqO (PySem.W.findIn K (.ref C) "thing") (some none) && (He.eqO (PySem.W.findIn K (.ref C) "__init__") (some (some (.ref (He.ma K C "__init__")))) &&
  (decide (PySem.W.typeIn K (.ref (He.ma K C "__init__")) = some (.type "function")) && (PySem.W.keepIn K (.ref C) && (decide (PySem.W.subIn K (.ref C) (.type "BaseException") = some true) && (decide (PySem.W.typeIn K (.ref C) = some (.type "type")) && PySem.W.hasDictIn K C)))))))))
theorem errC_ok {K : PySem.W.Frag} {mg : Str → Option Value} {x q : Str} {fd : FuncData} {p1 p2 q1 q2 q3 q4 : Pos} (h : errCB K (He.ga K x) = true) (g : mg x = some (.ref (He.ga K x))) (F : FunD K "__init__" q (Er.iA p1 p2) (Er.iB q1 q2 q3 q4) Er.iS [] [] (He.ma K (He.ga K x) "__init__") fd) :
    Er.ErrC K mg x (He.ga K x) (He.ma K (He.ga K x) "__init__") := by
  obtain ⟨h1, h⟩ := He.ba h
  obtain ⟨h2, h⟩ := He.ba h
  obtain ⟨h3, h⟩ := He.ba h
  obtain ⟨h4, h⟩ := He.ba h
  obtain ⟨h5, h⟩ := He.ba h
  obtain ⟨h6, h⟩ := He.ba h
  obtain ⟨h7, h⟩ := He.ba h
  obtain ⟨h8, h⟩ := He.ba h
  obtain ⟨h9, h⟩ := He.ba h
  obtain ⟨h10, h11⟩ := He.ba h
  obtain ⟨oc, od, dV, kV, doc, pm, an, cdv, ct, osl, rfl, lk, hcd, hd, _⟩ := F.ex
  have ed : dV = .none := by
    rcases hd with ⟨_, z⟩ | ⟨z, _⟩
    · exact z
    · exact absurd rfl z
  subst ed
  exact ⟨g, h1, He.eqO_ok h2, He.eqO_ok h3, He.eqO_ok h4, He.eqO_ok h5, He.eqO_ok h6, of_decide_eq_true h7, h8, of_decide_eq_true h9, of_decide_eq_true h10, h11, oc, od, kV, doc, pm, an, cdv, ct, osl, q, p1, p2, q1, q2, q3, q4, lk, hcd⟩
/-! ### tables, names -/
theorem tabS0 {H : Hp} {p : Addr} {q : Str} (h : H p = some (.tbl #[])) : LamX.TabS H p q := ⟨#[], h, trivial, fun pos cv e => by
  unfold codeAmong at e
  cases e⟩
def tabInj (K : PySem.W.Frag) : Bool := lawF.all fun p => lawF.all fun q => !decide ((He.cT K p).2 = (He.cT K q).2) || decide (p = q)
theorem tabInj_ok {K : PySem.W.Frag} (h : tabInj K = true) {p : He.Defn} (hp : p ∈ lawF) : ∀ r ∈ lawT K, r.1 = (He.cT K p).2 → r.2 = p.1 ++ ".<locals>." ++ "<lambda>" := fun r hr e => by
  obtain ⟨q, hq, rfl⟩ := List.mem_map.mp hr
  have z := List.all_eq_true.mp (List.all_eq_true.mp h q hq) p hp
  rcases Bool.or_eq_true_iff.mp z with z | z
  · rw [Bool.not_eq_true', decide_eq_false_iff_not] at z
    exact absurd e z
  · rw [of_decide_eq_true z]
theorem room_u {k : Nat} {A : Around} (h : Room k A) : A.units + 64 < cLine := by
  have := h.un
  omega
theorem room_1 {k : Nat} {A : Around} (h : Room k A) : A.units + 1 < cLine := by
  have := h.un
  omega
theorem room_r {k : Nat} {A : Around} (h : Room k A) : A.units + 101 < cLine := by
  have := h.un
  omega
theorem con_int {K : PySem.W.Frag} {mg : Str → Option Value} {x : Str} {i : Int} (h : ∃ t, mg x = some (.int i t)) : Con0 K mg x (.int i) := by
  obtain ⟨t, h⟩ := h
  exact ⟨_, .int i, h, ⟨t, rfl⟩, fun F => .int i⟩
theorem con_str {K : PySem.W.Frag} {mg : Str → Option Value} {x z : Str} (h : ∃ t, mg x = some (.str z t)) : Con0 K mg x (.str z) := by
  obtain ⟨t, h⟩ := h
  exact ⟨_, .str z, h, ⟨t, rfl⟩, fun F => .str z⟩
end Lf

set_option Elab.async false
set_option linter.all false
set_option maxRecDepth 100000
/-! LfG: small rules for printed derivations; a tuple several times. -/
namespace Lf
open PySem PySem.Spec PyProof.Rows L2
def dMulA : List D → Option D
  | [.tuple xs, .int k] => if xs ≠ [] ∧ 2 ≤ k ∧ k ≤ 1000 ∧ xs.length ≤ 1000 then some (.tuple (List.replicate k.toNat xs).flatten) else none
  | ds => dMul ds
def rMulA (K : PySem.W.Frag) : R2 := fun x y H Q => rMulAll x y H Q ∨ rRepT K x y H Q
theorem op_mulA {X : Cx} : OpR X (binaryOp .Mult) (rMulA X.K) := OpR.or op_mulAll op_repT
theorem v_mulA {K : PySem.W.Frag} : VR K (r2l (rMulA K)) dMulA := by
  intro F H vs ds d Q e l hf q
  unfold dMulA at hf
  split at hf
  · obtain ⟨x, y, rfl, p1, p2⟩ := pk2 l
    split at hf
    · rename_i hl
      cases hf
      obtain ⟨a, vs, rfl, h1, h2⟩ := p1.tup_of e
      refine ⟨_, _, rfl, .inr ⟨a, _, vs, rfl, p2.int_eq, sqt_mono e h1, fun z => hl.1 ?_, hl.2.1, hl.2.2.1, by rw [h2.length]; exact hl.2.2.2, fun p hp => retT e q hp (h2.rep _)⟩⟩
      have := h2.length
      rw [z] at this
      exact List.length_eq_zero_iff.mp this.symm
    · cases hf
  · obtain ⟨x, y, h1, h2⟩ := v_mulAll F H vs _ d Q e l hf q
    exact ⟨x, y, h1, .inl h2⟩
section
variable {X : Cx} {cl : Cl} {W : WX} {e : Expr} {es : List Expr} {o : Opd} {os : List Opd} {m : S0 → R D} {ms : List (S0 → R D)}
theorem o_m (h : PE X e (tM X.K cl W m)) : PE X e (tO X.K cl W (.m m)) := h
theorem as_nil : PA X [] (tAs X.K cl W []) := pa_nil
theorem as_cons (h1 : PE X e (tO X.K cl W o)) (h2 : PA X es (tAs X.K cl W os)) (hs : starEach (e :: es) X.env = (false, eval e X.env) :: starEach es X.env := by rfl) : PA X (e :: es) (tAs X.K cl W (o :: os)) := pa_cons h1 h2 hs
theorem ms_nil : PA X [] (tMs X.K cl W []) := pa_nil
theorem ms_cons (h1 : PE X e (tM X.K cl W m)) (h2 : PA X es (tMs X.K cl W ms)) (hs : starEach (e :: es) X.env = (false, eval e X.env) :: starEach es X.env := by rfl) : PA X (e :: es) (tMs X.K cl W (m :: ms)) := pa_cons h1 h2 hs
theorem kw_nil : PK X [] (tAgs X.K cl W []) := pk_nil
theorem kw_cons {o : Ag} {os : List Ag} {nm : Option Str} {kpos : Pos} {kws : List Keyword} (h1 : PE X e (tAg X.K cl W o)) (h2 : PK X kws (tAgs X.K cl W os)) : PK X (⟨nm, e, kpos⟩ :: kws) (tAgs X.K cl W (o :: os)) := pk_cons h1 h2
end
theorem LamsRun.mono {P : Program} {w : World} {K : PySem.W.Frag} {mg : Str → Option Value} {base : Heap} {cl : Cl} {j k : Nat} {LM : Nat → List D → S0 → RF} (h : LamsRun P w K mg base cl j LM) (hl : j ≤ k) : LamsRun P w K mg base cl k LM := fun id L hL A outer s J us vs Q E g G s0 cs f c pm c' ctv hr =>
  h id L hL A outer s J us vs Q E g G s0 cs f c pm c' ctv (hr.mono hl)
/-- a lambda that is not looked at -/
theorem lam_none {P : Program} {w : World} {K : PySem.W.Frag} {mg : Str → Option Value} {base : Heap} {cl : Cl} {k : Nat} {L : LamD} : LamRun P w K mg base cl k L (fun _ _ => .bad) := fun A outer s J us vs Q E g G s0 cs f c pm c' ctv hr e0 hc hl hd rl v h => h.elim
theorem LamRun.mono {P : Program} {w : World} {K : PySem.W.Frag} {mg : Str → Option Value} {base : Heap} {cl : Cl} {j k : Nat} {L : LamD} {M : List D → S0 → RF} (h : LamRun P w K mg base cl j L M) (hl : j ≤ k) : LamRun P w K mg base cl k L M := fun A outer s J us vs Q E g G s0 cs f c pm c' ctv hr =>
  h A outer s J us vs Q E g G s0 cs f c pm c' ctv (hr.mono hl)
end Lf
namespace Lf
open PySem PySem.Spec PyProof.Rows L2
def blkB (N : List Str) (sc scope : Scope) (own : List (Str × Nat)) : Bool :=
  decide (scope.kind = .function) && (scope.names.all (fun y => decide (scope.names.lookup y.1 = some y.2)) && (own.all (fun p => decide (N[p.2]? = some p.1)) &&
  (scope.names.all (fun y => !decide (y.2 = .free) || (decide (sc.names.lookup y.1 = some .cell) || decide (sc.names.lookup y.1 = some .free))) &&
  scope.names.all (fun y => !(decide (y.2 = .local) || decide (y.2 = .cell)) || (decide (y.1 ∈ own.map (·.1)) || !decide (y.1 ∈ N))))))
theorem blk_ok {N : List Str} {sc scope : Scope} {own : List (Str × Nat)} (h : blkB N sc scope own = true) : BlkOk N sc scope own := by
  unfold blkB at h
  simp only [Bool.and_eq_true, List.all_eq_true, Bool.or_eq_true, Bool.not_eq_true', decide_eq_true_eq, decide_eq_false_iff_not, Bool.or_eq_false_iff] at h
  obtain ⟨h1, h2, h3, h4, h5⟩ := h
  refine ⟨h1, h2, h3, fun y hy e => ?_, fun y hy e => ?_⟩
  · rcases h4 y hy with z | z
    · exact absurd e z
    · exact z
  · rcases h5 y hy with z | z
    · rcases e with e | e
      · exact absurd e z.1
      · exact absurd e z.2
    · exact z
theorem lget {α : Type} {a L : α} {r : List α} {id : Nat} (h : (a :: r)[id]? = some L) : (id = 0 ∧ a = L) ∨ ∃ j, id = j + 1 ∧ r[j]? = some L := by
  cases id with
  | zero => exact .inl ⟨rfl, by simpa using h⟩
  | succ j => exact .inr ⟨j, rfl, by simpa using h⟩
end Lf
namespace Lf
open PySem PySem.Spec PyProof.Rows L2
def freeB (sc scope : Scope) : Bool := scope.names.all (fun y => !decide (y.2 = .free) || (decide (sc.names.lookup y.1 = some .cell) || decide (sc.names.lookup y.1 = some .free)))
theorem free_okB {sc scope : Scope} (h : freeB sc scope = true) : ∀ y ∈ scope.names, y.2 = .free → sc.names.lookup y.1 = some .cell ∨ sc.names.lookup y.1 = some .free := fun y hy e => by
  unfold freeB at h
  simp only [List.all_eq_true, Bool.or_eq_true, Bool.not_eq_true', decide_eq_true_eq, decide_eq_false_iff_not] at h
  rcases h y hy with z | z
  · exact absurd e z
  · exact z
end Lf

set_option Elab.async false
set_option linter.all false
set_option maxRecDepth 100000
set_option maxHeartbeats 4000000
/-! the law: its facts, its mirrors, what each def keeps. -/
namespace Lw
open PySem PySem.Spec PyProof.Rows L2 NdefX Lf
abbrev s_is_whole : Stmt := lTop 10
abbrev s_is_whole_between : Stmt := lTop 11
abbrev s_is_whole_from : Stmt := lTop 12
abbrev s_is_tuple_of : Stmt := lTop 13
abbrev s_is_tuple_by : Stmt := lTop 14
abbrev s_is_one_word : Stmt := lTop 15
abbrev s_lowest_weights : Stmt := lTop 22
abbrev s_are_weights : Stmt := lTop 23
abbrev s_need_weights : Stmt := lTop 24
abbrev s_need_low : Stmt := lTop 25
abbrev s_settled : Stmt := lTop 26
abbrev s_is_step : Stmt := lTop 34
abbrev s_are_rows_with : Stmt := lTop 35
abbrev s_are_dice_rows : Stmt := lTop 36
abbrev s_rolled : Stmt := lTop 37
abbrev s__law_deck : Stmt := lTop 39
abbrev s__law_draw : Stmt := lTop 40
abbrev s__law_pick : Stmt := lTop 41
abbrev s__law_same : Stmt := lTop 42
abbrev s__law_divisor : Stmt := lTop 43
abbrev s__law_lowest : Stmt := lTop 44
abbrev s__law_depths : Stmt := lTop 45
abbrev s__law_tosser : Stmt := lTop 46
abbrev s__law_heard : Stmt := lTop 47
abbrev s__law_rolled : Stmt := lTop 48
abbrev s__law_all_tapes : Stmt := lTop 49
abbrev s__law_is_right : Stmt := lTop 50
abbrev s__law_are_refused : Stmt := lTop 51
abbrev s__law_whole : Stmt := lTop 52
abbrev s_law : Stmt := lTop 53
structure Fx (K : PySem.W.Frag) (mg : Str → Option Value) (base : Heap) (fd : Str → FuncData) : Prop where
  d_is_whole : Dfn K mg "is_whole" s_is_whole (fd "is_whole")
  d_is_whole_between : Dfn K mg "is_whole_between" s_is_whole_between (fd "is_whole_between")
  d_is_whole_from : Dfn K mg "is_whole_from" s_is_whole_from (fd "is_whole_from")
  d_is_tuple_of : Dfn K mg "is_tuple_of" s_is_tuple_of (fd "is_tuple_of")
  d_is_tuple_by : Dfn K mg "is_tuple_by" s_is_tuple_by (fd "is_tuple_by")
  d_is_one_word : Dfn K mg "is_one_word" s_is_one_word (fd "is_one_word")
  d_lowest_weights : Dfn K mg "lowest_weights" s_lowest_weights (fd "lowest_weights")
  d_are_weights : Dfn K mg "are_weights" s_are_weights (fd "are_weights")
  d_need_weights : Dfn K mg "need_weights" s_need_weights (fd "need_weights")
  d_need_low : Dfn K mg "need_low" s_need_low (fd "need_low")
  d_settled : Dfn K mg "settled" s_settled (fd "settled")
  d_is_step : Dfn K mg "is_step" s_is_step (fd "is_step")
  d_are_rows_with : Dfn K mg "are_rows_with" s_are_rows_with (fd "are_rows_with")
  d_are_dice_rows : Dfn K mg "are_dice_rows" s_are_dice_rows (fd "are_dice_rows")
  d_rolled : Dfn K mg "rolled" s_rolled (fd "rolled")
  d__law_deck : Dfn K mg "_law_deck" s__law_deck (fd "_law_deck")
  d__law_draw : Dfn K mg "_law_draw" s__law_draw (fd "_law_draw")
  d__law_pick : Dfn K mg "_law_pick" s__law_pick (fd "_law_pick")
  d__law_same : Dfn K mg "_law_same" s__law_same (fd "_law_same")
  d__law_divisor : Dfn K mg "_law_divisor" s__law_divisor (fd "_law_divisor")
  d__law_lowest : Dfn K mg "_law_lowest" s__law_lowest (fd "_law_lowest")
  d__law_depths : Dfn K mg "_law_depths" s__law_depths (fd "_law_depths")
  d__law_tosser : Dfn K mg "_law_tosser" s__law_tosser (fd "_law_tosser")
  d__law_heard : Dfn K mg "_law_heard" s__law_heard (fd "_law_heard")
  d__law_rolled : Dfn K mg "_law_rolled" s__law_rolled (fd "_law_rolled")
  d__law_all_tapes : Dfn K mg "_law_all_tapes" s__law_all_tapes (fd "_law_all_tapes")
  d__law_is_right : Dfn K mg "_law_is_right" s__law_is_right (fd "_law_is_right")
  d__law_are_refused : Dfn K mg "_law_are_refused" s__law_are_refused (fd "_law_are_refused")
  d__law_whole : Dfn K mg "_law_whole" s__law_whole (fd "_law_whole")
  d_law : Dfn K mg "law" s_law (fd "law")
  b_abs : mg "abs" = none
  b_all : mg "all" = none
  b_any : mg "any" = none
  b_bool : mg "bool" = none
  b_dict : mg "dict" = none
  b_enumerate : mg "enumerate" = none
  b_int : mg "int" = none
  b_isinstance : mg "isinstance" = none
  b_len : mg "len" = none
  b_list : mg "list" = none
  b_max : mg "max" = none
  b_range : mg "range" = none
  b_repr : mg "repr" = none
  b_str : mg "str" = none
  b_sum : mg "sum" = none
  b_tuple : mg "tuple" = none
  b_zip : mg "zip" = none
  c_MOST_BITS : Con0 K mg "MOST_BITS" (.int 20000)
  c_MOST_OUTCOMES : Con0 K mg "MOST_OUTCOMES" (.int 256)
  c_LEAST_SIDES_digits : Con0 K mg "LEAST_SIDES_digits" (.int 2)
  c_MOST_SIDES_digits : Con0 K mg "MOST_SIDES_digits" (.int 12)
  c_MOST_SUM : Con0 K mg "MOST_SUM" (.int 1000)
  c_MOST_ROLLS : Con0 K mg "MOST_ROLLS" (.int 60)
  c_DONE : Con0 K mg "DONE" (.str "done")
  c_ON : Con0 K mg "ON" (.str "on")
  c_PAIR : Con0 K mg "PAIR" (.int 2)
  c_LEAST_SIDES_coinways : Con0 K mg "LEAST_SIDES_coinways" (.int 2)
  c_MOST_SIDES_coinways : Con0 K mg "MOST_SIDES_coinways" (.int 12)
  c_MOST_OUTCOME : Con0 K mg "MOST_OUTCOME" (.int 255)
  e_BadWeights : Er.ErrC K mg "BadWeights" (He.ga K "BadWeights") (He.ma K (He.ga K "BadWeights") "__init__")
  e_BadMany : Er.ErrC K mg "BadMany" (He.ga K "BadMany") (He.ma K (He.ga K "BadMany") "__init__")
  e_BadTape : Er.ErrC K mg "BadTape" (He.ga K "BadTape") (He.ma K (He.ga K "BadTape") "__init__")
  e_BadRows : Er.ErrC K mg "BadRows" (He.ga K "BadRows") (He.ma K (He.ga K "BadRows") "__init__")
  e_TooMany : Er.ErrC K mg "TooMany" (He.ga K "TooMany") (He.ma K (He.ga K "TooMany") "__init__")
  g_HouseError : mg "HouseError" = some (.ref (He.ga K "HouseError"))
  g_BadWeights : mg "BadWeights" = some (.ref (He.ga K "BadWeights"))
  g_BadMany : mg "BadMany" = some (.ref (He.ga K "BadMany"))
  g_BadTape : mg "BadTape" = some (.ref (He.ga K "BadTape"))
  g_BadRows : mg "BadRows" = some (.ref (He.ga K "BadRows"))
  g_TooMany : mg "TooMany" = some (.ref (He.ga K "TooMany"))
  er : ErrsOk K (He.ga K)
  gcd : mg "gcd" = some (.builtin "math.gcd")
  T : ∀ p ∈ lawF, LamX.TabB base mg (He.cT K p).1 (He.cT K p).2
  inj : tabInj K = true
section
variable {P : Program} {w : World} {K : PySem.W.Frag} {mg : Str → Option Value} {base : Heap} {fd : Str → FuncData}
theorem mem_are_weights : ((He.cT K ("are_weights", none)).2, ("are_weights" : Str) ++ ".<locals>." ++ "<lambda>") ∈ lawT K := List.mem_map.mpr ⟨("are_weights", none), by decide, rfl⟩
theorem inj_are_weights (X : Fx K mg base fd) : ∀ r ∈ lawT K, r.1 = (He.cT K ("are_weights", none)).2 → r.2 = ("are_weights" : Str) ++ ".<locals>." ++ "<lambda>" := tabInj_ok X.inj (p := ("are_weights", none)) (by decide)
theorem mem_rolled : ((He.cT K ("rolled", none)).2, ("rolled" : Str) ++ ".<locals>." ++ "<lambda>") ∈ lawT K := List.mem_map.mpr ⟨("rolled", none), by decide, rfl⟩
theorem inj_rolled (X : Fx K mg base fd) : ∀ r ∈ lawT K, r.1 = (He.cT K ("rolled", none)).2 → r.2 = ("rolled" : Str) ++ ".<locals>." ++ "<lambda>" := tabInj_ok X.inj (p := ("rolled", none)) (by decide)
theorem mem__law_are_refused : ((He.cT K ("_law_are_refused", none)).2, ("_law_are_refused" : Str) ++ ".<locals>." ++ "<lambda>") ∈ lawT K := List.mem_map.mpr ⟨("_law_are_refused", none), by decide, rfl⟩
theorem inj__law_are_refused (X : Fx K mg base fd) : ∀ r ∈ lawT K, r.1 = (He.cT K ("_law_are_refused", none)).2 → r.2 = ("_law_are_refused" : Str) ++ ".<locals>." ++ "<lambda>" := tabInj_ok X.inj (p := ("_law_are_refused", none)) (by decide)
def m_is_whole : MS := sRet (mAnd (mF (dIsi "int") [.sl 0]) (mAnd (mNot (mF (dIsi "bool") [.sl 0])) (mF dLe [.m (mF dBits [.sl 0]), .m (mC (.int 20000))])))
def r_is_whole : S0 → RF := fnM m_is_whole 0
theorem sc_is_whole : FnScope ["thing"] ["thing"] (defScope s_is_whole) := ⟨rfl, rfl, rfl, by decide +kernel, rfl, by decide +kernel, by decide +kernel⟩
theorem bd_is_whole (X : Fx K mg base fd) : Binds K (fd "is_whole") ["thing"] [] := X.d_is_whole.F.bindsN fun _ _ _ _ _ _ us hl => match us, hl with | [_], _ => rfl
theorem ok_is_whole (X : Fx K mg base fd) : FnOk P w K mg base (L2.CX P w) 1 (He.ga K "is_whole") (fd "is_whole") ["thing"] (spM K (He.ga K) 1 r_is_whole) := by
  have hN := sc_is_whole.nd
  exact X.d_is_whole.ok sc_is_whole rfl fun A outer s H E hr => (b_one (s_ret (e_and (e_isi (by decide +kernel) boot_int (e_sl 0) rfl X.b_isinstance rfl X.b_int) (e_and (e_not (e_isi (by decide +kernel) boot_bool (e_sl 0) rfl X.b_isinstance rfl X.b_bool)) (e_one (e_cmp op_le v_cmp (o_m (e_bits (e_sl 0))) (o_m (e_glob rfl X.c_MOST_BITS)) (nomark _)))))))
def m_is_whole_between : MS := sRet (mAnd (mCall r_is_whole [.m (mVar 0)]) (mChain (fun i j => decide (i ≤ j)) (fun i j => decide (i ≤ j)) (.sl 1) (.sl 0) (.sl 2)))
def r_is_whole_between : S0 → RF := fnM m_is_whole_between 0
theorem sc_is_whole_between : FnScope ["thing", "least", "most"] ["thing", "least", "most"] (defScope s_is_whole_between) := ⟨rfl, rfl, rfl, by decide +kernel, rfl, by decide +kernel, by decide +kernel⟩
theorem bd_is_whole_between (X : Fx K mg base fd) : Binds K (fd "is_whole_between") ["thing", "least", "most"] [] := X.d_is_whole_between.F.bindsN fun _ _ _ _ _ _ us hl => match us, hl with | [_, _, _], _ => rfl
theorem ok_is_whole_between (X : Fx K mg base fd) : FnOk P w K mg base (L2.CX P w) 2 (He.ga K "is_whole_between") (fd "is_whole_between") ["thing", "least", "most"] (spM K (He.ga K) 3 r_is_whole_between) := by
  have hN := sc_is_whole_between.nd
  exact X.d_is_whole_between.ok sc_is_whole_between rfl fun A outer s H E hr => (b_one (s_ret (e_and (e_call ((ok_is_whole X).mono (by decide)) hr rfl X.d_is_whole.g X.d_is_whole.F.kp (bd_is_whole X) (takes_of rfl rfl rfl rfl) (ag_cons (ag_m (e_var 0)) ag_nil)) (e_one (e_chain op_le op_le (e_sl 1) (e_sl 0) (e_sl 2))))))
def m_is_whole_from : MS := sRet (mAnd (mCall r_is_whole [.m (mVar 0)]) (mF dGe [.sl 0, .sl 1]))
def r_is_whole_from : S0 → RF := fnM m_is_whole_from 0
theorem sc_is_whole_from : FnScope ["thing", "least"] ["thing", "least"] (defScope s_is_whole_from) := ⟨rfl, rfl, rfl, by decide +kernel, rfl, by decide +kernel, by decide +kernel⟩
theorem bd_is_whole_from (X : Fx K mg base fd) : Binds K (fd "is_whole_from") ["thing", "least"] [] := X.d_is_whole_from.F.bindsN fun _ _ _ _ _ _ us hl => match us, hl with | [_, _], _ => rfl
theorem ok_is_whole_from (X : Fx K mg base fd) : FnOk P w K mg base (L2.CX P w) 2 (He.ga K "is_whole_from") (fd "is_whole_from") ["thing", "least"] (spM K (He.ga K) 2 r_is_whole_from) := by
  have hN := sc_is_whole_from.nd
  exact X.d_is_whole_from.ok sc_is_whole_from rfl fun A outer s H E hr => (b_one (s_ret (e_and (e_call ((ok_is_whole X).mono (by decide)) hr rfl X.d_is_whole.g X.d_is_whole.F.kp (bd_is_whole X) (takes_of rfl rfl rfl rfl) (ag_cons (ag_m (e_var 0)) ag_nil)) (e_one (e_cmp op_ge v_cmp (e_sl 0) (e_sl 1) (nomark _))))))
def m_is_tuple_of : MS := sRet (mAnd (mF (dIsi "tuple") [.sl 0]) (mF dEq [.m (mF dLenA [.sl 0]), .sl 1]))
def r_is_tuple_of : S0 → RF := fnM m_is_tuple_of 0
theorem sc_is_tuple_of : FnScope ["thing", "many"] ["thing", "many"] (defScope s_is_tuple_of) := ⟨rfl, rfl, rfl, by decide +kernel, rfl, by decide +kernel, by decide +kernel⟩
theorem bd_is_tuple_of (X : Fx K mg base fd) : Binds K (fd "is_tuple_of") ["thing", "many"] [] := X.d_is_tuple_of.F.bindsN fun _ _ _ _ _ _ us hl => match us, hl with | [_, _], _ => rfl
theorem ok_is_tuple_of (X : Fx K mg base fd) : FnOk P w K mg base (L2.CX P w) 1 (He.ga K "is_tuple_of") (fd "is_tuple_of") ["thing", "many"] (spM K (He.ga K) 2 r_is_tuple_of) := by
  have hN := sc_is_tuple_of.nd
  exact X.d_is_tuple_of.ok sc_is_tuple_of rfl fun A outer s H E hr => (b_one (s_ret (e_and (e_isi (by decide +kernel) boot_tuple (e_sl 0) rfl X.b_isinstance rfl X.b_tuple) (e_one (e_cmp (op_eqD (room_u hr)) v_eq (o_m (e_callB cr_len v_lenA rfl X.b_len boot_len (as_cons (e_sl 0) as_nil))) (e_sl 1) (nomark _))))))
def m_lam_0 : S0 → R D := mCall r_is_whole_from [.m (mVar 0), .m (mC (.int 0))]
theorem ns_0 : NScope lam_0.N lam_0.ps lam_0.fr lam_0.scope := nscope_by (by decide +kernel)
theorem lr_0 (X : Fx K mg base fd) : LamRun P w K mg base (He.ga K) 3 lam_0 (lamM m_lam_0 0) := by
  have hN := ns_0.nd
  exact lam_run ns_0 rfl (fun us cl pm cv ctv hl => match us, hl with | [_], _ => rfl) fun cl c' f A outer s H E hr => (e_call ((ok_is_whole_from X).mono (by decide)) hr rfl X.d_is_whole_from.g X.d_is_whole_from.F.kp (bd_is_whole_from X) (takes_of rfl rfl rfl rfl) (ag_cons (ag_m (e_var 0)) (ag_cons (ag_m e_int) ag_nil)))
def m_lam_1 : S0 → R D := mCall r_is_whole_between [.m (mVar 0), .m (mC (.int 0)), .m (mF dSub [.m (mF dLenA [.m (mF dIx [.sl 1, .m (mC (.int 0))])]), .m (mC (.int 1))])]
theorem ns_1 : NScope lam_1.N lam_1.ps lam_1.fr lam_1.scope := nscope_by (by decide +kernel)
theorem lr_1 (X : Fx K mg base fd) : LamRun P w K mg base (He.ga K) 3 lam_1 (lamM m_lam_1 0) := by
  have hN := ns_1.nd
  exact lam_run ns_1 rfl (fun us cl pm cv ctv hl => match us, hl with | [_], _ => rfl) fun cl c' f A outer s H E hr => (e_call ((ok_is_whole_between X).mono (by decide)) hr rfl X.d_is_whole_between.g X.d_is_whole_between.F.kp (bd_is_whole_between X) (takes_of rfl rfl rfl rfl) (ag_cons (ag_m (e_var 0)) (ag_cons (ag_m e_int) (ag_cons (ag_m (e_op op_sub v_sub (o_m (e_callB cr_len v_lenA rfl X.b_len boot_len (as_cons (o_m (e_ix ix_seq v_ix (e_sl 1) (o_m e_int) (fun _ _ => rfl))) as_nil))) (o_m e_int))) ag_nil))))
def LM0 : Nat → List D → S0 → RF
  | 0 => lamM m_lam_0 0
  | 1 => lamM m_lam_1 0
  | _ => fun _ _ => .bad
theorem lams0 (X : Fx K mg base fd) : LamsRun P w K mg base (He.ga K) 3 LM0 := by
  intro id L hL
  have h0 : [lam_0, lam_1, lam_2, lam_3, lam_4][id]? = some L := hL
  rcases lget h0 with ⟨e, e2⟩ | ⟨j0, e, h1⟩
  · subst e2
    rw [e]
    exact (lr_0 X).mono (by decide)
  subst e
  rcases lget h1 with ⟨e, e2⟩ | ⟨j1, e, h2⟩
  · subst e2
    rw [e]
    exact (lr_1 X).mono (by decide)
  subst e
  rcases lget h2 with ⟨e, e2⟩ | ⟨j2, e, h3⟩
  · subst e2
    rw [e]
    exact lam_none
  subst e
  rcases lget h3 with ⟨e, e2⟩ | ⟨j3, e, h4⟩
  · subst e2
    rw [e]
    exact lam_none
  subst e
  rcases lget h4 with ⟨e, e2⟩ | ⟨j4, e, h5⟩
  · subst e2
    rw [e]
    exact lam_none
  subst e
  cases h5
def m_is_tuple_by : MS := sRet (mAnd (mF (dIsi "tuple") [.sl 0]) (mF dAll [.m (mFrz (mLc (.nm 2) [2] (mItD (mVar 0)) (tYesM) (mClo 1 [.m (mVar 2)] LM0)))]))
def r_is_tuple_by : S0 → RF := fnM m_is_tuple_by 1
theorem sc_is_tuple_by : FnScope ["thing", "look", "part"] ["thing", "look"] (defScope s_is_tuple_by) := ⟨rfl, rfl, rfl, by decide +kernel, rfl, by decide +kernel, by decide +kernel⟩
theorem bd_is_tuple_by (X : Fx K mg base fd) : Binds K (fd "is_tuple_by") ["thing", "look"] [] := X.d_is_tuple_by.F.bindsN fun _ _ _ _ _ _ us hl => match us, hl with | [_, _], _ => rfl
theorem ok_is_tuple_by (X : Fx K mg base fd) : FnOk P w K mg base (L2.CX P w) 4 (He.ga K "is_tuple_by") (fd "is_tuple_by") ["thing", "look"] (spM K (He.ga K) 2 r_is_tuple_by) := by
  have hN := sc_is_tuple_by.nd
  exact X.d_is_tuple_by.ok sc_is_tuple_by rfl fun A outer s H E hr => (b_one (s_ret (e_and (e_isi (by decide +kernel) boot_tuple (e_sl 0) rfl X.b_isinstance rfl X.b_tuple) (e_one (e_callB (cr_all rfl) v_all rfl X.b_all boot_all (as_cons (o_m (e_frz (e_lc (own := [("part", 2)]) rfl hN (blk_ok (by kernel_rfl)) (i_data (e_var 0)) (fun s H C c fp => (gc_name hN rfl (by first | exact Or.inl rfl | exact Or.inr rfl))) (fun s H C c fp => ts_nil) (fun s H C c fp => (e_clo ((lams0 X).mono (by decide)) hr takes0 1 (ag_cons (ag_m (e_var 2)) ag_nil)))))) as_nil))))))
def m_is_one_word : MS := sRet (mAnd (mF (dIsi "str") [.sl 0]) (mF dIn [.sl 0, .sl 1]))
def r_is_one_word : S0 → RF := fnM m_is_one_word 0
theorem sc_is_one_word : FnScope ["thing", "words"] ["thing", "words"] (defScope s_is_one_word) := ⟨rfl, rfl, rfl, by decide +kernel, rfl, by decide +kernel, by decide +kernel⟩
theorem bd_is_one_word (X : Fx K mg base fd) : Binds K (fd "is_one_word") ["thing", "words"] [] := X.d_is_one_word.F.bindsN fun _ _ _ _ _ _ us hl => match us, hl with | [_, _], _ => rfl
theorem ok_is_one_word (X : Fx K mg base fd) : FnOk P w K mg base (L2.CX P w) 1 (He.ga K "is_one_word") (fd "is_one_word") ["thing", "words"] (spM K (He.ga K) 2 r_is_one_word) := by
  have hN := sc_is_one_word.nd
  exact X.d_is_one_word.ok sc_is_one_word rfl fun A outer s H E hr => (b_one (s_ret (e_and (e_isi (by decide +kernel) boot_str (e_sl 0) rfl X.b_isinstance rfl X.b_str) (e_one (e_cmp op_in_seq v_in (e_sl 0) (e_sl 1) rfl)))))
def m_lowest_weights : MS := sSeq (sSet 1 (mC (.int 0)))
  (sSeq (sFor (mItD (mVar 0)) (.nm 2)
  (sSet 1 (mF dGcd [.sl 1, .sl 2])))
  (sRet (mFrz (mLc (.nm 2) [2] (mItD (mVar 0)) (tYesM) (mF dFloor [.sl 2, .sl 1])))))
def r_lowest_weights : S0 → RF := fnM m_lowest_weights 2
theorem sc_lowest_weights : FnScope ["weights", "shared", "weight"] ["weights"] (defScope s_lowest_weights) := ⟨rfl, rfl, rfl, by decide +kernel, rfl, by decide +kernel, by decide +kernel⟩
theorem bd_lowest_weights (X : Fx K mg base fd) : Binds K (fd "lowest_weights") ["weights"] [] := X.d_lowest_weights.F.bindsN fun _ _ _ _ _ _ us hl => match us, hl with | [_], _ => rfl
theorem ok_lowest_weights (X : Fx K mg base fd) : FnOk P w K mg base (L2.CX P w) 1 (He.ga K "lowest_weights") (fd "lowest_weights") ["weights"] (spM K (He.ga K) 1 r_lowest_weights) := by
  have hN := sc_lowest_weights.nd
  exact X.d_lowest_weights.ok sc_lowest_weights rfl fun A outer s H E hr => (b_cons (s_set hN rfl (by first | exact Or.inl rfl | exact Or.inr rfl) e_int)
  (b_cons (s_for (passes_of rfl) rfl (i_data (e_var 0)) (g_name hN rfl (by first | exact Or.inl rfl | exact Or.inr rfl))
  (b_one (s_set hN rfl (by first | exact Or.inl rfl | exact Or.inr rfl) (e_callG cr_gcd v_gcd rfl X.gcd (as_cons (e_sl 1) (as_cons (e_sl 2) as_nil))))))
  (b_one (s_ret (e_frz (e_lc (own := [("weight", 2)]) rfl hN (blk_ok (by kernel_rfl)) (i_data (e_var 0)) (fun s H C c fp => (gc_name hN rfl (by first | exact Or.inl rfl | exact Or.inr rfl))) (fun s H C c fp => ts_nil) (fun s H C c fp => (e_op op_floor v_floor (e_sl 2) (e_sl 1)))))))))
def m_are_weights : MS := sSeq (sIf (bOr (bNot (toB (mCallC r_is_tuple_by [.m (mVar 0)] 0 []))) (bNot (toB (mChain (fun i j => decide (i ≤ j)) (fun i j => decide (i ≤ j)) (.m (mC (.int 1))) (.m (mF dLenA [.sl 0])) (.m (mC (.int 256)))))))
  (sRet (mC (.bool false)))
  (sNop))
  (sRet (mF dAny [.sl 0]))
def r_are_weights : S0 → RF := fnM m_are_weights 0
theorem sc_are_weights : FnScope ["thing"] ["thing"] (defScope s_are_weights) := ⟨rfl, rfl, rfl, by decide +kernel, rfl, by decide +kernel, by decide +kernel⟩
theorem bd_are_weights (X : Fx K mg base fd) : Binds K (fd "are_weights") ["thing"] [] := X.d_are_weights.F.bindsN fun _ _ _ _ _ _ us hl => match us, hl with | [_], _ => rfl
theorem ok_are_weights (X : Fx K mg base fd) : FnOk P w K mg base (L2.CX P w) 5 (He.ga K "are_weights") (fd "are_weights") ["thing"] (spM K (He.ga K) 1 r_are_weights) := by
  have hN := sc_are_weights.nd
  exact X.d_are_weights.ok sc_are_weights rfl fun A outer s H E hr => (b_cons (s_if (PW.pt (c_or (c_not (c_val (e_callC (L := lam_0) (id := 0) (js := []) rfl ns_0 ((ok_is_tuple_by X).mono (by decide)) hr rfl X.d_is_tuple_by.g X.d_is_tuple_by.F.kp (bd_is_tuple_by X) (takes_of rfl rfl rfl rfl) (.cons (ag_m (e_var 0)) .nil) rfl (X.T _ (by decide)) rfl rfl mem_are_weights (inj_are_weights X) rfl (free_okB (by kernel_rfl)) (by decide +kernel) rfl (fun _ => rfl)))) (c_or1 (c_not (c_chain op_le op_le (o_m e_int) (o_m (e_callB cr_len v_lenA rfl X.b_len boot_len (as_cons (e_sl 0) as_nil))) (o_m (e_glob rfl X.c_MOST_OUTCOMES)))))))
  (b_one (s_ret e_bl))
  b_nil)
  (b_one (s_ret (e_callB (cr_anyAll rfl) v_any rfl X.b_any boot_any (as_cons (e_sl 0) as_nil)))))
def m_need_weights : MS := sSeq (sIf (bNot (toB (mCall r_are_weights [.m (mVar 0)])))
  (sRaise "BadWeights" (mVar 0))
  (sNop))
  (sIf (bNot (toB (mCall r_is_whole_between [.m (mVar 1), .m (mC (.int 2)), .m (mC (.int 12))])))
  (sRaise "BadMany" (mVar 1))
  (sNop))
def r_need_weights : S0 → RF := fnM m_need_weights 0
theorem sc_need_weights : FnScope ["weights", "sides"] ["weights", "sides"] (defScope s_need_weights) := ⟨rfl, rfl, rfl, by decide +kernel, rfl, by decide +kernel, by decide +kernel⟩
theorem bd_need_weights (X : Fx K mg base fd) : Binds K (fd "need_weights") ["weights", "sides"] [] := X.d_need_weights.F.bindsN fun _ _ _ _ _ _ us hl => match us, hl with | [_, _], _ => rfl
theorem ok_need_weights (X : Fx K mg base fd) : FnOk P w K mg base (L2.CX P w) 6 (He.ga K "need_weights") (fd "need_weights") ["weights", "sides"] (spM K (He.ga K) 2 r_need_weights) := by
  have hN := sc_need_weights.nd
  exact X.d_need_weights.ok sc_need_weights rfl fun A outer s H E hr => (b_cons (s_if (c_not (c_val (e_call ((ok_are_weights X).mono (by decide)) hr rfl X.d_are_weights.g X.d_are_weights.F.kp (bd_are_weights X) (takes_of rfl rfl rfl rfl) (ag_cons (ag_m (e_var 0)) ag_nil))))
  (b_one (s_raise rfl X.e_BadWeights hr (takes_of rfl rfl rfl rfl) (e_var 0) rfl))
  b_nil)
  (b_one (s_if (c_not (c_val (e_call ((ok_is_whole_between X).mono (by decide)) hr rfl X.d_is_whole_between.g X.d_is_whole_between.F.kp (bd_is_whole_between X) (takes_of rfl rfl rfl rfl) (ag_cons (ag_m (e_var 1)) (ag_cons (ag_m (e_glob rfl X.c_LEAST_SIDES_digits)) (ag_cons (ag_m (e_glob rfl X.c_MOST_SIDES_digits)) ag_nil))))))
  (b_one (s_raise rfl X.e_BadMany hr (takes_of rfl rfl rfl rfl) (e_var 1) rfl))
  b_nil)))
def m_need_low : MS := sIf (toB (mF dGt [.m (mF dSum [.m (mCall r_lowest_weights [.m (mVar 0)])]), .m (mC (.int 1000))]))
  (sRaise "TooMany" (mVar 0))
  (sNop)
def r_need_low : S0 → RF := fnM m_need_low 0
theorem sc_need_low : FnScope ["weights"] ["weights"] (defScope s_need_low) := ⟨rfl, rfl, rfl, by decide +kernel, rfl, by decide +kernel, by decide +kernel⟩
theorem bd_need_low (X : Fx K mg base fd) : Binds K (fd "need_low") ["weights"] [] := X.d_need_low.F.bindsN fun _ _ _ _ _ _ us hl => match us, hl with | [_], _ => rfl
theorem ok_need_low (X : Fx K mg base fd) : FnOk P w K mg base (L2.CX P w) 2 (He.ga K "need_low") (fd "need_low") ["weights"] (spM K (He.ga K) 1 r_need_low) := by
  have hN := sc_need_low.nd
  exact X.d_need_low.ok sc_need_low rfl fun A outer s H E hr => (b_one (s_if (c_cmp op_gt v_cmp (o_m (e_callB (cr_sumAll rfl) v_sum rfl X.b_sum boot_sum (as_cons (o_m (e_call ((ok_lowest_weights X).mono (by decide)) hr rfl X.d_lowest_weights.g X.d_lowest_weights.F.kp (bd_lowest_weights X) (takes_of rfl rfl rfl rfl) (ag_cons (ag_m (e_var 0)) ag_nil))) as_nil))) (o_m (e_glob rfl X.c_MOST_SUM)) (nomark _))
  (b_one (s_raise rfl X.e_TooMany hr (takes_of rfl rfl rfl rfl) (e_var 0) rfl))
  b_nil))
def m_settled : MS := sSeq (sDrop (mCall r_need_weights [.m (mVar 0), .m (mVar 1)]))
  (sSeq (sIf (bNot (toB (mCall r_is_whole_between [.m (mVar 2), .m (mC (.int 0)), .m (mC (.int 60))])))
  (sRaise "BadMany" (mVar 2))
  (sNop))
  (sSeq (sDrop (mCall r_need_low [.m (mVar 0)]))
  (sSeq (sPat (.tup [(.nm 3), (.nm 4)]) (mTup [mCall r_lowest_weights [.m (mVar 0)], mC (.int 1)]))
  (sSeq (sFor (mRange1 (.sl 2)) (.nm 5)
  (sSet 4 (mF dMulA [.sl 4, .sl 1])))
  (sRet (mF dTuple [.m (mFrz (mLc (.nm 6) [6] (mItD (mVar 3)) (tYesM) (mF dFloor [.m (mF dMulA [.sl 6, .sl 4]), .m (mF dSum [.sl 3])])))]))))))
def r_settled : S0 → RF := fnM m_settled 4
theorem sc_settled : FnScope ["weights", "sides", "rolls", "low", "many", "turn", "weight"] ["weights", "sides", "rolls"] (defScope s_settled) := ⟨rfl, rfl, rfl, by decide +kernel, rfl, by decide +kernel, by decide +kernel⟩
theorem bd_settled (X : Fx K mg base fd) : Binds K (fd "settled") ["weights", "sides", "rolls"] [] := X.d_settled.F.bindsN fun _ _ _ _ _ _ us hl => match us, hl with | [_, _, _], _ => rfl
theorem ok_settled (X : Fx K mg base fd) : FnOk P w K mg base (L2.CX P w) 7 (He.ga K "settled") (fd "settled") ["weights", "sides", "rolls"] (spM K (He.ga K) 3 r_settled) := by
  have hN := sc_settled.nd
  exact X.d_settled.ok sc_settled rfl fun A outer s H E hr => (b_cons (s_expr (e_call ((ok_need_weights X).mono (by decide)) hr rfl X.d_need_weights.g X.d_need_weights.F.kp (bd_need_weights X) (takes_of rfl rfl rfl rfl) (ag_cons (ag_m (e_var 0)) (ag_cons (ag_m (e_var 1)) ag_nil))))
  (b_cons (s_if (c_not (c_val (e_call ((ok_is_whole_between X).mono (by decide)) hr rfl X.d_is_whole_between.g X.d_is_whole_between.F.kp (bd_is_whole_between X) (takes_of rfl rfl rfl rfl) (ag_cons (ag_m (e_var 2)) (ag_cons (ag_m e_int) (ag_cons (ag_m (e_glob rfl X.c_MOST_ROLLS)) ag_nil))))))
  (b_one (s_raise rfl X.e_BadMany hr (takes_of rfl rfl rfl rfl) (e_var 2) rfl))
  b_nil)
  (b_cons (s_expr (e_call ((ok_need_low X).mono (by decide)) hr rfl X.d_need_low.g X.d_need_low.F.kp (bd_need_low X) (takes_of rfl rfl rfl rfl) (ag_cons (ag_m (e_var 0)) ag_nil)))
  (b_cons (s_asg (e_tup (ms_cons (e_call ((ok_lowest_weights X).mono (by decide)) hr rfl X.d_lowest_weights.g X.d_lowest_weights.F.kp (bd_lowest_weights X) (takes_of rfl rfl rfl rfl) (ag_cons (ag_m (e_var 0)) ag_nil)) (ms_cons e_int ms_nil))) (g_tup rfl (gs_cons (g_name hN rfl (by first | exact Or.inl rfl | exact Or.inr rfl)) (gs_cons (g_name hN rfl (by first | exact Or.inl rfl | exact Or.inr rfl)) gs_nil))))
  (b_cons (s_for (passes_of rfl) rfl (i_range1 rfl X.b_range (as_cons (e_sl 2) as_nil)) (g_name hN rfl (by first | exact Or.inl rfl | exact Or.inr rfl))
  (b_one (s_set hN rfl (by first | exact Or.inl rfl | exact Or.inr rfl) (e_op op_mulA v_mulA (e_sl 4) (e_sl 1)))))
  (b_one (s_ret (e_callTy call_tuple_of v_tuple rfl X.b_tuple boot_tuple (as_cons (o_m (e_frz (e_lc (own := [("weight", 6)]) rfl hN (blk_ok (by kernel_rfl)) (i_data (e_var 3)) (fun s H C c fp => (gc_name hN rfl (by first | exact Or.inl rfl | exact Or.inr rfl))) (fun s H C c fp => ts_nil) (fun s H C c fp => (e_op op_floor v_floor (o_m (e_op op_mulA v_mulA (e_sl 6) (e_sl 4))) (o_m (e_callB (cr_sumAll rfl) v_sum rfl X.b_sum boot_sum (as_cons (e_sl 3) as_nil)))))))) as_nil)))))))))
def m_is_step : MS := sSeq (sIf (bOr (bNot (toB (mCall r_is_tuple_of [.m (mVar 1), .m (mC (.int 2))]))) (bNot (toB (mCall r_is_one_word [.m (mF dIx [.sl 1, .m (mC (.int 0))]), .m (mTup [mC (.str "done"), mC (.str "on")])]))))
  (sRet (mC (.bool false)))
  (sNop))
  (sRet (mCall r_is_whole_between [.m (mF dIx [.sl 1, .m (mC (.int 1))]), .m (mC (.int 0)), .m (mIf (toB (mF dEq [.m (mF dIx [.sl 1, .m (mC (.int 0))]), .m (mC (.str "done"))])) (mC (.int 255)) (mF dSub [.sl 0, .m (mC (.int 1))]))]))
def r_is_step : S0 → RF := fnM m_is_step 0
theorem sc_is_step : FnScope ["many", "thing"] ["many", "thing"] (defScope s_is_step) := ⟨rfl, rfl, rfl, by decide +kernel, rfl, by decide +kernel, by decide +kernel⟩
theorem bd_is_step (X : Fx K mg base fd) : Binds K (fd "is_step") ["many", "thing"] [] := X.d_is_step.F.bindsN fun _ _ _ _ _ _ us hl => match us, hl with | [_, _], _ => rfl
theorem ok_is_step (X : Fx K mg base fd) : FnOk P w K mg base (L2.CX P w) 3 (He.ga K "is_step") (fd "is_step") ["many", "thing"] (spM K (He.ga K) 2 r_is_step) := by
  have hN := sc_is_step.nd
  exact X.d_is_step.ok sc_is_step rfl fun A outer s H E hr => (b_cons (s_if (PW.pt (c_or (c_not (c_val (e_call ((ok_is_tuple_of X).mono (by decide)) hr rfl X.d_is_tuple_of.g X.d_is_tuple_of.F.kp (bd_is_tuple_of X) (takes_of rfl rfl rfl rfl) (ag_cons (ag_m (e_var 1)) (ag_cons (ag_m (e_glob rfl X.c_PAIR)) ag_nil))))) (c_or1 (c_not (c_val (e_call ((ok_is_one_word X).mono (by decide)) hr rfl X.d_is_one_word.g X.d_is_one_word.F.kp (bd_is_one_word X) (takes_of rfl rfl rfl rfl) (ag_cons (ag_m (e_ix ix_seq v_ix (e_sl 1) (o_m e_int) (fun _ _ => rfl))) (ag_cons (ag_m (e_tup (ms_cons (e_glob rfl X.c_DONE) (ms_cons (e_glob rfl X.c_ON) ms_nil)))) ag_nil))))))))
  (b_one (s_ret e_bl))
  b_nil)
  (b_one (s_ret (e_call ((ok_is_whole_between X).mono (by decide)) hr rfl X.d_is_whole_between.g X.d_is_whole_between.F.kp (bd_is_whole_between X) (takes_of rfl rfl rfl rfl) (ag_cons (ag_m (e_ix ix_seq v_ix (e_sl 1) (o_m e_int) (fun _ _ => rfl))) (ag_cons (ag_m e_int) (ag_cons (ag_m (e_if (c_cmp (op_eqD (room_u hr)) v_eq (o_m (e_ix ix_seq v_ix (e_sl 1) (o_m e_int) (fun _ _ => rfl))) (o_m (e_glob rfl X.c_DONE)) (nomark _)) (e_glob rfl X.c_MOST_OUTCOME) (e_op op_sub v_sub (e_sl 0) (o_m e_int)))) ag_nil)))))))
def m_are_rows_with : MS := sSeq (sIf (bOr (bNot (toB (mF (dIsi "tuple") [.sl 1]))) (toB (mF dEq [.sl 1, .m (mTup [])])))
  (sRet (mC (.bool false)))
  (sNop))
  (sSeq (sSet 2 (mF dLenA [.sl 1]))
  (sRet (mF dAll [.m (mFrz (mLc (.nm 3) [3] (mItD (mVar 1)) (tYesM) (mAnd (mCall r_is_tuple_of [.m (mVar 3), .m (mVar 0)]) (mF dAll [.m (mFrz (mLc (.nm 4) [4] (mItD (mVar 3)) (tYesM) (mCall r_is_step [.m (mVar 2), .m (mVar 4)])))]))))])))
def r_are_rows_with : S0 → RF := fnM m_are_rows_with 3
theorem sc_are_rows_with : FnScope ["sides", "thing", "many", "row", "step"] ["sides", "thing"] (defScope s_are_rows_with) := ⟨rfl, rfl, rfl, by decide +kernel, rfl, by decide +kernel, by decide +kernel⟩
theorem bd_are_rows_with (X : Fx K mg base fd) : Binds K (fd "are_rows_with") ["sides", "thing"] [] := X.d_are_rows_with.F.bindsN fun _ _ _ _ _ _ us hl => match us, hl with | [_, _], _ => rfl
theorem ok_are_rows_with (X : Fx K mg base fd) : FnOk P w K mg base (L2.CX P w) 4 (He.ga K "are_rows_with") (fd "are_rows_with") ["sides", "thing"] (spM K (He.ga K) 2 r_are_rows_with) := by
  have hN := sc_are_rows_with.nd
  exact X.d_are_rows_with.ok sc_are_rows_with rfl fun A outer s H E hr => (b_cons (s_if (PW.pt (c_or (c_not (c_val (e_isi (by decide +kernel) boot_tuple (e_sl 1) rfl X.b_isinstance rfl X.b_tuple))) (c_or1 (c_cmp (op_eqD (room_u hr)) v_eq (e_sl 1) (o_m (e_tup ms_nil)) (nomark _)))))
  (b_one (s_ret e_bl))
  b_nil)
  (b_cons (s_set hN rfl (by first | exact Or.inl rfl | exact Or.inr rfl) (e_callB cr_len v_lenA rfl X.b_len boot_len (as_cons (e_sl 1) as_nil)))
  (b_one (s_ret (e_callB (cr_all rfl) v_all rfl X.b_all boot_all (as_cons (o_m (e_frz (e_lc (own := [("row", 3)]) rfl hN (blk_ok (by kernel_rfl)) (i_data (e_var 1)) (fun s H C c fp => (gc_name hN rfl (by first | exact Or.inl rfl | exact Or.inr rfl))) (fun s H C c fp => ts_nil) (fun s H C c fp => (e_and (e_call ((ok_is_tuple_of X).mono (by decide)) hr rfl X.d_is_tuple_of.g X.d_is_tuple_of.F.kp (bd_is_tuple_of X) takes0 (ag_cons (ag_m (e_var 3)) (ag_cons (ag_m (e_var 0)) ag_nil))) (e_one (e_callB (cr_all rfl) v_all rfl X.b_all boot_all (as_cons (o_m (e_frz (e_lc (own := [("step", 4)]) rfl hN (blk_ok (by kernel_rfl)) (i_data (e_var 3)) (fun s H C c fp => (gc_name hN rfl (by first | exact Or.inl rfl | exact Or.inr rfl))) (fun s H C c fp => ts_nil) (fun s H C c fp => (e_call ((ok_is_step X).mono (by decide)) hr rfl X.d_is_step.g X.d_is_step.F.kp (bd_is_step X) takes0 (ag_cons (ag_m (e_var 2)) (ag_cons (ag_m (e_var 4)) ag_nil))))))) as_nil)))))))) as_nil))))))
def m_are_dice_rows : MS := sSeq (sIf (bOr (bNot (toB (mF (dIsi "tuple") [.sl 0]))) (bOr (toB (mF dEq [.sl 0, .m (mTup [])])) (bNot (toB (mF (dIsi "tuple") [.m (mF dIx [.sl 0, .m (mC (.int 0))])])))))
  (sRet (mC (.bool false)))
  (sNop))
  (sRet (mAnd (mChain (fun i j => decide (i ≤ j)) (fun i j => decide (i ≤ j)) (.m (mC (.int 2))) (.m (mF dLenA [.m (mF dIx [.sl 0, .m (mC (.int 0))])])) (.m (mC (.int 12)))) (mCall r_are_rows_with [.m (mF dLenA [.m (mF dIx [.sl 0, .m (mC (.int 0))])]), .m (mVar 0)])))
def r_are_dice_rows : S0 → RF := fnM m_are_dice_rows 0
theorem sc_are_dice_rows : FnScope ["thing"] ["thing"] (defScope s_are_dice_rows) := ⟨rfl, rfl, rfl, by decide +kernel, rfl, by decide +kernel, by decide +kernel⟩
theorem bd_are_dice_rows (X : Fx K mg base fd) : Binds K (fd "are_dice_rows") ["thing"] [] := X.d_are_dice_rows.F.bindsN fun _ _ _ _ _ _ us hl => match us, hl with | [_], _ => rfl
theorem ok_are_dice_rows (X : Fx K mg base fd) : FnOk P w K mg base (L2.CX P w) 5 (He.ga K "are_dice_rows") (fd "are_dice_rows") ["thing"] (spM K (He.ga K) 1 r_are_dice_rows) := by
  have hN := sc_are_dice_rows.nd
  exact X.d_are_dice_rows.ok sc_are_dice_rows rfl fun A outer s H E hr => (b_cons (s_if (PW.pt (c_or (c_not (c_val (e_isi (by decide +kernel) boot_tuple (e_sl 0) rfl X.b_isinstance rfl X.b_tuple))) (c_or (c_cmp (op_eqD (room_u hr)) v_eq (e_sl 0) (o_m (e_tup ms_nil)) (nomark _)) (c_or1 (c_not (c_val (e_isi (by decide +kernel) boot_tuple (o_m (e_ix ix_seq v_ix (e_sl 0) (o_m e_int) (fun _ _ => rfl))) rfl X.b_isinstance rfl X.b_tuple)))))))
  (b_one (s_ret e_bl))
  b_nil)
  (b_one (s_ret (e_and (e_chain op_le op_le (o_m (e_glob rfl X.c_LEAST_SIDES_coinways)) (o_m (e_callB cr_len v_lenA rfl X.b_len boot_len (as_cons (o_m (e_ix ix_seq v_ix (e_sl 0) (o_m e_int) (fun _ _ => rfl))) as_nil))) (o_m (e_glob rfl X.c_MOST_SIDES_coinways))) (e_one (e_call ((ok_are_rows_with X).mono (by decide)) hr rfl X.d_are_rows_with.g X.d_are_rows_with.F.kp (bd_are_rows_with X) (takes_of rfl rfl rfl rfl) (ag_cons (ag_m (e_callB cr_len v_lenA rfl X.b_len boot_len (as_cons (o_m (e_ix ix_seq v_ix (e_sl 0) (o_m e_int) (fun _ _ => rfl))) as_nil))) (ag_cons (ag_m (e_var 0)) ag_nil))))))))
def m_rolled : MS := sSeq (sIf (bNot (toB (mCall r_are_dice_rows [.m (mVar 0)])))
  (sRaise "BadRows" (mVar 0))
  (sNop))
  (sSeq (sIf (bNot (toB (mCallC r_is_tuple_by [.m (mVar 1)] 1 [0])))
  (sRaise "BadTape" (mVar 1))
  (sNop))
  (sSeq (sSet 2 (mC (.int 0)))
  (sSeq (sFor (mEnum (mVar 1)) (.tup [(.nm 3), (.nm 4)])
  (sSeq (sPat (.tup [(.nm 5), (.nm 6)]) (mF dIx [.m (mF dIx [.sl 0, .sl 2]), .sl 4]))
  (sSeq (sIf (toB (mF dEq [.sl 5, .m (mC (.str "done"))]))
  (sRet (mTup [mC (.str "done"), mVar 6, mF dAdd [.sl 3, .m (mC (.int 1))]]))
  (sNop))
  (sSet 2 (mVar 6)))))
  (sRet (mTup [mC (.str "on"), mVar 2])))))
def r_rolled : S0 → RF := fnM m_rolled 5
theorem sc_rolled : FnScope ["rows", "tape", "number", "at", "roll", "word", "further"] ["rows", "tape"] (defScope s_rolled) := ⟨rfl, rfl, rfl, by decide +kernel, rfl, by decide +kernel, by decide +kernel⟩
theorem bd_rolled (X : Fx K mg base fd) : Binds K (fd "rolled") ["rows", "tape"] [] := X.d_rolled.F.bindsN fun _ _ _ _ _ _ us hl => match us, hl with | [_, _], _ => rfl
theorem kb_rolled_tape_rows (X : Fx K mg base fd) : KwB K (fd "rolled") ["rows", "tape"] ["tape", "rows"] [1, 0] := kwB_of X.d_rolled.F fun _ _ _ _ _ _ ws hl => match ws, hl with | [_, _], _ => rfl
theorem ok_rolled (X : Fx K mg base fd) : FnOk P w K mg base (L2.CX P w) 6 (He.ga K "rolled") (fd "rolled") ["rows", "tape"] (spM K (He.ga K) 2 r_rolled) := by
  have hN := sc_rolled.nd
  exact X.d_rolled.ok sc_rolled rfl fun A outer s H E hr => (b_cons (s_if (c_not (c_val (e_call ((ok_are_dice_rows X).mono (by decide)) hr rfl X.d_are_dice_rows.g X.d_are_dice_rows.F.kp (bd_are_dice_rows X) (takes_of rfl rfl rfl rfl) (ag_cons (ag_m (e_var 0)) ag_nil))))
  (b_one (s_raise rfl X.e_BadRows hr (takes_of rfl rfl rfl rfl) (e_var 0) rfl))
  b_nil)
  (b_cons (s_if (c_not (c_val (e_callC (L := lam_1) (id := 1) (js := [0]) rfl ns_1 ((ok_is_tuple_by X).mono (by decide)) hr rfl X.d_is_tuple_by.g X.d_is_tuple_by.F.kp (bd_is_tuple_by X) (takes_of rfl rfl rfl rfl) (.cons (ag_m (e_var 1)) .nil) rfl (X.T _ (by decide)) rfl rfl mem_rolled (inj_rolled X) rfl (free_okB (by kernel_rfl)) (by decide +kernel) rfl (fun _ => rfl))))
  (b_one (s_raise rfl X.e_BadTape hr (takes_of rfl rfl rfl rfl) (e_var 1) rfl))
  b_nil)
  (b_cons (s_set hN rfl (by first | exact Or.inl rfl | exact Or.inr rfl) e_int)
  (b_cons (s_for (passes_of rfl) rfl (i_enum rfl X.b_enumerate (e_var 1)) (g_tup rfl (gs_cons (g_name hN rfl (by first | exact Or.inl rfl | exact Or.inr rfl)) (gs_cons (g_name hN rfl (by first | exact Or.inl rfl | exact Or.inr rfl)) gs_nil)))
  (b_cons (s_asg (e_ix ix_seq v_ix (o_m (e_ix ix_seq v_ix (e_sl 0) (e_sl 2) (fun _ _ => rfl))) (e_sl 4) (fun _ _ => rfl)) (g_tup rfl (gs_cons (g_name hN rfl (by first | exact Or.inl rfl | exact Or.inr rfl)) (gs_cons (g_name hN rfl (by first | exact Or.inl rfl | exact Or.inr rfl)) gs_nil))))
  (b_cons (s_if (c_cmp (op_eqD (room_u hr)) v_eq (e_sl 5) (o_m (e_glob rfl X.c_DONE)) (nomark _))
  (b_one (s_ret (e_tup (ms_cons (e_glob rfl X.c_DONE) (ms_cons (e_var 6) (ms_cons (e_op op_addAll v_addAll (e_sl 3) (o_m e_int)) ms_nil))))))
  b_nil)
  (b_one (s_set hN rfl (by first | exact Or.inl rfl | exact Or.inr rfl) (e_var 6))))))
  (b_one (s_ret (e_tup (ms_cons (e_glob rfl X.c_ON) (ms_cons (e_var 2) ms_nil)))))))))
def m__law_draw : MS := sSeq (sDkPut 0 (mF dAdd [.m (mDkI 0 "draws"), .m (mC (.int 1))]))
  (sSeq (sSet 2 (mF dAdd [.m (mDkI 0 "mixed"), .m (mF dMulA [.m (mC (.int 61291)), .m (mDkI 0 "draws")])]))
  (sSeq (sIf (toB (mDkNe 0))
  (sSeq (sSet 3 (mDkPop 0))
  (sSeq (sIf (toB (mF dGe [.sl 3, .m (mF dPow [.m (mC (.int 10)), .m (mC (.int 18))])]))
  (sSeq (sDrop (mDkApp 0 (mF dFloor [.sl 3, .m (mF dMax2 [.m (mC (.int 2)), .sl 1])])))
  (sRet (mF dMod [.m (mF dInt [.sl 3]), .sl 1])))
  (sNop))
  (sSet 2 (mF dAdd [.sl 2, .m (mF dMod [.m (mF dInt [.sl 3]), .m (mC (.int 2147483629))])]))))
  (sNop))
  (sSeq (sSet 2 (mF dMod [.m (mF dInt [.m (mF dAdd [.m (mF dMulA [.sl 2, .m (mC (.int 39373))]), .m (mC (.int 24130))])]), .m (mC (.int 2147483629))]))
  (sSeq (sSet 2 (mF dMod [.m (mF dInt [.m (mF dAdd [.m (mF dAdd [.m (mF dMulA [.sl 2, .sl 2]), .m (mF dMulA [.m (mC (.int 52774)), .m (mDkI 0 "draws")])]), .m (mC (.int 11))])]), .m (mC (.int 2147483587))]))
  (sRet (mF dMod [.m (mF dInt [.m (mF dFloor [.m (mF dMod [.m (mF dInt [.m (mF dMulA [.sl 2, .m (mC (.int 48271))])]), .m (mC (.int 2147483399))]), .m (mC (.int 64))])]), .sl 1]))))))
def r__law_draw : S0 → RF := fnM m__law_draw 2
theorem sc__law_draw : FnScope ["deck", "many", "number", "cell"] ["deck", "many"] (defScope s__law_draw) := ⟨rfl, rfl, rfl, by decide +kernel, rfl, by decide +kernel, by decide +kernel⟩
theorem bd__law_draw (X : Fx K mg base fd) : Binds K (fd "_law_draw") ["deck", "many"] [] := X.d__law_draw.F.bindsN fun _ _ _ _ _ _ us hl => match us, hl with | [_, _], _ => rfl
theorem ok__law_draw (X : Fx K mg base fd) : FnOk P w K mg base (L2.CX P w) 1 (He.ga K "_law_draw") (fd "_law_draw") ["deck", "many"] (spM K (He.ga K) 2 r__law_draw) := by
  have hN := sc__law_draw.nd
  exact X.d__law_draw.ok sc__law_draw rfl fun A outer s H E hr => (b_cons (s_dkPut (room_1 hr) 0 (e_op op_addAll v_addAll (o_m (e_dkI (room_1 hr) 0)) (o_m e_int)))
  (b_cons (s_set hN rfl (by first | exact Or.inl rfl | exact Or.inr rfl) (e_op op_addAll v_addAll (o_m (e_dkI (room_1 hr) 0)) (o_m (e_op op_mulA v_mulA (o_m e_int) (o_m (e_dkI (room_1 hr) 0))))))
  (b_cons (s_if (c_dkNe (room_u hr) 0)
  (b_cons (s_set hN rfl (by first | exact Or.inl rfl | exact Or.inr rfl) (e_dkPop (room_1 hr) 0))
  (b_cons (s_if (c_cmp op_ge v_cmp (e_sl 3) (o_m (e_op op_pow v_pow (o_m e_int) (o_m e_int))) (nomark _))
  (b_cons (s_expr (e_dkApp (room_1 hr) 0 (e_op op_floor v_floor (e_sl 3) (o_m (e_callB (call_max2 rfl) v_max2 rfl X.b_max boot_max (as_cons (o_m e_int) (as_cons (e_sl 1) as_nil)))))))
  (b_one (s_ret (e_op op_modN v_mod (o_m (e_callTy call_int1 v_int rfl X.b_int boot_int (as_cons (e_sl 3) as_nil))) (e_sl 1)))))
  b_nil)
  (b_one (s_set hN rfl (by first | exact Or.inl rfl | exact Or.inr rfl) (e_op op_addAll v_addAll (e_sl 2) (o_m (e_op op_modN v_mod (o_m (e_callTy call_int1 v_int rfl X.b_int boot_int (as_cons (e_sl 3) as_nil))) (o_m e_int))))))))
  b_nil)
  (b_cons (s_set hN rfl (by first | exact Or.inl rfl | exact Or.inr rfl) (e_op op_modN v_mod (o_m (e_callTy call_int1 v_int rfl X.b_int boot_int (as_cons (o_m (e_op op_addAll v_addAll (o_m (e_op op_mulA v_mulA (e_sl 2) (o_m e_int))) (o_m e_int))) as_nil))) (o_m e_int)))
  (b_cons (s_set hN rfl (by first | exact Or.inl rfl | exact Or.inr rfl) (e_op op_modN v_mod (o_m (e_callTy call_int1 v_int rfl X.b_int boot_int (as_cons (o_m (e_op op_addAll v_addAll (o_m (e_op op_addAll v_addAll (o_m (e_op op_mulA v_mulA (e_sl 2) (e_sl 2))) (o_m (e_op op_mulA v_mulA (o_m e_int) (o_m (e_dkI (room_1 hr) 0)))))) (o_m e_int))) as_nil))) (o_m e_int)))
  (b_one (s_ret (e_op op_modN v_mod (o_m (e_callTy call_int1 v_int rfl X.b_int boot_int (as_cons (o_m (e_op op_floor v_floor (o_m (e_op op_modN v_mod (o_m (e_callTy call_int1 v_int rfl X.b_int boot_int (as_cons (o_m (e_op op_mulA v_mulA (e_sl 2) (o_m e_int))) as_nil))) (o_m e_int))) (o_m e_int))) as_nil))) (e_sl 1)))))))))
def m__law_pick : MS := sRet (mF dIx [.sl 1, .m (mCall r__law_draw [.dk 0, .m (mF dLenA [.sl 1])])])
def r__law_pick : S0 → RF := fnM m__law_pick 0
theorem sc__law_pick : FnScope ["deck", "some"] ["deck", "some"] (defScope s__law_pick) := ⟨rfl, rfl, rfl, by decide +kernel, rfl, by decide +kernel, by decide +kernel⟩
theorem bd__law_pick (X : Fx K mg base fd) : Binds K (fd "_law_pick") ["deck", "some"] [] := X.d__law_pick.F.bindsN fun _ _ _ _ _ _ us hl => match us, hl with | [_, _], _ => rfl
theorem ok__law_pick (X : Fx K mg base fd) : FnOk P w K mg base (L2.CX P w) 2 (He.ga K "_law_pick") (fd "_law_pick") ["deck", "some"] (spM K (He.ga K) 2 r__law_pick) := by
  have hN := sc__law_pick.nd
  exact X.d__law_pick.ok sc__law_pick rfl fun A outer s H E hr => (b_one (s_ret (e_ix ix_seq v_ix (e_sl 1) (o_m (e_call ((ok__law_draw X).mono (by decide)) hr rfl X.d__law_draw.g X.d__law_draw.F.kp (bd__law_draw X) (takes_of rfl rfl rfl rfl) (ag_cons (ag_dk 0) (ag_cons (ag_m (e_callB cr_len v_lenA rfl X.b_len boot_len (as_cons (e_sl 1) as_nil))) ag_nil)))) (fun _ _ => rfl))))
def fu__law_same_0 : S0 → Nat := fun _ => 1000000
def m__law_same : MS := sSeq (sSetN 2 (nLst [mTup [mVar 0, mVar 1]]))
  (sSeq (sWhile fu__law_same_0 (toB (mF dNe [.sl 2, .m (mFrz (nLst []))]))
  (sSeq (sPat (.tup [(.nm 3), (.nm 4)]) (mPop 2))
  (sIf (toB (mF (dIsi2 "tuple" "list") [.sl 4]))
  (sSeq (sIf (bOr (bNot (toB (mF (dIsi2 "tuple" "list") [.sl 3]))) (toB (mF dNe [.m (mF (dIsi "tuple") [.sl 3]), .m (mF (dIsi "tuple") [.sl 4])])))
  (sRet (mC (.bool false)))
  (sNop))
  (sSeq (sIf (toB (mF dNe [.m (mF dLenA [.sl 3]), .m (mF dLenA [.sl 4])]))
  (sRet (mC (.bool false)))
  (sNop))
  (sDrop (mExt 2 (mFrz (nLzip (mVar 3) (mVar 4)))))))
  (sIf (bOr (toB (mF dIsN [.sl 4, .m (mC .none)])) (toB (mF dIsN [.sl 3, .m (mC .none)])))
  (sIf (bOr (toB (mF dNotN [.sl 4, .m (mC .none)])) (toB (mF dNotN [.sl 3, .m (mC .none)])))
  (sRet (mC (.bool false)))
  (sNop))
  (sIf (bOr (bNot (toB (mF (dIsi3 "int" "str" "dict") [.sl 3]))) (toB (mF dNe [.m (mF (dIsi "bool") [.sl 3]), .m (mF (dIsi "bool") [.sl 4])])))
  (sRet (mC (.bool false)))
  (sIf (bOr (toB (mF dNe [.m (mF (dIsi "str") [.sl 3]), .m (mF (dIsi "str") [.sl 4])])) (toB (mF dNe [.sl 3, .sl 4])))
  (sRet (mC (.bool false)))
  (sNop)))))))
  (sRet (mC (.bool true))))
def r__law_same : S0 → RF := fnM m__law_same 3
theorem sc__law_same : FnScope ["told", "due", "todo", "one", "other"] ["told", "due"] (defScope s__law_same) := ⟨rfl, rfl, rfl, by decide +kernel, rfl, by decide +kernel, by decide +kernel⟩
theorem bd__law_same (X : Fx K mg base fd) : Binds K (fd "_law_same") ["told", "due"] [] := X.d__law_same.F.bindsN fun _ _ _ _ _ _ us hl => match us, hl with | [_, _], _ => rfl
theorem ok__law_same (X : Fx K mg base fd) : FnOk P w K mg base (L2.CX P w) 1 (He.ga K "_law_same") (fd "_law_same") ["told", "due"] (spM K (He.ga K) 2 r__law_same) := by
  have hN := sc__law_same.nd
  exact X.d__law_same.ok sc__law_same rfl fun A outer s H E hr => (b_cons (s_setN hN rfl (by first | exact Or.inl rfl | exact Or.inr rfl) (n_lst (ms_cons (e_tup (ms_cons (e_var 0) (ms_cons (e_var 1) ms_nil))) ms_nil)))
  (b_cons (s_while (fu := fu__law_same_0) (passes_of rfl) (c_cmp (op_neD (room_u hr)) v_ne (e_sl 2) (o_m (e_frz (n_lst ms_nil))) (nomark _))
  (b_cons (s_asg (e_pop 2) (g_tup rfl (gs_cons (g_name hN rfl (by first | exact Or.inl rfl | exact Or.inr rfl)) (gs_cons (g_name hN rfl (by first | exact Or.inl rfl | exact Or.inr rfl)) gs_nil))))
  (b_one (s_if (c_val (e_isi2 (by decide +kernel) (by decide +kernel) boot_tuple boot_list (e_sl 4) rfl X.b_isinstance rfl X.b_tuple rfl X.b_list))
  (b_cons (s_if (PW.pt (c_or (c_not (c_val (e_isi2 (by decide +kernel) (by decide +kernel) boot_tuple boot_list (e_sl 3) rfl X.b_isinstance rfl X.b_tuple rfl X.b_list))) (c_or1 (c_cmp (op_neD (room_u hr)) v_ne (o_m (e_isi (by decide +kernel) boot_tuple (e_sl 3) rfl X.b_isinstance rfl X.b_tuple)) (o_m (e_isi (by decide +kernel) boot_tuple (e_sl 4) rfl X.b_isinstance rfl X.b_tuple)) (nomark _)))))
  (b_one (s_ret e_bl))
  b_nil)
  (b_cons (s_if (c_cmp (op_neD (room_u hr)) v_ne (o_m (e_callB cr_len v_lenA rfl X.b_len boot_len (as_cons (e_sl 3) as_nil))) (o_m (e_callB cr_len v_lenA rfl X.b_len boot_len (as_cons (e_sl 4) as_nil))) (nomark _))
  (b_one (s_ret e_bl))
  b_nil)
  (b_one (s_expr (e_ext 2 (e_frz (e_lzip rfl X.b_list rfl X.b_zip rfl (e_var 3) (e_var 4))))))))
  (b_one (s_if (PW.pt (c_or (c_cmp op_isN v_isN (e_sl 4) (o_m e_non) (nomark _)) (c_or1 (c_cmp op_isN v_isN (e_sl 3) (o_m e_non) (nomark _)))))
  (b_one (s_if (PW.pt (c_or (c_cmp op_notN v_notN (e_sl 4) (o_m e_non) (nomark _)) (c_or1 (c_cmp op_notN v_notN (e_sl 3) (o_m e_non) (nomark _)))))
  (b_one (s_ret e_bl))
  b_nil))
  (b_one (s_if (PW.pt (c_or (c_not (c_val (e_isi3 (by decide +kernel) (by decide +kernel) (by decide +kernel) boot_int boot_str boot_dict (e_sl 3) rfl X.b_isinstance rfl X.b_int rfl X.b_str rfl X.b_dict))) (c_or1 (c_cmp (op_neD (room_u hr)) v_ne (o_m (e_isi (by decide +kernel) boot_bool (e_sl 3) rfl X.b_isinstance rfl X.b_bool)) (o_m (e_isi (by decide +kernel) boot_bool (e_sl 4) rfl X.b_isinstance rfl X.b_bool)) (nomark _)))))
  (b_one (s_ret e_bl))
  (b_one (s_if (PW.pt (c_or (c_cmp (op_neD (room_u hr)) v_ne (o_m (e_isi (by decide +kernel) boot_str (e_sl 3) rfl X.b_isinstance rfl X.b_str)) (o_m (e_isi (by decide +kernel) boot_str (e_sl 4) rfl X.b_isinstance rfl X.b_str)) (nomark _)) (c_or1 (c_cmp (op_neD (room_u hr)) v_ne (e_sl 3) (e_sl 4) (nomark _)))))
  (b_one (s_ret e_bl))
  b_nil))))))))))
  (b_one (s_ret e_bl))))
def fu__law_divisor_0 : S0 → Nat := fun _ => 1000000
def m__law_divisor : MS := sSeq (sPar 0 1 (svD (mF dAbs [.sl 0])) (svD (mF dAbs [.sl 1])))
  (sSeq (sWhile fu__law_divisor_0 (toB (mF dNe [.sl 1, .m (mC (.int 0))]))
  (sPar 0 1 (svVar 1) (svD (mF dMod [.m (mF dInt [.sl 0]), .sl 1]))))
  (sRet (mVar 0)))
def r__law_divisor : S0 → RF := fnM m__law_divisor 0
theorem sc__law_divisor : FnScope ["one", "other"] ["one", "other"] (defScope s__law_divisor) := ⟨rfl, rfl, rfl, by decide +kernel, rfl, by decide +kernel, by decide +kernel⟩
theorem bd__law_divisor (X : Fx K mg base fd) : Binds K (fd "_law_divisor") ["one", "other"] [] := X.d__law_divisor.F.bindsN fun _ _ _ _ _ _ us hl => match us, hl with | [_, _], _ => rfl
theorem ok__law_divisor (X : Fx K mg base fd) : FnOk P w K mg base (L2.CX P w) 1 (He.ga K "_law_divisor") (fd "_law_divisor") ["one", "other"] (spM K (He.ga K) 2 r__law_divisor) := by
  have hN := sc__law_divisor.nd
  exact X.d__law_divisor.ok sc__law_divisor rfl fun A outer s H E hr => (b_cons (s_par rfl hN rfl rfl (by decide) rfl rfl (v_dat (e_callB call_abs v_abs rfl X.b_abs boot_abs (as_cons (e_sl 0) as_nil))) (v_dat (e_callB call_abs v_abs rfl X.b_abs boot_abs (as_cons (e_sl 1) as_nil))) rfl)
  (b_cons (s_while (fu := fu__law_divisor_0) (passes_of rfl) (c_cmp (op_neD (room_u hr)) v_ne (e_sl 1) (o_m e_int) (nomark _))
  (b_one (s_par rfl hN rfl rfl (by decide) rfl rfl (v_var 1) (v_dat (e_op op_modN v_mod (o_m (e_callTy call_int1 v_int rfl X.b_int boot_int (as_cons (e_sl 0) as_nil))) (e_sl 1))) rfl)))
  (b_one (s_ret (e_var 0)))))
def m__law_lowest : MS := sSeq (sSet 1 (mC (.int 0)))
  (sSeq (sFor (mItD (mVar 0)) (.nm 2)
  (sSet 1 (mCall r__law_divisor [.m (mVar 1), .m (mVar 2)])))
  (sSeq (sSetN 3 (mLc (.nm 2) [2] (mItD (mVar 0)) (tYesM) (mF dFloor [.sl 2, .sl 1])))
  (sRet (mTup [mVar 3, mF dSum [.sl 3]]))))
def r__law_lowest : S0 → RF := fnM m__law_lowest 3
theorem sc__law_lowest : FnScope ["weights", "by", "it", "some"] ["weights"] (defScope s__law_lowest) := ⟨rfl, rfl, rfl, by decide +kernel, rfl, by decide +kernel, by decide +kernel⟩
theorem bd__law_lowest (X : Fx K mg base fd) : Binds K (fd "_law_lowest") ["weights"] [] := X.d__law_lowest.F.bindsN fun _ _ _ _ _ _ us hl => match us, hl with | [_], _ => rfl
theorem ok__law_lowest (X : Fx K mg base fd) : FnOk P w K mg base (L2.CX P w) 2 (He.ga K "_law_lowest") (fd "_law_lowest") ["weights"] (spM K (He.ga K) 1 r__law_lowest) := by
  have hN := sc__law_lowest.nd
  exact X.d__law_lowest.ok sc__law_lowest rfl fun A outer s H E hr => (b_cons (s_set hN rfl (by first | exact Or.inl rfl | exact Or.inr rfl) e_int)
  (b_cons (s_for (passes_of rfl) rfl (i_data (e_var 0)) (g_name hN rfl (by first | exact Or.inl rfl | exact Or.inr rfl))
  (b_one (s_set hN rfl (by first | exact Or.inl rfl | exact Or.inr rfl) (e_call ((ok__law_divisor X).mono (by decide)) hr rfl X.d__law_divisor.g X.d__law_divisor.F.kp (bd__law_divisor X) (takes_of rfl rfl rfl rfl) (ag_cons (ag_m (e_var 1)) (ag_cons (ag_m (e_var 2)) ag_nil))))))
  (b_cons (s_setLc (own := [("it", 2)]) rfl hN rfl rfl rfl (blk_ok (by kernel_rfl)) (i_data (e_var 0)) (fun s H C c fp => (gc_name hN rfl (by first | exact Or.inl rfl | exact Or.inr rfl))) (fun s H C c fp => ts_nil) (fun s H C c fp => (e_op op_floor v_floor (e_sl 2) (e_sl 1))))
  (b_one (s_ret (e_tup (ms_cons (e_var 3) (ms_cons (e_callB (cr_sumAll rfl) v_sum rfl X.b_sum boot_sum (as_cons (e_sl 3) as_nil)) ms_nil))))))))
def m__law_depths : MS := sSeq (sPat (.tup [(.nm 2), (.nm 3)]) (mCall r__law_lowest [.m (mVar 0)]))
  (sSeq (sPar 4 5 (svTl (mFrz (mLc (.nm 6) [6] (mItD (mVar 2)) (tYesM) (mF dSub [.sl 6, .m (mF dMulA [.sl 3, .m (mF dFloor [.sl 6, .sl 3])])])))) ((fun s => .ok (.dt []) s)))
  (sSeq (sFor (mRange1 (.m (mC (.int 2000)))) (.nm 7)
  (sSeq (sIf (bOr (toB (mF dEq [.m (mF dSum [.sl 4]), .m (mC (.int 0))])) (toB (mDIn (mKy (svVar 4)) 5)))
  (sBk)
  (sNop))
  (sSeq (sDput 5 (mKy (svVar 4)) (mF dLenA [.sl 5]))
  (sSetV 4 (svTl (mFrz (mLc (.nm 6) [6] (mItD (mVar 4)) (tYesM) (mF dMod [.m (mF dInt [.m (mF dMulA [.sl 6, .sl 1])]), .sl 3]))))))))
  (sRet (mTup [mF dListA [.sl 5], mDGet2 5 (mKy (svVar 4)) (mF dNeg [.m (mC (.int 1))])]))))
def r__law_depths : S0 → RF := fnM m__law_depths 6
theorem sc__law_depths : FnScope ["weights", "sides", "some", "total", "rests", "found", "it", "go"] ["weights", "sides"] (defScope s__law_depths) := ⟨rfl, rfl, rfl, by decide +kernel, rfl, by decide +kernel, by decide +kernel⟩
theorem bd__law_depths (X : Fx K mg base fd) : Binds K (fd "_law_depths") ["weights", "sides"] [] := X.d__law_depths.F.bindsN fun _ _ _ _ _ _ us hl => match us, hl with | [_, _], _ => rfl
theorem ok__law_depths (X : Fx K mg base fd) : FnOk P w K mg base (L2.CX P w) 3 (He.ga K "_law_depths") (fd "_law_depths") ["weights", "sides"] (spM K (He.ga K) 2 r__law_depths) := by
  have hN := sc__law_depths.nd
  exact X.d__law_depths.ok sc__law_depths rfl fun A outer s H E hr => (b_cons (s_asg (e_call ((ok__law_lowest X).mono (by decide)) hr rfl X.d__law_lowest.g X.d__law_lowest.F.kp (bd__law_lowest X) (takes_of rfl rfl rfl rfl) (ag_cons (ag_m (e_var 0)) ag_nil)) (g_tup rfl (gs_cons (g_name hN rfl (by first | exact Or.inl rfl | exact Or.inr rfl)) (gs_cons (g_name hN rfl (by first | exact Or.inl rfl | exact Or.inr rfl)) gs_nil))))
  (b_cons (s_par rfl hN rfl rfl (by decide) rfl rfl (v_tupL call_tuple_of rfl X.b_tuple boot_tuple (e_frz (e_lc (own := [("it", 6)]) rfl hN (blk_ok (by kernel_rfl)) (i_data (e_var 2)) (fun s H C c fp => (gc_name hN rfl (by first | exact Or.inl rfl | exact Or.inr rfl))) (fun s H C c fp => ts_nil) (fun s H C c fp => (e_op op_sub v_sub (e_sl 6) (o_m (e_op op_mulA v_mulA (e_sl 3) (o_m (e_op op_floor v_floor (e_sl 6) (e_sl 3)))))))))) v_newT rfl)
  (b_cons (s_for (passes_of rfl) rfl (i_range1 rfl X.b_range (as_cons (o_m e_int) as_nil)) (g_name hN rfl (by first | exact Or.inl rfl | exact Or.inr rfl))
  (b_cons (s_if (PW.pt (c_or (c_cmp (op_eqD (room_u hr)) v_eq (o_m (e_callB (cr_sumAll rfl) v_sum rfl X.b_sum boot_sum (as_cons (e_sl 4) as_nil))) (o_m e_int) (nomark _)) (c_or1 (c_din (room_1 hr) 5 (k_of (v_var 4))))))
  (b_one s_break)
  b_nil)
  (b_cons (s_dput (room_1 hr) 5 (k_of (v_var 4)) (e_callB cr_len v_lenA rfl X.b_len boot_len (as_cons (e_sl 5) as_nil)))
  (b_one (s_setV hN rfl (by first | exact Or.inl rfl | exact Or.inr rfl) (v_tupL call_tuple_of rfl X.b_tuple boot_tuple (e_frz (e_lc (own := [("it", 6)]) rfl hN (blk_ok (by kernel_rfl)) (i_data (e_var 4)) (fun s H C c fp => (gc_name hN rfl (by first | exact Or.inl rfl | exact Or.inr rfl))) (fun s H C c fp => ts_nil) (fun s H C c fp => (e_op op_modN v_mod (o_m (e_callTy call_int1 v_int rfl X.b_int boot_int (as_cons (o_m (e_op op_mulA v_mulA (e_sl 6) (e_sl 1))) as_nil))) (e_sl 3)))))))))))
  (b_one (s_ret (e_tup (ms_cons (e_callTy (cr_listA rfl) v_listA rfl X.b_list boot_list (as_cons (e_sl 5) as_nil)) (ms_cons (e_dget2 (room_1 hr) 5 (k_of (v_var 4)) (e_un un_neg v_neg (o_m e_int))) ms_nil))))))))
def m__law_tosser : MS := sSeq (sPat (.tup [(.tup [(.nm 2), (.nm 3)]), (.nm 4)]) (mTup [mCall r__law_depths [.m (mVar 0), .m (mVar 1)], mF dIx [.m (mCall r__law_lowest [.m (mVar 0)]), .m (mC (.int 1))]]))
  (sSeq (sPar 5 6 (svD (mFrz (mLc (.nm 7) [7] (mItD (mVar 2)) (tYesM) (mF dFloor [.m (mF dSum [.sl 7]), .sl 4])))) (svN (nLst [mC (.int 0)])))
  (sSeq (sFor (mItD (mVar 5)) (.nm 8)
  (sDrop (mApp 6 (mF dAdd [.m (mF dIx [.sl 6, .m (mF dNeg [.m (mC (.int 1))])]), .sl 8]))))
  (sSeq (sIf (toB (mF dGe [.sl 3, .m (mC (.int 0))]))
  (sSetAt 6 (mF dNeg [.m (mC (.int 1))]) (mF dIx [.sl 6, .sl 3]))
  (sNop))
  (sSeq (sSetN 9 (nLst []))
  (sSeq (sFor (mEnum (mVar 2)) (.tup [(.nm 10), (.nm 7)])
  (sSeq (sSetN 11 (nLst []))
  (sSeq (sFor (mEnum (mVar 7)) (.tup [(.nm 12), (.nm 13)])
  (sDrop (mExt 11 (mF dMulA [.m (mFrz (nLst [mTup [mC (.str "done"), mVar 12]])), .m (mF dFloor [.m (mF dMulA [.sl 13, .sl 1]), .sl 4])]))))
  (sSeq (sSet 14 (mF dSub [.m (mF dMulA [.m (mF dIx [.sl 5, .sl 10]), .sl 1]), .m (mF dLenA [.sl 11])]))
  (sSeq (sDrop (mExt 11 (mFrz (mLc (.nm 15) [15] (mRange1 (.sl 14)) (tYesM) (mTup [mC (.str "on"), mF dAdd [.m (mF dIx [.sl 6, .m (mF dAdd [.sl 10, .m (mC (.int 1))])]), .sl 15]])))))
  (sDrop (mExt 9 (mFrz (mLc (.nm 15) [15] (mRange1 (.m (mF dIx [.sl 5, .sl 10]))) (tYesM) (mF dTuple [.m (mSlice (mVar 11) (some (mF dMulA [.sl 15, .sl 1])) (some (mF dAdd [.m (mF dMulA [.sl 15, .sl 1]), .sl 1])))]))))))))))
  (sRet (mF dTuple [.sl 9])))))))
def r__law_tosser : S0 → RF := fnM m__law_tosser 14
theorem sc__law_tosser : FnScope ["weights", "sides", "found", "back", "total", "knots", "starts", "rests", "many", "rows", "depth", "steps", "outcome", "rest", "left", "k"] ["weights", "sides"] (defScope s__law_tosser) := ⟨rfl, rfl, rfl, by decide +kernel, rfl, by decide +kernel, by decide +kernel⟩
theorem bd__law_tosser (X : Fx K mg base fd) : Binds K (fd "_law_tosser") ["weights", "sides"] [] := X.d__law_tosser.F.bindsN fun _ _ _ _ _ _ us hl => match us, hl with | [_, _], _ => rfl
theorem ok__law_tosser (X : Fx K mg base fd) : FnOk P w K mg base (L2.CX P w) 4 (He.ga K "_law_tosser") (fd "_law_tosser") ["weights", "sides"] (spM K (He.ga K) 2 r__law_tosser) := by
  have hN := sc__law_tosser.nd
  exact X.d__law_tosser.ok sc__law_tosser rfl fun A outer s H E hr => (b_cons (s_asg (e_tup (ms_cons (e_call ((ok__law_depths X).mono (by decide)) hr rfl X.d__law_depths.g X.d__law_depths.F.kp (bd__law_depths X) (takes_of rfl rfl rfl rfl) (ag_cons (ag_m (e_var 0)) (ag_cons (ag_m (e_var 1)) ag_nil))) (ms_cons (e_ix ix_seq v_ix (o_m (e_call ((ok__law_lowest X).mono (by decide)) hr rfl X.d__law_lowest.g X.d__law_lowest.F.kp (bd__law_lowest X) (takes_of rfl rfl rfl rfl) (ag_cons (ag_m (e_var 0)) ag_nil))) (o_m e_int) (fun _ _ => rfl)) ms_nil))) (g_tup rfl (gs_cons (g_tup rfl (gs_cons (g_name hN rfl (by first | exact Or.inl rfl | exact Or.inr rfl)) (gs_cons (g_name hN rfl (by first | exact Or.inl rfl | exact Or.inr rfl)) gs_nil))) (gs_cons (g_name hN rfl (by first | exact Or.inl rfl | exact Or.inr rfl)) gs_nil))))
  (b_cons (s_parC rfl hN rfl rfl (by first | exact Or.inl rfl | exact Or.inr rfl) (by first | exact Or.inl rfl | exact Or.inr rfl) (v_dat (e_frz (e_lc (own := [("rests", 7)]) rfl hN (blk_ok (by kernel_rfl)) (i_data (e_var 2)) (fun s H C c fp => (gc_name hN rfl (by first | exact Or.inl rfl | exact Or.inr rfl))) (fun s H C c fp => ts_nil) (fun s H C c fp => (e_op op_floor v_floor (o_m (e_callB (cr_sumAll rfl) v_sum rfl X.b_sum boot_sum (as_cons (e_sl 7) as_nil))) (e_sl 4)))))) (v_new (n_lst (ms_cons e_int ms_nil))))
  (b_cons (s_for (passes_of rfl) rfl (i_data (e_var 5)) (g_name hN rfl (by first | exact Or.inl rfl | exact Or.inr rfl))
  (b_one (s_expr (e_app 6 (e_op op_addAll v_addAll (o_m (e_ix ix_seq v_ix (e_sl 6) (o_m (e_un un_neg v_neg (o_m e_int))) (fun _ _ => rfl))) (e_sl 8))))))
  (b_cons (s_if (c_cmp op_ge v_cmp (e_sl 3) (o_m e_int) (nomark _))
  (b_one (s_setAt 6 (e_un un_neg v_neg (o_m e_int)) (e_ix ix_seq v_ix (e_sl 6) (e_sl 3) (fun _ _ => rfl))))
  b_nil)
  (b_cons (s_setN hN rfl (by first | exact Or.inl rfl | exact Or.inr rfl) (n_lst ms_nil))
  (b_cons (s_for (passes_of rfl) rfl (i_enum rfl X.b_enumerate (e_var 2)) (g_tup rfl (gs_cons (g_name hN rfl (by first | exact Or.inl rfl | exact Or.inr rfl)) (gs_cons (g_name hN rfl (by first | exact Or.inl rfl | exact Or.inr rfl)) gs_nil)))
  (b_cons (s_setN hN rfl (by first | exact Or.inl rfl | exact Or.inr rfl) (n_lst ms_nil))
  (b_cons (s_for (passes_of rfl) rfl (i_enum rfl X.b_enumerate (e_var 7)) (g_tup rfl (gs_cons (g_name hN rfl (by first | exact Or.inl rfl | exact Or.inr rfl)) (gs_cons (g_name hN rfl (by first | exact Or.inl rfl | exact Or.inr rfl)) gs_nil)))
  (b_one (s_expr (e_ext 11 (e_op op_mulA v_mulA (o_m (e_frz (n_lst (ms_cons (e_tup (ms_cons e_str (ms_cons (e_var 12) ms_nil))) ms_nil)))) (o_m (e_op op_floor v_floor (o_m (e_op op_mulA v_mulA (e_sl 13) (e_sl 1))) (e_sl 4))))))))
  (b_cons (s_set hN rfl (by first | exact Or.inl rfl | exact Or.inr rfl) (e_op op_sub v_sub (o_m (e_op op_mulA v_mulA (o_m (e_ix ix_seq v_ix (e_sl 5) (e_sl 10) (fun _ _ => rfl))) (e_sl 1))) (o_m (e_callB cr_len v_lenA rfl X.b_len boot_len (as_cons (e_sl 11) as_nil)))))
  (b_cons (s_expr (e_ext 11 (e_frz (e_lc (own := [("k", 15)]) rfl hN (blk_ok (by kernel_rfl)) (i_range1 rfl X.b_range (as_cons (e_sl 14) as_nil)) (fun s H C c fp => (gc_name hN rfl (by first | exact Or.inl rfl | exact Or.inr rfl))) (fun s H C c fp => ts_nil) (fun s H C c fp => (e_tup (ms_cons e_str (ms_cons (e_op op_addAll v_addAll (o_m (e_ix ix_seq v_ix (e_sl 6) (o_m (e_op op_addAll v_addAll (e_sl 10) (o_m e_int))) (fun _ _ => rfl))) (e_sl 15)) ms_nil))))))))
  (b_one (s_expr (e_ext 9 (e_frz (e_lc (own := [("k", 15)]) rfl hN (blk_ok (by kernel_rfl)) (i_range1 rfl X.b_range (as_cons (o_m (e_ix ix_seq v_ix (e_sl 5) (e_sl 10) (fun _ _ => rfl))) as_nil)) (fun s H C c fp => (gc_name hN rfl (by first | exact Or.inl rfl | exact Or.inr rfl))) (fun s H C c fp => ts_nil) (fun s H C c fp => (e_callTy call_tuple_of v_tuple rfl X.b_tuple boot_tuple (as_cons (o_m (e_slice (e_var 11) (po_so (e_op op_mulA v_mulA (e_sl 15) (e_sl 1))) (po_so (e_op op_addAll v_addAll (o_m (e_op op_mulA v_mulA (e_sl 15) (e_sl 1))) (e_sl 1))))) as_nil)))))))))))))
  (b_one (s_ret (e_callTy call_tuple_of v_tuple rfl X.b_tuple boot_tuple (as_cons (e_sl 9) as_nil))))))))))
def m_lam_2 : S0 → R D := mCall r_rolled [.m (mVar 0), .m (mVar 1)]
theorem ns_2 : NScope lam_2.N lam_2.ps lam_2.fr lam_2.scope := nscope_by (by decide +kernel)
theorem lr_2 (X : Fx K mg base fd) : LamRun P w K mg base (He.ga K) 7 lam_2 (lamM m_lam_2 0) := by
  have hN := ns_2.nd
  exact lam_run ns_2 rfl (fun us cl pm cv ctv hl => match us, hl with | [], _ => rfl) fun cl c' f A outer s H E hr => (e_call ((ok_rolled X).mono (by decide)) hr rfl X.d_rolled.g X.d_rolled.F.kp (bd_rolled X) (takes_of rfl rfl rfl rfl) (ag_cons (ag_m (e_var 0)) (ag_cons (ag_m (e_var 1)) ag_nil)))
def m_lam_3 : S0 → R D := mCallK r_rolled [.m (mVar 0), .m (mVar 1)] [1, 0]
theorem ns_3 : NScope lam_3.N lam_3.ps lam_3.fr lam_3.scope := nscope_by (by decide +kernel)
theorem lr_3 (X : Fx K mg base fd) : LamRun P w K mg base (He.ga K) 7 lam_3 (lamM m_lam_3 0) := by
  have hN := ns_3.nd
  exact lam_run ns_3 rfl (fun us cl pm cv ctv hl => match us, hl with | [], _ => rfl) fun cl c' f A outer s H E hr => (e_callK (ks := ["tape", "rows"]) (ix := [1, 0]) ((ok_rolled X).mono (by decide)) hr (by rfl) X.d_rolled.g X.d_rolled.F.kp (kb_rolled_tape_rows X) (takes_of rfl rfl rfl rfl) (kw_cons (ag_m (e_var 0)) (kw_cons (ag_m (e_var 1)) kw_nil)) (hix := fun l hl => match l, hl with | [_, _], _ => rfl))
def m_lam_4 : S0 → R D := mCall r_rolled [.m (mVar 0), .m (mTup [])]
theorem ns_4 : NScope lam_4.N lam_4.ps lam_4.fr lam_4.scope := nscope_by (by decide +kernel)
theorem lr_4 (X : Fx K mg base fd) : LamRun P w K mg base (He.ga K) 7 lam_4 (lamM m_lam_4 0) := by
  have hN := ns_4.nd
  exact lam_run ns_4 rfl (fun us cl pm cv ctv hl => match us, hl with | [], _ => rfl) fun cl c' f A outer s H E hr => (e_call ((ok_rolled X).mono (by decide)) hr rfl X.d_rolled.g X.d_rolled.F.kp (bd_rolled X) (takes_of rfl rfl rfl rfl) (ag_cons (ag_m (e_var 0)) (ag_cons (ag_m (e_tup ms_nil)) ag_nil)))
def LM1 : Nat → List D → S0 → RF
  | 2 => lamM m_lam_2 0
  | 3 => lamM m_lam_3 0
  | 4 => lamM m_lam_4 0
  | _ => fun _ _ => .bad
theorem lams1 (X : Fx K mg base fd) : LamsRun P w K mg base (He.ga K) 7 LM1 := by
  intro id L hL
  have h0 : [lam_0, lam_1, lam_2, lam_3, lam_4][id]? = some L := hL
  rcases lget h0 with ⟨e, e2⟩ | ⟨j0, e, h1⟩
  · subst e2
    rw [e]
    exact lam_none
  subst e
  rcases lget h1 with ⟨e, e2⟩ | ⟨j1, e, h2⟩
  · subst e2
    rw [e]
    exact lam_none
  subst e
  rcases lget h2 with ⟨e, e2⟩ | ⟨j2, e, h3⟩
  · subst e2
    rw [e]
    exact (lr_2 X).mono (by decide)
  subst e
  rcases lget h3 with ⟨e, e2⟩ | ⟨j3, e, h4⟩
  · subst e2
    rw [e]
    exact (lr_3 X).mono (by decide)
  subst e
  rcases lget h4 with ⟨e, e2⟩ | ⟨j4, e, h5⟩
  · subst e2
    rw [e]
    exact (lr_4 X).mono (by decide)
  subst e
  cases h5
def m__law_heard : MS := sTryT ["BadRows", "BadTape"] 1 (sRet (mTup [mC (.str "told"), mClo 0 [] LM1])) (fun c t => sRet (mTup [mIf (toB (mIsE "BadRows" c t)) (mC (.str "rows")) (mC (.str "tape")), mThingE c t, mIsE "HouseError" c t]))
def r__law_heard : S0 → RF := fnM m__law_heard 1
theorem sc__law_heard : FnScope ["call", "e"] ["call"] (defScope s__law_heard) := ⟨rfl, rfl, rfl, by decide +kernel, rfl, by decide +kernel, by decide +kernel⟩
theorem bd__law_heard (X : Fx K mg base fd) : Binds K (fd "_law_heard") ["call"] [] := X.d__law_heard.F.bindsN fun _ _ _ _ _ _ us hl => match us, hl with | [_], _ => rfl
theorem ok__law_heard (X : Fx K mg base fd) : FnOk P w K mg base (L2.CX P w) 8 (He.ga K "_law_heard") (fd "_law_heard") ["call"] (spM K (He.ga K) 1 r__law_heard) := by
  have hN := sc__law_heard.nd
  exact X.d__law_heard.ok sc__law_heard rfl fun A outer s H E hr => (b_one (s_tryT rfl rfl hN rfl rfl X.er (.cons rfl (by decide) X.e_BadRows.gC (.cons rfl (by decide) X.e_BadTape.gC .nil)) (by decide) (fun {_ _ _ _ _} => PySem.W.exm_tup2) rfl (takes_of rfl rfl rfl rfl) (fun W pn xe tk po => (b_one (s_ret (e_tup (ms_cons e_str (ms_cons (e_clo0 ((lams1 X).mono (by decide)) hr tk 0) ms_nil)))))) (fun a oe cls d pn hz hf => pss_one (se_ret (te_tup (te_cons (te_if (ct_valE (te_isi X.er hz hf (by rfl) (by first | exact Or.inl rfl | exact Or.inr (Or.inl rfl) | exact Or.inr (Or.inr rfl)) (by rfl) X.b_isinstance (by rfl) X.g_BadRows)) (te_of e_str) (te_of e_str)) (te_cons (te_thing X.er hz hf (by rfl) (by first | exact Or.inl rfl | exact Or.inr (Or.inl rfl) | exact Or.inr (Or.inr rfl))) (te_cons (te_isi X.er hz hf (by rfl) (by first | exact Or.inl rfl | exact Or.inr (Or.inl rfl) | exact Or.inr (Or.inr rfl)) (by rfl) X.b_isinstance (by rfl) X.g_HouseError) te_nil))))))))
def m__law_rolled : MS := sSeq (sSet 2 (mC (.int 0)))
  (sSeq (sFor (mEnum (mVar 1)) (.tup [(.nm 3), (.nm 4)])
  (sSeq (sPat (.tup [(.nm 5), (.nm 6)]) (mF dIx [.m (mF dIx [.sl 0, .sl 2]), .sl 4]))
  (sSeq (sIf (toB (mF dEq [.sl 5, .m (mC (.str "done"))]))
  (sRet (mTup [mC (.str "done"), mVar 6, mF dAdd [.sl 3, .m (mC (.int 1))]]))
  (sNop))
  (sSet 2 (mVar 6)))))
  (sRet (mTup [mC (.str "on"), mVar 2])))
def r__law_rolled : S0 → RF := fnM m__law_rolled 5
theorem sc__law_rolled : FnScope ["rows", "tape", "at", "used", "roll", "word", "it"] ["rows", "tape"] (defScope s__law_rolled) := ⟨rfl, rfl, rfl, by decide +kernel, rfl, by decide +kernel, by decide +kernel⟩
theorem bd__law_rolled (X : Fx K mg base fd) : Binds K (fd "_law_rolled") ["rows", "tape"] [] := X.d__law_rolled.F.bindsN fun _ _ _ _ _ _ us hl => match us, hl with | [_, _], _ => rfl
theorem ok__law_rolled (X : Fx K mg base fd) : FnOk P w K mg base (L2.CX P w) 1 (He.ga K "_law_rolled") (fd "_law_rolled") ["rows", "tape"] (spM K (He.ga K) 2 r__law_rolled) := by
  have hN := sc__law_rolled.nd
  exact X.d__law_rolled.ok sc__law_rolled rfl fun A outer s H E hr => (b_cons (s_set hN rfl (by first | exact Or.inl rfl | exact Or.inr rfl) e_int)
  (b_cons (s_for (passes_of rfl) rfl (i_enum rfl X.b_enumerate (e_var 1)) (g_tup rfl (gs_cons (g_name hN rfl (by first | exact Or.inl rfl | exact Or.inr rfl)) (gs_cons (g_name hN rfl (by first | exact Or.inl rfl | exact Or.inr rfl)) gs_nil)))
  (b_cons (s_asg (e_ix ix_seq v_ix (o_m (e_ix ix_seq v_ix (e_sl 0) (e_sl 2) (fun _ _ => rfl))) (e_sl 4) (fun _ _ => rfl)) (g_tup rfl (gs_cons (g_name hN rfl (by first | exact Or.inl rfl | exact Or.inr rfl)) (gs_cons (g_name hN rfl (by first | exact Or.inl rfl | exact Or.inr rfl)) gs_nil))))
  (b_cons (s_if (c_cmp (op_eqD (room_u hr)) v_eq (e_sl 5) (o_m e_str) (nomark _))
  (b_one (s_ret (e_tup (ms_cons e_str (ms_cons (e_var 6) (ms_cons (e_op op_addAll v_addAll (e_sl 3) (o_m e_int)) ms_nil))))))
  b_nil)
  (b_one (s_set hN rfl (by first | exact Or.inl rfl | exact Or.inr rfl) (e_var 6))))))
  (b_one (s_ret (e_tup (ms_cons e_str (ms_cons (e_var 2) ms_nil)))))))
def m__law_all_tapes : MS := sSeq (sSet 2 (mFrz (nLst [mTup []])))
  (sSeq (sFor (mRange1 (.sl 1)) (.nm 3)
  (sSeq (sSetN 4 (nLst []))
  (sSeq (sFor (mItD (mVar 2)) (.nm 5)
  (sDrop (mExt 4 (mFrz (mLc (.nm 6) [6] (mRange1 (.sl 0)) (tYesM) (mF dAdd [.sl 5, .m (mTup [mVar 6])]))))))
  (sSet 2 (mF dListA [.sl 4])))))
  (sRet (mVar 2)))
def r__law_all_tapes : S0 → RF := fnM m__law_all_tapes 5
theorem sc__law_all_tapes : FnScope ["sides", "rolls", "found", "go", "longer", "tape", "roll"] ["sides", "rolls"] (defScope s__law_all_tapes) := ⟨rfl, rfl, rfl, by decide +kernel, rfl, by decide +kernel, by decide +kernel⟩
theorem bd__law_all_tapes (X : Fx K mg base fd) : Binds K (fd "_law_all_tapes") ["sides", "rolls"] [] := X.d__law_all_tapes.F.bindsN fun _ _ _ _ _ _ us hl => match us, hl with | [_, _], _ => rfl
theorem ok__law_all_tapes (X : Fx K mg base fd) : FnOk P w K mg base (L2.CX P w) 1 (He.ga K "_law_all_tapes") (fd "_law_all_tapes") ["sides", "rolls"] (spM K (He.ga K) 2 r__law_all_tapes) := by
  have hN := sc__law_all_tapes.nd
  exact X.d__law_all_tapes.ok sc__law_all_tapes rfl fun A outer s H E hr => (b_cons (s_set hN rfl (by first | exact Or.inl rfl | exact Or.inr rfl) (e_frz (n_lst (ms_cons (e_tup ms_nil) ms_nil))))
  (b_cons (s_for (passes_of rfl) rfl (i_range1 rfl X.b_range (as_cons (e_sl 1) as_nil)) (g_name hN rfl (by first | exact Or.inl rfl | exact Or.inr rfl))
  (b_cons (s_setN hN rfl (by first | exact Or.inl rfl | exact Or.inr rfl) (n_lst ms_nil))
  (b_cons (s_for (passes_of rfl) rfl (i_data (e_var 2)) (g_name hN rfl (by first | exact Or.inl rfl | exact Or.inr rfl))
  (b_one (s_expr (e_ext 4 (e_frz (e_lc (own := [("roll", 6)]) rfl hN (blk_ok (by kernel_rfl)) (i_range1 rfl X.b_range (as_cons (e_sl 0) as_nil)) (fun s H C c fp => (gc_name hN rfl (by first | exact Or.inl rfl | exact Or.inr rfl))) (fun s H C c fp => ts_nil) (fun s H C c fp => (e_op op_addAll v_addAll (e_sl 5) (o_m (e_tup (ms_cons (e_var 6) ms_nil)))))))))))
  (b_one (s_set hN rfl (by first | exact Or.inl rfl | exact Or.inr rfl) (e_callTy (cr_listA rfl) v_listA rfl X.b_list boot_list (as_cons (e_sl 4) as_nil)))))))
  (b_one (s_ret (e_var 2)))))
def m__law_is_right : MS := sSeq (sSet 4 (mCall r__law_draw [.dk 0, .m (mIf (toB (mF dLt [.sl 2, .m (mC (.int 9))])) (mDisGet [(.inl 2, .int 7), (.inl 3, .int 5), (.inl 4, .int 4)] (mKy (svVar 2)) (mC (.int 3))) (mC (.int 2)))]))
  (sSeq (sSetV 5 ((fun s => .ok (.dk []) s)))
  (sSeq (sFor (mEnum (mCall r__law_all_tapes [.m (mVar 2), .m (mVar 4)])) (.tup [(.nm 6), (.nm 7)])
  (sSeq (sSet 8 (mCall r__law_rolled [.m (mVar 1), .m (mVar 7)]))
  (sSeq (sIf (bNot (toB (mCall r__law_same [.m (mIf (toB (mF dEq [.m (mF dBitAnd [.sl 6, .m (mC (.int 1))]), .m (mC (.int 0))])) (mCall r_rolled [.m (mVar 1), .m (mVar 7)]) (mCallK r_rolled [.m (mVar 7), .m (mVar 1)] [1, 0])), .m (mVar 8)])))
  (sRet (mC (.bool false)))
  (sNop))
  (sIf (toB (mF dEq [.m (mF dIx [.sl 8, .m (mC (.int 0))]), .m (mC (.str "done"))]))
  (sSeq (sDput 5 (mKy (svD (mF dIx [.sl 8, .m (mC (.int 1))]))) (mF dAdd [.m (mDGet2 5 (mKy (svD (mF dIx [.sl 8, .m (mC (.int 1))]))) (mC (.int 0))), .m (mC (.int 1))]))
  (sSeq (sSet 9 (mF dAdd [.sl 7, .m (mTup [mCall r__law_draw [.dk 0, .m (mVar 2)], mCall r__law_draw [.dk 0, .m (mVar 2)]])]))
  (sIf (bAnd (toB (mF dLt [.sl 6, .m (mC (.int 6))])) (bNot (toB (mCall r__law_same [.m (mCall r_rolled [.m (mVar 1), .m (mVar 9)]), .m (mVar 8)]))))
  (sRet (mC (.bool false)))
  (sNop))))
  (sNop)))))
  (sRet (mOr (mF dEq [.sl 3, .m (mTup [])]) (mCall r__law_same [.m (mCall r_settled [.m (mVar 3), .m (mVar 2), .m (mVar 4)]), .m (mF dTuple [.m (mFrz (mLc (.nm 10) [10] (mRange1 (.m (mF dLenA [.sl 3]))) (tYesM) (mDGet2 5 (mKy (svVar 10)) (mC (.int 0)))))])])))))
def r__law_is_right : S0 → RF := fnM m__law_is_right 7
theorem sc__law_is_right : FnScope ["deck", "rows", "sides", "weights", "rolls", "done", "at", "tape", "due", "more", "k"] ["deck", "rows", "sides", "weights"] (defScope s__law_is_right) := ⟨rfl, rfl, rfl, by decide +kernel, rfl, by decide +kernel, by decide +kernel⟩
theorem bd__law_is_right (X : Fx K mg base fd) : Binds K (fd "_law_is_right") ["deck", "rows", "sides", "weights"] [] := X.d__law_is_right.F.bindsN fun _ _ _ _ _ _ us hl => match us, hl with | [_, _, _, _], _ => rfl
theorem ok__law_is_right (X : Fx K mg base fd) : FnOk P w K mg base (L2.CX P w) 8 (He.ga K "_law_is_right") (fd "_law_is_right") ["deck", "rows", "sides", "weights"] (spM K (He.ga K) 4 r__law_is_right) := by
  have hN := sc__law_is_right.nd
  exact X.d__law_is_right.ok sc__law_is_right rfl fun A outer s H E hr => (b_cons (s_set hN rfl (by first | exact Or.inl rfl | exact Or.inr rfl) (e_call ((ok__law_draw X).mono (by decide)) hr rfl X.d__law_draw.g X.d__law_draw.F.kp (bd__law_draw X) (takes_of rfl rfl rfl rfl) (ag_cons (ag_dk 0) (ag_cons (ag_m (e_if (c_cmp op_lt v_cmp (e_sl 2) (o_m e_int) (nomark _)) (e_disGet (room_1 hr) (.int 2 (.int 7) (.int 7) pe_int pe_int (fun _ _ => .int _) (.int 3 (.int 5) (.int 5) pe_int pe_int (fun _ _ => .int _) (.int 4 (.int 4) (.int 4) pe_int pe_int (fun _ _ => .int _) .nil))) (by simp) (by decide) (k_of (v_var 2)) e_int ⟨rfl, rfl, rfl, rfl⟩) e_int)) ag_nil))))
  (b_cons (s_setV hN rfl (by first | exact Or.inl rfl | exact Or.inr rfl) v_newK)
  (b_cons (s_for (passes_of rfl) rfl (i_enum rfl X.b_enumerate (e_call ((ok__law_all_tapes X).mono (by decide)) hr rfl X.d__law_all_tapes.g X.d__law_all_tapes.F.kp (bd__law_all_tapes X) (takes_of rfl rfl rfl rfl) (ag_cons (ag_m (e_var 2)) (ag_cons (ag_m (e_var 4)) ag_nil)))) (g_tup rfl (gs_cons (g_name hN rfl (by first | exact Or.inl rfl | exact Or.inr rfl)) (gs_cons (g_name hN rfl (by first | exact Or.inl rfl | exact Or.inr rfl)) gs_nil)))
  (b_cons (s_set hN rfl (by first | exact Or.inl rfl | exact Or.inr rfl) (e_call ((ok__law_rolled X).mono (by decide)) hr rfl X.d__law_rolled.g X.d__law_rolled.F.kp (bd__law_rolled X) (takes_of rfl rfl rfl rfl) (ag_cons (ag_m (e_var 1)) (ag_cons (ag_m (e_var 7)) ag_nil))))
  (b_cons (s_if (c_not (c_val (e_call ((ok__law_same X).mono (by decide)) hr rfl X.d__law_same.g X.d__law_same.F.kp (bd__law_same X) (takes_of rfl rfl rfl rfl) (ag_cons (ag_m (e_if (c_cmp (op_eqD (room_u hr)) v_eq (o_m (e_op op_and v_bitand (e_sl 6) (o_m e_int))) (o_m e_int) (nomark _)) (e_call ((ok_rolled X).mono (by decide)) hr rfl X.d_rolled.g X.d_rolled.F.kp (bd_rolled X) (takes_of rfl rfl rfl rfl) (ag_cons (ag_m (e_var 1)) (ag_cons (ag_m (e_var 7)) ag_nil))) (e_callK (ks := ["tape", "rows"]) (ix := [1, 0]) ((ok_rolled X).mono (by decide)) hr (by rfl) X.d_rolled.g X.d_rolled.F.kp (kb_rolled_tape_rows X) (takes_of rfl rfl rfl rfl) (kw_cons (ag_m (e_var 7)) (kw_cons (ag_m (e_var 1)) kw_nil)) (hix := fun l hl => match l, hl with | [_, _], _ => rfl)))) (ag_cons (ag_m (e_var 8)) ag_nil)))))
  (b_one (s_ret e_bl))
  b_nil)
  (b_one (s_if (c_cmp (op_eqD (room_u hr)) v_eq (o_m (e_ix ix_seq v_ix (e_sl 8) (o_m e_int) (fun _ _ => rfl))) (o_m e_str) (nomark _))
  (b_cons (s_dput (room_1 hr) 5 (k_of (v_dat (e_ix ix_seq v_ix (e_sl 8) (o_m e_int) (fun _ _ => rfl)))) (e_op op_addAll v_addAll (o_m (e_dget2 (room_1 hr) 5 (k_of (v_dat (e_ix ix_seq v_ix (e_sl 8) (o_m e_int) (fun _ _ => rfl)))) e_int)) (o_m e_int)))
  (b_cons (s_set hN rfl (by first | exact Or.inl rfl | exact Or.inr rfl) (e_op op_addAll v_addAll (e_sl 7) (o_m (e_tup (ms_cons (e_call ((ok__law_draw X).mono (by decide)) hr rfl X.d__law_draw.g X.d__law_draw.F.kp (bd__law_draw X) (takes_of rfl rfl rfl rfl) (ag_cons (ag_dk 0) (ag_cons (ag_m (e_var 2)) ag_nil))) (ms_cons (e_call ((ok__law_draw X).mono (by decide)) hr rfl X.d__law_draw.g X.d__law_draw.F.kp (bd__law_draw X) (takes_of rfl rfl rfl rfl) (ag_cons (ag_dk 0) (ag_cons (ag_m (e_var 2)) ag_nil))) ms_nil))))))
  (b_one (s_if (PW.pt (c_and (c_cmp op_lt v_cmp (e_sl 6) (o_m e_int) (nomark _)) (c_and1 (c_not (c_val (e_call ((ok__law_same X).mono (by decide)) hr rfl X.d__law_same.g X.d__law_same.F.kp (bd__law_same X) (takes_of rfl rfl rfl rfl) (ag_cons (ag_m (e_call ((ok_rolled X).mono (by decide)) hr rfl X.d_rolled.g X.d_rolled.F.kp (bd_rolled X) (takes_of rfl rfl rfl rfl) (ag_cons (ag_m (e_var 1)) (ag_cons (ag_m (e_var 9)) ag_nil)))) (ag_cons (ag_m (e_var 8)) ag_nil))))))))
  (b_one (s_ret e_bl))
  b_nil))))
  b_nil)))))
  (b_one (s_ret (e_or (e_cmp (op_eqD (room_u hr)) v_eq (e_sl 3) (o_m (e_tup ms_nil)) (nomark _)) (e_one (e_call ((ok__law_same X).mono (by decide)) hr rfl X.d__law_same.g X.d__law_same.F.kp (bd__law_same X) (takes_of rfl rfl rfl rfl) (ag_cons (ag_m (e_call ((ok_settled X).mono (by decide)) hr rfl X.d_settled.g X.d_settled.F.kp (bd_settled X) (takes_of rfl rfl rfl rfl) (ag_cons (ag_m (e_var 3)) (ag_cons (ag_m (e_var 2)) (ag_cons (ag_m (e_var 4)) ag_nil))))) (ag_cons (ag_m (e_callTy call_tuple_of v_tuple rfl X.b_tuple boot_tuple (as_cons (o_m (e_frz (e_lc (own := [("k", 10)]) rfl hN (blk_ok (by kernel_rfl)) (i_range1 rfl X.b_range (as_cons (o_m (e_callB cr_len v_lenA rfl X.b_len boot_len (as_cons (e_sl 3) as_nil))) as_nil)) (fun s H C c fp => (gc_name hN rfl (by first | exact Or.inl rfl | exact Or.inr rfl))) (fun s H C c fp => ts_nil) (fun s H C c fp => (e_dget2 (room_1 hr) 5 (k_of (v_var 10)) e_int))))) as_nil))) ag_nil))))))))))
def m__law_are_refused : MS := sSeq (sSet 3 (mFrz (nLst [mC .none, mTup [], mF dListA [.sl 1], mF dAdd [.sl 1, .m (mTup [mTup []])], mF dAdd [.sl 1, .m (mTup [mSlice (mF dIx [.sl 1, .m (mC (.int 0))]) (some (mC (.int 1))) none])], mTup [mSlice (mF dIx [.sl 1, .m (mC (.int 0))]) none (some (mC (.int 1)))], mF dIx [.sl 1, .m (mC (.int 0))], mF dAdd [.sl 1, .m (mTup [mF dListA [.m (mF dIx [.sl 1, .m (mC (.int 0))])]])], mTup [mF dMulA [.m (mTup [mTup [mC (.str "on"), mC (.int 0)]]), .m (mC (.int 13))]]])))
  (sSeq (sSet 3 (mF dAdd [.sl 3, .m (mFrz (mLc (.nm 4) [4] (mItD (mTup [mTup [mC (.str "on"), mF dLenA [.sl 1]], mTup [mC (.str "on"), mF dNeg [.m (mC (.int 1))]], mTup [mC (.str "done"), mF dNeg [.m (mC (.int 1))]], mTup [mC (.str "done"), mC (.int 256)], mTup [mC (.str "done"), mC (.bool true)], mTup [mC (.str "done")], mTup [mC (.str "off"), mC (.int 0)], mFrz (nLst [mC (.str "done"), mC (.int 0)]), mC .none, mTup [mC (.int 0), mC (.str "done")], mTup [mC (.str "on"), mC (.str "0")]])) (tYesM) (mF dAdd [.m (mTup [mF dAdd [.m (mTup [mVar 4]), .m (mSlice (mF dIx [.sl 1, .m (mC (.int 0))]) (some (mC (.int 1))) none)]]), .m (mSlice (mVar 1) (some (mC (.int 1))) none)])))]))
  (sSeq (sSet 5 (mCall r__law_pick [.dk 0, .m (mVar 3)]))
  (sSeq (sSet 6 (mCall r__law_pick [.dk 0, .m (mFrz (nLst [mC .none, mFrz (nLst [mC (.int 0)]), mTup [mVar 2], mTup [mC (.int 0), mF dNeg [.m (mC (.int 1))]], mTup [mC (.bool true)], mTup [mC (.str "0")], mTup [mTup [mC (.int 0)]], mC (.int 0), mC (.str "00")]))]))
  (sSeq (sSetN 7 (nLst [mCallC r__law_heard [] 2 [5, 6]]))
  (sSeq (sDrop (mApp 7 (mCallC r__law_heard [] 3 [6, 1])))
  (sSeq (sDrop (mApp 7 (mCallC r__law_heard [] 4 [1])))
  (sRet (mCall r__law_same [.m (mVar 7), .m (mFrz (nLst [mTup [mC (.str "rows"), mVar 5, mC (.bool true)], mTup [mC (.str "tape"), mVar 6, mC (.bool true)], mTup [mC (.str "told"), mTup [mC (.str "on"), mC (.int 0)]]]))]))))))))
def r__law_are_refused : S0 → RF := fnM m__law_are_refused 5
theorem sc__law_are_refused : FnScope ["deck", "rows", "sides", "some", "it", "bad", "odd", "heard"] ["deck", "rows", "sides"] (defScope s__law_are_refused) := ⟨rfl, rfl, rfl, by decide +kernel, rfl, by decide +kernel, by decide +kernel⟩
theorem bd__law_are_refused (X : Fx K mg base fd) : Binds K (fd "_law_are_refused") ["deck", "rows", "sides"] [] := X.d__law_are_refused.F.bindsN fun _ _ _ _ _ _ us hl => match us, hl with | [_, _, _], _ => rfl
theorem ok__law_are_refused (X : Fx K mg base fd) : FnOk P w K mg base (L2.CX P w) 9 (He.ga K "_law_are_refused") (fd "_law_are_refused") ["deck", "rows", "sides"] (spM K (He.ga K) 3 r__law_are_refused) := by
  have hN := sc__law_are_refused.nd
  exact X.d__law_are_refused.ok sc__law_are_refused rfl fun A outer s H E hr => (b_cons (s_set hN rfl (by first | exact Or.inl rfl | exact Or.inr rfl) (e_frz (n_lst (ms_cons e_non (ms_cons (e_tup ms_nil) (ms_cons (e_callTy (cr_listA rfl) v_listA rfl X.b_list boot_list (as_cons (e_sl 1) as_nil)) (ms_cons (e_op op_addAll v_addAll (e_sl 1) (o_m (e_tup (ms_cons (e_tup ms_nil) ms_nil)))) (ms_cons (e_op op_addAll v_addAll (e_sl 1) (o_m (e_tup (ms_cons (e_slice (e_ix ix_seq v_ix (e_sl 1) (o_m e_int) (fun _ _ => rfl)) (po_so e_int) po_no) ms_nil)))) (ms_cons (e_tup (ms_cons (e_slice (e_ix ix_seq v_ix (e_sl 1) (o_m e_int) (fun _ _ => rfl)) po_no (po_so e_int)) ms_nil)) (ms_cons (e_ix ix_seq v_ix (e_sl 1) (o_m e_int) (fun _ _ => rfl)) (ms_cons (e_op op_addAll v_addAll (e_sl 1) (o_m (e_tup (ms_cons (e_callTy (cr_listA rfl) v_listA rfl X.b_list boot_list (as_cons (o_m (e_ix ix_seq v_ix (e_sl 1) (o_m e_int) (fun _ _ => rfl))) as_nil)) ms_nil)))) (ms_cons (e_tup (ms_cons (e_op op_mulA v_mulA (o_m (e_tup (ms_cons (e_tup (ms_cons e_str (ms_cons e_int ms_nil))) ms_nil))) (o_m e_int)) ms_nil)) ms_nil))))))))))))
  (b_cons (s_set hN rfl (by first | exact Or.inl rfl | exact Or.inr rfl) (e_op op_addAll v_addAll (e_sl 3) (o_m (e_frz (e_lc (own := [("it", 4)]) rfl hN (blk_ok (by kernel_rfl)) (i_data (e_tup (ms_cons (e_tup (ms_cons e_str (ms_cons (e_callB cr_len v_lenA rfl X.b_len boot_len (as_cons (e_sl 1) as_nil)) ms_nil))) (ms_cons (e_tup (ms_cons e_str (ms_cons (e_un un_neg v_neg (o_m e_int)) ms_nil))) (ms_cons (e_tup (ms_cons e_str (ms_cons (e_un un_neg v_neg (o_m e_int)) ms_nil))) (ms_cons (e_tup (ms_cons e_str (ms_cons e_int ms_nil))) (ms_cons (e_tup (ms_cons e_str (ms_cons e_bl ms_nil))) (ms_cons (e_tup (ms_cons e_str ms_nil)) (ms_cons (e_tup (ms_cons e_str (ms_cons e_int ms_nil))) (ms_cons (e_frz (n_lst (ms_cons e_str (ms_cons e_int ms_nil)))) (ms_cons e_non (ms_cons (e_tup (ms_cons e_int (ms_cons e_str ms_nil))) (ms_cons (e_tup (ms_cons e_str (ms_cons e_str ms_nil))) ms_nil))))))))))))) (fun s H C c fp => (gc_name hN rfl (by first | exact Or.inl rfl | exact Or.inr rfl))) (fun s H C c fp => ts_nil) (fun s H C c fp => (e_op op_addAll v_addAll (o_m (e_tup (ms_cons (e_op op_addAll v_addAll (o_m (e_tup (ms_cons (e_var 4) ms_nil))) (o_m (e_slice (e_ix ix_seq v_ix (e_sl 1) (o_m e_int) (fun _ _ => rfl)) (po_so e_int) po_no))) ms_nil))) (o_m (e_slice (e_var 1) (po_so e_int) po_no)))))))))
  (b_cons (s_set hN rfl (by first | exact Or.inl rfl | exact Or.inr rfl) (e_call ((ok__law_pick X).mono (by decide)) hr rfl X.d__law_pick.g X.d__law_pick.F.kp (bd__law_pick X) (takes_of rfl rfl rfl rfl) (ag_cons (ag_dk 0) (ag_cons (ag_m (e_var 3)) ag_nil))))
  (b_cons (s_set hN rfl (by first | exact Or.inl rfl | exact Or.inr rfl) (e_call ((ok__law_pick X).mono (by decide)) hr rfl X.d__law_pick.g X.d__law_pick.F.kp (bd__law_pick X) (takes_of rfl rfl rfl rfl) (ag_cons (ag_dk 0) (ag_cons (ag_m (e_frz (n_lst (ms_cons e_non (ms_cons (e_frz (n_lst (ms_cons e_int ms_nil))) (ms_cons (e_tup (ms_cons (e_var 2) ms_nil)) (ms_cons (e_tup (ms_cons e_int (ms_cons (e_un un_neg v_neg (o_m e_int)) ms_nil))) (ms_cons (e_tup (ms_cons e_bl ms_nil)) (ms_cons (e_tup (ms_cons e_str ms_nil)) (ms_cons (e_tup (ms_cons (e_tup (ms_cons e_int ms_nil)) ms_nil)) (ms_cons e_int (ms_cons e_str ms_nil)))))))))))) ag_nil))))
  (b_cons (s_setN hN rfl (by first | exact Or.inl rfl | exact Or.inr rfl) (n_lst (ms_cons (e_callC (L := lam_2) (id := 2) (js := [5, 6]) rfl ns_2 ((ok__law_heard X).mono (by decide)) hr rfl X.d__law_heard.g X.d__law_heard.F.kp (bd__law_heard X) (takes_of rfl rfl rfl rfl) .nil rfl (X.T _ (by decide)) rfl rfl mem__law_are_refused (inj__law_are_refused X) rfl (free_okB (by kernel_rfl)) (by decide +kernel) rfl (fun _ => rfl)) ms_nil)))
  (b_cons (s_expr (e_app 7 (e_callC (L := lam_3) (id := 3) (js := [6, 1]) rfl ns_3 ((ok__law_heard X).mono (by decide)) hr rfl X.d__law_heard.g X.d__law_heard.F.kp (bd__law_heard X) (takes_of rfl rfl rfl rfl) .nil rfl (X.T _ (by decide)) rfl rfl mem__law_are_refused (inj__law_are_refused X) rfl (free_okB (by kernel_rfl)) (by decide +kernel) rfl (fun _ => rfl))))
  (b_cons (s_expr (e_app 7 (e_callC (L := lam_4) (id := 4) (js := [1]) rfl ns_4 ((ok__law_heard X).mono (by decide)) hr rfl X.d__law_heard.g X.d__law_heard.F.kp (bd__law_heard X) (takes_of rfl rfl rfl rfl) .nil rfl (X.T _ (by decide)) rfl rfl mem__law_are_refused (inj__law_are_refused X) rfl (free_okB (by kernel_rfl)) (by decide +kernel) rfl (fun _ => rfl))))
  (b_one (s_ret (e_call ((ok__law_same X).mono (by decide)) hr rfl X.d__law_same.g X.d__law_same.F.kp (bd__law_same X) (takes_of rfl rfl rfl rfl) (ag_cons (ag_m (e_var 7)) (ag_cons (ag_m (e_frz (n_lst (ms_cons (e_tup (ms_cons e_str (ms_cons (e_var 5) (ms_cons e_bl ms_nil)))) (ms_cons (e_tup (ms_cons e_str (ms_cons (e_var 6) (ms_cons e_bl ms_nil)))) (ms_cons (e_tup (ms_cons e_str (ms_cons (e_tup (ms_cons e_str (ms_cons e_int ms_nil))) ms_nil))) ms_nil)))))) ag_nil))))))))))))
def m__law_whole : MS := sSeq (sFor (mRange1 (.m (mC (.int 3)))) (.nm 1)
  (sSeq (sSet 2 (mCall r__law_pick [.dk 0, .m (mFrz (nLst [mC (.int 2), mC (.int 2), mC (.int 3), mC (.int 4), mC (.int 6), mC (.int 12)]))]))
  (sSeq (sSet 3 (mF dAdd [.m (mF dTuple [.m (mFrz (mLc (.nm 10) [10] (mRange1 (.m (mF dAdd [.m (mC (.int 1)), .m (mCall r__law_draw [.dk 0, .m (mC (.int 3))])]))) (tYesM) (mCall r__law_draw [.dk 0, .m (mC (.int 6))])))]), .m (mTup [mF dAdd [.m (mC (.int 1)), .m (mCall r__law_draw [.dk 0, .m (mC (.int 9))])]])]))
  (sSeq (sPat (.tup [(.nm 4), (.nm 5)]) (mTup [mCall r__law_tosser [.m (mVar 3), .m (mVar 2)], mF dAdd [.m (mC (.int 1)), .m (mCall r__law_draw [.dk 0, .m (mC (.int 4))])]]))
  (sSeq (sSet 6 (mCall r__law_pick [.dk 0, .m (mFrz (nLst [mC (.int 0), mC (.int 0), mC (.int 251)]))]))
  (sSeq (sSet 7 (mF dTuple [.m (mFrz (mLc (.nm 9) [9] (mRange1 (.sl 5)) (tYesM) (mF dTuple [.m (mFrz (mLc (.nm 10) [10] (mRange1 (.sl 2)) (tYesM) (mCall r__law_pick [.dk 0, .m (mFrz (nLst [mTup [mC (.str "done"), mF dAdd [.sl 6, .m (mCall r__law_draw [.dk 0, .m (mC (.int 5))])]], mTup [mC (.str "on"), mCall r__law_draw [.dk 0, .m (mVar 5)]]]))])))])))]))
  (sSeq (sSet 8 (mF dRepr [.m (mTup [mVar 4, mVar 7])]))
  (sSeq (sIf (bOr (bAnd (toB (mF dNe [.sl 4, .m (mTup [])])) (bNot (toB (mCall r__law_is_right [.dk 0, .m (mVar 4), .m (mVar 2), .m (mVar 3)])))) (bNot (toB (mCall r__law_is_right [.dk 0, .m (mVar 7), .m (mVar 2), .m (mTup [])]))))
  (sRet (mC (.bool false)))
  (sNop))
  (sIf (bOr (bNot (toB (mCall r__law_are_refused [.dk 0, .m (mVar 7), .m (mVar 2)]))) (toB (mF dNe [.m (mF dRepr [.m (mTup [mVar 4, mVar 7])]), .sl 8])))
  (sRet (mC (.bool false)))
  (sNop))))))))))
  (sRet (mC (.bool true)))
def r__law_whole : S0 → RF := fnM m__law_whole 10
theorem sc__law_whole : FnScope ["deck", "turn", "sides", "weights", "rows", "many", "far", "drawn", "kept", "n", "k"] ["deck"] (defScope s__law_whole) := ⟨rfl, rfl, rfl, by decide +kernel, rfl, by decide +kernel, by decide +kernel⟩
theorem bd__law_whole (X : Fx K mg base fd) : Binds K (fd "_law_whole") ["deck"] [] := X.d__law_whole.F.bindsN fun _ _ _ _ _ _ us hl => match us, hl with | [_], _ => rfl
theorem ok__law_whole (X : Fx K mg base fd) : FnG P w K mg base (L2.CX P w) 10 (He.ga K "_law_whole") (fd "_law_whole") ["deck"] (spM K (He.ga K) 1 r__law_whole) := by
  have hN := sc__law_whole.nd
  exact X.d__law_whole.okG sc__law_whole rfl fun A outer s H E hgd hr => (b_cons (s_for (passes_of rfl) rfl (i_range1 rfl X.b_range (as_cons (o_m e_int) as_nil)) (g_name hN rfl (by first | exact Or.inl rfl | exact Or.inr rfl))
  (b_cons (s_set hN rfl (by first | exact Or.inl rfl | exact Or.inr rfl) (e_call ((ok__law_pick X).mono (by decide)) hr rfl X.d__law_pick.g X.d__law_pick.F.kp (bd__law_pick X) (takes_of rfl rfl rfl rfl) (ag_cons (ag_dk 0) (ag_cons (ag_m (e_frz (n_lst (ms_cons e_int (ms_cons e_int (ms_cons e_int (ms_cons e_int (ms_cons e_int (ms_cons e_int ms_nil))))))))) ag_nil))))
  (b_cons (s_set hN rfl (by first | exact Or.inl rfl | exact Or.inr rfl) (e_op op_addAll v_addAll (o_m (e_callTy call_tuple_of v_tuple rfl X.b_tuple boot_tuple (as_cons (o_m (e_frz (e_lc (own := [("k", 10)]) rfl hN (blk_ok (by kernel_rfl)) (i_range1 rfl X.b_range (as_cons (o_m (e_op op_addAll v_addAll (o_m e_int) (o_m (e_call ((ok__law_draw X).mono (by decide)) hr rfl X.d__law_draw.g X.d__law_draw.F.kp (bd__law_draw X) (takes_of rfl rfl rfl rfl) (ag_cons (ag_dk 0) (ag_cons (ag_m e_int) ag_nil)))))) as_nil)) (fun s H C c fp => (gc_name hN rfl (by first | exact Or.inl rfl | exact Or.inr rfl))) (fun s H C c fp => ts_nil) (fun s H C c fp => (e_call ((ok__law_draw X).mono (by decide)) hr rfl X.d__law_draw.g X.d__law_draw.F.kp (bd__law_draw X) takes0 (ag_cons (ag_dk 0) (ag_cons (ag_m e_int) ag_nil))))))) as_nil))) (o_m (e_tup (ms_cons (e_op op_addAll v_addAll (o_m e_int) (o_m (e_call ((ok__law_draw X).mono (by decide)) hr rfl X.d__law_draw.g X.d__law_draw.F.kp (bd__law_draw X) (takes_of rfl rfl rfl rfl) (ag_cons (ag_dk 0) (ag_cons (ag_m e_int) ag_nil))))) ms_nil)))))
  (b_cons (s_asg (e_tup (ms_cons (e_call ((ok__law_tosser X).mono (by decide)) hr rfl X.d__law_tosser.g X.d__law_tosser.F.kp (bd__law_tosser X) (takes_of rfl rfl rfl rfl) (ag_cons (ag_m (e_var 3)) (ag_cons (ag_m (e_var 2)) ag_nil))) (ms_cons (e_op op_addAll v_addAll (o_m e_int) (o_m (e_call ((ok__law_draw X).mono (by decide)) hr rfl X.d__law_draw.g X.d__law_draw.F.kp (bd__law_draw X) (takes_of rfl rfl rfl rfl) (ag_cons (ag_dk 0) (ag_cons (ag_m e_int) ag_nil))))) ms_nil))) (g_tup rfl (gs_cons (g_name hN rfl (by first | exact Or.inl rfl | exact Or.inr rfl)) (gs_cons (g_name hN rfl (by first | exact Or.inl rfl | exact Or.inr rfl)) gs_nil))))
  (b_cons (s_set hN rfl (by first | exact Or.inl rfl | exact Or.inr rfl) (e_call ((ok__law_pick X).mono (by decide)) hr rfl X.d__law_pick.g X.d__law_pick.F.kp (bd__law_pick X) (takes_of rfl rfl rfl rfl) (ag_cons (ag_dk 0) (ag_cons (ag_m (e_frz (n_lst (ms_cons e_int (ms_cons e_int (ms_cons e_int ms_nil)))))) ag_nil))))
  (b_cons (s_set hN rfl (by first | exact Or.inl rfl | exact Or.inr rfl) (e_callTy call_tuple_of v_tuple rfl X.b_tuple boot_tuple (as_cons (o_m (e_frz (e_lc (own := [("n", 9)]) rfl hN (blk_ok (by kernel_rfl)) (i_range1 rfl X.b_range (as_cons (e_sl 5) as_nil)) (fun s H C c fp => (gc_name hN rfl (by first | exact Or.inl rfl | exact Or.inr rfl))) (fun s H C c fp => ts_nil) (fun s H C c fp => (e_callTy call_tuple_of v_tuple rfl X.b_tuple boot_tuple (as_cons (o_m (e_frz (e_lc (own := [("k", 10)]) rfl hN (blk_ok (by kernel_rfl)) (i_range1 rfl X.b_range (as_cons (e_sl 2) as_nil)) (fun s H C c fp => (gc_name hN rfl (by first | exact Or.inl rfl | exact Or.inr rfl))) (fun s H C c fp => ts_nil) (fun s H C c fp => (e_call ((ok__law_pick X).mono (by decide)) hr rfl X.d__law_pick.g X.d__law_pick.F.kp (bd__law_pick X) takes0 (ag_cons (ag_dk 0) (ag_cons (ag_m (e_frz (n_lst (ms_cons (e_tup (ms_cons e_str (ms_cons (e_op op_addAll v_addAll (e_sl 6) (o_m (e_call ((ok__law_draw X).mono (by decide)) hr rfl X.d__law_draw.g X.d__law_draw.F.kp (bd__law_draw X) takes0 (ag_cons (ag_dk 0) (ag_cons (ag_m e_int) ag_nil))))) ms_nil))) (ms_cons (e_tup (ms_cons e_str (ms_cons (e_call ((ok__law_draw X).mono (by decide)) hr rfl X.d__law_draw.g X.d__law_draw.F.kp (bd__law_draw X) takes0 (ag_cons (ag_dk 0) (ag_cons (ag_m (e_var 5)) ag_nil))) ms_nil))) ms_nil))))) ag_nil))))))) as_nil)))))) as_nil)))
  (b_cons (s_set hN rfl (by first | exact Or.inl rfl | exact Or.inr rfl) (e_callB (cr_repr hgd (room_r hr)) v_repr rfl X.b_repr boot_repr (as_cons (o_m (e_tup (ms_cons (e_var 4) (ms_cons (e_var 7) ms_nil)))) as_nil)))
  (b_cons (s_if (PW.pt (c_or (PW.pt (c_and (c_cmp (op_neD (room_u hr)) v_ne (e_sl 4) (o_m (e_tup ms_nil)) (nomark _)) (c_and1 (c_not (c_val (e_call ((ok__law_is_right X).mono (by decide)) hr rfl X.d__law_is_right.g X.d__law_is_right.F.kp (bd__law_is_right X) (takes_of rfl rfl rfl rfl) (ag_cons (ag_dk 0) (ag_cons (ag_m (e_var 4)) (ag_cons (ag_m (e_var 2)) (ag_cons (ag_m (e_var 3)) ag_nil)))))))))) (c_or1 (c_not (c_val (e_call ((ok__law_is_right X).mono (by decide)) hr rfl X.d__law_is_right.g X.d__law_is_right.F.kp (bd__law_is_right X) (takes_of rfl rfl rfl rfl) (ag_cons (ag_dk 0) (ag_cons (ag_m (e_var 7)) (ag_cons (ag_m (e_var 2)) (ag_cons (ag_m (e_tup ms_nil)) ag_nil))))))))))
  (b_one (s_ret e_bl))
  b_nil)
  (b_one (s_if (PW.pt (c_or (c_not (c_val (e_call ((ok__law_are_refused X).mono (by decide)) hr rfl X.d__law_are_refused.g X.d__law_are_refused.F.kp (bd__law_are_refused X) (takes_of rfl rfl rfl rfl) (ag_cons (ag_dk 0) (ag_cons (ag_m (e_var 7)) (ag_cons (ag_m (e_var 2)) ag_nil)))))) (c_or1 (c_cmp (op_neD (room_u hr)) v_ne (o_m (e_callB (cr_repr hgd (room_r hr)) v_repr rfl X.b_repr boot_repr (as_cons (o_m (e_tup (ms_cons (e_var 4) (ms_cons (e_var 7) ms_nil)))) as_nil))) (e_sl 8) (nomark _)))))
  (b_one (s_ret e_bl))
  b_nil))))))))))
  (b_one (s_ret e_bl)))
end
end Lw

set_option Elab.async false
set_option linter.all false
set_option maxRecDepth 100000
set_option maxHeartbeats 4000000
/-! the deck, the law. -/
namespace Lw
open PySem PySem.Spec PyProof.Rows L2 NdefX Lf
section
variable {P : Program} {w : World} {K : PySem.W.Frag} {mg : Str → Option Value} {base : Heap} {fd : Str → FuncData}
theorem sc__law_deck : FnScope ["script", "mark", "blend", "cell"] ["script", "mark"] (defScope s__law_deck) := ⟨rfl, rfl, rfl, by decide +kernel, rfl, by decide +kernel, by decide +kernel⟩
theorem bd__law_deck (X : Fx K mg base fd) : Binds K (fd "_law_deck") ["script", "mark"] [] := X.d__law_deck.F.bindsN fun _ _ _ _ _ _ us hl => match us, hl with | [_, _], _ => rfl
theorem ok__law_deck (X : Fx K mg base fd) : FnOk P w K mg base (L2.CX P w) 1 (He.ga K "_law_deck") (fd "_law_deck") ["script", "mark"] (spDeck K 40014 2147483629 211 2147483563) := by
  have hN := sc__law_deck.nd
  refine X.d__law_deck.hand0 sc__law_deck (fun vs H Q E h => ?_) fun A outer s H vs Q E hr h => ⟨tDeckB K (He.ga K) (fun c d _ H => E c d H) 40014 2147483629 211 2147483563, ?_, deck_run (by decide) (by decide) (by decide) (small64 (z := 40014) (by decide)) rfl h⟩
  · obtain ⟨a, ns, mk, rfl, _⟩ := h
    rfl
  · exact pss_cons (s_set hN rfl (by first | exact Or.inl rfl | exact Or.inr rfl) (e_var 1)) (pss_cons (ps_for (passes_of rfl) rfl (pi_list (pe_slice sl_list (pv 0) po_none (po_some pe_int))) (g_name hN rfl (by first | exact Or.inl rfl | exact Or.inr rfl)) (b_one (s_set hN rfl (by first | exact Or.inl rfl | exact Or.inr rfl) (e_op op_modN v_mod (o_m (e_callTy call_int1 v_int rfl X.b_int boot_int (as_cons (o_m (e_op op_addAll v_addAll (o_m (e_op op_addAll v_addAll (o_m (e_op op_mulAll v_mulAll (e_sl 2) (o_m e_int))) (o_m (e_op op_modN v_mod (o_m (e_callTy call_int1 v_int rfl X.b_int boot_int (as_cons (e_sl 3) as_nil))) (o_m e_int))))) (o_m e_int))) as_nil))) (o_m e_int)))))
      (pss_one (ps_ret (pe_disp (pps_cons pe_str (pe_revL (pe_lc (own := [("cell", 3)]) rfl hN (pi_list (pe_slice sl_list (pv 0) po_none (po_some pe_int))) (blk_ok (by kernel_rfl)) (fun s H C c fp => gc_name hN rfl (by first | exact Or.inl rfl | exact Or.inr rfl)) (fun s H C c fp => ts_nil) (fun s H C c fp => (e_callTy call_int1 v_int rfl X.b_int boot_int (as_cons (e_sl 3) as_nil))))) (pps_cons pe_str (e_var 2) (pps_cons pe_str pe_int pps_nil))) rfl rfl (by simp) (by decide)))))
theorem sc_law : FnScope ["script"] ["script"] (defScope s_law) := ⟨rfl, rfl, rfl, by decide +kernel, rfl, by decide +kernel, by decide +kernel⟩
theorem bd_law (X : Fx K mg base fd) : Binds K (fd "law") ["script"] [] := X.d_law.F.bindsN fun _ _ _ _ _ _ us hl => match us, hl with | [_], _ => rfl
def lawMark : Int := 24130017
abbrev theDeck (ns : List Int) : Deck := deck0 40014 2147483629 211 2147483563 24130017 ns
abbrev Keeps (p : List Int → Prop) : Prop := ∀ ns, ns.length ≤ 63 → p ns → ∃ k', r__law_whole ⟨[.deck], some (theDeck ns)⟩ = .ok (.bool true) k'
theorem ok_law (X : Fx K mg base fd) {p : List Int → Prop} (hp : Keeps p) : FnG P w K mg base (L2.CX P w) 11 (He.ga K "law") (fd "law") ["script"] (spLaw K p) := by
  have hN := sc_law.nd
  exact X.d_law.hand sc_law spLaw_len fun A outer s H vs Q E hgd hr h => ⟨_, pss_one (ps_try_only (c := .ref (He.ga K "HouseError")) (Wout := fun c d _ H => E c d H) (ts := fun _ _ _ => tRet (tC (.bl false)))
      (tb := fun W => tRet (tCallS (spM K (He.ga K) 1 r__law_whole) (WE W) (tCons (tCallS (spDeck K 40014 2147483629 211 2147483563) (WE W) (tCons (tVar 0) (tCons (tC (.int 24130017)) tNil))) tNil))) rfl rfl ⟨rfl, by decide, .inl X.g_HouseError⟩ (takes_of rfl rfl rfl rfl)
      (fun W pn xe tk po => pss_one (ps_ret (pe_callG' (ok__law_whole X) hgd hr rfl X.d__law_whole.g X.d__law_whole.F.kp (bd__law_whole X) (fun σ => passAt tk σ) (pa_cons (pe_callS (ok__law_deck X) (hr.mono (by decide)) rfl X.d__law_deck.g X.d__law_deck.F.kp (bd__law_deck X) (fun σ => passAt tk σ) (pa_cons (pv 0) (pa_cons pe_int pa_nil))) pa_nil))))
      (fun a oe cls d pn hz hf => pss_one (ps_ret pe_bl))), law_run1 ⟨by decide, by decide⟩ hp h⟩
end
end Lw

set_option Elab.async false
set_option linter.all false
set_option maxRecDepth 100000
/-! rules by which a mirror is run, step by step. -/
namespace Lf
open PySem PySem.Spec PyProof.Rows L2
theorem mF_ru {f : List D → Option D} {os : List Opd} {s s2 : S0} {d : D} {ds : List D} (h : evalO os s = .ok ds s2) (hf : f ds = some d) : mF f os s = .ok d s2 := by
  unfold mF
  rw [h]
  show (match f ds with
    | some d => Lf.R.ok d s2
    | none => .bad) = _
  rw [hf]
theorem ev_nil {s : S0} : evalO [] s = .ok [] s := rfl
theorem ev_m {f : S0 → Lf.R D} {r : List Opd} {s s1 s2 : S0} {d : D} {ds : List D} (h : f s = .ok d s1) (h2 : evalO r s1 = .ok ds s2) : evalO (.m f :: r) s = .ok (d :: ds) s2 := by
  show (f s).bind (fun d s1 => (evalO r s1).bind fun ds s2 => .ok (d :: ds) s2) = _
  rw [h]
  show (evalO r s1).bind _ = _
  rw [h2] <;> rfl
theorem ev_sl {i : Nat} {r : List Opd} {s s2 : S0} {d : D} {ds : List D} (h0 : (look s i).isSome = true) (h2 : evalO r s = .ok ds s2) (h : look s2 i = some d) : evalO (.sl i :: r) s = .ok (d :: ds) s2 := by
  obtain ⟨d0, e0⟩ := Option.isSome_iff_exists.mp h0
  show (match look s i with
    | some _ => (evalO r s).bind fun ds s2 => match look s2 i with
      | some d => .ok (d :: ds) s2
      | none => .bad
    | none => .bad) = _
  rw [e0]
  show (evalO r s).bind _ = _
  rw [h2]
  show (match look s2 i with
      | some d => Lf.R.ok (d :: ds) s2
      | none => .bad) = _
  rw [h]
theorem em_nil {s : S0} : evalM [] s = .ok [] s := rfl
theorem em_cons {f : S0 → Lf.R D} {r : List (S0 → Lf.R D)} {s s1 s2 : S0} {d : D} {ds : List D} (h : f s = .ok d s1) (h2 : evalM r s1 = .ok ds s2) : evalM (f :: r) s = .ok (d :: ds) s2 := by
  show (f s).bind (fun d s1 => (evalM r s1).bind fun ds s2 => .ok (d :: ds) s2) = _
  rw [h]
  show (evalM r s1).bind _ = _
  rw [h2] <;> rfl
theorem mTup_ru {ms : List (S0 → Lf.R D)} {s s1 : S0} {ds : List D} (h : evalM ms s = .ok ds s1) (hl : ds.length ≤ line) : mTup ms s = .ok (.tuple ds) s1 := by
  unfold mTup
  rw [h]
  exact if_pos hl
theorem nLst_ru {ms : List (S0 → Lf.R D)} {s s1 : S0} {ds : List D} (h : evalM ms s = .ok ds s1) (hl : ds.length ≤ line) : nLst ms s = .ok ds s1 := by
  unfold nLst
  rw [h]
  exact if_pos hl
theorem mFrz_ru {n : S0 → Lf.R (List D)} {s s1 : S0} {ds : List D} (h : n s = .ok ds s1) : mFrz n s = .ok (.list ds) s1 := by
  unfold mFrz
  rw [h] <;> rfl
theorem svD_ru {m : S0 → Lf.R D} {s s1 : S0} {d : D} (h : m s = .ok d s1) : svD m s = .ok (.dat d) s1 := by
  unfold svD
  rw [h] <;> rfl
theorem svN_ru {m : S0 → Lf.R (List D)} {s s1 : S0} {d : List D} (h : m s = .ok d s1) : svN m s = .ok (.lst d) s1 := by
  unfold svN
  rw [h] <;> rfl
theorem svTl_ru {m : S0 → Lf.R D} {s s1 : S0} {ds : List D} (h : m s = .ok (.list ds) s1) : svTl m s = .ok (.tup ds) s1 := by
  unfold svTl
  rw [h] <;> rfl
theorem mItD_ru {m : S0 → Lf.R D} {s s1 : S0} {d : D} {ds : List D} (h : m s = .ok d s1) (hi : items d = some ds) : mItD m s = .ok ds s1 := by
  unfold mItD
  rw [h]
  show (match items d with
    | some ds => Lf.R.ok ds s1
    | none => .bad) = _
  rw [hi]
theorem mEnum_ru {m : S0 → Lf.R D} {s s1 : S0} {d : D} {ds : List D} (h : m s = .ok d s1) (hi : items d = some ds) : mEnum m s = .ok (enumD ds) s1 := by
  unfold mEnum
  rw [h]
  show (match items d with
    | some ds => Lf.R.ok (enumD ds) s1
    | none => .bad) = _
  rw [hi]
/-! truths -/
theorem toB_ru {m : S0 → Lf.R D} {s s1 : S0} {b : Bool} (h : m s = .ok (.bool b) s1) : toB m s = .ok b s1 := by
  unfold toB
  rw [h] <;> rfl
theorem bNot_ru {m : S0 → Lf.R Bool} {s s1 : S0} {b : Bool} (h : m s = .ok b s1) : bNot m s = .ok (!b) s1 := by
  unfold bNot
  rw [h] <;> rfl
theorem bNot_t {m : S0 → Lf.R Bool} {s s1 : S0} (h : m s = .ok true s1) : bNot m s = .ok false s1 := bNot_ru h
theorem bNot_f {m : S0 → Lf.R Bool} {s s1 : S0} (h : m s = .ok false s1) : bNot m s = .ok true s1 := bNot_ru h
theorem bOr_t {m m2 : S0 → Lf.R Bool} {s s1 : S0} (h : m s = .ok true s1) : bOr m m2 s = .ok true s1 := by
  unfold bOr
  rw [h] <;> rfl
theorem bOr_f {m m2 : S0 → Lf.R Bool} {s s1 s2 : S0} {b : Bool} (h : m s = .ok false s1) (h2 : m2 s1 = .ok b s2) : bOr m m2 s = .ok b s2 := by
  unfold bOr
  rw [h]
  exact h2
theorem bAnd_f {m m2 : S0 → Lf.R Bool} {s s1 : S0} (h : m s = .ok false s1) : bAnd m m2 s = .ok false s1 := by
  unfold bAnd
  rw [h] <;> rfl
theorem bAnd_t {m m2 : S0 → Lf.R Bool} {s s1 s2 : S0} {b : Bool} (h : m s = .ok true s1) (h2 : m2 s1 = .ok b s2) : bAnd m m2 s = .ok b s2 := by
  unfold bAnd
  rw [h]
  exact h2
theorem mB_ru {f : Bool → S0 → Lf.R D} {m : S0 → Lf.R D} {s s1 : S0} {b : Bool} (h : m s = .ok (.bool b) s1) : mB f m s = f b s1 := by
  unfold mB
  rw [h] <;> rfl
theorem mAnd_f {m m2 : S0 → Lf.R D} {s s1 : S0} (h : m s = .ok (.bool false) s1) : mAnd m m2 s = .ok (.bool false) s1 := mB_ru h
theorem mAnd_t {m m2 : S0 → Lf.R D} {s s1 : S0} {r : Lf.R D} (h : m s = .ok (.bool true) s1) (h2 : m2 s1 = r) : mAnd m m2 s = r := (mB_ru h).trans h2
theorem mOr_t {m m2 : S0 → Lf.R D} {s s1 : S0} (h : m s = .ok (.bool true) s1) : mOr m m2 s = .ok (.bool true) s1 := mB_ru h
theorem mOr_f {m m2 : S0 → Lf.R D} {s s1 : S0} {r : Lf.R D} (h : m s = .ok (.bool false) s1) (h2 : m2 s1 = r) : mOr m m2 s = r := (mB_ru h).trans h2
theorem mNot_ru {m : S0 → Lf.R D} {s s1 : S0} {b : Bool} (h : m s = .ok (.bool b) s1) : mNot m s = .ok (.bool (!b)) s1 := mB_ru h
theorem mIf_t {t : S0 → Lf.R Bool} {m m2 : S0 → Lf.R D} {s s1 : S0} {r : Lf.R D} (h : t s = .ok true s1) (h2 : m s1 = r) : mIf t m m2 s = r := by
  unfold mIf
  rw [h]
  exact h2
theorem mIf_f {t : S0 → Lf.R Bool} {m m2 : S0 → Lf.R D} {s s1 : S0} {r : Lf.R D} (h : t s = .ok false s1) (h2 : m2 s1 = r) : mIf t m m2 s = r := by
  unfold mIf
  rw [h]
  exact h2
/-! calls -/
theorem ga_nil {s : S0} : evalAg [] s = .ok [] s := rfl
theorem ga_m {f : S0 → Lf.R D} {r : List Ag} {s s1 s2 : S0} {d : D} {ds : List SV} (h : f s = .ok d s1) (h2 : evalAg r s1 = .ok ds s2) : evalAg (.m f :: r) s = .ok (.dat d :: ds) s2 := by
  show (f s).bind (fun d s1 => (evalAg r s1).bind fun ds s2 => .ok (.dat d :: ds) s2) = _
  rw [h]
  show (evalAg r s1).bind _ = _
  rw [h2] <;> rfl
theorem ga_dk {i : Nat} {r : List Ag} {s s2 : S0} {ds : List SV} (h : s.ρ[i]? = some .deck) (h2 : evalAg r s = .ok ds s2) : evalAg (.dk i :: r) s = .ok (.deck :: ds) s2 := by
  show (match s.ρ[i]? with
    | some .deck => (evalAg r s).bind fun svs s2 => Lf.R.ok (SV.deck :: svs) s2
    | _ => .bad) = _
  rw [h]
  show (evalAg r s).bind _ = _
  rw [h2] <;> rfl
theorem mCall_ru {mf : S0 → RF} {os : List Ag} {s : S0} {ρ1 : List SV} {k1 : Option Deck} {svs : List SV} {d : D} {k' : Option Deck} (h : evalAg os s = .ok svs ⟨ρ1, k1⟩) (hr : mf ⟨svs, k1⟩ = .ok d k') : mCall mf os s = .ok d ⟨ρ1, k'⟩ := by
  unfold mCall
  rw [h]
  show (mf ⟨svs, k1⟩).toR ⟨ρ1, k1⟩ = _
  rw [hr] <;> rfl
theorem mCall_exc {mf : S0 → RF} {os : List Ag} {s : S0} {ρ1 : List SV} {k1 : Option Deck} {svs : List SV} {c : Str} {d : D} {k' : Option Deck} (h : evalAg os s = .ok svs ⟨ρ1, k1⟩) (hr : mf ⟨svs, k1⟩ = .exc c d k') : mCall mf os s = .exc c d ⟨ρ1, k'⟩ := by
  unfold mCall
  rw [h]
  show (mf ⟨svs, k1⟩).toR ⟨ρ1, k1⟩ = _
  rw [hr] <;> rfl
theorem mCallK_ru {mf : S0 → RF} {os : List Ag} {ix : List Nat} {s : S0} {ρ1 : List SV} {k1 : Option Deck} {svs : List SV} {d : D} {k' : Option Deck} (h : evalAg os s = .ok svs ⟨ρ1, k1⟩) (hr : mf ⟨permL ix svs, k1⟩ = .ok d k') : mCallK mf os ix s = .ok d ⟨ρ1, k'⟩ := by
  unfold mCallK
  rw [h]
  show (mf ⟨permL ix svs, k1⟩).toR ⟨ρ1, k1⟩ = _
  rw [hr] <;> rfl
theorem mCallK_exc {mf : S0 → RF} {os : List Ag} {ix : List Nat} {s : S0} {ρ1 : List SV} {k1 : Option Deck} {svs : List SV} {c : Str} {d : D} {k' : Option Deck} (h : evalAg os s = .ok svs ⟨ρ1, k1⟩) (hr : mf ⟨permL ix svs, k1⟩ = .exc c d k') : mCallK mf os ix s = .exc c d ⟨ρ1, k'⟩ := by
  unfold mCallK
  rw [h]
  show (mf ⟨permL ix svs, k1⟩).toR ⟨ρ1, k1⟩ = _
  rw [hr] <;> rfl
theorem mCallC_ru {mf : S0 → RF} {os : List Ag} {id : Nat} {js : List Nat} {s : S0} {ρ1 : List SV} {k1 : Option Deck} {svs : List SV} {cs : List D} {d : D} {k' : Option Deck} (h : evalAg os s = .ok svs ⟨ρ1, k1⟩) (hc : capsOf ρ1 js = some cs) (hr : mf ⟨svs ++ [SV.clo id cs], k1⟩ = .ok d k') : mCallC mf os id js s = .ok d ⟨ρ1, k'⟩ := by
  unfold mCallC
  rw [h]
  show (match capsOf ρ1 js with
    | some cs => (mf ⟨svs ++ [SV.clo id cs], k1⟩).toR ⟨ρ1, k1⟩
    | none => .bad) = _
  rw [hc]
  show (mf ⟨svs ++ [SV.clo id cs], k1⟩).toR ⟨ρ1, k1⟩ = _
  rw [hr] <;> rfl
/-! statements -/
theorem sDrop_ru {m : S0 → Lf.R D} {s s1 : S0} {d : D} (h : m s = .ok d s1) : sDrop m s = .nx s1 := by
  unfold sDrop
  rw [h] <;> rfl
theorem sDrop_exc {m : S0 → Lf.R D} {s s1 : S0} {c : Str} {d : D} (h : m s = .exc c d s1) : sDrop m s = .exc c d s1 := by
  unfold sDrop
  rw [h] <;> rfl
theorem sRet_ru {m : S0 → Lf.R D} {s s1 : S0} {d : D} (h : m s = .ok d s1) : sRet m s = .rt d s1 := by
  unfold sRet
  rw [h] <;> rfl
theorem sRet_exc {m : S0 → Lf.R D} {s s1 : S0} {c : Str} {d : D} (h : m s = .exc c d s1) : sRet m s = .exc c d s1 := by
  unfold sRet
  rw [h] <;> rfl
theorem sRaise_ru {m : S0 → Lf.R D} {s s1 : S0} {c : Str} {d : D} (h : m s = .ok d s1) : sRaise c m s = .exc c d s1 := by
  unfold sRaise
  rw [h] <;> rfl
theorem sIf_t {t : S0 → Lf.R Bool} {m m2 : MS} {s s1 : S0} {r : RS} (h : t s = .ok true s1) (h2 : m s1 = r) : sIf t m m2 s = r := by
  unfold sIf
  rw [h]
  exact h2
theorem sIf_f {t : S0 → Lf.R Bool} {m m2 : MS} {s s1 : S0} {r : RS} (h : t s = .ok false s1) (h2 : m2 s1 = r) : sIf t m m2 s = r := by
  unfold sIf
  rw [h]
  exact h2
theorem sSet_ru {i : Nat} {m : S0 → Lf.R D} {s s1 : S0} {d : D} (h : m s = .ok d s1) (hi : i < s1.ρ.length) : sSet i m s = .nx { s1 with ρ := s1.ρ.set i (.dat d) } := by
  unfold sSet
  rw [h]
  exact if_pos hi
theorem sSet_exc {i : Nat} {m : S0 → Lf.R D} {s s1 : S0} {c : Str} {d : D} (h : m s = .exc c d s1) : sSet i m s = .exc c d s1 := by
  unfold sSet
  rw [h] <;> rfl
theorem sSetN_ru {i : Nat} {m : S0 → Lf.R (List D)} {s s1 : S0} {d : List D} (h : m s = .ok d s1) (hi : i < s1.ρ.length) : sSetN i m s = .nx { s1 with ρ := s1.ρ.set i (.lst d) } := by
  unfold sSetN
  rw [h]
  exact if_pos hi
theorem sSetV_ru {i : Nat} {m : S0 → Lf.R SV} {s s1 : S0} {d : SV} (h : m s = .ok d s1) (hi : i < s1.ρ.length) : sSetV i m s = .nx { s1 with ρ := s1.ρ.set i d } := by
  unfold sSetV
  rw [h]
  exact if_pos hi
theorem sPat_ru {p : Pat} {m : S0 → Lf.R D} {s s1 : S0} {d : D} {ρ' : List SV} (h : m s = .ok d s1) (hp : asgP p d s1.ρ = some ρ') : sPat p m s = .nx { s1 with ρ := ρ' } := by
  unfold sPat
  rw [h]
  show (match asgP p d s1.ρ with
    | some ρ' => RS.nx { s1 with ρ := ρ' }
    | none => .bad) = _
  rw [hp]
theorem sPar_ru {i j : Nat} {m1 m2 : S0 → Lf.R SV} {s s1 s2 : S0} {v1 v2 : SV} (h : m1 s = .ok v1 s1) (h2 : m2 s1 = .ok v2 s2) (hi : i < s2.ρ.length ∧ j < s2.ρ.length) : sPar i j m1 m2 s = .nx { s2 with ρ := (s2.ρ.set i v1).set j v2 } := by
  unfold sPar
  rw [h]
  show (m2 s1).toS _ = _
  rw [h2]
  exact if_pos hi
theorem mApp_ru {i : Nat} {m : S0 → Lf.R D} {s s1 : S0} {ys xs : List D} {d : D} (h0 : s.ρ[i]? = some (.lst ys)) (hm : m s = .ok d s1) (h1 : s1.ρ[i]? = some (.lst xs)) (hl : xs.length < line) : mApp i m s = .ok .none { s1 with ρ := s1.ρ.set i (.lst (xs ++ [d])) } := by
  unfold mApp
  rw [h0]
  show (m s).bind _ = _
  rw [hm]
  show (match s1.ρ[i]? with
    | some (.lst xs) => if xs.length < line then Lf.R.ok PyData.none { s1 with ρ := s1.ρ.set i (.lst (xs ++ [d])) } else .bad
    | _ => .bad) = _
  rw [h1]
  exact if_pos hl
theorem mExt_ru {i : Nat} {m : S0 → Lf.R D} {s s1 : S0} {ys xs ds : List D} (h0 : s.ρ[i]? = some (.lst ys)) (hm : m s = .ok (.list ds) s1) (h1 : s1.ρ[i]? = some (.lst xs)) (hl : xs.length + ds.length ≤ line) : mExt i m s = .ok .none { s1 with ρ := s1.ρ.set i (.lst (xs ++ ds)) } := by
  unfold mExt
  rw [h0]
  show (m s).bind _ = _
  rw [hm]
  show (match s1.ρ[i]?, PyData.list ds with
    | some (.lst xs), .list ds => if xs.length + ds.length ≤ line then Lf.R.ok PyData.none { s1 with ρ := s1.ρ.set i (.lst (xs ++ ds)) } else .bad
    | _, _ => .bad) = _
  rw [h1]
  exact if_pos hl
theorem mSlice_ru {m : S0 → Lf.R D} {lo hi : S0 → Lf.R D} {s s1 s2 s3 : S0} {ds : List D} {l h : Int} (hm : m s = .ok (.list ds) s1) (hl : lo s1 = .ok (.int l) s2) (hh : hi s2 = .ok (.int h) s3) : mSlice m (some lo) (some hi) s = .ok (.list (cutD ds (some l) (some h))) s3 := by
  unfold mSlice
  rw [hm]
  show ((lo s1).bind _).bind _ = _
  rw [hl]
  show ((hi s2).bind _).bind _ = _
  rw [hh] <;> rfl
theorem line1 : 1 ≤ line := by decide
theorem line2 : 2 ≤ line := by decide
theorem line3 : 3 ≤ line := by decide
theorem line_big : 1000000 ≤ line := by decide
theorem line_le {n : Nat} (h : n ≤ line) : n < 9223372036854775808 := by
  have : line < 9223372036854775808 := by decide
  omega
theorem dMul_rep {xs : List D} {k : Int} (c : -(2 ^ 63) ≤ k ∧ k < 2 ^ 63 ∧ xs.length * k.toNat ≤ line) : dMul [.list xs, .int k] = some (.list (List.replicate k.toNat xs).flatten) := by
  simp only [dMul, c, and_self, if_true]
end Lf

set_option linter.all false
namespace Lw
/-- what a tape comes to: an outcome, or the row at which it stands -/
inductive St where
  | dn (k : Nat)
  | on (i : Nat)
deriving DecidableEq
def onsOf : List St → List Nat
  | [] => []
  | .on i :: r => i :: onsOf r
  | .dn _ :: r => onsOf r
def cntOf (k : Nat) : List St → Nat
  | [] => 0
  | .on _ :: r => cntOf k r
  | .dn j :: r => (if j = k then 1 else 0) + cntOf k r
theorem onsOf_append : ∀ a b : List St, onsOf (a ++ b) = onsOf a ++ onsOf b
  | [], b => rfl
  | .on i :: r, b => by simp [onsOf, onsOf_append r b]
  | .dn _ :: r, b => by simp [onsOf, onsOf_append r b]
theorem cntOf_append (k : Nat) : ∀ a b : List St, cntOf k (a ++ b) = cntOf k a + cntOf k b
  | [], b => by simp [cntOf]
  | .on i :: r, b => by simp [cntOf, cntOf_append k r b]
  | .dn _ :: r, b => by simp [cntOf, cntOf_append k r b, Nat.add_assoc]
/-- the next roll of all tapes -/
def nxt (rows : List (List St)) (s : Nat) : St → List St
  | .dn k => List.replicate s (.dn k)
  | .on i => rows.getD i []
theorem cnt_rep (k j : Nat) : ∀ s, cntOf k (List.replicate s (.dn j)) = s * (if j = k then 1 else 0)
  | 0 => by simp [cntOf]
  | s + 1 => by
    rw [List.replicate_succ]
    simp only [cntOf, cnt_rep k j s, Nat.add_mul]
    omega
theorem ons_rep (j : Nat) : ∀ s, onsOf (List.replicate s (.dn j)) = []
  | 0 => rfl
  | s + 1 => by
    rw [List.replicate_succ]
    simp only [onsOf, ons_rep j s]
theorem ons_flat (rows : List (List St)) (s : Nat) : ∀ os : List St, onsOf (os.flatMap (nxt rows s)) = (onsOf os).flatMap fun i => onsOf (rows.getD i [])
  | [] => rfl
  | .on i :: r => by simp only [List.flatMap_cons, onsOf_append, ons_flat rows s r, onsOf, nxt]
  | .dn j :: r => by simp only [List.flatMap_cons, onsOf_append, ons_flat rows s r, onsOf, nxt, ons_rep, List.nil_append]
theorem cnt_flat (k : Nat) (rows : List (List St)) (s : Nat) : ∀ os : List St, cntOf k (os.flatMap (nxt rows s)) = s * cntOf k os + ((onsOf os).map fun i => cntOf k (rows.getD i [])).sum
  | [] => by simp [cntOf, onsOf]
  | .on i :: r => by
    simp only [List.flatMap_cons, cntOf_append, cnt_flat k rows s r, onsOf, nxt, cntOf, List.map_cons, List.sum_cons]
    omega
  | .dn j :: r => by
    simp only [List.flatMap_cons, cntOf_append, cnt_flat k rows s r, onsOf, nxt, cntOf, cnt_rep, Nat.mul_add]
    omega
/-- all tapes of so many rolls -/
def outs (rows : List (List St)) (s : Nat) : Nat → List St
  | 0 => [.on 0]
  | r + 1 => (outs rows s r).flatMap (nxt rows s)
/-! the rows of a tosser -/
structure Tw where
  s : Nat
  W : Nat
  ws : List Nat
  hW : 0 < W
  hs : 0 < s
  sum : ws.sum = W
variable (t : Tw)
/-- the rests of a depth -/
def Tw.R (d : Nat) : List Nat := t.ws.map fun w => w * t.s ^ d % t.W
def nextR (W s : Nat) (rs : List Nat) : List Nat := rs.map fun it => it * s % W
theorem Tw.R_succ (d : Nat) : t.R (d + 1) = nextR t.W t.s (t.R d) := by
  unfold Tw.R nextR
  rw [List.map_map]
  apply List.map_congr_left
  intro w _
  show w * t.s ^ (d + 1) % t.W = w * t.s ^ d % t.W * t.s % t.W
  rw [Nat.pow_succ, ← Nat.mul_assoc, Nat.mod_mul_mod]
def knots (W : Nat) (rs : List Nat) : Nat := rs.sum / W
def digits (W s : Nat) (rs : List Nat) : List Nat := rs.map fun it => it * s / W
def donesFrom : Nat → List Nat → List St
  | _, [] => []
  | k, n :: r => List.replicate n (.dn k) ++ donesFrom (k + 1) r
theorem dones_len : ∀ (ns : List Nat) (k : Nat), (donesFrom k ns).length = ns.sum
  | [], k => rfl
  | n :: r, k => by simp [donesFrom, dones_len r (k + 1)]
theorem ons_dones : ∀ (ns : List Nat) (k : Nat), onsOf (donesFrom k ns) = []
  | [], k => rfl
  | n :: r, k => by simp [donesFrom, onsOf_append, ons_rep, ons_dones r (k + 1)]
theorem cnt_dones : ∀ (ns : List Nat) (k j : Nat), cntOf j (donesFrom k ns) = if k ≤ j then ns.getD (j - k) 0 else 0
  | [], k, j => by simp [donesFrom, cntOf]
  | n :: r, k, j => by
    rw [donesFrom, cntOf_append, cnt_rep, cnt_dones r (k + 1) j]
    by_cases h : k = j
    · subst h
      simp
      intro h
      omega
    · by_cases h2 : k ≤ j
      · have h3 : k + 1 ≤ j := by omega
        obtain ⟨m, rfl⟩ : ∃ m, j = k + 1 + m := ⟨j - (k + 1), by omega⟩
        have e : k + 1 + m - k = m + 1 := by omega
        simp [h, h2, e]
      · have h3 : ¬ k + 1 ≤ j := by omega
        simp [h, h2, h3]
theorem ons_on : ∀ is : List Nat, onsOf (is.map St.on) = is
  | [] => rfl
  | i :: r => by simp [onsOf, ons_on r]
theorem cnt_on (k : Nat) : ∀ is : List Nat, cntOf k (is.map St.on) = 0
  | [] => rfl
  | i :: r => by simp [cntOf, cnt_on k r]
/-- the steps of a depth's knots; b: where the next depth starts -/
def stepsOf (W s : Nat) (rs : List Nat) (b : Nat) : List St :=
  let ds := donesFrom 0 (digits W s rs)
  ds ++ (List.range (knots W rs * s - ds.length)).map fun k => St.on (b + k)
theorem ons_steps (W s : Nat) (rs : List Nat) (b : Nat) : onsOf (stepsOf W s rs b) = (List.range (knots W rs * s - (digits W s rs).sum)).map fun k => b + k := by
  unfold stepsOf
  simp only []
  rw [onsOf_append, ons_dones, List.nil_append, dones_len]
  have : ∀ n, (List.range n).map (fun k => St.on (b + k)) = ((List.range n).map fun k => b + k).map St.on := by
    intro n
    rw [List.map_map]
    rfl
  rw [this, ons_on]
theorem cnt_steps (k W s : Nat) (rs : List Nat) (b : Nat) : cntOf k (stepsOf W s rs b) = (digits W s rs).getD k 0 := by
  unfold stepsOf
  simp only []
  rw [cntOf_append, cnt_dones]
  have : ∀ n, (List.range n).map (fun k => St.on (b + k)) = ((List.range n).map fun k => b + k).map St.on := by
    intro n
    rw [List.map_map]
    rfl
  rw [this, cnt_on]
  simp
theorem sum_dm (W s : Nat) : ∀ rs : List Nat, rs.sum * s = W * (digits W s rs).sum + (nextR W s rs).sum
  | [] => by simp [digits, nextR]
  | x :: r => by
    have ih := sum_dm W s r
    have h := Nat.div_add_mod (x * s) W
    simp only [digits, nextR, List.map_cons, List.sum_cons, Nat.add_mul, Nat.mul_add] at ih ⊢
    omega
theorem sum_mod (W : Nat) : ∀ (ws : List Nat) (p : Nat), W ∣ ws.sum * p → W ∣ (ws.map fun w => w * p % W).sum := by
  have : ∀ (ws : List Nat) (p : Nat), (ws.map fun w => w * p % W).sum % W = ws.sum * p % W := by
    intro ws p
    induction ws with
    | nil => simp
    | cons x r ih =>
      simp only [List.map_cons, List.sum_cons, Nat.add_mul]
      rw [Nat.add_mod, ih, Nat.mod_mod, ← Nat.add_mod]
  intro ws p h
  exact Nat.dvd_of_mod_eq_zero ((this ws p).trans (Nat.mod_eq_zero_of_dvd h))
theorem Tw.R_dvd (d : Nat) : t.W ∣ (t.R d).sum := sum_mod t.W t.ws (t.s ^ d) (by rw [t.sum]; exact Nat.dvd_mul_right _ _)
theorem Tw.left (d : Nat) : knots t.W (t.R d) * t.s = (digits t.W t.s (t.R d)).sum + knots t.W (t.R (d + 1)) := by
  obtain ⟨m, hm⟩ := t.R_dvd d
  obtain ⟨n, hn⟩ := t.R_dvd (d + 1)
  have h := sum_dm t.W t.s (t.R d)
  rw [← t.R_succ, hm, hn] at h
  unfold knots
  rw [hm, hn, Nat.mul_div_cancel_left _ t.hW, Nat.mul_div_cancel_left _ t.hW]
  have : t.W * (m * t.s) = t.W * ((digits t.W t.s (t.R d)).sum + n) := by
    rw [← Nat.mul_assoc, h, Nat.mul_add]
  exact Nat.eq_of_mul_eq_mul_left t.hW this
theorem Tw.digit (d k : Nat) : (t.ws.getD k 0 * t.s ^ (d + 1)) / t.W = t.s * (t.ws.getD k 0 * t.s ^ d / t.W) + (digits t.W t.s (t.R d)).getD k 0 := by
  have e : (digits t.W t.s (t.R d)).getD k 0 = (t.ws.getD k 0 * t.s ^ d % t.W) * t.s / t.W := by
    unfold digits Tw.R
    rw [List.map_map]
    by_cases h : k < t.ws.length
    · simp [List.getD_eq_getElem?_getD, h]
    · simp [List.getD_eq_getElem?_getD, List.getElem?_eq_none (Nat.not_lt.mp h)]
  rw [e]
  have h := Nat.div_add_mod (t.ws.getD k 0 * t.s ^ d) t.W
  generalize hx : t.ws.getD k 0 * t.s ^ d = x at *
  rw [Nat.pow_succ, ← Nat.mul_assoc, hx]
  generalize x / t.W = q at *
  generalize x % t.W = r at *
  rw [← h, Nat.add_mul, Nat.mul_assoc, Nat.mul_add_div t.hW, Nat.mul_comm q]
def chunks (s : Nat) (steps : List St) (n : Nat) : List (List St) := (List.range n).map fun k => (steps.drop (k * s)).take s
theorem chunks_flat (s : Nat) (steps : List St) : ∀ n, (chunks s steps n).flatMap id = steps.take (n * s)
  | 0 => by simp [chunks]
  | n + 1 => by
    have ih := chunks_flat s steps n
    unfold chunks at ih ⊢
    rw [List.range_succ, List.map_append, List.flatMap_append, ih, Nat.add_mul, Nat.one_mul, List.take_add]
    simp
theorem chunks_len (s : Nat) (steps : List St) (n : Nat) : (chunks s steps n).length = n := by simp [chunks]
def before (W : Nat) : List (List Nat) → Nat → Nat
  | _, 0 => 0
  | [], _ => 0
  | r :: rs, d + 1 => knots W r + before W rs d
/-- the rows; sa: where the depth behind each depth starts -/
def rowsGo (W s : Nat) (sa : Nat → Nat) : List (List Nat) → Nat → List (List St)
  | [], _ => []
  | r :: rs, d => chunks s (stepsOf W s r (sa (d + 1))) (knots W r) ++ rowsGo W s sa rs (d + 1)
theorem before_zero (W : Nat) : ∀ l : List (List Nat), before W l 0 = 0
  | [] => rfl
  | _ :: _ => rfl
theorem rowsGo_get (W s : Nat) (sa : Nat → Nat) : ∀ (rs : List (List Nat)) (d0 d j : Nat) (r : List Nat), rs[d]? = some r → j < knots W r →
    (rowsGo W s sa rs d0)[before W rs d + j]? = (chunks s (stepsOf W s r (sa (d0 + d + 1))) (knots W r))[j]?
  | [], d0, d, j, r, h, _ => by simp at h
  | r0 :: rs, d0, 0, j, r, h, hj => by
    simp at h
    subst h
    simp only [rowsGo, before, Nat.zero_add, Nat.add_zero]
    rw [List.getElem?_append_left (by rw [chunks_len]; exact hj)]
  | r0 :: rs, d0, d + 1, j, r, h, hj => by
    simp only [rowsGo, before]
    rw [List.getElem?_append_right (by rw [chunks_len]; omega), chunks_len]
    have e : knots W r0 + before W rs d + j - knots W r0 = before W rs d + j := by omega
    rw [e, rowsGo_get W s sa rs (d0 + 1) d j r (by simpa using h) hj]
    have e2 : d0 + 1 + d + 1 = d0 + (d + 1) + 1 := by omega
    rw [e2]
def Tw.found (N : Nat) : List (List Nat) := (List.range N).map t.R
def Tw.sa (N : Nat) (back : Option Nat) (d : Nat) : Nat := if d = N then (match back with
  | some b => before t.W (t.found N) b
  | none => before t.W (t.found N) N) else before t.W (t.found N) d
def Tw.rows (N : Nat) (back : Option Nat) : List (List St) := rowsGo t.W t.s (t.sa N back) (t.found N) 0
theorem Tw.steps_len (d b : Nat) : (stepsOf t.W t.s (t.R d) b).length = knots t.W (t.R d) * t.s := by
  have h := t.left d
  unfold stepsOf
  simp only []
  rw [List.length_append, List.length_map, List.length_range, dones_len]
  omega
theorem Tw.at (N : Nat) (back : Option Nat) {d : Nat} (hd : d < N) : (List.range (knots t.W (t.R d))).map (fun j => (t.rows N back).getD (before t.W (t.found N) d + j) []) = chunks t.s (stepsOf t.W t.s (t.R d) (t.sa N back (d + 1))) (knots t.W (t.R d)) := by
  have hr : (t.found N)[d]? = some (t.R d) := by simp [Tw.found, hd]
  have e : chunks t.s (stepsOf t.W t.s (t.R d) (t.sa N back (d + 1))) (knots t.W (t.R d)) = (List.range (knots t.W (t.R d))).map (fun k => ((stepsOf t.W t.s (t.R d) (t.sa N back (d + 1))).drop (k * t.s)).take t.s) := rfl
  rw [e]
  apply List.map_congr_left
  intro j hj
  have hj' : j < knots t.W (t.R d) := List.mem_range.mp hj
  have g := rowsGo_get t.W t.s (t.sa N back) (t.found N) 0 d j (t.R d) hr hj'
  unfold Tw.rows
  rw [List.getD_eq_getElem?_getD, g]
  simp [chunks, hj']
theorem sum_cnt_flat (k : Nat) : ∀ cs : List (List St), (cs.map (cntOf k)).sum = cntOf k (cs.flatMap id)
  | [] => rfl
  | c :: r => by simp [List.flatMap_cons, cntOf_append, sum_cnt_flat k r]
theorem ons_cflat : ∀ cs : List (List St), cs.flatMap onsOf = onsOf (cs.flatMap id)
  | [] => rfl
  | c :: r => by simp [List.flatMap_cons, onsOf_append, ons_cflat r]
/-- all tapes of a length, together -/
structure Lev (N : Nat) (back : Option Nat) (r : Nat) : Prop where
  on : (∃ d, d < N ∧ t.R d = t.R r ∧ onsOf (outs (t.rows N back) t.s r) = (List.range (knots t.W (t.R d))).map fun j => before t.W (t.found N) d + j) ∨ (knots t.W (t.R r) = 0 ∧ onsOf (outs (t.rows N back) t.s r) = [])
  cn : ∀ k, cntOf k (outs (t.rows N back) t.s r) = t.ws.getD k 0 * t.s ^ r / t.W
theorem sum_zero_get : ∀ (ns : List Nat) (k : Nat), ns.sum = 0 → ns.getD k 0 = 0
  | [], k, _ => by simp
  | n :: r, 0, h => by
    simp only [List.sum_cons] at h
    simp
    omega
  | n :: r, k + 1, h => by
    simp only [List.sum_cons] at h
    have := sum_zero_get r k (by omega)
    simpa using this
theorem Tw.lev_succ {N : Nat} {back : Option Nat} (hok : match back with
    | some b => b < N ∧ t.R N = t.R b
    | none => (t.R N).sum = 0) {r : Nat} (l : Lev t N back r) : Lev t N back (r + 1) := by
  rcases l.on with ⟨d, hd, hR, ho⟩ | ⟨hk, ho⟩
  · have hch : (onsOf (outs (t.rows N back) t.s r)).map (fun i => (t.rows N back).getD i []) = chunks t.s (stepsOf t.W t.s (t.R d) (t.sa N back (d + 1))) (knots t.W (t.R d)) := by
      rw [ho, List.map_map]
      exact t.at N back hd
    have hfl : (chunks t.s (stepsOf t.W t.s (t.R d) (t.sa N back (d + 1))) (knots t.W (t.R d))).flatMap id = stepsOf t.W t.s (t.R d) (t.sa N back (d + 1)) := by
      rw [chunks_flat, ← t.steps_len d (t.sa N back (d + 1)), List.take_length]
    have hons : onsOf (outs (t.rows N back) t.s (r + 1)) = (List.range (knots t.W (t.R (d + 1)))).map fun j => t.sa N back (d + 1) + j := by
      show onsOf ((outs (t.rows N back) t.s r).flatMap _) = _
      rw [ons_flat]
      have : (onsOf (outs (t.rows N back) t.s r)).flatMap (fun i => onsOf ((t.rows N back).getD i [])) = ((onsOf (outs (t.rows N back) t.s r)).map (fun i => (t.rows N back).getD i [])).flatMap onsOf := by
        rw [List.flatMap_map]
      rw [this, hch, ons_cflat, hfl, ons_steps]
      have h := t.left d
      have e : knots t.W (t.R d) * t.s - (digits t.W t.s (t.R d)).sum = knots t.W (t.R (d + 1)) := by omega
      rw [e]
    have hR1 : t.R (d + 1) = t.R (r + 1) := by rw [t.R_succ, t.R_succ, hR]
    refine ⟨?_, fun k => ?_⟩
    · by_cases h1 : d + 1 < N
      · refine .inl ⟨d + 1, h1, hR1, ?_⟩
        rw [hons]
        have : t.sa N back (d + 1) = before t.W (t.found N) (d + 1) := by
          unfold Tw.sa
          rw [if_neg (by omega)]
        rw [this]
      · have hN : d + 1 = N := by omega
        cases back with
        | some b =>
          obtain ⟨hb, hRb⟩ := hok
          refine .inl ⟨b, hb, ?_, ?_⟩
          · rw [← hRb, ← hN, hR1]
          · rw [hons, hN, hRb]
            have : t.sa N (some b) N = before t.W (t.found N) b := by
              unfold Tw.sa
              rw [if_pos rfl]
            rw [this]
        | none =>
          have h0 : (t.R N).sum = 0 := hok
          have hk0 : knots t.W (t.R (d + 1)) = 0 := by
            rw [hN]
            unfold knots
            rw [h0, Nat.zero_div]
          refine .inr ⟨?_, ?_⟩
          · rw [← hR1, hk0]
          · rw [hons, hk0] <;> rfl
    · show cntOf k ((outs (t.rows N back) t.s r).flatMap _) = _
      rw [cnt_flat, l.cn k]
      have : (onsOf (outs (t.rows N back) t.s r)).map (fun i => cntOf k ((t.rows N back).getD i [])) = ((onsOf (outs (t.rows N back) t.s r)).map (fun i => (t.rows N back).getD i [])).map (cntOf k) := by
        rw [List.map_map] <;> rfl
      rw [this, hch, sum_cnt_flat, hfl, cnt_steps, hR, ← t.digit r k]
  · have h := t.left r
    rw [hk, Nat.zero_mul] at h
    refine ⟨.inr ⟨by omega, ?_⟩, fun k => ?_⟩
    · show onsOf ((outs (t.rows N back) t.s r).flatMap _) = _
      rw [ons_flat, ho] <;> rfl
    · show cntOf k ((outs (t.rows N back) t.s r).flatMap _) = _
      have hz : (digits t.W t.s (t.R r)).sum = 0 := by omega
      rw [cnt_flat, l.cn k, ho, t.digit r k, sum_zero_get _ k hz] <;> rfl
theorem le_sum : ∀ (ns : List Nat) (x : Nat), x ∈ ns → x ≤ ns.sum
  | n :: r, x, h => by
    simp only [List.sum_cons]
    rcases List.mem_cons.mp h with e | h
    · omega
    · have := le_sum r x h
      omega
theorem Tw.lev0 {N : Nat} {back : Option Nat} (hN : 0 < N) (h0 : (t.R 0).sum ≠ 0) : Lev t N back 0 := by
  have hlt : ∀ w ∈ t.ws, w < t.W := by
    intro w hw
    refine Nat.lt_of_not_le fun hle => h0 ?_
    have h1 := le_sum t.ws w hw
    rw [t.sum] at h1
    have hwW : w = t.W := by omega
    have : ∀ (ns : List Nat), ns.sum = t.W → w ∈ ns → (ns.map fun x => x * t.s ^ 0 % t.W).sum = 0 := by
      intro ns
      induction ns with
      | nil => intro _ h; cases h
      | cons n r ih =>
        intro hs hm
        simp only [List.sum_cons] at hs
        simp only [List.map_cons, List.sum_cons, Nat.pow_zero, Nat.mul_one] at ih ⊢
        rcases List.mem_cons.mp hm with e | hm
        · have hr : r.sum = 0 := by omega
          have hz : ∀ (q : List Nat), q.sum = 0 → (q.map fun x => x % t.W).sum = 0 := by
            intro q
            induction q with
            | nil => intro _; rfl
            | cons a q iq =>
              intro hq
              simp only [List.sum_cons, List.map_cons] at hq ⊢
              have ha : a = 0 := by omega
              rw [iq (by omega), ha] <;> simp
          rw [hz r hr, ← e, hwW] <;> simp
        · have h2 := le_sum r w hm
          have hn : n = 0 := by omega
          rw [ih (by omega) hm, hn] <;> simp
    exact this t.ws t.sum hw
  have hR : t.R 0 = t.ws := by
    unfold Tw.R
    have : t.ws.map (fun w => w * t.s ^ 0 % t.W) = t.ws.map id := by
      apply List.map_congr_left
      intro w hw
      rw [Nat.pow_zero, Nat.mul_one, Nat.mod_eq_of_lt (hlt w hw)] <;> rfl
    rw [this, List.map_id]
  have hk : knots t.W (t.R 0) = 1 := by
    unfold knots
    rw [hR, t.sum, Nat.div_self t.hW]
  refine ⟨.inl ⟨0, hN, rfl, ?_⟩, fun k => ?_⟩
  · rw [hk]
    show [0] = [before t.W (t.found N) 0 + 0]
    rw [before_zero]
  · show 0 = _
    rw [Nat.pow_zero, Nat.mul_one]
    by_cases h : k < t.ws.length
    · rw [Nat.div_eq_of_lt]
      rw [List.getD_eq_getElem?_getD, List.getElem?_eq_getElem h]
      exact hlt _ (List.getElem_mem h)
    · rw [List.getD_eq_getElem?_getD, List.getElem?_eq_none (Nat.not_lt.mp h)] <;> simp
theorem lev_all {t : Tw} {N : Nat} {back : Option Nat} (hN : 0 < N) (h0 : (t.R 0).sum ≠ 0) (hok : match back with
    | some b => b < N ∧ t.R N = t.R b
    | none => (t.R N).sum = 0) : ∀ r, Lev t N back r
  | 0 => t.lev0 hN h0
  | r + 1 => t.lev_succ hok (lev_all hN h0 hok r)
theorem before_mono (W : Nat) : ∀ (l : List (List Nat)) (d e : Nat), d ≤ e → before W l d ≤ before W l e
  | [], d, e, _ => by cases d <;> simp [before]
  | r :: rs, 0, e, _ => by rw [before_zero]; exact Nat.zero_le _
  | r :: rs, d + 1, 0, h => by omega
  | r :: rs, d + 1, e + 1, h => by
    simp only [before]
    have := before_mono W rs d e (by omega)
    omega
theorem before_succ (W : Nat) : ∀ (l : List (List Nat)) (d : Nat) (r : List Nat), l[d]? = some r → before W l (d + 1) = before W l d + knots W r
  | [], d, r, h => by simp at h
  | r0 :: rs, 0, r, h => by
    simp at h
    subst h
    simp [before, before_zero]
  | r0 :: rs, d + 1, r, h => by
    have := before_succ W rs d r (by simpa using h)
    simp only [before] at this ⊢
    omega
theorem rowsGo_len (W s : Nat) (sa : Nat → Nat) : ∀ (rs : List (List Nat)) (d : Nat), (rowsGo W s sa rs d).length = before W rs rs.length
  | [], d => rfl
  | r :: rs, d => by simp [rowsGo, before, chunks_len, rowsGo_len W s sa rs (d + 1)]
theorem Tw.found_len (N : Nat) : (t.found N).length = N := by simp [Tw.found]
theorem Tw.rows_len (N : Nat) (back : Option Nat) : (t.rows N back).length = before t.W (t.found N) N := by
  unfold Tw.rows
  rw [rowsGo_len, t.found_len]
theorem mem_dones : ∀ (ns : List Nat) (k : Nat) (x : St), x ∈ donesFrom k ns → ∃ j, x = .dn j ∧ j < k + ns.length
  | [], k, x, h => by simp [donesFrom] at h
  | n :: r, k, x, h => by
    rw [donesFrom] at h
    rcases List.mem_append.mp h with h | h
    · exact ⟨k, List.eq_of_mem_replicate h, by simp⟩
    · obtain ⟨j, e, hj⟩ := mem_dones r (k + 1) x h
      refine ⟨j, e, ?_⟩
      simp only [List.length_cons]
      omega
def stOk (n many : Nat) : St → Prop
  | .dn k => k < n
  | .on i => i < many
theorem mem_rowsGo (W s : Nat) (sa : Nat → Nat) : ∀ (rs : List (List Nat)) (d0 : Nat) (row : List St), row ∈ rowsGo W s sa rs d0 → ∃ d r j, rs[d]? = some r ∧ j < knots W r ∧ row = ((stepsOf W s r (sa (d0 + d + 1))).drop (j * s)).take s
  | [], d0, row, h => by simp [rowsGo] at h
  | r :: rs, d0, row, h => by
    rw [rowsGo] at h
    rcases List.mem_append.mp h with h | h
    · obtain ⟨j, hj, e⟩ := List.mem_map.mp h
      exact ⟨0, r, j, rfl, List.mem_range.mp hj, e.symm⟩
    · obtain ⟨d, r', j, h1, h2, h3⟩ := mem_rowsGo W s sa rs (d0 + 1) row h
      refine ⟨d + 1, r', j, by simpa using h1, h2, ?_⟩
      have e : d0 + (d + 1) + 1 = d0 + 1 + d + 1 := by omega
      rw [e]
      exact h3
theorem Tw.rows_ok {N : Nat} {back : Option Nat} (hok : match back with
    | some b => b < N ∧ t.R N = t.R b
    | none => (t.R N).sum = 0) {row : List St} (h : row ∈ t.rows N back) : row.length = t.s ∧ ∀ x ∈ row, stOk t.ws.length (t.rows N back).length x := by
  obtain ⟨d, r, j, h1, h2, h3⟩ := mem_rowsGo _ _ _ _ _ _ h
  have hd : d < N := by
    have := (List.getElem?_eq_some_iff.mp h1).1
    rwa [t.found_len] at this
  have hr : r = t.R d := by
    have : (t.found N)[d]? = some (t.R d) := by simp [Tw.found, hd]
    rw [this] at h1
    exact (Option.some.inj h1).symm
  subst hr
  rw [Nat.zero_add] at h3
  have hsl := t.steps_len d (t.sa N back (d + 1))
  have hl : row.length = t.s := by
    rw [h3, List.length_take, List.length_drop, hsl]
    have : (j + 1) * t.s ≤ knots t.W (t.R d) * t.s := Nat.mul_le_mul_right _ h2
    rw [Nat.add_mul, Nat.one_mul] at this
    omega
  refine ⟨hl, fun x hx => ?_⟩
  have hm : x ∈ stepsOf t.W t.s (t.R d) (t.sa N back (d + 1)) := by
    rw [h3] at hx
    exact List.mem_of_mem_drop (List.mem_of_mem_take hx)
  unfold stepsOf at hm
  simp only [] at hm
  rcases List.mem_append.mp hm with hm | hm
  · obtain ⟨k, e, hk⟩ := mem_dones _ _ _ hm
    subst e
    show k < t.ws.length
    simpa [digits, Tw.R] using hk
  · obtain ⟨k, hk, e⟩ := List.mem_map.mp hm
    subst e
    have hk := List.mem_range.mp hk
    rw [dones_len] at hk
    have hl := t.left d
    have hk' : k < knots t.W (t.R (d + 1)) := by omega
    show t.sa N back (d + 1) + k < (t.rows N back).length
    rw [t.rows_len]
    by_cases h1 : d + 1 < N
    · have : t.sa N back (d + 1) = before t.W (t.found N) (d + 1) := by
        unfold Tw.sa
        rw [if_neg (by omega)]
      rw [this]
      have h2 := before_succ t.W (t.found N) (d + 1) (t.R (d + 1)) (by simp [Tw.found, h1])
      have h3 := before_mono t.W (t.found N) (d + 1 + 1) N (by omega)
      omega
    · have hN : d + 1 = N := by omega
      cases back with
      | some b =>
        obtain ⟨hb, hRb⟩ := hok
        have : t.sa N (some b) (d + 1) = before t.W (t.found N) b := by
          unfold Tw.sa
          rw [if_pos hN]
        rw [this]
        rw [hN, hRb] at hk'
        have h2 := before_succ t.W (t.found N) b (t.R b) (by simp [Tw.found, hb])
        have h3 := before_mono t.W (t.found N) (b + 1) N (by omega)
        omega
      | none =>
        have h0 : (t.R N).sum = 0 := hok
        rw [hN] at hk'
        unfold knots at hk'
        rw [h0, Nat.zero_div] at hk'
        omega
theorem Tw.knots_le (d : Nat) : knots t.W (t.R d) ≤ t.ws.length := by
  unfold knots Tw.R
  have : ∀ ws : List Nat, (ws.map fun w => w * t.s ^ d % t.W).sum ≤ ws.length * t.W := by
    intro ws
    induction ws with
    | nil => simp
    | cons w r ih =>
      simp only [List.map_cons, List.sum_cons, List.length_cons, Nat.add_mul, Nat.one_mul]
      have := Nat.mod_lt (w * t.s ^ d) t.hW
      omega
  exact Nat.div_le_of_le_mul (by rw [Nat.mul_comm]; exact this t.ws)
theorem before_le (W n : Nat) : ∀ (l : List (List Nat)), (∀ r ∈ l, knots W r ≤ n) → ∀ d, before W l d ≤ d * n
  | [], _, d => by cases d <;> simp [before]
  | r :: rs, h, 0 => by rw [before_zero]; exact Nat.zero_le _
  | r :: rs, h, d + 1 => by
    simp only [before, Nat.add_mul, Nat.one_mul]
    have h1 := h r List.mem_cons_self
    have h2 := before_le W n rs (fun x hx => h x (List.mem_cons_of_mem _ hx)) d
    omega
theorem Tw.rows_few (N : Nat) (back : Option Nat) : (t.rows N back).length ≤ N * t.ws.length := by
  rw [t.rows_len]
  refine before_le _ _ _ (fun r hr => ?_) N
  obtain ⟨d, _, e⟩ := List.mem_map.mp hr
  rw [← e]
  exact t.knots_le d
/-! where the depths end -/
def comesBack (W s : Nat) : Bool := (List.range 31).any fun j => (List.range j).any fun i => s ^ i % W == s ^ j % W
theorem all_back : ∀ W < 25, ∀ s ∈ [2, 3, 4, 6, 12], 0 < W → comesBack W s = true := by decide +kernel
theorem Tw.R_same {i j : Nat} (h : t.s ^ i % t.W = t.s ^ j % t.W) : t.R i = t.R j := by
  unfold Tw.R
  apply List.map_congr_left
  intro w _
  rw [Nat.mul_mod, h, ← Nat.mul_mod]
/-- the first depth that is not new -/
theorem Tw.ends (h1 : t.W < 25) (h2 : t.s ∈ [2, 3, 4, 6, 12]) : ∃ N, N < 31 ∧ (∀ d, d < N → (t.R d).sum ≠ 0 ∧ t.R d ∉ t.found d) ∧ ((t.R N).sum = 0 ∨ t.R N ∈ t.found N) := by
  have hb := all_back t.W h1 t.s h2 t.hW
  obtain ⟨j, hj, hb⟩ := List.any_eq_true.mp hb
  obtain ⟨i, hi, hb⟩ := List.any_eq_true.mp hb
  have hj := List.mem_range.mp hj
  have hi := List.mem_range.mp hi
  have e : t.R i = t.R j := t.R_same (by simpa using hb)
  have hm : t.R j ∈ t.found j := by
    rw [← e]
    exact List.mem_map.mpr ⟨i, List.mem_range.mpr hi, rfl⟩
  have go : ∀ m, (∀ d, d < m → (t.R d).sum ≠ 0 ∧ t.R d ∉ t.found d) ∨ ∃ N, N < m ∧ (∀ d, d < N → (t.R d).sum ≠ 0 ∧ t.R d ∉ t.found d) ∧ ((t.R N).sum = 0 ∨ t.R N ∈ t.found N) := by
    intro m
    induction m with
    | zero => exact .inl fun d h => by omega
    | succ m ih =>
      rcases ih with ih | ⟨N, h1, h2, h3⟩
      · by_cases hc : (t.R m).sum = 0 ∨ t.R m ∈ t.found m
        · exact .inr ⟨m, by omega, ih, hc⟩
        · refine .inl fun d hd => ?_
          by_cases hdm : d = m
          · subst hdm
            exact ⟨fun h => hc (.inl h), fun h => hc (.inr h)⟩
          · exact ih d (by omega)
      · exact .inr ⟨N, by omega, h2, h3⟩
  rcases go 31 with h | ⟨N, h1, h2, h3⟩
  · exact absurd hm (h j hj).2
  · exact ⟨N, h1, h2, h3⟩
end Lw

set_option Elab.async false
set_option linter.all false
set_option maxRecDepth 100000
/-! k17: what the mirrors compute: looks. -/
namespace Lw
open PySem PySem.Spec PyProof.Rows L2 NdefX Lf
/-- a whole number of few bits -/
def isWhole : D → Bool
  | .int i => decide ((Builtin.Int.intBits i : Int) ≤ 20000)
  | _ => false
def isBtw (lo hi : Int) : D → Bool
  | .int i => decide ((Builtin.Int.intBits i : Int) ≤ 20000) && (decide (lo ≤ i) && decide (i ≤ hi))
  | _ => false
/-! isinstance, as a table -/
theorem ty_int : ∀ d : D, isTy "int" d = (match d with | .int _ => true | .bool _ => true | _ => false) := fun d => by cases d <;> rfl
theorem ty_bool : ∀ d : D, isTy "bool" d = (match d with | .bool _ => true | _ => false) := fun d => by cases d <;> rfl
theorem ty_str : ∀ d : D, isTy "str" d = (match d with | .str _ => true | _ => false) := fun d => by cases d <;> rfl
theorem ty_list : ∀ d : D, isTy "list" d = (match d with | .list _ => true | _ => false) := fun d => by cases d <;> rfl
theorem ty_tuple : ∀ d : D, isTy "tuple" d = (match d with | .tuple _ => true | _ => false) := fun d => by cases d <;> rfl
theorem ty_dict : ∀ d : D, isTy "dict" d = (match d with | .dict _ => true | _ => false) := fun d => by cases d <;> rfl
theorem q_is_whole (d : D) (k : Option Deck) : r_is_whole ⟨[.dat d], k⟩ = .ok (.bool (isWhole d)) k := by
  cases d <;> simp [r_is_whole, fnM, m_is_whole, sRet, mAnd, mNot, mB, mF, evalO, look, SV.val, R.bind, R.toS, dIsi, ty_int, ty_bool, isWhole, dBits, dLe, dCmp, mC]
/-- the simp set that runs a mirror -/
theorem q_is_whole_between (d : D) (lo hi : Int) (k : Option Deck) : r_is_whole_between ⟨[.dat d, .dat (.int lo), .dat (.int hi)], k⟩ = .ok (.bool (isBtw lo hi d)) k := by
  cases d with
  | int i =>
    by_cases h : (Builtin.Int.intBits i : Int) ≤ 20000
    · by_cases h2 : lo ≤ i <;> by_cases h3 : i ≤ hi <;> simp [r_is_whole_between, fnM, m_is_whole_between, sRet, mAnd, mB, mCall, evalAg, mVar, R.bind, R.toS, RF.toR, q_is_whole, isWhole, h, mChain, evalO, look, SV.val, isBtw, h2, h3]
    · simp [r_is_whole_between, fnM, m_is_whole_between, sRet, mAnd, mB, mCall, evalAg, mVar, R.bind, R.toS, RF.toR, q_is_whole, isWhole, h, isBtw]
  | _ => simp [r_is_whole_between, fnM, m_is_whole_between, sRet, mAnd, mB, mCall, evalAg, mVar, R.bind, R.toS, RF.toR, q_is_whole, isWhole, isBtw]
theorem q_is_whole_from (d : D) (lo : Int) (k : Option Deck) : r_is_whole_from ⟨[.dat d, .dat (.int lo)], k⟩ = .ok (.bool (isWhole d && (match d with | .int i => decide (lo ≤ i) | _ => false))) k := by
  cases d with
  | int i =>
    by_cases h : (Builtin.Int.intBits i : Int) ≤ 20000
    · simp [r_is_whole_from, fnM, m_is_whole_from, sRet, mAnd, mB, mCall, evalAg, mVar, R.bind, R.toS, RF.toR, q_is_whole, isWhole, h, mF, evalO, look, SV.val, dGe, dCmp]
    · simp [r_is_whole_from, fnM, m_is_whole_from, sRet, mAnd, mB, mCall, evalAg, mVar, R.bind, R.toS, RF.toR, q_is_whole, isWhole, h]
  | _ => simp [r_is_whole_from, fnM, m_is_whole_from, sRet, mAnd, mB, mCall, evalAg, mVar, R.bind, R.toS, RF.toR, q_is_whole, isWhole]
def isTupOf (n : Int) : D → Bool
  | .tuple ds => decide ((ds.length : Int) = n)
  | _ => false
theorem eqOk_int (i j : Int) : eqOk (.int i) (.int j) = true := by
  simp [eqOk, noDict, SeqAt.shaped, PyData.canLay0, PyData.depth]
theorem dEq_int (i j : Int) : dEq [.int i, .int j] = some (.bool (decide (i = j))) := by
  simp [dEq, eqOk_int, PyData.eqv]
  by_cases h : i = j <;> simp [h]
theorem q_is_tuple_of (d : D) (n : Int) (k : Option Deck) : r_is_tuple_of ⟨[.dat d, .dat (.int n)], k⟩ = .ok (.bool (isTupOf n d)) k := by
  cases d <;> simp [r_is_tuple_of, fnM, m_is_tuple_of, sRet, mAnd, mB, mF, evalO, look, SV.val, R.bind, R.toS, dIsi, ty_tuple, dLenA, dEq_int, isTupOf]
end Lw

set_option Elab.async false
set_option linter.all false
set_option maxRecDepth 100000
/-! k17: steps, rows. -/
namespace Lw
open PySem PySem.Spec PyProof.Rows L2 NdefX Lf
def isWord : D → Bool
  | .str x => ("done" : Str) == x || ("on" : Str) == x
  | _ => false
theorem q_is_one_word (d : D) (k : Option Deck) : r_is_one_word ⟨[.dat d, .dat (.tuple [.str "done", .str "on"])], k⟩ = .ok (.bool (isWord d)) k := by
  cases d <;> simp [r_is_one_word, fnM, m_is_one_word, sRet, mAnd, mB, mF, evalO, look, SV.val, R.bind, R.toS, dIsi, ty_str, dIn, flatD, PyData.eqv, isWord]
def isStep (many : Int) : D → Bool
  | .tuple [x, y] => isWord x && (match x with
    | .str w => isBtw 0 (if ("done" : Str) == w then 255 else many - 1) y
    | _ => false)
  | _ => false
theorem atI_0 {α : Type} (x : α) (r : List α) : atI (x :: r) 0 = some x := by
  have h : (0 : Int) < ((x :: r).length : Nat) := by simp only [List.length_cons]; omega
  unfold atI ixN
  rw [if_pos (by decide), if_pos h]
  rfl
theorem atI_1 {α : Type} (x y : α) (r : List α) : atI (x :: y :: r) 1 = some y := by
  have h : (1 : Int) < ((x :: y :: r).length : Nat) := by simp only [List.length_cons]; omega
  unfold atI ixN
  rw [if_pos (by decide), if_pos h]
  rfl
theorem atI_nat {α : Type} (xs : List α) (i : Nat) : atI xs (i : Int) = xs[i]? := by
  unfold atI ixN
  rw [if_pos (by omega)]
  by_cases h : i < xs.length
  · rw [if_pos (by omega)] <;> rfl
  · rw [if_neg (by omega), List.getElem?_eq_none (by omega)] <;> rfl
theorem word_eqOk {w : Str} (h : isWord (.str w) = true) : dEq [.str w, .str "done"] = some (.bool (("done" : Str) == w)) := by
  have : w = "done" ∨ w = "on" := by
    simp [isWord] at h
    rcases h with h | h
    · exact .inl h.symm
    · exact .inr h.symm
  rcases this with rfl | rfl
  · have e : eqOk (.str "done") (.str "done") = true := by decide +kernel
    show (if eqOk (.str "done") (.str "done") then some (PyData.bool (PyData.eqv (.str "done") (.str "done"))) else none) = _
    rw [if_pos e] <;> rfl
  · have e : eqOk (.str "on") (.str "done") = true := by decide +kernel
    show (if eqOk (.str "on") (.str "done") then some (PyData.bool (PyData.eqv (.str "on") (.str "done"))) else none) = _
    rw [if_pos e]
    have e1 : PyData.eqv (.str "on") (.str "done") = false := by decide +kernel
    have e2 : (("done" : Str) == ("on" : Str)) = false := by decide +kernel
    rw [e1, e2]
theorem q_is_step (d : D) (many : Int) (k : Option Deck) : r_is_step ⟨[.dat (.int many), .dat d], k⟩ = .ok (.bool (isStep many d)) k := by
  cases d with
  | tuple ds =>
    match ds with
    | [] => simp [r_is_step, fnM, m_is_step, sSeq, sIf, bOr, bNot, toB, mCall, evalAg, mVar, mC, R.bind, R.toS, RF.toR, q_is_tuple_of, isTupOf, RS.seq, sRet, isStep]
    | [x] => simp [r_is_step, fnM, m_is_step, sSeq, sIf, bOr, bNot, toB, mCall, evalAg, mVar, mC, R.bind, R.toS, RF.toR, q_is_tuple_of, isTupOf, RS.seq, sRet, isStep]
    | [x, y] =>
      cases hx : isWord x with
      | false => simp [r_is_step, fnM, m_is_step, sSeq, sIf, bOr, bNot, toB, mCall, evalAg, mVar, mC, R.bind, R.toS, RF.toR, q_is_tuple_of, isTupOf, RS.seq, sRet, isStep, mF, evalO, look, SV.val, dIx, atI_0, mTup, evalM, line, q_is_one_word, hx]
      | true =>
        cases x with
        | str w =>
          have e := word_eqOk hx
          cases hw : (("done" : Str) == w) <;> rw [hw] at e <;> simp [r_is_step, fnM, m_is_step, sSeq, sIf, bOr, bNot, toB, mCall, evalAg, mVar, mC, R.bind, R.toS, RF.toR, q_is_tuple_of, isTupOf, RS.seq, sRet, isStep, mF, evalO, look, SV.val, dIx, atI_0, atI_1, mTup, evalM, line, q_is_one_word, hx, sNop, mIf, e, hw, dSub, q_is_whole_between]
        | _ => simp [isWord] at hx
    | x :: y :: z :: r =>
      have h : ¬ ((r.length : Int) + 1 + 1 + 1 = 2) := by omega
      simp [r_is_step, fnM, m_is_step, sSeq, sIf, bOr, bNot, toB, mCall, evalAg, mVar, mC, R.bind, R.toS, RF.toR, q_is_tuple_of, isTupOf, RS.seq, sRet, isStep, h]
  | _ => simp [r_is_step, fnM, m_is_step, sSeq, sIf, bOr, bNot, toB, mCall, evalAg, mVar, mC, R.bind, R.toS, RF.toR, q_is_tuple_of, isTupOf, RS.seq, sRet, isStep]
end Lw

set_option Elab.async false
set_option linter.all false
set_option maxRecDepth 100000
/-! comprehensions as maps; rows. -/
namespace Lf
open PySem PySem.Spec PyProof.Rows L2
theorem set_back {ρ : List SV} {v : Nat} (h : v < ρ.length) : ρ.set v (ρ[v]?.getD .unk) = ρ := by
  rw [List.getElem?_eq_getElem h]
  exact List.set_getElem_self h
theorem lcL_map {v : Nat} {m : S0 → R D} {g : D → D} {ρ : List SV} {k : Option Deck} (hv : v < ρ.length) : ∀ (ds acc : List D), (∀ d ∈ ds, m ⟨ρ.set v (.dat d), k⟩ = .ok (g d) ⟨ρ.set v (.dat d), k⟩) → acc.length + ds.length ≤ line →
    lcL (.nm v) [v] tYesM m ds acc ⟨ρ.set v .unk, k⟩ = .ok (acc ++ ds.map g) ⟨ρ.set v .unk, k⟩
  | [], acc, _, _ => by
    show R.ok acc _ = R.ok (acc ++ []) _
    rw [List.append_nil]
  | d :: r, acc, hm, hl => by
    have h1 : acc.length < line := by
      rw [List.length_cons] at hl
      omega
    have ih := lcL_map (m := m) (g := g) (k := k) hv r (acc ++ [g d]) (fun z hz => hm z (List.mem_cons_of_mem _ hz)) (by rw [List.length_append]; simp only [List.length_cons, List.length_nil] at hl ⊢; omega)
    have e1 : asgP (.nm v) d (ρ.set v .unk) = some (ρ.set v (.dat d)) := by
      show (if v < (ρ.set v .unk).length then some ((ρ.set v .unk).set v (.dat d)) else none) = _
      rw [if_pos (by simpa using hv), List.set_set]
    have e2 := hm d List.mem_cons_self
    unfold lcL
    show (match asgP (.nm v) d (ρ.set v .unk) with
      | none => R.bad
      | some ρ' => _) = _
    rw [e1]
    show (match m ⟨ρ.set v (.dat d), k⟩ with
      | .ok y s2 => if acc.length < line then lcL (.nm v) [v] tYesM m r (acc ++ [y]) (wipeS [v] s2) else .bad
      | _ => .bad) = _
    rw [e2]
    show (if acc.length < line then lcL (.nm v) [v] tYesM m r (acc ++ [g d]) (wipeS [v] ⟨ρ.set v (.dat d), k⟩) else .bad) = _
    have e3 : wipeS [v] ⟨ρ.set v (.dat d), k⟩ = ⟨ρ.set v .unk, k⟩ := by
      show (⟨(ρ.set v (.dat d)).set v .unk, k⟩ : S0) = _
      rw [List.set_set]
    rw [if_pos h1, e3, ih, List.append_assoc] <;> rfl
theorem mLc_map {v : Nat} {m : S0 → R D} {g : D → D} {mi : S0 → R (List D)} {s : S0} {ρ : List SV} {k : Option Deck} {ds : List D} (hmi : mi s = .ok ds ⟨ρ, k⟩) (hv : v < ρ.length) (hl : ds.length ≤ line)
    (hm : ∀ d ∈ ds, m ⟨ρ.set v (.dat d), k⟩ = .ok (g d) ⟨ρ.set v (.dat d), k⟩) : mLc (.nm v) [v] mi tYesM m s = .ok (ds.map g) ⟨ρ, k⟩ := by
  have h := lcL_map (m := m) (g := g) (k := k) hv ds [] hm (by simpa using hl)
  unfold mLc
  rw [hmi]
  show (match lcL (.nm v) [v] tYesM m ds [] ⟨ρ.set v .unk, k⟩ with
    | .ok acc s2 => R.ok acc { s2 with ρ := backR ρ s2.ρ [v] }
    | _ => .bad) = _
  rw [h]
  show R.ok _ (⟨(ρ.set v .unk).set v (ρ[v]?.getD .unk), k⟩ : S0) = _
  rw [List.set_set, set_back hv] <;> rfl
theorem sSeq_nx {m k : MS} {s s' : S0} (h : m s = .nx s') : sSeq m k s = k s' := by
  unfold sSeq
  rw [h] <;> rfl
theorem sSeq_rt {m k : MS} {s s' : S0} {d : D} (h : m s = .rt d s') : sSeq m k s = .rt d s' := by
  unfold sSeq
  rw [h] <;> rfl
theorem sSeq_exc {m k : MS} {s s' : S0} {c : Str} {d : D} (h : m s = .exc c d s') : sSeq m k s = .exc c d s' := by
  unfold sSeq
  rw [h] <;> rfl
theorem fnM_rt {mb : MS} {pad : Nat} {s s' : S0} {d : D} (h : mb { s with ρ := s.ρ ++ List.replicate pad .unk } = .rt d s') : fnM mb pad s = .ok d s'.dk := by
  unfold fnM
  rw [h]
theorem fnM_nx {mb : MS} {pad : Nat} {s s' : S0} (h : mb { s with ρ := s.ρ ++ List.replicate pad .unk } = .nx s') : fnM mb pad s = .ok .none s'.dk := by
  unfold fnM
  rw [h]
theorem fnM_exc {mb : MS} {pad : Nat} {s s' : S0} {c : Str} {d : D} (h : mb { s with ρ := s.ρ ++ List.replicate pad .unk } = .exc c d s') : fnM mb pad s = .exc c d s'.dk := by
  unfold fnM
  rw [h]
theorem asBools_of : ∀ bs : List Bool, asBools (bs.map PyData.bool) = some bs
  | [] => rfl
  | b :: r => by
    show (asBools (r.map PyData.bool)).map (b :: ·) = _
    rw [asBools_of r] <;> rfl
theorem dAll_of (bs : List Bool) : dAll [.list (bs.map PyData.bool)] = some (.bool (bs.all id)) := by
  show (asBools (bs.map PyData.bool)).map (fun bs => PyData.bool (bs.all id)) = _
  rw [asBools_of] <;> rfl
theorem dAll_map {α : Type} (f : α → Bool) (ds : List α) : dAll [.list (ds.map (PyData.bool ∘ f))] = some (.bool (ds.all f)) := by
  have h : ds.map (PyData.bool ∘ f) = (ds.map f).map PyData.bool := by rw [List.map_map]
  rw [h, dAll_of, List.all_map] <;> rfl
end Lf

set_option Elab.async false
set_option linter.all false
set_option maxRecDepth 100000
/-! k17: rows. -/
namespace Lw
open PySem PySem.Spec PyProof.Rows L2 NdefX Lf
def nice (d : D) : Bool := noDict d && SeqAt.shaped d
def isRow (sides many : Int) : D → Bool
  | .tuple ss => decide ((ss.length : Int) = sides) && ss.all (isStep many)
  | _ => false
def isRows (sides : Int) : D → Bool
  | .tuple ds => !ds.isEmpty && ds.all (isRow sides ds.length)
  | _ => false
theorem row_in {sides many : Int} {thing row : D} {k : Option Deck} (hl : ∀ ss, row = .tuple ss → ss.length ≤ line) :
    mAnd (mCall r_is_tuple_of [.m (mVar 3), .m (mVar 0)]) (mF dAll [.m (mFrz (mLc (.nm 4) [4] (mItD (mVar 3)) (tYesM) (mCall r_is_step [.m (mVar 2), .m (mVar 4)])))]) ⟨[.dat (.int sides), .dat thing, .dat (.int many), .dat row, .unk], k⟩ = .ok (.bool (isRow sides many row)) ⟨[.dat (.int sides), .dat thing, .dat (.int many), .dat row, .unk], k⟩ := by
  have h1 : mCall r_is_tuple_of [.m (mVar 3), .m (mVar 0)] ⟨[.dat (.int sides), .dat thing, .dat (.int many), .dat row, .unk], k⟩ = .ok (.bool (isTupOf sides row)) ⟨[.dat (.int sides), .dat thing, .dat (.int many), .dat row, .unk], k⟩ := by
    simp [mCall, evalAg, mVar, R.bind, RF.toR, q_is_tuple_of]
  cases row with
  | tuple ss =>
    by_cases hs : (ss.length : Int) = sides
    · have h2 := mLc_map (v := 4) (m := mCall r_is_step [.m (mVar 2), .m (mVar 4)]) (g := fun d => .bool (isStep many d)) (mi := mItD (mVar 3)) (s := ⟨[.dat (.int sides), .dat thing, .dat (.int many), .dat (.tuple ss), .unk], k⟩) (ρ := [.dat (.int sides), .dat thing, .dat (.int many), .dat (.tuple ss), .unk]) (k := k) (ds := ss) rfl (by simp) (hl ss rfl)
        (fun d hd => by simp [mCall, evalAg, mVar, R.bind, RF.toR, q_is_step])
      have h4 := dAll_map (isStep many) ss
      have h3 : ss.map (fun d => PyData.bool (isStep many d)) = ss.map (PyData.bool ∘ isStep many) := rfl
      rw [h3] at h2
      simp [mAnd, mB, h1, R.bind, isTupOf, hs, mF, evalO, mFrz, h2, h4, isRow]
    · simp [mAnd, mB, h1, R.bind, isTupOf, hs, isRow]
  | _ => simp [mAnd, mB, h1, R.bind, isTupOf, isRow]
/-- lists that are not too long, at the top two levels -/
def short (d : D) : Prop := ∀ ds, d = .tuple ds → ds.length ≤ line ∧ ∀ r ∈ ds, ∀ ss, r = .tuple ss → ss.length ≤ line
theorem nice_tup {ds : List D} (h : nice (.tuple ds) = true) : dEq [.tuple ds, .tuple []] = some (.bool ds.isEmpty) := by
  have h2 : eqOk (.tuple ds) (.tuple []) = true := by
    unfold nice at h
    unfold eqOk
    simp only [Bool.and_eq_true] at h ⊢
    exact ⟨⟨⟨h.1, rfl⟩, h.2⟩, by decide +kernel⟩
  show (if eqOk (.tuple ds) (.tuple []) then some (PyData.bool (PyData.eqv (.tuple ds) (.tuple []))) else none) = _
  rw [if_pos h2]
  cases ds <;> rfl
theorem q_are_rows_with (sides : Int) (thing : D) (k : Option Deck) (hn : nice thing = true) (hs : short thing) : r_are_rows_with ⟨[.dat (.int sides), .dat thing], k⟩ = .ok (.bool (isRows sides thing)) k := by
  cases thing with
  | tuple ds =>
    have e := nice_tup hn
    cases ds with
    | nil => simp [r_are_rows_with, fnM, m_are_rows_with, sSeq, sIf, bOr, bNot, toB, mF, evalO, look, SV.val, dIsi, ty_tuple, mTup, evalM, line, e, R.bind, R.toS, RS.seq, sRet, mC, isRows]
    | cons d r =>
      obtain ⟨h1, h2⟩ := hs _ rfl
      have h3 := mLc_map (v := 3) (m := mAnd (mCall r_is_tuple_of [.m (mVar 3), .m (mVar 0)]) (mF dAll [.m (mFrz (mLc (.nm 4) [4] (mItD (mVar 3)) (tYesM) (mCall r_is_step [.m (mVar 2), .m (mVar 4)])))])) (g := PyData.bool ∘ isRow sides ((d :: r).length : Nat)) (mi := mItD (mVar 1))
        (s := ⟨[.dat (.int sides), .dat (.tuple (d :: r)), .dat (.int ((d :: r).length : Nat)), .unk, .unk], k⟩) (ρ := [.dat (.int sides), .dat (.tuple (d :: r)), .dat (.int ((d :: r).length : Nat)), .unk, .unk]) (k := k) (ds := d :: r) rfl (by simp) h1
        (fun x hx => row_in (h2 x hx))
      have h4 := dAll_map (isRow sides ((d :: r).length : Nat)) (d :: r)
      have e7 : (((d :: r).length : Nat) : Int) = (r.length : Int) + 1 := by simp
      obtain ⟨n, en⟩ : ∃ n : Int, n = (((d :: r).length : Nat) : Int) := ⟨_, rfl⟩
      have e8 : (r.length : Int) + 1 = n := by rw [en, e7]
      rw [← en] at h3 h4
      have h5 : sRet (mF dAll [.m (mFrz (mLc (.nm 3) [3] (mItD (mVar 1)) (tYesM) (mAnd (mCall r_is_tuple_of [.m (mVar 3), .m (mVar 0)]) (mF dAll [.m (mFrz (mLc (.nm 4) [4] (mItD (mVar 3)) (tYesM) (mCall r_is_step [.m (mVar 2), .m (mVar 4)])))]))))]) ⟨[.dat (.int sides), .dat (.tuple (d :: r)), .dat (.int n), .unk, .unk], k⟩ =
          .rt (.bool ((d :: r).all (isRow sides n))) ⟨[.dat (.int sides), .dat (.tuple (d :: r)), .dat (.int n), .unk, .unk], k⟩ := by
        simp only [sRet, mF, evalO, mFrz, R.bind, h3, h4, R.toS]
      have h6 : isRows sides (.tuple (d :: r)) = (d :: r).all (isRow sides n) := by
        rw [en] <;> rfl
      rw [h6]
      have h7 : sIf (bOr (bNot (toB (mF (dIsi "tuple") [.sl 1]))) (toB (mF dEq [.sl 1, .m (mTup [])]))) (sRet (mC (.bool false))) sNop ⟨[.dat (.int sides), .dat (.tuple (d :: r)), .unk, .unk, .unk], k⟩ = .nx ⟨[.dat (.int sides), .dat (.tuple (d :: r)), .unk, .unk, .unk], k⟩ := by
        simp [sIf, bOr, bNot, toB, mF, evalO, look, SV.val, dIsi, ty_tuple, mTup, evalM, line, e, R.bind, R.toS, sNop]
      have h8 : sSet 2 (mF dLenA [.sl 1]) ⟨[.dat (.int sides), .dat (.tuple (d :: r)), .unk, .unk, .unk], k⟩ = .nx ⟨[.dat (.int sides), .dat (.tuple (d :: r)), .dat (.int n), .unk, .unk], k⟩ := by
        simp [sSet, mF, evalO, look, SV.val, R.bind, R.toS, dLenA, e8]
      have h9 : m_are_rows_with ⟨[.dat (.int sides), .dat (.tuple (d :: r)), .unk, .unk, .unk], k⟩ = .rt (.bool ((d :: r).all (isRow sides n))) ⟨[.dat (.int sides), .dat (.tuple (d :: r)), .dat (.int n), .unk, .unk], k⟩ := by
        unfold m_are_rows_with
        rw [sSeq_nx h7, sSeq_nx h8]
        exact h5
      exact fnM_rt (pad := 3) (s := ⟨[.dat (.int sides), .dat (.tuple (d :: r))], k⟩) h9
  | _ => simp [r_are_rows_with, fnM, m_are_rows_with, sSeq, sIf, bOr, bNot, toB, mF, evalO, look, SV.val, dIsi, ty_tuple, R.bind, R.toS, RS.seq, sRet, mC, isRows]
end Lw

set_option Elab.async false
set_option linter.all false
set_option maxRecDepth 100000
/-! k17: dice rows; tapes. -/
namespace Lw
open PySem PySem.Spec PyProof.Rows L2 NdefX Lf
def isDice : D → Bool
  | .tuple (.tuple ss :: r) => (decide (2 ≤ ss.length) && decide (ss.length ≤ 12)) && isRows ss.length (.tuple (.tuple ss :: r))
  | _ => false
theorem q_are_dice_rows (thing : D) (k : Option Deck) (hn : nice thing = true) (hs : short thing) : r_are_dice_rows ⟨[.dat thing], k⟩ = .ok (.bool (isDice thing)) k := by
  cases thing with
  | tuple ds =>
    have e := nice_tup hn
    cases ds with
    | nil => simp [r_are_dice_rows, fnM, m_are_dice_rows, sSeq, sIf, bOr, bNot, toB, mF, evalO, look, SV.val, dIsi, ty_tuple, mTup, evalM, line, e, R.bind, R.toS, RS.seq, sRet, mC, isDice]
    | cons d r =>
      cases d with
      | tuple ss =>
        have q := q_are_rows_with ss.length (.tuple (.tuple ss :: r)) k hn hs
        by_cases h1 : 2 ≤ ss.length
        · by_cases h2 : ss.length ≤ 12
          · have h1' : (2 : Int) ≤ ss.length := by omega
            have h2' : (ss.length : Int) ≤ 12 := by omega
            simp [r_are_dice_rows, fnM, m_are_dice_rows, sSeq, sIf, bOr, bNot, toB, mF, evalO, look, SV.val, dIsi, ty_tuple, mTup, evalM, line, e, R.bind, R.toS, RS.seq, sRet, mC, isDice, dIx, atI_0, sNop, mAnd, mB, mChain, dLenA, h1, h2, h1', h2', mCall, evalAg, mVar, q, RF.toR]
          · have h1' : (2 : Int) ≤ ss.length := by omega
            have h2' : ¬ (ss.length : Int) ≤ 12 := by omega
            simp [r_are_dice_rows, fnM, m_are_dice_rows, sSeq, sIf, bOr, bNot, toB, mF, evalO, look, SV.val, dIsi, ty_tuple, mTup, evalM, line, e, R.bind, R.toS, RS.seq, sRet, mC, isDice, dIx, atI_0, sNop, mAnd, mB, mChain, dLenA, h1, h2, h1', h2']
        · have h1' : ¬ (2 : Int) ≤ ss.length := by omega
          simp [r_are_dice_rows, fnM, m_are_dice_rows, sSeq, sIf, bOr, bNot, toB, mF, evalO, look, SV.val, dIsi, ty_tuple, mTup, evalM, line, e, R.bind, R.toS, RS.seq, sRet, mC, isDice, dIx, atI_0, sNop, mAnd, mB, mChain, dLenA, h1, h1']
      | _ => simp [r_are_dice_rows, fnM, m_are_dice_rows, sSeq, sIf, bOr, bNot, toB, mF, evalO, look, SV.val, dIsi, ty_tuple, mTup, evalM, line, e, R.bind, R.toS, RS.seq, sRet, mC, isDice, dIx, atI_0]
  | _ => simp [r_are_dice_rows, fnM, m_are_dice_rows, sSeq, sIf, bOr, bNot, toB, mF, evalO, look, SV.val, dIsi, ty_tuple, R.bind, R.toS, RS.seq, sRet, mC, isDice]
end Lw

set_option Elab.async false
set_option linter.all false
set_option maxRecDepth 100000
/-! k17: tuples by a look; rolled. -/
namespace Lw
open PySem PySem.Spec PyProof.Rows L2 NdefX Lf
def isTupBy (f : D → Bool) : D → Bool
  | .tuple ds => ds.all f
  | _ => false
theorem q_is_tuple_by (d : D) (id : Nat) (cs : List D) (f : D → Bool) (k : Option Deck) (hf : ∀ x, LM0 id cs ⟨[.dat x], k⟩ = .ok (.bool (f x)) k) (ha : arL id = some 1) (hl : ∀ ds, d = .tuple ds → ds.length ≤ line) :
    r_is_tuple_by ⟨[.dat d, .clo id cs], k⟩ = .ok (.bool (isTupBy f d)) k := by
  cases d with
  | tuple ds =>
    have h3 := mLc_map (v := 2) (m := mClo 1 [.m (mVar 2)] LM0) (g := PyData.bool ∘ f) (mi := mItD (mVar 0)) (s := ⟨[.dat (.tuple ds), .clo id cs, .unk], k⟩) (ρ := [.dat (.tuple ds), .clo id cs, .unk]) (k := k) (ds := ds) rfl (by simp) (hl ds rfl)
      (fun x hx => by simp [mClo, ha, evalAg, mVar, R.bind, allDat, hf, RF.toR])
    have h4 := dAll_map f ds
    have h9 : m_is_tuple_by ⟨[.dat (.tuple ds), .clo id cs, .unk], k⟩ = .rt (.bool (ds.all f)) ⟨[.dat (.tuple ds), .clo id cs, .unk], k⟩ := by
      simp only [m_is_tuple_by, sRet, mAnd, mB, mF, evalO, mFrz, h3, h4]
      simp [look, SV.val, R.bind, R.toS, dIsi, ty_tuple, h3, h4]
    exact fnM_rt (pad := 1) (s := ⟨[.dat (.tuple ds), .clo id cs], k⟩) h9
  | _ => simp [r_is_tuple_by, fnM, m_is_tuple_by, sRet, mAnd, mB, mF, evalO, look, SV.val, dIsi, ty_tuple, R.bind, R.toS, isTupBy]
theorem lm0_0 (cs : List D) (x : D) (k : Option Deck) (hc : cs = []) : LM0 0 cs ⟨[.dat x], k⟩ = .ok (.bool (isWhole x && (match x with | .int i => decide (0 ≤ i) | _ => false))) k := by
  subst hc
  simp [LM0, lamM, m_lam_0, mCall, evalAg, mVar, mC, R.bind, q_is_whole_from, RF.toR]
  all_goals (cases x <;> rfl)
theorem lm0_1 (ss : List D) (r : List D) (x : D) (k : Option Deck) : LM0 1 [.tuple (.tuple ss :: r)] ⟨[.dat x], k⟩ = .ok (.bool (isBtw 0 ((ss.length : Int) - 1) x)) k := by
  simp [LM0, lamM, m_lam_1, mCall, evalAg, mVar, mC, mF, evalO, look, SV.val, R.bind, dIx, atI_0, dLenA, dSub, q_is_whole_between, RF.toR]
def isTape (n : Nat) (d : D) : Bool := isTupBy (isBtw 0 ((n : Int) - 1)) d
theorem q_tape (ss r : List D) (d : D) (k : Option Deck) (hl : ∀ ds, d = .tuple ds → ds.length ≤ line) : r_is_tuple_by ⟨[.dat d, .clo 1 [.tuple (.tuple ss :: r)]], k⟩ = .ok (.bool (isTape ss.length d)) k :=
  q_is_tuple_by d 1 _ _ k (fun x => lm0_1 ss r x k) rfl hl
end Lw

set_option Elab.async false
set_option linter.all false
set_option maxRecDepth 100000
/-! k17: rolled. -/
namespace Lw
open PySem PySem.Spec PyProof.Rows L2 NdefX Lf
/-- rows whose rolls are asked -/
def sidesOf : D → Nat
  | .tuple (.tuple ss :: _) => ss.length
  | _ => 0
def tapeFor (rows tape : D) : Bool := isTape (sidesOf rows) tape
def rolledOf (rows tape : D) (k : Option Deck) : RF := if isDice rows then (if tapeFor rows tape then r__law_rolled ⟨[.dat rows, .dat tape], k⟩ else .exc "BadTape" tape k) else .exc "BadRows" rows k
theorem isDice_form {rows : D} (h : isDice rows = true) : ∃ ss r, rows = .tuple (.tuple ss :: r) := by
  unfold isDice at h
  split at h
  · exact ⟨_, _, rfl⟩
  · cases h
theorem q_rolled (rows tape : D) (k : Option Deck) (hn : nice rows = true) (hs : short rows) (hl : ∀ ds, tape = .tuple ds → ds.length ≤ line) : r_rolled ⟨[.dat rows, .dat tape], k⟩ = rolledOf rows tape k := by
  have q1 := q_are_dice_rows rows k hn hs
  unfold rolledOf
  by_cases h : isDice rows = true
  · rw [if_pos h]
    rw [h] at q1
    obtain ⟨ss, r, rfl⟩ := isDice_form h
    have q2 := q_tape ss r tape k hl
    have h7 : sIf (bNot (toB (mCall r_are_dice_rows [.m (mVar 0)]))) (sRaise "BadRows" (mVar 0)) sNop ⟨[.dat (.tuple (.tuple ss :: r)), .dat tape, .unk, .unk, .unk, .unk, .unk], k⟩ = .nx ⟨[.dat (.tuple (.tuple ss :: r)), .dat tape, .unk, .unk, .unk, .unk, .unk], k⟩ := by
      simp [sIf, bNot, toB, mCall, evalAg, mVar, R.bind, q1, RF.toR, R.toS, sNop]
    by_cases h2 : isTape ss.length tape = true
    · rw [h2] at q2
      have h8 : sIf (bNot (toB (mCallC r_is_tuple_by [.m (mVar 1)] 1 [0]))) (sRaise "BadTape" (mVar 1)) sNop ⟨[.dat (.tuple (.tuple ss :: r)), .dat tape, .unk, .unk, .unk, .unk, .unk], k⟩ = .nx ⟨[.dat (.tuple (.tuple ss :: r)), .dat tape, .unk, .unk, .unk, .unk, .unk], k⟩ := by
        simp [sIf, bNot, toB, mCallC, evalAg, mVar, R.bind, q2, RF.toR, R.toS, sNop, capsOf, capOf]
      rw [if_pos (show tapeFor (.tuple (.tuple ss :: r)) tape = true from h2)]
      have e : m_rolled ⟨[.dat (.tuple (.tuple ss :: r)), .dat tape, .unk, .unk, .unk, .unk, .unk], k⟩ = m__law_rolled ⟨[.dat (.tuple (.tuple ss :: r)), .dat tape, .unk, .unk, .unk, .unk, .unk], k⟩ := by
        unfold m_rolled
        rw [sSeq_nx h7, sSeq_nx h8] <;> rfl
      show (match m_rolled ⟨[.dat (.tuple (.tuple ss :: r)), .dat tape, .unk, .unk, .unk, .unk, .unk], k⟩ with
        | .nx s' => RF.ok .none s'.dk
        | .rt d s' => .ok d s'.dk
        | .exc c d s' => .exc c d s'.dk
        | _ => .bad) = _
      rw [e] <;> rfl
    · rw [Bool.not_eq_true] at h2
      rw [h2] at q2
      have h8 : sIf (bNot (toB (mCallC r_is_tuple_by [.m (mVar 1)] 1 [0]))) (sRaise "BadTape" (mVar 1)) sNop ⟨[.dat (.tuple (.tuple ss :: r)), .dat tape, .unk, .unk, .unk, .unk, .unk], k⟩ = .exc "BadTape" tape ⟨[.dat (.tuple (.tuple ss :: r)), .dat tape, .unk, .unk, .unk, .unk, .unk], k⟩ := by
        simp [sIf, bNot, toB, mCallC, evalAg, mVar, R.bind, q2, RF.toR, R.toS, sRaise, capsOf, capOf]
      rw [if_neg (show ¬ tapeFor (.tuple (.tuple ss :: r)) tape = true from by show ¬ isTape ss.length tape = true; rw [h2]; simp)]
      refine fnM_exc (pad := 5) (s := ⟨[.dat (.tuple (.tuple ss :: r)), .dat tape], k⟩) (s' := ⟨[.dat (.tuple (.tuple ss :: r)), .dat tape, .unk, .unk, .unk, .unk, .unk], k⟩) ?_
      show m_rolled ⟨[.dat (.tuple (.tuple ss :: r)), .dat tape, .unk, .unk, .unk, .unk, .unk], k⟩ = _
      unfold m_rolled
      rw [sSeq_nx h7, sSeq_exc h8]
  · rw [if_neg h]
    rw [Bool.not_eq_true] at h
    rw [h] at q1
    have h7 : sIf (bNot (toB (mCall r_are_dice_rows [.m (mVar 0)]))) (sRaise "BadRows" (mVar 0)) sNop ⟨[.dat rows, .dat tape, .unk, .unk, .unk, .unk, .unk], k⟩ = .exc "BadRows" rows ⟨[.dat rows, .dat tape, .unk, .unk, .unk, .unk, .unk], k⟩ := by
      simp [sIf, bNot, toB, mCall, evalAg, mVar, R.bind, q1, RF.toR, R.toS, sRaise]
    refine fnM_exc (pad := 5) (s := ⟨[.dat rows, .dat tape], k⟩) (s' := ⟨[.dat rows, .dat tape, .unk, .unk, .unk, .unk, .unk], k⟩) ?_
    show m_rolled ⟨[.dat rows, .dat tape, .unk, .unk, .unk, .unk, .unk], k⟩ = _
    unfold m_rolled
    rw [sSeq_exc h7]
end Lw

set_option Elab.async false
set_option linter.all false
set_option maxRecDepth 100000
/-! k17: draws. -/
namespace Lw
open PySem PySem.Spec PyProof.Rows L2 NdefX Lf
structure Good (n : Nat) (k : Deck) : Prop where
  m0 : 0 ≤ k.mixed
  m1 : k.mixed < 1099511627776
  d0 : 0 ≤ k.draws
  d1 : k.draws ≤ (n : Int)
  ll : k.left.length ≤ 63
theorem Good.mono {n m : Nat} {k : Deck} (g : Good n k) (h : n ≤ m) : Good m k := ⟨g.m0, g.m1, g.d0, by have := g.d1; omega, g.ll⟩
theorem smR (z : Int) (h1 : -18446744073709551616 < z) (h2 : z < 18446744073709551616) : Small z := small64 (z := z) (by omega)
theorem dMulA_ok {i j : Int} (hi : Small i) (hj : Small j) : dMulA [.int i, .int j] = some (.int (i * j)) := dMul_ok hi hj
theorem fm_lt {z c : Int} (h : 0 < c) : 0 ≤ z.fmod c ∧ z.fmod c < c := by
  rw [Int.fmod_eq_emod_of_nonneg z (Int.le_of_lt h)]
  exact ⟨Int.emod_nonneg _ (by omega), Int.emod_lt_of_pos _ h⟩
theorem dMod_ok {i j : Int} (h : j ≠ 0) : dMod [.int i, .int j] = some (.int (i.fmod j)) := by
  show (if j = 0 then none else some (PyData.int (i.fmod j))) = _
  rw [if_neg h]
theorem dFloor_ok {i j : Int} (h : 0 < j) (h2 : j < 9223372036854775808) : dFloor [.int i, .int j] = some (.int (i / j)) := by
  have : 0 < j ∧ j.natAbs.log2 < 9000 := by
    refine ⟨h, ?_⟩
    have h3 : j.natAbs < 2 ^ 9000 := Nat.lt_of_lt_of_le (show j.natAbs < 2 ^ 64 by omega) (Nat.pow_le_pow_right (by decide) (by decide))
    exact (Nat.log2_lt (by omega)).mpr h3
  show (if 0 < j ∧ j.natAbs.log2 < 9000 then some (PyData.int (i / j)) else _) = _
  rw [if_pos this]
/-- the end of a draw -/
def tailV (many d x : Int) : Int := (((((((x * 39373 + 24130).fmod 2147483629) * ((x * 39373 + 24130).fmod 2147483629) + 52774 * d + 11).fmod 2147483587) * 48271).fmod 2147483399) / 64).fmod many
def tailM : MS := (sSeq (sSet 2 (mF dMod [.m (mF dInt [.m (mF dAdd [.m (mF dMulA [.sl 2, .m (mC (.int 39373))]), .m (mC (.int 24130))])]), .m (mC (.int 2147483629))]))
  (sSeq (sSet 2 (mF dMod [.m (mF dInt [.m (mF dAdd [.m (mF dAdd [.m (mF dMulA [.sl 2, .sl 2]), .m (mF dMulA [.m (mC (.int 52774)), .m (mDkI 0 "draws")])]), .m (mC (.int 11))])]), .m (mC (.int 2147483587))]))
  (sRet (mF dMod [.m (mF dInt [.m (mF dFloor [.m (mF dMod [.m (mF dInt [.m (mF dMulA [.sl 2, .m (mC (.int 48271))])]), .m (mC (.int 2147483399))]), .m (mC (.int 64))])]), .sl 1]))))
theorem tail_run {many x : Int} {sv : SV} {k : Deck} (hx : Small x) (hd : Small k.draws) (hm : 0 < many) : tailM ⟨[.deck, .dat (.int many), .dat (.int x), sv], some k⟩ = .rt (.int (tailV many k.draws x)) ⟨[.deck, .dat (.int many), .dat (.int (((x * 39373 + 24130).fmod 2147483629 * ((x * 39373 + 24130).fmod 2147483629) + 52774 * k.draws + 11).fmod 2147483587)), sv], some k⟩ := by
  have s1 : Small 39373 := small64 (z := 39373) (by decide)
  have s2 : Small 52774 := small64 (z := 52774) (by decide)
  have s3 : Small 48271 := small64 (z := 48271) (by decide)
  have hy : Small ((x * 39373 + 24130).fmod 2147483629) := by
    have := @fm_lt (x * 39373 + 24130) 2147483629 (by decide)
    exact smR _ (by omega) (by omega)
  generalize hY : (x * 39373 + 24130).fmod 2147483629 = y at *
  have hz : Small ((y * y + 52774 * k.draws + 11).fmod 2147483587) := by
    have := @fm_lt (y * y + 52774 * k.draws + 11) 2147483587 (by decide)
    exact smR _ (by omega) (by omega)
  have e1 : sSet 2 (mF dMod [.m (mF dInt [.m (mF dAdd [.m (mF dMulA [.sl 2, .m (mC (.int 39373))]), .m (mC (.int 24130))])]), .m (mC (.int 2147483629))]) ⟨[.deck, .dat (.int many), .dat (.int x), sv], some k⟩ = .nx ⟨[.deck, .dat (.int many), .dat (.int y), sv], some k⟩ := by
    simp [sSet, mF, evalO, look, SV.val, R.bind, R.toS, dMulA_ok hx s1, mC, dAdd, dInt, dMod_ok, hY]
  have e2 : sSet 2 (mF dMod [.m (mF dInt [.m (mF dAdd [.m (mF dAdd [.m (mF dMulA [.sl 2, .sl 2]), .m (mF dMulA [.m (mC (.int 52774)), .m (mDkI 0 "draws")])]), .m (mC (.int 11))])]), .m (mC (.int 2147483587))]) ⟨[.deck, .dat (.int many), .dat (.int y), sv], some k⟩ = .nx ⟨[.deck, .dat (.int many), .dat (.int ((y * y + 52774 * k.draws + 11).fmod 2147483587)), sv], some k⟩ := by
    simp [sSet, mF, evalO, look, SV.val, R.bind, R.toS, dMulA_ok hy hy, dMulA_ok s2 hd, mC, mDkI, isDeck, fldOf, dAdd, dInt, dMod_ok]
  unfold tailM
  rw [sSeq_nx e1, sSeq_nx e2]
  unfold tailV
  rw [hY]
  generalize (y * y + 52774 * k.draws + 11).fmod 2147483587 = z at *
  simp [sRet, mF, evalO, look, SV.val, R.bind, R.toS, dMulA_ok hz s3, mC, dInt, dMod_ok, dFloor_ok, dMod_ok (i := _) (j := many) (by omega : many ≠ 0)]
theorem draw_eq : m__law_draw = sSeq (sDkPut 0 (mF dAdd [.m (mDkI 0 "draws"), .m (mC (.int 1))]))
  (sSeq (sSet 2 (mF dAdd [.m (mDkI 0 "mixed"), .m (mF dMulA [.m (mC (.int 61291)), .m (mDkI 0 "draws")])]))
  (sSeq (sIf (toB (mDkNe 0))
  (sSeq (sSet 3 (mDkPop 0))
  (sSeq (sIf (toB (mF dGe [.sl 3, .m (mF dPow [.m (mC (.int 10)), .m (mC (.int 18))])]))
  (sSeq (sDrop (mDkApp 0 (mF dFloor [.sl 3, .m (mF dMax2 [.m (mC (.int 2)), .sl 1])])))
  (sRet (mF dMod [.m (mF dInt [.sl 3]), .sl 1])))
  (sNop))
  (sSet 2 (mF dAdd [.sl 2, .m (mF dMod [.m (mF dInt [.sl 3]), .m (mC (.int 2147483629))])]))))
  (sNop))
  tailM)) := rfl
theorem q_draw {n : Nat} {k : Deck} {many : Int} (g : Good n k) (hn : n < 1099511627776) (h1 : 1 ≤ many) (h2 : many < 1099511627776) :
    ∃ (v : Int) (k' : Deck), r__law_draw ⟨[.deck, .dat (.int many)], some k⟩ = .ok (.int v) (some k') ∧ 0 ≤ v ∧ v < many ∧ Good (n + 1) k' := by
  have s1 : Small 61291 := small64 (z := 61291) (by decide)
  have hd0 := g.d0
  have hd1 := g.d1
  have hm0 := g.m0
  have hm1 := g.m1
  have hd : Small (k.draws + 1) := smR _ (by omega) (by omega)
  let k1 : Deck := { k with draws := k.draws + 1 }
  have e1 : sDkPut 0 (mF dAdd [.m (mDkI 0 "draws"), .m (mC (.int 1))]) ⟨[.deck, .dat (.int many), .unk, .unk], some k⟩ = .nx ⟨[.deck, .dat (.int many), .unk, .unk], some k1⟩ := by
    simp [sDkPut, mF, evalO, R.bind, R.toS, mDkI, isDeck, fldOf, mC, dAdd, k1]
  have e2 : sSet 2 (mF dAdd [.m (mDkI 0 "mixed"), .m (mF dMulA [.m (mC (.int 61291)), .m (mDkI 0 "draws")])]) ⟨[.deck, .dat (.int many), .unk, .unk], some k1⟩ = .nx ⟨[.deck, .dat (.int many), .dat (.int (k.mixed + 61291 * (k.draws + 1))), .unk], some k1⟩ := by
    have nd : ¬ (Str.ofString "mixed" = Str.ofString "draws") := by decide +kernel
    simp [sSet, mF, evalO, R.bind, R.toS, mDkI, isDeck, fldOf, mC, dAdd, dMulA_ok s1 hd, k1, nd]
  have gk1 : Good (n + 1) k1 := ⟨g.m0, g.m1, by show 0 ≤ k.draws + 1; omega, by show k.draws + 1 ≤ ((n + 1 : Nat) : Int); omega, g.ll⟩
  by_cases hl : k.left = []
  · have e3 : (sIf (toB (mDkNe 0))
  (sSeq (sSet 3 (mDkPop 0))
  (sSeq (sIf (toB (mF dGe [.sl 3, .m (mF dPow [.m (mC (.int 10)), .m (mC (.int 18))])]))
  (sSeq (sDrop (mDkApp 0 (mF dFloor [.sl 3, .m (mF dMax2 [.m (mC (.int 2)), .sl 1])])))
  (sRet (mF dMod [.m (mF dInt [.sl 3]), .sl 1])))
  (sNop))
  (sSet 2 (mF dAdd [.sl 2, .m (mF dMod [.m (mF dInt [.sl 3]), .m (mC (.int 2147483629))])]))))
  (sNop)) ⟨[.deck, .dat (.int many), .dat (.int (k.mixed + 61291 * (k.draws + 1))), .unk], some k1⟩ = .nx ⟨[.deck, .dat (.int many), .dat (.int (k.mixed + 61291 * (k.draws + 1))), .unk], some k1⟩ := by
      simp [sIf, toB, mDkNe, isDeck, R.bind, R.toS, sNop, k1, hl]
    have hx : Small (k.mixed + 61291 * (k.draws + 1)) := smR _ (by omega) (by omega)
    have e4 := tail_run (many := many) (sv := .unk) (k := k1) hx hd (by omega)
    have hb := @fm_lt (((((((k.mixed + 61291 * (k.draws + 1)) * 39373 + 24130).fmod 2147483629) * (((k.mixed + 61291 * (k.draws + 1)) * 39373 + 24130).fmod 2147483629) + 52774 * k1.draws + 11).fmod 2147483587 * 48271).fmod 2147483399) / 64) many (by omega)
    refine ⟨tailV many k1.draws (k.mixed + 61291 * (k.draws + 1)), k1, ?_, hb.1, hb.2, gk1⟩
    exact fnM_rt (pad := 2) (s := ⟨[.deck, .dat (.int many)], some k⟩) ((sSeq_nx e1).trans ((sSeq_nx e2).trans ((sSeq_nx e3).trans e4)))
  · obtain ⟨c, hc⟩ : ∃ c, k.left[k.left.length - 1]? = some c := by
      have : k.left.length ≠ 0 := fun h => hl (List.length_eq_zero_iff.mp h)
      exact ⟨_, List.getElem?_eq_getElem (by omega)⟩
    have hcm : c ∈ k.left := List.mem_of_getElem? hc
    let k2 : Deck := { k1 with left := k.left.dropLast }
    have gk2 : Good (n + 1) k2 := ⟨gk1.m0, gk1.m1, gk1.d0, gk1.d1, by
      show k.left.dropLast.length ≤ 63
      rw [List.length_dropLast]
      have := g.ll
      omega⟩
    have hne : k1.left.isEmpty = false := by
      show k.left.isEmpty = false
      simpa using hl
    have e3 : sSet 3 (mDkPop 0) ⟨[.deck, .dat (.int many), .dat (.int (k.mixed + 61291 * (k.draws + 1))), .unk], some k1⟩ = .nx ⟨[.deck, .dat (.int many), .dat (.int (k.mixed + 61291 * (k.draws + 1))), .dat (.int c)], some k2⟩ := by
      simp [sSet, mDkPop, isDeck, R.toS, k1, k2, hc]
    by_cases hbig : (1000000000000000000 : Int) ≤ c
    · have hmx : dMax2 [.int 2, .int many] = some (.int (if many > 2 then many else 2)) := rfl
      have hmp : 0 < (if many > 2 then many else 2) := by split <;> omega
      have hml : (if many > 2 then many else 2) < 9223372036854775808 := by split <;> omega
      generalize hM : (if many > 2 then many else 2) = M at hmx hmp hml
      let k3 : Deck := { k2 with left := k.left.dropLast ++ [c / M] }
      have hll : k.left.length - 1 < line := by
        have h1 := g.ll
        unfold line
        omega
      have e4 : sDrop (mDkApp 0 (mF dFloor [.sl 3, .m (mF dMax2 [.m (mC (.int 2)), .sl 1])])) ⟨[.deck, .dat (.int many), .dat (.int (k.mixed + 61291 * (k.draws + 1))), .dat (.int c)], some k2⟩ = .nx ⟨[.deck, .dat (.int many), .dat (.int (k.mixed + 61291 * (k.draws + 1))), .dat (.int c)], some k3⟩ := by
        simp [sDrop, mDkApp, isDeck, mF, evalO, look, SV.val, R.bind, R.toS, mC, hmx, dFloor_ok hmp hml, hll, k3, k2]
      have gk3 : Good (n + 1) k3 := ⟨gk1.m0, gk1.m1, gk1.d0, gk1.d1, by
        show (k.left.dropLast ++ [c / M]).length ≤ 63
        rw [List.length_append, List.length_dropLast]
        have h1 := g.ll
        have h2 : k.left.length ≠ 0 := fun h => hl (List.length_eq_zero_iff.mp h)
        simp only [List.length_cons, List.length_nil]
        omega⟩
      have hb := @fm_lt c many (by omega)
      refine ⟨c.fmod many, k3, ?_, hb.1, hb.2, gk3⟩
      refine fnM_rt (pad := 2) (s := ⟨[.deck, .dat (.int many)], some k⟩) (s' := ⟨[.deck, .dat (.int many), .dat (.int (k.mixed + 61291 * (k.draws + 1))), .dat (.int c)], some k3⟩) ?_
      rw [draw_eq]
      show sSeq _ _ ⟨[.deck, .dat (.int many), .unk, .unk], some k⟩ = _
      rw [sSeq_nx e1, sSeq_nx e2]
      refine sSeq_rt ?_
      have hp : dPow [.int 10, .int 18] = some (.int 1000000000000000000) := by simp [dPow]
      have e5 : sRet (mF dMod [.m (mF dInt [.sl 3]), .sl 1]) ⟨[.deck, .dat (.int many), .dat (.int (k.mixed + 61291 * (k.draws + 1))), .dat (.int c)], some k3⟩ = .rt (.int (c.fmod many)) ⟨[.deck, .dat (.int many), .dat (.int (k.mixed + 61291 * (k.draws + 1))), .dat (.int c)], some k3⟩ := by
        simp [sRet, mF, evalO, look, SV.val, R.bind, R.toS, dInt, dMod_ok (i := _) (j := many) (by omega : many ≠ 0)]
      have e6 : sIf (toB (mF dGe [.sl 3, .m (mF dPow [.m (mC (.int 10)), .m (mC (.int 18))])])) (sSeq (sDrop (mDkApp 0 (mF dFloor [.sl 3, .m (mF dMax2 [.m (mC (.int 2)), .sl 1])]))) (sRet (mF dMod [.m (mF dInt [.sl 3]), .sl 1]))) sNop ⟨[.deck, .dat (.int many), .dat (.int (k.mixed + 61291 * (k.draws + 1))), .dat (.int c)], some k2⟩ = .rt (.int (c.fmod many)) ⟨[.deck, .dat (.int many), .dat (.int (k.mixed + 61291 * (k.draws + 1))), .dat (.int c)], some k3⟩ := by
        have : toB (mF dGe [.sl 3, .m (mF dPow [.m (mC (.int 10)), .m (mC (.int 18))])]) ⟨[.deck, .dat (.int many), .dat (.int (k.mixed + 61291 * (k.draws + 1))), .dat (.int c)], some k2⟩ = .ok true ⟨[.deck, .dat (.int many), .dat (.int (k.mixed + 61291 * (k.draws + 1))), .dat (.int c)], some k2⟩ := by
          simp [toB, mF, evalO, look, SV.val, R.bind, mC, hp, dGe, dCmp, hbig]
        unfold sIf
        rw [this]
        show sSeq _ _ _ = _
        rw [sSeq_nx e4]
        exact e5
      have e7 : toB (mDkNe 0) ⟨[.deck, .dat (.int many), .dat (.int (k.mixed + 61291 * (k.draws + 1))), .unk], some k1⟩ = .ok true ⟨[.deck, .dat (.int many), .dat (.int (k.mixed + 61291 * (k.draws + 1))), .unk], some k1⟩ := by
        simp [toB, mDkNe, isDeck, R.bind, hne]
      unfold sIf
      rw [e7]
      show sSeq _ _ _ = _
      rw [sSeq_nx e3]
      exact sSeq_rt e6
    · have hcf := @fm_lt c 2147483629 (by decide)
      have hp : dPow [.int 10, .int 18] = some (.int 1000000000000000000) := by simp [dPow]
      have e6 : sIf (toB (mF dGe [.sl 3, .m (mF dPow [.m (mC (.int 10)), .m (mC (.int 18))])])) (sSeq (sDrop (mDkApp 0 (mF dFloor [.sl 3, .m (mF dMax2 [.m (mC (.int 2)), .sl 1])]))) (sRet (mF dMod [.m (mF dInt [.sl 3]), .sl 1]))) sNop ⟨[.deck, .dat (.int many), .dat (.int (k.mixed + 61291 * (k.draws + 1))), .dat (.int c)], some k2⟩ = .nx ⟨[.deck, .dat (.int many), .dat (.int (k.mixed + 61291 * (k.draws + 1))), .dat (.int c)], some k2⟩ := by
        have : toB (mF dGe [.sl 3, .m (mF dPow [.m (mC (.int 10)), .m (mC (.int 18))])]) ⟨[.deck, .dat (.int many), .dat (.int (k.mixed + 61291 * (k.draws + 1))), .dat (.int c)], some k2⟩ = .ok false ⟨[.deck, .dat (.int many), .dat (.int (k.mixed + 61291 * (k.draws + 1))), .dat (.int c)], some k2⟩ := by
          simp [toB, mF, evalO, look, SV.val, R.bind, mC, hp, dGe, dCmp, hbig]
        unfold sIf
        rw [this] <;> rfl
      have e7 : toB (mDkNe 0) ⟨[.deck, .dat (.int many), .dat (.int (k.mixed + 61291 * (k.draws + 1))), .unk], some k1⟩ = .ok true ⟨[.deck, .dat (.int many), .dat (.int (k.mixed + 61291 * (k.draws + 1))), .unk], some k1⟩ := by
        simp [toB, mDkNe, isDeck, R.bind, hne]
      have e8 : sSet 2 (mF dAdd [.sl 2, .m (mF dMod [.m (mF dInt [.sl 3]), .m (mC (.int 2147483629))])]) ⟨[.deck, .dat (.int many), .dat (.int (k.mixed + 61291 * (k.draws + 1))), .dat (.int c)], some k2⟩ = .nx ⟨[.deck, .dat (.int many), .dat (.int (k.mixed + 61291 * (k.draws + 1) + c.fmod 2147483629)), .dat (.int c)], some k2⟩ := by
        simp [sSet, mF, evalO, look, SV.val, R.bind, R.toS, mC, dInt, dMod_ok, dAdd]
      have hx : Small (k.mixed + 61291 * (k.draws + 1) + c.fmod 2147483629) := smR _ (by omega) (by omega)
      have e4 := tail_run (many := many) (sv := .dat (.int c)) (k := k2) hx hd (by omega)
      generalize hX : k.mixed + 61291 * (k.draws + 1) + c.fmod 2147483629 = x at *
      have hb := @fm_lt (((((x * 39373 + 24130).fmod 2147483629) * ((x * 39373 + 24130).fmod 2147483629) + 52774 * k2.draws + 11).fmod 2147483587 * 48271).fmod 2147483399 / 64) many (by omega)
      refine ⟨tailV many k2.draws x, k2, ?_, hb.1, hb.2, gk2⟩
      have e9 : (sIf (toB (mDkNe 0))
  (sSeq (sSet 3 (mDkPop 0))
  (sSeq (sIf (toB (mF dGe [.sl 3, .m (mF dPow [.m (mC (.int 10)), .m (mC (.int 18))])]))
  (sSeq (sDrop (mDkApp 0 (mF dFloor [.sl 3, .m (mF dMax2 [.m (mC (.int 2)), .sl 1])])))
  (sRet (mF dMod [.m (mF dInt [.sl 3]), .sl 1])))
  (sNop))
  (sSet 2 (mF dAdd [.sl 2, .m (mF dMod [.m (mF dInt [.sl 3]), .m (mC (.int 2147483629))])]))))
  (sNop)) ⟨[.deck, .dat (.int many), .dat (.int (k.mixed + 61291 * (k.draws + 1))), .unk], some k1⟩ = .nx ⟨[.deck, .dat (.int many), .dat (.int x), .dat (.int c)], some k2⟩ := by
        unfold sIf
        rw [e7]
        show sSeq _ _ _ = _
        rw [sSeq_nx e3]
        show sSeq (sIf _ _ _) _ _ = _
        rw [sSeq_nx e6]
        exact e8
      exact fnM_rt (pad := 2) (s := ⟨[.deck, .dat (.int many)], some k⟩) ((sSeq_nx e1).trans ((sSeq_nx e2).trans ((sSeq_nx e9).trans e4)))
end Lw

set_option Elab.async false
set_option linter.all false
set_option maxRecDepth 100000
/-! k17: a value and itself. -/
namespace Lw
open PySem PySem.Spec PyProof.Rows L2 NdefX Lf
mutual
def sz : D → Nat
  | .list xs => 1 + szs xs
  | .tuple xs => 1 + szs xs
  | _ => 1
def szs : List D → Nat
  | [] => 0
  | d :: r => sz d + szs r
end
/-- data without dicts, of little depth, of lists that are not too long -/
def ok1 (n : Nat) (d : D) : Bool := noDict d && (PyData.canLay0 d && decide (d.depth ≤ n))
theorem szs_append : ∀ a b : List D, szs (a ++ b) = szs a + szs b
  | [], b => by simp [szs]
  | d :: r, b => by simp [szs, szs_append r b, Nat.add_assoc]
theorem len_szs : ∀ ds : List D, ds.length ≤ szs ds
  | [] => Nat.le_refl _
  | d :: r => by
    have h := len_szs r
    have : 1 ≤ sz d := by cases d <;> simp [sz] <;> omega
    simp only [szs, List.length_cons]
    omega
theorem noDicts_iff : ∀ ds : List D, noDicts ds = true ↔ ∀ d ∈ ds, noDict d = true
  | [] => by simp [noDicts]
  | d :: r => by simp [noDicts, noDicts_iff r]
theorem lays_iff : ∀ ds : List D, PyData.canLayAll0 ds = true ↔ ∀ d ∈ ds, PyData.canLay0 d = true
  | [] => by simp [PyData.canLayAll0]
  | d :: r => by simp [PyData.canLayAll0, lays_iff r]
theorem depths_iff (n : Nat) : ∀ ds : List D, PyData.depthAll ds ≤ n ↔ ∀ d ∈ ds, d.depth ≤ n
  | [] => by simp [PyData.depthAll]
  | d :: r => by
    simp only [PyData.depthAll, List.mem_cons, forall_eq_or_imp]
    rw [← depths_iff n r]
    omega
theorem ok1_tup (n : Nat) (ds : List D) : ok1 (n + 1) (.tuple ds) = true ↔ ∀ d ∈ ds, ok1 n d = true := by
  simp only [ok1, noDict, PyData.canLay0, PyData.depth, Bool.and_eq_true, noDicts_iff, lays_iff, decide_eq_true_eq, Nat.add_le_add_iff_right, depths_iff]
  exact ⟨fun h d hd => ⟨h.1 d hd, h.2.1 d hd, h.2.2 d hd⟩, fun h => ⟨fun d hd => (h d hd).1, fun d hd => (h d hd).2.1, fun d hd => (h d hd).2.2⟩⟩
theorem ok1_lst (n : Nat) (ds : List D) : ok1 (n + 1) (.list ds) = true ↔ ∀ d ∈ ds, ok1 n d = true := by
  simp only [ok1, noDict, PyData.canLay0, PyData.depth, Bool.and_eq_true, noDicts_iff, lays_iff, decide_eq_true_eq, Nat.add_le_add_iff_right, depths_iff]
  exact ⟨fun h d hd => ⟨h.1 d hd, h.2.1 d hd, h.2.2 d hd⟩, fun h => ⟨fun d hd => (h d hd).1, fun d hd => (h d hd).2.1, fun d hd => (h d hd).2.2⟩⟩
theorem ok1_mono {n m : Nat} (h : n ≤ m) {d : D} (q : ok1 n d = true) : ok1 m d = true := by
  simp only [ok1, Bool.and_eq_true, decide_eq_true_eq] at q ⊢
  exact ⟨q.1, q.2.1, by omega⟩
theorem ok1_kids {n : Nat} {ds : List D} (h : ok1 n (.tuple ds) = true ∨ ok1 n (.list ds) = true) : ∀ d ∈ ds, ok1 n d = true := by
  have h2 : ∀ d ∈ ds, ok1 (n - 1) d = true := by
    have hn : n ≠ 0 := by
      intro hn
      subst hn
      rcases h with h | h <;> simp [ok1, PyData.depth] at h
    have e : n = (n - 1) + 1 := by omega
    rcases h with h | h
    · rw [e] at h
      exact (ok1_tup _ _).mp h
    · rw [e] at h
      exact (ok1_lst _ _).mp h
  exact fun d hd => ok1_mono (by omega) (h2 d hd)
theorem eqOk_of {n m : Nat} (hn : n ≤ 64) (hm : m ≤ 64) {d e : D} (h : ok1 n d = true) (q : ok1 m e = true) : eqOk d e = true := by
  simp only [ok1, Bool.and_eq_true, decide_eq_true_eq] at h q
  simp only [eqOk, SeqAt.shaped, Bool.and_eq_true, decide_eq_true_eq]
  exact ⟨⟨⟨h.1, q.1⟩, h.2.1, by omega⟩, q.2.1, by omega⟩
theorem ok1_nice {n : Nat} (hn : n ≤ 64) {d : D} (h : ok1 n d = true) : nice d = true := by
  simp only [ok1, Bool.and_eq_true, decide_eq_true_eq] at h
  simp only [nice, SeqAt.shaped, Bool.and_eq_true, decide_eq_true_eq]
  exact ⟨h.1, h.2.1, by omega⟩
theorem dNe_of {d e : D} (h : eqOk d e = true) : dNe [d, e] = some (.bool (!PyData.eqv d e)) := by
  show (if eqOk d e then some (PyData.bool (!PyData.eqv d e)) else none) = _
  rw [if_pos h]
theorem dEq_of {d e : D} (h : eqOk d e = true) : dEq [d, e] = some (.bool (PyData.eqv d e)) := by
  show (if eqOk d e then some (PyData.bool (PyData.eqv d e)) else none) = _
  rw [if_pos h]
def pr (d : D) : D := .tuple [d, d]
theorem ok1_pr {n : Nat} {d : D} (h : ok1 n d = true) : ok1 (n + 1) (pr d) = true := (ok1_tup _ _).mpr fun e he => by
  simp only [List.mem_cons, List.not_mem_nil, or_false, or_self] at he
  subst he
  exact h
theorem zip_self : ∀ ds : List D, List.zipWith pairD ds ds = ds.map pr
  | [] => rfl
  | d :: r => by
    rw [List.zipWith_cons_cons, zip_self r, List.map_cons] <;> rfl
def sameT : S0 → Lf.R Bool := toB (mF dNe [.sl 2, .m (mFrz (nLst []))])
def sameB : MS := sSeq (sPat (.tup [(.nm 3), (.nm 4)]) (mPop 2))
  (sIf (toB (mF (dIsi2 "tuple" "list") [.sl 4]))
  (sSeq (sIf (bOr (bNot (toB (mF (dIsi2 "tuple" "list") [.sl 3]))) (toB (mF dNe [.m (mF (dIsi "tuple") [.sl 3]), .m (mF (dIsi "tuple") [.sl 4])])))
  (sRet (mC (.bool false)))
  (sNop))
  (sSeq (sIf (toB (mF dNe [.m (mF dLenA [.sl 3]), .m (mF dLenA [.sl 4])]))
  (sRet (mC (.bool false)))
  (sNop))
  (sDrop (mExt 2 (mFrz (nLzip (mVar 3) (mVar 4)))))))
  (sIf (bOr (toB (mF dIsN [.sl 4, .m (mC .none)])) (toB (mF dIsN [.sl 3, .m (mC .none)])))
  (sIf (bOr (toB (mF dNotN [.sl 4, .m (mC .none)])) (toB (mF dNotN [.sl 3, .m (mC .none)])))
  (sRet (mC (.bool false)))
  (sNop))
  (sIf (bOr (bNot (toB (mF (dIsi3 "int" "str" "dict") [.sl 3]))) (toB (mF dNe [.m (mF (dIsi "bool") [.sl 3]), .m (mF (dIsi "bool") [.sl 4])])))
  (sRet (mC (.bool false)))
  (sIf (bOr (toB (mF dNe [.m (mF (dIsi "str") [.sl 3]), .m (mF (dIsi "str") [.sl 4])])) (toB (mF dNe [.sl 3, .sl 4])))
  (sRet (mC (.bool false)))
  (sNop)))))
def kids : D → List D
  | .tuple ds => ds
  | .list ds => ds
  | _ => []
theorem dNe_bb (b c : Bool) : dNe [.bool b, .bool c] = some (.bool (b != c)) := by
  cases b <;> cases c <;> rfl
theorem eqv_nil (ds : List D) : PyData.eqv (.list ds) (.list []) = ds.isEmpty := by cases ds <;> rfl
theorem same_body {a b : SV} {k : Option Deck} {x3 x4 : SV} {todo : List D} {d : D} (hd : ok1 60 d = true) (hl : todo.length + (kids d).length ≤ line) :
    sameB ⟨[a, b, .lst (todo ++ [pr d]), x3, x4], k⟩ = .nx ⟨[a, b, .lst (todo ++ (kids d).map pr), .dat d, .dat d], k⟩ := by
  have e1 : sPat (.tup [(.nm 3), (.nm 4)]) (mPop 2) ⟨[a, b, .lst (todo ++ [pr d]), x3, x4], k⟩ = .nx ⟨[a, b, .lst todo, .dat d, .dat d], k⟩ := by
    simp [sPat, mPop, R.toS, pr, asgP, asgPs]
  unfold sameB
  rw [sSeq_nx e1]
  cases d with
  | tuple ds =>
    have hl2 : ds.length ≤ line := by
      simp only [kids] at hl
      omega
    simp only [kids] at hl
    simp [sIf, sSeq, bOr, bNot, toB, mF, evalO, look, SV.val, R.bind, R.toS, dIsi2, dIsi, ty_tuple, ty_list, dNe_bb, sNop, RS.seq, dLenA, dNe_of (eqOk_int _ _), PyData.eqv, sDrop, mExt, mFrz, nLzip, mVar, lzK, items, hl2, zip_self, hl, kids, Lf.pairD, pr]
  | list ds =>
    have hl2 : ds.length ≤ line := by
      simp only [kids] at hl
      omega
    simp only [kids] at hl
    simp [sIf, sSeq, bOr, bNot, toB, mF, evalO, look, SV.val, R.bind, R.toS, dIsi2, dIsi, ty_tuple, ty_list, dNe_bb, sNop, RS.seq, dLenA, dNe_of (eqOk_int _ _), PyData.eqv, sDrop, mExt, mFrz, nLzip, mVar, lzK, items, hl2, zip_self, hl, kids, Lf.pairD, pr]
  | none => simp [sIf, bOr, toB, mF, evalO, look, SV.val, R.bind, R.toS, dIsi2, ty_tuple, ty_list, sNop, dIsN, dNotN, isNone, mC, kids]
  | bool c =>
    have e := dNe_bb c c
    simp [sIf, bOr, bNot, toB, mF, evalO, look, SV.val, R.bind, R.toS, dIsi2, dIsi3, dIsi, ty_tuple, ty_list, ty_bool, ty_int, ty_str, ty_dict, sNop, dIsN, isNone, mC, kids, e, dNe_bb]
  | int c =>
    have e := dNe_of (eqOk_int c c)
    simp [PyData.eqv] at e
    simp [sIf, bOr, bNot, toB, mF, evalO, look, SV.val, R.bind, R.toS, dIsi2, dIsi3, dIsi, ty_tuple, ty_list, ty_bool, ty_int, ty_str, ty_dict, sNop, dIsN, isNone, mC, kids, e, dNe_bb]
  | str c =>
    have e := dNe_of (eqOk_of (n := 60) (m := 60) (by decide) (by decide) hd hd)
    simp [PyData.eqv] at e
    simp [sIf, bOr, bNot, toB, mF, evalO, look, SV.val, R.bind, R.toS, dIsi2, dIsi3, dIsi, ty_tuple, ty_list, ty_bool, ty_int, ty_str, ty_dict, sNop, dIsN, isNone, mC, kids, e, dNe_bb]
  | dict kvs => simp [ok1, noDict] at hd
theorem sameT_run {a b x3 x4 : SV} {k : Option Deck} {ts : List D} (h : ∀ d ∈ ts, ok1 60 d = true) : sameT ⟨[a, b, .lst (ts.map pr), x3, x4], k⟩ = .ok (!ts.isEmpty) ⟨[a, b, .lst (ts.map pr), x3, x4], k⟩ := by
  have h1 : ok1 62 (.list (ts.map pr)) = true := (ok1_lst _ _).mpr fun d hd => by
    obtain ⟨e, he, rfl⟩ := List.mem_map.mp hd
    exact ok1_pr (h e he)
  have e := dNe_of (eqOk_of (n := 62) (m := 62) (by decide) (by decide) h1 (show ok1 62 (.list []) = true from by decide +kernel))
  rw [eqv_nil] at e
  simp [sameT, toB, mF, evalO, look, SV.val, R.bind, mFrz, nLst, evalM, line, e]
theorem sz_kids (d : D) : szs (kids d) + 1 ≤ sz d := by cases d <;> simp [sz, kids, szs] <;> omega
theorem same_loop {a b : SV} {k : Option Deck} : ∀ (n : Nat) (ts : List D) (x3 x4 : SV), (∀ d ∈ ts, ok1 60 d = true) → szs ts ≤ n → n ≤ line → ∃ y3 y4, whileL sameT sameB (n + 1) ⟨[a, b, .lst (ts.map pr), x3, x4], k⟩ = .nx ⟨[a, b, .lst [], y3, y4], k⟩
  | n, ts, x3, x4, h, hs, hn => by
    rcases List.eq_nil_or_concat ts with e | ⟨r, d, e⟩
    · subst e
      refine ⟨x3, x4, ?_⟩
      have e1 := sameT_run (a := a) (b := b) (x3 := x3) (x4 := x4) (k := k) (ts := []) (by simp)
      show (sameT _).toS _ = _
      rw [e1] <;> rfl
    · rw [List.concat_eq_append] at e
      subst e
      rw [szs_append] at hs
      simp only [szs] at hs
      have hk := sz_kids d
      have hd : ok1 60 d = true := h d (by simp)
      cases n with
      | zero => omega
      | succ n =>
        have e1 := sameT_run (a := a) (b := b) (x3 := x3) (x4 := x4) (k := k) h
        have hll := len_szs r
        have hlk := len_szs (kids d)
        have e2 := same_body (a := a) (b := b) (x3 := x3) (x4 := x4) (k := k) (todo := r.map pr) hd (by rw [List.length_map]; omega)
        have hkids : ∀ e ∈ kids d, ok1 60 e = true := by
          cases d with
          | tuple ds => exact ok1_kids (.inl hd)
          | list ds => exact ok1_kids (.inr hd)
          | _ => intro e he; cases he
        obtain ⟨y3, y4, e3⟩ := same_loop (a := a) (b := b) (k := k) n (r ++ kids d) (.dat d) (.dat d) (fun x hx => by
          rcases List.mem_append.mp hx with hx | hx
          · exact h x (by simp [hx])
          · exact hkids x hx) (by rw [szs_append]; omega) (by omega)
        refine ⟨y3, y4, ?_⟩
        show (sameT _).toS _ = _
        rw [e1]
        have e4 : (!(r ++ [d]).isEmpty) = true := by simp
        rw [e4]
        show (match sameB _ with
          | .nx s' => whileL sameT sameB (n + 1) s'
          | .ct s' => whileL sameT sameB (n + 1) s'
          | .bk s' => .nx s'
          | x => x) = _
        rw [List.map_append]
        show (match sameB ⟨[a, b, .lst (r.map pr ++ [pr d]), x3, x4], k⟩ with
          | .nx s' => whileL sameT sameB (n + 1) s'
          | .ct s' => whileL sameT sameB (n + 1) s'
          | .bk s' => .nx s'
          | x => x) = _
        rw [e2, ← List.map_append]
        exact e3
theorem q_same {d : D} {k : Option Deck} (h : ok1 60 d = true) (hs : sz d < 1000000) : r__law_same ⟨[.dat d, .dat d], k⟩ = .ok (.bool true) k := by
  obtain ⟨y3, y4, e⟩ := same_loop (a := .dat d) (b := .dat d) (k := k) 999999 [d] .unk .unk (by simpa using h) (by simp only [szs]; omega) (by unfold line; omega)
  have e1 : sSetN 2 (nLst [mTup [mVar 0, mVar 1]]) ⟨[.dat d, .dat d, .unk, .unk, .unk], k⟩ = .nx ⟨[.dat d, .dat d, .lst ([d].map pr), .unk, .unk], k⟩ := by
    simp [sSetN, nLst, evalM, mTup, mVar, R.bind, R.toS, line, pr]
  refine fnM_rt (pad := 3) (s := ⟨[.dat d, .dat d], k⟩) (s' := ⟨[.dat d, .dat d, .lst [], y3, y4], k⟩) ?_
  show m__law_same ⟨[.dat d, .dat d, .unk, .unk, .unk], k⟩ = _
  unfold m__law_same
  rw [sSeq_nx e1]
  have e2 : sWhile fu__law_same_0 (toB (mF dNe [.sl 2, .m (mFrz (nLst []))])) sameB ⟨[.dat d, .dat d, .lst ([d].map pr), .unk, .unk], k⟩ = .nx ⟨[.dat d, .dat d, .lst [], y3, y4], k⟩ := e
  exact (sSeq_nx e2).trans rfl
end Lw

set_option Elab.async false
set_option linter.all false
set_option maxRecDepth 100000
/-! rules for loops and comprehensions over mirrors. -/
namespace Lf
open PySem PySem.Spec PyProof.Rows L2
/-- one turn of a loop -/
def turn (p : Pat) (body : MS) (d : D) : MS := fun s => match asgP p d s.ρ with
  | none => .bad
  | some ρ' => body { s with ρ := ρ' }
theorem forL_cons {p : Pat} {body : MS} {d : D} {r : List D} {s s' : S0} (h : turn p body d s = .nx s') : forL p body (d :: r) s = forL p body r s' := by
  unfold turn at h
  conv => lhs; unfold forL
  cases e : asgP p d s.ρ with
  | none =>
    rw [e] at h
    cases h
  | some ρ' =>
    rw [e] at h
    show (match body { s with ρ := ρ' } with
      | .nx s' => forL p body r s'
      | .ct s' => forL p body r s'
      | .bk s' => .nx s'
      | x => x) = _
    rw [show body { s with ρ := ρ' } = .nx s' from h]
theorem forL_bk {p : Pat} {body : MS} {d : D} {r : List D} {s s' : S0} (h : turn p body d s = .bk s') : forL p body (d :: r) s = .nx s' := by
  unfold turn at h
  conv => lhs; unfold forL
  cases e : asgP p d s.ρ with
  | none =>
    rw [e] at h
    cases h
  | some ρ' =>
    rw [e] at h
    show (match body { s with ρ := ρ' } with
      | .nx s' => forL p body r s'
      | .ct s' => forL p body r s'
      | .bk s' => .nx s'
      | x => x) = _
    rw [show body { s with ρ := ρ' } = .bk s' from h]
theorem forL_rt {p : Pat} {body : MS} {d v : D} {r : List D} {s s' : S0} (h : turn p body d s = .rt v s') : forL p body (d :: r) s = .rt v s' := by
  unfold turn at h
  conv => lhs; unfold forL
  cases e : asgP p d s.ρ with
  | none =>
    rw [e] at h
    cases h
  | some ρ' =>
    rw [e] at h
    show (match body { s with ρ := ρ' } with
      | .nx s' => forL p body r s'
      | .ct s' => forL p body r s'
      | .bk s' => .nx s'
      | x => x) = _
    rw [show body { s with ρ := ρ' } = .rt v s' from h]
/-- a loop by what holds behind each beginning -/
theorem forL_pre {p : Pat} {body : MS} {ds : List D} (I : List D → S0 → Prop) (hI : ∀ (pre : List D) (d : D) (post : List D) (s : S0), ds = pre ++ d :: post → I pre s → ∃ s', turn p body d s = .nx s' ∧ I (pre ++ [d]) s') :
    ∀ (pre post : List D) (s : S0), ds = pre ++ post → I pre s → ∃ s', forL p body post s = .nx s' ∧ I ds s'
  | pre, [], s, e, h => ⟨s, rfl, by rw [e, List.append_nil]; exact h⟩
  | pre, d :: post, s, e, h => by
    obtain ⟨s1, e1, h1⟩ := hI pre d post s e h
    obtain ⟨s2, e2, h2⟩ := forL_pre I hI (pre ++ [d]) post s1 (by rw [e, List.append_assoc] <;> rfl) h1
    exact ⟨s2, (forL_cons e1).trans e2, h2⟩
theorem forL_ind {p : Pat} {body : MS} {ds : List D} {s : S0} (I : List D → S0 → Prop) (h0 : I [] s) (hI : ∀ (pre : List D) (d : D) (post : List D) (s : S0), ds = pre ++ d :: post → I pre s → ∃ s', turn p body d s = .nx s' ∧ I (pre ++ [d]) s') : ∃ s', forL p body ds s = .nx s' ∧ I ds s' :=
  forL_pre I hI [] ds s rfl h0
theorem sFor_of {mi : S0 → R (List D)} {p : Pat} {body : MS} {s s1 : S0} {ds : List D} (h : mi s = .ok ds s1) : sFor mi p body s = forL p body ds s1 := by
  unfold sFor
  rw [h] <;> rfl
theorem turn_nm {v : Nat} {body : MS} {d : D} {s : S0} (hv : v < s.ρ.length) : turn (.nm v) body d s = body { s with ρ := s.ρ.set v (.dat d) } := by
  unfold turn
  show (match (if v < s.ρ.length then some (s.ρ.set v (.dat d)) else none) with
    | none => RS.bad
    | some ρ' => body { s with ρ := ρ' }) = _
  rw [if_pos hv]
/-- a comprehension whose elements may change the deck -/
theorem lcL_st {v : Nat} {m : S0 → R D} {ρ : List SV} (hv : v < ρ.length) {G : Nat → Option Deck → Prop} {T : Nat → D → D → Prop} : ∀ (ds acc : List D) (n : Nat) (k : Option Deck), G n k →
    (∀ n k d, d ∈ ds → G n k → ∃ y k', m ⟨ρ.set v (.dat d), k⟩ = .ok y ⟨ρ.set v (.dat d), k'⟩ ∧ T n d y ∧ G (n + 1) k') → acc.length + ds.length ≤ line →
    ∃ ys k', lcL (.nm v) [v] tYesM m ds acc ⟨ρ.set v .unk, k⟩ = .ok (acc ++ ys) ⟨ρ.set v .unk, k'⟩ ∧ ys.length = ds.length ∧ (∀ i d y, ds[i]? = some d → ys[i]? = some y → T (n + i) d y) ∧ G (n + ds.length) k'
  | [], acc, n, k, hg, _, _ => ⟨[], k, by
      rw [List.append_nil] <;> rfl, rfl, fun i d y e => by simp at e, hg⟩
  | d :: r, acc, n, k, hg, hm, hl => by
    have h1 : acc.length < line := by
      rw [List.length_cons] at hl
      omega
    obtain ⟨y, k1, e2, t1, g1⟩ := hm n k d List.mem_cons_self hg
    obtain ⟨ys, k2, e4, l4, t4, g4⟩ := lcL_st (m := m) hv (G := G) (T := T) r (acc ++ [y]) (n + 1) k1 g1 (fun n k z hz => hm n k z (List.mem_cons_of_mem _ hz)) (by rw [List.length_append]; simp only [List.length_cons, List.length_nil] at hl ⊢; omega)
    refine ⟨y :: ys, k2, ?_, by rw [List.length_cons, List.length_cons, l4], fun i d' y' e e' => ?_, by rw [List.length_cons, ← Nat.add_assoc, Nat.add_right_comm]; exact g4⟩
    · have e1 : asgP (.nm v) d (ρ.set v .unk) = some (ρ.set v (.dat d)) := by
        show (if v < (ρ.set v .unk).length then some ((ρ.set v .unk).set v (.dat d)) else none) = _
        rw [if_pos (by simpa using hv), List.set_set]
      unfold lcL
      show (match asgP (.nm v) d (ρ.set v .unk) with
        | none => R.bad
        | some ρ' => _) = _
      rw [e1]
      show (match m ⟨ρ.set v (.dat d), k⟩ with
        | .ok y s2 => if acc.length < line then lcL (.nm v) [v] tYesM m r (acc ++ [y]) (wipeS [v] s2) else .bad
        | _ => .bad) = _
      rw [e2]
      show (if acc.length < line then lcL (.nm v) [v] tYesM m r (acc ++ [y]) (wipeS [v] ⟨ρ.set v (.dat d), k1⟩) else .bad) = _
      have e3 : wipeS [v] ⟨ρ.set v (.dat d), k1⟩ = ⟨ρ.set v .unk, k1⟩ := by
        show (⟨(ρ.set v (.dat d)).set v .unk, k1⟩ : S0) = _
        rw [List.set_set]
      rw [if_pos h1, e3, e4, List.append_assoc] <;> rfl
    · cases i with
      | zero =>
        simp at e e'
        subst e e'
        exact t1
      | succ i =>
        have := t4 i d' y' (by simpa using e) (by simpa using e')
        rw [Nat.add_assoc, Nat.add_comm 1 i] at this
        exact this
theorem mLc_st {v : Nat} {m : S0 → R D} {mi : S0 → R (List D)} {s : S0} {ρ : List SV} {G : Nat → Option Deck → Prop} {T : Nat → D → D → Prop} {n : Nat} {k : Option Deck} {ds : List D} (hmi : mi s = .ok ds ⟨ρ, k⟩) (hv : v < ρ.length) (hl : ds.length ≤ line) (hg : G n k)
    (hm : ∀ n k d, d ∈ ds → G n k → ∃ y k', m ⟨ρ.set v (.dat d), k⟩ = .ok y ⟨ρ.set v (.dat d), k'⟩ ∧ T n d y ∧ G (n + 1) k') :
    ∃ ys k', mLc (.nm v) [v] mi tYesM m s = .ok ys ⟨ρ, k'⟩ ∧ ys.length = ds.length ∧ (∀ i d y, ds[i]? = some d → ys[i]? = some y → T (n + i) d y) ∧ G (n + ds.length) k' := by
  obtain ⟨ys, k', h, h2, h3, h4⟩ := lcL_st (m := m) hv (G := G) (T := T) ds [] n k hg hm (by simpa using hl)
  refine ⟨ys, k', ?_, h2, h3, h4⟩
  unfold mLc
  rw [hmi]
  show (match lcL (.nm v) [v] tYesM m ds [] ⟨ρ.set v .unk, k⟩ with
    | .ok acc s2 => R.ok acc { s2 with ρ := backR ρ s2.ρ [v] }
    | _ => .bad) = _
  rw [h]
  show R.ok _ (⟨(ρ.set v .unk).set v (ρ[v]?.getD .unk), k'⟩ : S0) = _
  rw [List.set_set, set_back hv] <;> rfl
/-! numbers -/
def nD (n : Nat) : D := .int n
def nsD (ns : List Nat) : List D := ns.map nD
theorem asInts_ns : ∀ ns : List Nat, asInts (nsD ns) = some (ns.map Int.ofNat)
  | [] => rfl
  | n :: r => by
    show (asInts (nsD r)).map (Int.ofNat n :: ·) = _
    rw [asInts_ns r] <;> rfl
theorem sum_ofNat : ∀ ns : List Nat, (ns.map Int.ofNat).sum = (ns.sum : Nat)
  | [] => rfl
  | n :: r => by
    rw [List.map_cons, List.sum_cons, List.sum_cons, sum_ofNat r]
    show (n : Int) + _ = _
    omega
theorem dSum_lst (ns : List Nat) : dSum [.list (nsD ns)] = some (nD ns.sum) := by
  show (asInts (nsD ns)).map (fun ns => PyData.int ns.sum) = _
  rw [asInts_ns]
  show some (PyData.int _) = _
  rw [sum_ofNat] <;> rfl
theorem dSum_tup (ns : List Nat) : dSum [.tuple (nsD ns)] = some (nD ns.sum) := by
  show (asInts (nsD ns)).map (fun ns => PyData.int ns.sum) = _
  rw [asInts_ns]
  show some (PyData.int _) = _
  rw [sum_ofNat] <;> rfl
theorem fl_nn {a b : Nat} (hb : 0 < b) (hb2 : b < 9223372036854775808) : dFloor [nD a, nD b] = some (nD (a / b)) := by
  have h1 : b < 2 ^ 9000 := Nat.lt_of_lt_of_le (show b < 2 ^ 64 by omega) (Nat.pow_le_pow_right (by decide) (by decide))
  have h : 0 < (b : Int) ∧ (b : Int).natAbs.log2 < 9000 := ⟨by omega, by
    rw [Int.natAbs_natCast]
    exact (Nat.log2_lt (by omega)).mpr h1⟩
  show (if 0 < (b : Int) ∧ (b : Int).natAbs.log2 < 9000 then some (PyData.int ((a : Int) / (b : Int))) else _) = _
  rw [if_pos h] <;> rfl
theorem md_nn {a b : Nat} (hb : 0 < b) : dMod [nD a, nD b] = some (nD (a % b)) := by
  show (if (b : Int) = 0 then none else some (PyData.int ((a : Int).fmod (b : Int)))) = _
  rw [if_neg (by omega)]
  have : (a : Int).fmod (b : Int) = ((a % b : Nat) : Int) := by
    rw [Int.fmod_eq_emod_of_nonneg _ (by omega)] <;> rfl
  rw [this] <;> rfl
theorem ml_nn {a b : Nat} (ha : a < 9223372036854775808) (hb : b < 9223372036854775808) : dMulA [nD a, nD b] = some (nD (a * b)) := by
  have h := dMul_ok (i := (a : Int)) (j := (b : Int)) (small64 (z := (a : Int)) (by omega)) (small64 (z := (b : Int)) (by omega))
  refine (show dMulA [nD a, nD b] = dMul [.int a, .int b] from rfl).trans (h.trans ?_)
  rw [← Int.natCast_mul] <;> rfl
theorem ad_nn {a b : Nat} : dAdd [nD a, nD b] = some (nD (a + b)) := by
  show some (PyData.int ((a : Int) + (b : Int))) = _
  rw [← Int.natCast_add] <;> rfl
theorem sb_nn {a b : Nat} (h : b ≤ a) : dSub [nD a, nD b] = some (nD (a - b)) := by
  show some (PyData.int ((a : Int) - (b : Int))) = _
  have : (a : Int) - (b : Int) = ((a - b : Nat) : Int) := by omega
  rw [this] <;> rfl
theorem int_n {a : Nat} : dInt [nD a] = some (nD a) := rfl
theorem abs_n {a : Nat} : dAbs [nD a] = some (nD a) := by
  show some (PyData.int (if (a : Int) < 0 then -(a : Int) else a)) = _
  rw [if_neg (by omega)] <;> rfl
theorem len_l {ds : List D} : dLenA [.list ds] = some (nD ds.length) := rfl
theorem len_t {ds : List D} : dLenA [.tuple ds] = some (nD ds.length) := rfl
theorem eqOk_nn (a b : Nat) : eqOk (nD a) (nD b) = true := by
  simp [eqOk, nD, noDict, SeqAt.shaped, PyData.canLay0, PyData.depth]
theorem eqv_nn (a b : Nat) : PyData.eqv (nD a) (nD b) = decide (a = b) := by
  show ((a : Int) == (b : Int)) = _
  by_cases h : a = b
  · subst h
    simp
  · simp [h]
    omega
theorem dEq_nn (a b : Nat) : dEq [nD a, nD b] = some (.bool (decide (a = b))) := by
  show (if eqOk (nD a) (nD b) then some (PyData.bool (PyData.eqv (nD a) (nD b))) else none) = _
  rw [if_pos (eqOk_nn a b), eqv_nn]
theorem dNe_nn (a b : Nat) : dNe [nD a, nD b] = some (.bool (!decide (a = b))) := by
  show (if eqOk (nD a) (nD b) then some (PyData.bool (!PyData.eqv (nD a) (nD b))) else none) = _
  rw [if_pos (eqOk_nn a b), eqv_nn]
theorem ix_l {ds : List D} {i : Nat} : dIx [.list ds, nD i] = ds[i]? := by
  show atI ds (i : Int) = _
  unfold atI ixN
  rw [if_pos (by omega)]
  by_cases h : i < ds.length
  · rw [if_pos (by omega)] <;> rfl
  · rw [if_neg (by omega), List.getElem?_eq_none (by omega)] <;> rfl
theorem ix_t {ds : List D} {i : Nat} : dIx [.tuple ds, nD i] = ds[i]? := by
  show atI ds (i : Int) = _
  unfold atI ixN
  rw [if_pos (by omega)]
  by_cases h : i < ds.length
  · rw [if_pos (by omega)] <;> rfl
  · rw [if_neg (by omega), List.getElem?_eq_none (by omega)] <;> rfl
theorem lt_nn (a b : Nat) : dLt [nD a, nD b] = some (.bool (decide (a < b))) := by
  show some (PyData.bool (decide ((a : Int) < (b : Int)))) = _
  by_cases h : a < b <;> simp [h] <;> omega
theorem ge_nn (a b : Nat) : dGe [nD a, nD b] = some (.bool (decide (b ≤ a))) := by
  show some (PyData.bool (decide ((b : Int) ≤ (a : Int)))) = _
  by_cases h : b ≤ a <;> simp [h] <;> omega
theorem gt_nn (a b : Nat) : dGt [nD a, nD b] = some (.bool (decide (b < a))) := by
  show some (PyData.bool (decide ((b : Int) < (a : Int)))) = _
  by_cases h : b < a <;> simp [h] <;> omega
theorem range_nD (n : Nat) : rangeD 0 n = nsD (List.range n) := by
  unfold rangeD nsD
  apply List.map_congr_left
  intro i _
  show PyData.int (0 + (i : Int)) = _
  rw [Int.zero_add] <;> rfl
theorem mR1_int {o : Opd} {s s1 : S0} {n : Int} (h : evalO [o] s = .ok [.int n] s1) (c : -(2 ^ 62) ≤ n ∧ n < 2 ^ 62) : mRange1 o s = R.ok (rangeD 0 n.toNat) s1 := by
  simp only [mRange1, h, R.bind, c, and_self, if_true]
theorem mR1_of {o : Opd} {s s1 : S0} {n : Nat} (h : evalO [o] s = .ok [nD n] s1) (hn : n < 4611686018427387904) : mRange1 o s = .ok (nsD (List.range n)) s1 := by
  have e := mR1_int (o := o) (s := s) (s1 := s1) (n := (n : Int)) h ⟨by omega, by omega⟩
  rw [e, Int.toNat_natCast, range_nD]
end Lf

set_option Elab.async false
set_option linter.all false
set_option maxRecDepth 100000
/-! k17: divisors, lowest weights, depths. -/
namespace Lf
open PySem PySem.Spec PyProof.Rows L2
theorem lcL_fn {α : Type} {e f : α → D} {v : Nat} {m : S0 → R D} {ρ : List SV} {k : Option Deck} (hv : v < ρ.length) : ∀ (xs : List α) (acc : List D), (∀ x ∈ xs, m ⟨ρ.set v (.dat (e x)), k⟩ = .ok (f x) ⟨ρ.set v (.dat (e x)), k⟩) → acc.length + xs.length ≤ line →
    lcL (.nm v) [v] tYesM m (xs.map e) acc ⟨ρ.set v .unk, k⟩ = .ok (acc ++ xs.map f) ⟨ρ.set v .unk, k⟩
  | [], acc, _, _ => by
    show R.ok acc _ = R.ok (acc ++ []) _
    rw [List.append_nil]
  | x :: r, acc, hm, hl => by
    have h1 : acc.length < line := by
      rw [List.length_cons] at hl
      omega
    have ih := lcL_fn (e := e) (f := f) (m := m) (k := k) hv r (acc ++ [f x]) (fun z hz => hm z (List.mem_cons_of_mem _ hz)) (by rw [List.length_append]; simp only [List.length_cons, List.length_nil] at hl ⊢; omega)
    have e1 : asgP (.nm v) (e x) (ρ.set v .unk) = some (ρ.set v (.dat (e x))) := by
      show (if v < (ρ.set v .unk).length then some ((ρ.set v .unk).set v (.dat (e x))) else none) = _
      rw [if_pos (by simpa using hv), List.set_set]
    have e2 := hm x List.mem_cons_self
    rw [List.map_cons]
    unfold lcL
    show (match asgP (.nm v) (e x) (ρ.set v .unk) with
      | none => R.bad
      | some ρ' => _) = _
    rw [e1]
    show (match m ⟨ρ.set v (.dat (e x)), k⟩ with
      | .ok y s2 => if acc.length < line then lcL (.nm v) [v] tYesM m (r.map e) (acc ++ [y]) (wipeS [v] s2) else .bad
      | _ => .bad) = _
    rw [e2]
    show (if acc.length < line then lcL (.nm v) [v] tYesM m (r.map e) (acc ++ [f x]) (wipeS [v] ⟨ρ.set v (.dat (e x)), k⟩) else .bad) = _
    have e3 : wipeS [v] ⟨ρ.set v (.dat (e x)), k⟩ = ⟨ρ.set v .unk, k⟩ := by
      show (⟨(ρ.set v (.dat (e x))).set v .unk, k⟩ : S0) = _
      rw [List.set_set]
    rw [if_pos h1, e3, ih, List.append_assoc] <;> rfl
/-- a comprehension that tells one thing for each -/
theorem mLc_fn {α : Type} {e f : α → D} {xs : List α} {v : Nat} {m : S0 → R D} {mi : S0 → R (List D)} {s : S0} {ρ : List SV} {k : Option Deck} (hmi : mi s = .ok (xs.map e) ⟨ρ, k⟩) (hv : v < ρ.length) (hl : xs.length ≤ line)
    (hm : ∀ x ∈ xs, m ⟨ρ.set v (.dat (e x)), k⟩ = .ok (f x) ⟨ρ.set v (.dat (e x)), k⟩) : mLc (.nm v) [v] mi tYesM m s = .ok (xs.map f) ⟨ρ, k⟩ := by
  have h := lcL_fn (m := m) (k := k) hv xs [] hm (by simpa using hl)
  unfold mLc
  rw [hmi]
  show (match lcL (.nm v) [v] tYesM m (xs.map e) [] ⟨ρ.set v .unk, k⟩ with
    | .ok acc s2 => R.ok acc { s2 with ρ := backR ρ s2.ρ [v] }
    | _ => .bad) = _
  rw [h]
  show R.ok _ (⟨(ρ.set v .unk).set v (ρ[v]?.getD .unk), k⟩ : S0) = _
  rw [List.set_set, set_back hv] <;> rfl
end Lf
namespace Lw
open PySem PySem.Spec PyProof.Rows L2 NdefX Lf
def divT : S0 → Lf.R Bool := toB (mF dNe [.sl 1, .m (mC (.int 0))])
def divB : MS := sPar 0 1 (svVar 1) (svD (mF dMod [.m (mF dInt [.sl 0]), .sl 1]))
theorem div_loop {k : Option Deck} : ∀ (fu a b : Nat), b < fu → whileL divT divB fu ⟨[.dat (nD a), .dat (nD b)], k⟩ = .nx ⟨[.dat (nD (Nat.gcd b a)), .dat (nD 0)], k⟩
  | 0, a, b, h => by omega
  | fu + 1, a, b, h => by
    have e0 : divT ⟨[.dat (nD a), .dat (nD b)], k⟩ = .ok (!decide (b = 0)) ⟨[.dat (nD a), .dat (nD b)], k⟩ := by
      have := dNe_nn b 0
      simp [divT, toB, mF, evalO, look, SV.val, R.bind, mC]
      rw [show (PyData.int 0) = nD 0 from rfl, this] <;> simp
    show (divT _).toS _ = _
    rw [e0]
    by_cases hb : b = 0
    · subst hb
      rw [Nat.gcd_zero_left] <;> rfl
    · have e1 : divB ⟨[.dat (nD a), .dat (nD b)], k⟩ = .nx ⟨[.dat (nD b), .dat (nD (a % b))], k⟩ := by
        simp [divB, sPar, svVar, svD, R.map, mF, evalO, look, SV.val, R.bind, R.toS, int_n, md_nn (a := a) (b := b) (by omega)]
      have hd : decide (b = 0) = false := by simpa using hb
      rw [hd]
      show (match divB _ with
        | .nx s' => whileL divT divB fu s'
        | .ct s' => whileL divT divB fu s'
        | .bk s' => .nx s'
        | x => x) = _
      rw [e1]
      show whileL divT divB fu _ = _
      have hm := Nat.mod_lt a (show b > 0 by omega)
      rw [div_loop fu b (a % b) (by omega), Nat.gcd_rec b a]
theorem q_divisor (a b : Nat) (hb : b < 1000000) (k : Option Deck) : r__law_divisor ⟨[.dat (nD a), .dat (nD b)], k⟩ = .ok (nD (Nat.gcd b a)) k := by
  have e1 : sPar 0 1 (svD (mF dAbs [.sl 0])) (svD (mF dAbs [.sl 1])) ⟨[.dat (nD a), .dat (nD b)], k⟩ = .nx ⟨[.dat (nD a), .dat (nD b)], k⟩ := by
    simp [sPar, svD, R.map, mF, evalO, look, SV.val, R.bind, R.toS, abs_n]
  have e2 : sWhile fu__law_divisor_0 divT divB ⟨[.dat (nD a), .dat (nD b)], k⟩ = .nx ⟨[.dat (nD (Nat.gcd b a)), .dat (nD 0)], k⟩ := div_loop 1000000 a b hb
  have e3 : sRet (mVar 0) ⟨[.dat (nD (Nat.gcd b a)), .dat (nD 0)], k⟩ = .rt (nD (Nat.gcd b a)) ⟨[.dat (nD (Nat.gcd b a)), .dat (nD 0)], k⟩ := rfl
  exact fnM_rt (pad := 0) (s := ⟨[.dat (nD a), .dat (nD b)], k⟩) ((sSeq_nx e1).trans ((sSeq_nx e2).trans e3))
/-- the greatest common divisor of weights -/
def gcdL (g : Nat) (ws : List Nat) : Nat := ws.foldl (fun g w => Nat.gcd w g) g
theorem low_loop {W u : SV} {k : Option Deck} : ∀ (r : List Nat) (g : Nat) (x : SV), (∀ w ∈ r, w < 1000000) → ∃ y, forL (.nm 2) (sSet 1 (mCall r__law_divisor [.m (mVar 1), .m (mVar 2)])) (nsD r) ⟨[W, .dat (nD g), x, u], k⟩ = .nx ⟨[W, .dat (nD (gcdL g r)), y, u], k⟩
  | [], g, x, _ => ⟨x, rfl⟩
  | w :: r, g, x, h => by
    obtain ⟨y, e⟩ := low_loop r (Nat.gcd w g) (.dat (nD w)) fun z hz => h z (List.mem_cons_of_mem _ hz)
    refine ⟨y, ?_⟩
    refine (forL_cons (r := nsD r) (d := nD w) ?_).trans e
    rw [turn_nm (by simp)]
    simp [sSet, mCall, evalAg, mVar, R.bind, R.toS, RF.toR, q_divisor g w (h w List.mem_cons_self)]
theorem gcdL_pos : ∀ (ws : List Nat) (g : Nat), (0 < g ∨ ∃ w ∈ ws, 0 < w) → 0 < gcdL g ws
  | [], g, h => by
    rcases h with h | ⟨w, h, _⟩
    · exact h
    · cases h
  | w :: r, g, h => by
    refine gcdL_pos r (Nat.gcd w g) ?_
    rcases h with h | ⟨z, hz, hp⟩
    · exact .inl (Nat.gcd_pos_of_pos_right _ h)
    · rcases List.mem_cons.mp hz with e | hz
      · subst e
        exact .inl (Nat.gcd_pos_of_pos_left _ hp)
      · exact .inr ⟨z, hz, hp⟩
theorem gcdL_le : ∀ (ws : List Nat) (g b : Nat), g ≤ b → (∀ w ∈ ws, w ≤ b) → gcdL g ws ≤ b
  | [], g, b, h, _ => h
  | w :: r, g, b, h, hw => by
    refine gcdL_le r (Nat.gcd w g) b ?_ fun z hz => hw z (List.mem_cons_of_mem _ hz)
    by_cases h0 : w = 0
    · subst h0
      rw [Nat.gcd_zero_left]
      exact h
    · exact Nat.le_trans (Nat.gcd_le_left _ (by omega)) (hw w List.mem_cons_self)
def lowW (ws : List Nat) : List Nat := ws.map (· / gcdL 0 ws)
theorem q_lowest (ws : List Nat) (hw : ∀ w ∈ ws, w < 1000000) (hp : ∃ w ∈ ws, 0 < w) (hl : ws.length ≤ 1000) (k : Option Deck) :
    r__law_lowest ⟨[.dat (.tuple (nsD ws))], k⟩ = .ok (.tuple [.list (nsD (lowW ws)), nD (lowW ws).sum]) k := by
  obtain ⟨y, e⟩ := low_loop (W := .dat (.tuple (nsD ws))) (u := .unk) (k := k) ws 0 .unk hw
  have hg := gcdL_pos ws 0 (.inr hp)
  have hgl := gcdL_le ws 0 1000000 (by decide) fun w h => Nat.le_of_lt (hw w h)
  have e1 : sSet 1 (mC (.int 0)) ⟨[.dat (.tuple (nsD ws)), .unk, .unk, .unk], k⟩ = .nx ⟨[.dat (.tuple (nsD ws)), .dat (nD 0), .unk, .unk], k⟩ := by
    simp [sSet, mC, R.toS, nD]
  have e2 : sFor (mItD (mVar 0)) (.nm 2) (sSet 1 (mCall r__law_divisor [.m (mVar 1), .m (mVar 2)])) ⟨[.dat (.tuple (nsD ws)), .dat (nD 0), .unk, .unk], k⟩ = .nx ⟨[.dat (.tuple (nsD ws)), .dat (nD (gcdL 0 ws)), y, .unk], k⟩ := (sFor_of rfl).trans e
  have e3 := mLc_fn (e := nD) (f := fun w => nD (w / gcdL 0 ws)) (xs := ws) (v := 2) (m := mF dFloor [.sl 2, .sl 1]) (mi := mItD (mVar 0)) (s := ⟨[.dat (.tuple (nsD ws)), .dat (nD (gcdL 0 ws)), y, .unk], k⟩) (ρ := [.dat (.tuple (nsD ws)), .dat (nD (gcdL 0 ws)), y, .unk]) (k := k) rfl (by simp) (by unfold line; omega)
    (fun w _ => by simp [mF, evalO, look, SV.val, R.bind, fl_nn (a := w) hg (by omega)])
  have e4 : ws.map (fun w => nD (w / gcdL 0 ws)) = nsD (lowW ws) := by
    unfold lowW nsD
    rw [List.map_map] <;> rfl
  rw [e4] at e3
  have e5 : sSetN 3 (mLc (.nm 2) [2] (mItD (mVar 0)) (tYesM) (mF dFloor [.sl 2, .sl 1])) ⟨[.dat (.tuple (nsD ws)), .dat (nD (gcdL 0 ws)), y, .unk], k⟩ = .nx ⟨[.dat (.tuple (nsD ws)), .dat (nD (gcdL 0 ws)), y, .lst (nsD (lowW ws))], k⟩ := by
    unfold sSetN
    rw [e3] <;> rfl
  have e6 : sRet (mTup [mVar 3, mF dSum [.sl 3]]) ⟨[.dat (.tuple (nsD ws)), .dat (nD (gcdL 0 ws)), y, .lst (nsD (lowW ws))], k⟩ = .rt (.tuple [.list (nsD (lowW ws)), nD (lowW ws).sum]) ⟨[.dat (.tuple (nsD ws)), .dat (nD (gcdL 0 ws)), y, .dat (.list (nsD (lowW ws)))], k⟩ := by
    simp [sRet, mTup, evalM, mVar, mF, evalO, look, SV.val, R.bind, R.toS, dSum_lst, line]
  exact fnM_rt (pad := 3) (s := ⟨[.dat (.tuple (nsD ws))], k⟩) ((sSeq_nx e1).trans ((sSeq_nx e2).trans ((sSeq_nx e5).trans e6)))
end Lw

set_option Elab.async false
set_option linter.all false
set_option maxRecDepth 100000
/-! k17: the depths. -/
namespace Lw
open PySem PySem.Spec PyProof.Rows L2 NdefX Lf
def encK (ns : List Nat) : List Key := ns.map fun (n : Nat) => (Sum.inl (n : Int) : Key)
theorem asKeys_ns : ∀ ns : List Nat, asKeys (nsD ns) = some (encK ns)
  | [] => rfl
  | n :: r => by
    show (asKey (nD n)).bind (fun k => (asKeys (nsD r)).map (k :: ·)) = _
    rw [asKeys_ns r] <;> rfl
theorem encK_inj : ∀ (a b : List Nat), encK a = encK b → a = b
  | [], [], _ => rfl
  | [], _ :: _, h => by cases h
  | _ :: _, [], h => by cases h
  | x :: r, y :: q, h => by
    have h1 := List.cons.inj h
    have h2 : (Sum.inl (x : Int) : Key) = .inl (y : Int) := h1.1
    have h3 : (x : Int) = (y : Int) := Sum.inl.inj h2
    have h4 : x = y := by omega
    rw [h4, encK_inj r q h1.2]
theorem kD_enc : ∀ ns : List Nat, (encK ns).map kD = nsD ns
  | [] => rfl
  | n :: r => by
    show kD (.inl (n : Int)) :: (encK r).map kD = _
    rw [kD_enc r] <;> rfl
def fndK (t : Tw) (j : Nat) : List (List Key × D) := (List.range j).map fun i => (encK (t.R i), nD i)
theorem fndK_succ (t : Tw) (j : Nat) : fndK t (j + 1) = fndK t j ++ [(encK (t.R j), nD j)] := by
  unfold fndK
  rw [List.range_succ, List.map_append] <;> rfl
theorem fndK_len (t : Tw) (j : Nat) : (fndK t j).length = j := by simp [fndK]
theorem val_none {t : Tw} {j : Nat} {r : List Nat} (h : r ∉ t.found j) : valM (fndK t j) (encK r) = none := by
  unfold valM
  have : (fndK t j).find? (fun kv => decide (kv.1 = encK r)) = none := by
    rw [List.find?_eq_none]
    intro kv hkv he
    obtain ⟨i, hi, e⟩ := List.mem_map.mp hkv
    subst e
    have he2 : encK (t.R i) = encK r := by simpa using he
    exact h (List.mem_map.mpr ⟨i, hi, encK_inj _ _ he2⟩)
  rw [this] <;> rfl
theorem val_some {t : Tw} {j : Nat} {r : List Nat} (h : r ∈ t.found j) : ∃ b, b < j ∧ t.R b = r ∧ valM (fndK t j) (encK r) = some (nD b) := by
  unfold valM
  cases e : (fndK t j).find? (fun kv => decide (kv.1 = encK r)) with
  | none =>
    obtain ⟨i, hi, e2⟩ := List.mem_map.mp h
    have := List.find?_eq_none.mp e (encK (t.R i), nD i) (List.mem_map.mpr ⟨i, hi, rfl⟩)
    rw [e2] at this
    simp at this
  | some kv =>
    have h1 := List.find?_some e
    obtain ⟨i, hi, e2⟩ := List.mem_map.mp (List.mem_of_find?_eq_some e)
    subst e2
    exact ⟨i, List.mem_range.mp hi, encK_inj _ _ (show encK (t.R i) = encK r by simpa using h1), rfl⟩
theorem put_new {t : Tw} {j : Nat} (h : t.R j ∉ t.found j) : putM (fndK t j) (encK (t.R j)) (nD j) = fndK t (j + 1) := by
  unfold putM
  have : ((fndK t j).any fun kv => decide (kv.1 = encK (t.R j))) = false := by
    rw [List.any_eq_false]
    intro kv hkv he
    obtain ⟨i, hi, e⟩ := List.mem_map.mp hkv
    subst e
    have he2 : encK (t.R i) = encK (t.R j) := by simpa using he
    exact h (List.mem_map.mpr ⟨i, hi, encK_inj _ _ he2⟩)
  rw [this, fndK_succ] <;> rfl
def depB : MS := (sSeq (sIf (bOr (toB (mF dEq [.m (mF dSum [.sl 4]), .m (mC (.int 0))])) (toB (mDIn (mKy (svVar 4)) 5)))
  (sBk)
  (sNop))
  (sSeq (sDput 5 (mKy (svVar 4)) (mF dLenA [.sl 5]))
  (sSetV 4 (svTl (mFrz (mLc (.nm 6) [6] (mItD (mVar 4)) (tYesM) (mF dMod [.m (mF dInt [.m (mF dMulA [.sl 6, .sl 1])]), .sl 3])))))))
def depS (a : SV) (t : Tw) (j : Nat) (x7 : SV) (k : Option Deck) : S0 := ⟨[a, .dat (nD t.s), .dat (.list (nsD t.ws)), .dat (nD t.W), .tup (nsD (t.R j)), .dt (fndK t j), .unk, x7], k⟩
theorem sum0 (n : Nat) : dEq [nD n, .int 0] = some (.bool (decide (n = 0))) := dEq_nn n 0
theorem lt_R (t : Tw) (j : Nat) : ∀ n ∈ t.R j, n < t.W := by
  intro n h
  obtain ⟨w, _, e⟩ := List.mem_map.mp h
  rw [← e]
  exact Nat.mod_lt _ t.hW
theorem dep_bk {a x7 : SV} {t : Tw} {j : Nat} {k : Option Deck} (h : (t.R j).sum = 0 ∨ t.R j ∈ t.found j) : depB (depS a t j x7 k) = .bk (depS a t j x7 k) := by
  have e1 : toB (mF dEq [.m (mF dSum [.sl 4]), .m (mC (.int 0))]) (depS a t j x7 k) = .ok (decide ((t.R j).sum = 0)) (depS a t j x7 k) := by
    simp [toB, depS, mF, evalO, look, SV.val, R.bind, mC, dSum_tup, sum0]
  have e2 : toB (mDIn (mKy (svVar 4)) 5) (depS a t j x7 k) = .ok (valM (fndK t j) (encK (t.R j))).isSome (depS a t j x7 k) := by
    simp [toB, mDIn, mKy, svVar, depS, kyOf, asKeys_ns, R.bind, dGet]
  have e3 : bOr (toB (mF dEq [.m (mF dSum [.sl 4]), .m (mC (.int 0))])) (toB (mDIn (mKy (svVar 4)) 5)) (depS a t j x7 k) = .ok true (depS a t j x7 k) := by
    unfold bOr
    rw [e1]
    by_cases h0 : (t.R j).sum = 0
    · rw [decide_eq_true h0] <;> rfl
    · rw [decide_eq_false h0]
      show toB (mDIn (mKy (svVar 4)) 5) (depS a t j x7 k) = _
      rw [e2]
      obtain ⟨b, _, _, e⟩ := val_some (h.resolve_left h0)
      rw [e] <;> rfl
  unfold depB
  unfold sSeq
  unfold sIf
  rw [e3] <;> rfl
theorem dep_go {a x7 : SV} {t : Tw} {j : Nat} {k : Option Deck} (h0 : (t.R j).sum ≠ 0) (h : t.R j ∉ t.found j) (hj : j < line) (hW : t.W < 1000000) (hs : t.s < 1000) (hl : t.ws.length ≤ 1000) : depB (depS a t j x7 k) = .nx (depS a t (j + 1) x7 k) := by
  have e1 : toB (mF dEq [.m (mF dSum [.sl 4]), .m (mC (.int 0))]) (depS a t j x7 k) = .ok false (depS a t j x7 k) := by
    simp [toB, depS, mF, evalO, look, SV.val, R.bind, mC, dSum_tup, sum0, h0]
  have e2 : toB (mDIn (mKy (svVar 4)) 5) (depS a t j x7 k) = .ok false (depS a t j x7 k) := by
    simp [toB, mDIn, mKy, svVar, depS, kyOf, asKeys_ns, R.bind, dGet, val_none h]
  have e3 : sIf (bOr (toB (mF dEq [.m (mF dSum [.sl 4]), .m (mC (.int 0))])) (toB (mDIn (mKy (svVar 4)) 5))) sBk sNop (depS a t j x7 k) = .nx (depS a t j x7 k) := by
    unfold sIf bOr
    rw [e1]
    show (toB (mDIn (mKy (svVar 4)) 5) (depS a t j x7 k)).toS _ = _
    rw [e2] <;> rfl
  have e4 : sDput 5 (mKy (svVar 4)) (mF dLenA [.sl 5]) (depS a t j x7 k) = .nx ⟨[a, .dat (nD t.s), .dat (.list (nsD t.ws)), .dat (nD t.W), .tup (nsD (t.R j)), .dt (fndK t (j + 1)), .unk, x7], k⟩ := by
    have hl2 : dLenA [ktD (fndK t j)] = some (nD j) := by
      show some (PyData.int (((fndK t j).map _).length : Nat)) = _
      rw [List.length_map, fndK_len] <;> rfl
    simp [sDput, depS, mF, evalO, look, SV.val, R.bind, R.toS, hl2, isDk', mKy, svVar, kyOf, asKeys_ns, dPut, fndK_len, hj, put_new h]
  have hRl : (t.R j).length ≤ line := by
    unfold Tw.R line
    rw [List.length_map]
    omega
  have e5 := mLc_fn (e := nD) (f := fun n => nD (n * t.s % t.W)) (xs := t.R j) (v := 6) (m := mF dMod [.m (mF dInt [.m (mF dMulA [.sl 6, .sl 1])]), .sl 3]) (mi := mItD (mVar 4)) (s := ⟨[a, .dat (nD t.s), .dat (.list (nsD t.ws)), .dat (nD t.W), .tup (nsD (t.R j)), .dt (fndK t (j + 1)), .unk, x7], k⟩) (ρ := [a, .dat (nD t.s), .dat (.list (nsD t.ws)), .dat (nD t.W), .tup (nsD (t.R j)), .dt (fndK t (j + 1)), .unk, x7]) (k := k) rfl (by simp) hRl
    (fun n hn => by
      have := lt_R t j n hn
      simp [mF, evalO, look, SV.val, R.bind, ml_nn (a := n) (b := t.s) (by omega) (by omega), int_n, md_nn t.hW])
  have e6 : (t.R j).map (fun n => nD (n * t.s % t.W)) = nsD (t.R (j + 1)) := by
    rw [t.R_succ]
    unfold nextR nsD
    rw [List.map_map] <;> rfl
  rw [e6] at e5
  have e7 : sSetV 4 (svTl (mFrz (mLc (.nm 6) [6] (mItD (mVar 4)) (tYesM) (mF dMod [.m (mF dInt [.m (mF dMulA [.sl 6, .sl 1])]), .sl 3])))) ⟨[a, .dat (nD t.s), .dat (.list (nsD t.ws)), .dat (nD t.W), .tup (nsD (t.R j)), .dt (fndK t (j + 1)), .unk, x7], k⟩ = .nx (depS a t (j + 1) x7 k) := by
    unfold sSetV svTl mFrz
    rw [e5] <;> rfl
  exact (sSeq_nx e3).trans ((sSeq_nx e4).trans e7)
theorem dep_loop {a : SV} {t : Tw} {k : Option Deck} {N : Nat} (hN : ∀ d, d < N → (t.R d).sum ≠ 0 ∧ t.R d ∉ t.found d) (hE : (t.R N).sum = 0 ∨ t.R N ∈ t.found N) (hNl : N < line) (hW : t.W < 1000000) (hs : t.s < 1000) (hl : t.ws.length ≤ 1000) :
    ∀ (ds : List D) (j : Nat) (x7 : SV), j ≤ N → N < ds.length + j → ∃ y7, forL (.nm 7) depB ds (depS a t j x7 k) = .nx (depS a t N y7 k)
  | [], j, x7, h1, h2 => by simp at h2; omega
  | d :: r, j, x7, h1, h2 => by
    by_cases e : j = N
    · subst e
      exact ⟨.dat d, forL_bk (by
        rw [turn_nm (by simp [depS])]
        exact dep_bk (x7 := .dat d) hE)⟩
    · obtain ⟨q1, q2⟩ := hN j (by omega)
      obtain ⟨y7, e2⟩ := dep_loop hN hE hNl hW hs hl r (j + 1) (.dat d) (by omega) (by rw [List.length_cons] at h2; omega)
      refine ⟨y7, (forL_cons ?_).trans e2⟩
      rw [turn_nm (by simp [depS])]
      exact dep_go (x7 := .dat d) q1 q2 (by omega) hW hs hl
def backD : Option Nat → D
  | some b => nD b
  | none => .int (-1)
/-- what the depths are: they end, or lead back -/
structure Deps (t : Tw) (N : Nat) (back : Option Nat) : Prop where
  few : N < 31
  new : ∀ d, d < N → (t.R d).sum ≠ 0 ∧ t.R d ∉ t.found d
  ok : match back with
    | some b => b < N ∧ t.R N = t.R b
    | none => (t.R N).sum = 0
theorem q_depths (t : Tw) (ws : List Nat) (h1 : t.W < 25) (h2 : t.s ∈ [2, 3, 4, 6, 12]) (hl : t.ws.length ≤ 1000) (hlow : ∀ k, r__law_lowest ⟨[.dat (.tuple (nsD ws))], k⟩ = .ok (.tuple [.list (nsD t.ws), nD t.W]) k) :
    ∃ N back, Deps t N back ∧ ∀ k, r__law_depths ⟨[.dat (.tuple (nsD ws)), .dat (nD t.s)], k⟩ = .ok (.tuple [.list ((t.found N).map fun r => .tuple (nsD r)), backD back]) k := by
  obtain ⟨N, hN1, hN2, hN3⟩ := t.ends h1 h2
  have hs : t.s < 1000 := by
    simp only [List.mem_cons, List.not_mem_nil, or_false] at h2
    omega
  have hb : ∃ back : Option Nat, Deps t N back ∧ (valM (fndK t N) (encK (t.R N))).getD (.int (-1)) = backD back := by
    by_cases hm : t.R N ∈ t.found N
    · obtain ⟨b, hb1, hb2, hb3⟩ := val_some hm
      exact ⟨some b, ⟨hN1, hN2, hb1, hb2.symm⟩, by rw [hb3] <;> rfl⟩
    · exact ⟨none, ⟨hN1, hN2, hN3.resolve_right hm⟩, by rw [val_none hm] <;> rfl⟩
  obtain ⟨back, hD, hv⟩ := hb
  refine ⟨N, back, hD, fun k => ?_⟩
  have hNl : N < line := by unfold line; omega
  have e1 : sPat (.tup [(.nm 2), (.nm 3)]) (mCall r__law_lowest [.m (mVar 0)]) ⟨[.dat (.tuple (nsD ws)), .dat (nD t.s), .unk, .unk, .unk, .unk, .unk, .unk], k⟩ = .nx ⟨[.dat (.tuple (nsD ws)), .dat (nD t.s), .dat (.list (nsD t.ws)), .dat (nD t.W), .unk, .unk, .unk, .unk], k⟩ := by
    simp [sPat, mCall, evalAg, mVar, R.bind, R.toS, RF.toR, hlow, asgP, asgPs]
  have hwl : t.ws.length ≤ line := by unfold line; omega
  have hwle : ∀ w ∈ t.ws, w ≤ t.W := fun w h => by
    rw [← t.sum]
    exact le_sum _ _ h
  have e2 := mLc_fn (e := nD) (f := fun n => nD (n % t.W)) (xs := t.ws) (v := 6) (m := mF dSub [.sl 6, .m (mF dMulA [.sl 3, .m (mF dFloor [.sl 6, .sl 3])])]) (mi := mItD (mVar 2)) (s := ⟨[.dat (.tuple (nsD ws)), .dat (nD t.s), .dat (.list (nsD t.ws)), .dat (nD t.W), .unk, .unk, .unk, .unk], k⟩) (ρ := [.dat (.tuple (nsD ws)), .dat (nD t.s), .dat (.list (nsD t.ws)), .dat (nD t.W), .unk, .unk, .unk, .unk]) (k := k) rfl (by simp) hwl
    (fun n hn => by
      have := hwle n hn
      have hq : n / t.W ≤ n := Nat.div_le_self _ _
      have hm : t.W * (n / t.W) ≤ n := Nat.mul_div_le _ _
      have he : n - t.W * (n / t.W) = n % t.W := by
        have := Nat.div_add_mod n t.W
        omega
      simp [mF, evalO, look, SV.val, R.bind, fl_nn (a := n) t.hW (by omega), ml_nn (a := t.W) (b := n / t.W) (by omega) (by omega), sb_nn hm, he])
  have e3 : t.ws.map (fun n => nD (n % t.W)) = nsD (t.R 0) := by
    unfold nsD Tw.R
    rw [List.map_map]
    apply List.map_congr_left
    intro w _
    show nD (w % t.W) = nD (w * t.s ^ 0 % t.W)
    rw [Nat.pow_zero, Nat.mul_one]
  rw [e3] at e2
  have e4 : sPar 4 5 (svTl (mFrz (mLc (.nm 6) [6] (mItD (mVar 2)) (tYesM) (mF dSub [.sl 6, .m (mF dMulA [.sl 3, .m (mF dFloor [.sl 6, .sl 3])])])))) ((fun s => .ok (.dt []) s)) ⟨[.dat (.tuple (nsD ws)), .dat (nD t.s), .dat (.list (nsD t.ws)), .dat (nD t.W), .unk, .unk, .unk, .unk], k⟩ = .nx (depS (.dat (.tuple (nsD ws))) t 0 .unk k) := by
    unfold sPar svTl mFrz
    rw [e2] <;> rfl
  obtain ⟨y7, e5⟩ := dep_loop (a := .dat (.tuple (nsD ws))) (k := k) hN2 hN3 hNl (by omega) hs hl (rangeD 0 2000) 0 .unk (Nat.zero_le _) (by simp [rangeD]; omega)
  have e6 : sFor (mRange1 (.m (mC (.int 2000)))) (.nm 7) depB (depS (.dat (.tuple (nsD ws))) t 0 .unk k) = .nx (depS (.dat (.tuple (nsD ws))) t N y7 k) :=
    (sFor_of (mR1_int (o := .m (mC (.int 2000))) (n := 2000) rfl ⟨by omega, by omega⟩)).trans e5
  have e7 : dListA [ktD (fndK t N)] = some (.list ((t.found N).map fun r => .tuple (nsD r))) := by
    show some (PyData.list (((fndK t N).map fun p => (PyData.tuple (p.1.map kD), p.2)).map (·.1))) = _
    rw [List.map_map]
    unfold fndK Tw.found
    rw [List.map_map, List.map_map]
    have : ∀ i, (PyData.tuple ((encK (t.R i)).map kD)) = .tuple (nsD (t.R i)) := fun i => by rw [kD_enc]
    exact congrArg (fun l => some (PyData.list l)) (List.map_congr_left fun i _ => this i)
  have e8 : sRet (mTup [mF dListA [.sl 5], mDGet2 5 (mKy (svVar 4)) (mF dNeg [.m (mC (.int 1))])]) (depS (.dat (.tuple (nsD ws))) t N y7 k) = .rt (.tuple [.list ((t.found N).map fun r => .tuple (nsD r)), backD back]) (depS (.dat (.tuple (nsD ws))) t N y7 k) := by
    simp [sRet, mTup, evalM, depS, mF, evalO, look, SV.val, R.bind, R.toS, e7, mDGet2, isDk', mKy, svVar, kyOf, asKeys_ns, dGet, mC, dNeg, line, hv]
  exact fnM_rt (pad := 6) (s := ⟨[.dat (.tuple (nsD ws)), .dat (nD t.s)], k⟩) ((sSeq_nx e1).trans ((sSeq_nx e4).trans ((sSeq_nx e6).trans e8)))
end Lw

set_option Elab.async false
set_option linter.all false
set_option maxRecDepth 100000
/-! k17: the rows of the tosser. -/
namespace Lf
open PySem PySem.Spec PyProof.Rows L2
theorem lcL_ex {α : Type} {e f : α → D} {v : Nat} {m : S0 → R D} {k : Option Deck} {Pp : List SV → Prop} (hP : ∀ ρ, Pp ρ → v < ρ.length) : ∀ (xs : List α) (acc : List D) (ρ : List SV), Pp ρ →
    (∀ x ∈ xs, ∀ ρ, Pp ρ → ∃ ρ', m ⟨ρ.set v (.dat (e x)), k⟩ = .ok (f x) ⟨ρ'.set v (.dat (e x)), k⟩ ∧ Pp ρ') → acc.length + xs.length ≤ line →
    ∃ ρ', lcL (.nm v) [v] tYesM m (xs.map e) acc ⟨ρ.set v .unk, k⟩ = .ok (acc ++ xs.map f) ⟨ρ'.set v .unk, k⟩ ∧ Pp ρ'
  | [], acc, ρ, hp, _, _ => ⟨ρ, by
    show R.ok acc _ = R.ok (acc ++ []) _
    rw [List.append_nil], hp⟩
  | x :: r, acc, ρ, hp, hm, hl => by
    have h1 : acc.length < line := by
      rw [List.length_cons] at hl
      omega
    obtain ⟨ρ1, e2, hp1⟩ := hm x List.mem_cons_self ρ hp
    obtain ⟨ρ2, ih, hp2⟩ := lcL_ex (e := e) (f := f) (m := m) (k := k) hP r (acc ++ [f x]) ρ1 hp1 (fun z hz => hm z (List.mem_cons_of_mem _ hz)) (by rw [List.length_append]; simp only [List.length_cons, List.length_nil] at hl ⊢; omega)
    have hv := hP ρ hp
    have e1 : asgP (.nm v) (e x) (ρ.set v .unk) = some (ρ.set v (.dat (e x))) := by
      show (if v < (ρ.set v .unk).length then some ((ρ.set v .unk).set v (.dat (e x))) else none) = _
      rw [if_pos (by simpa using hv), List.set_set]
    refine ⟨ρ2, ?_, hp2⟩
    rw [List.map_cons]
    unfold lcL
    show (match asgP (.nm v) (e x) (ρ.set v .unk) with
      | none => R.bad
      | some ρ' => _) = _
    rw [e1]
    show (match m ⟨ρ.set v (.dat (e x)), k⟩ with
      | .ok y s2 => if acc.length < line then lcL (.nm v) [v] tYesM m (r.map e) (acc ++ [y]) (wipeS [v] s2) else .bad
      | _ => .bad) = _
    rw [e2]
    show (if acc.length < line then lcL (.nm v) [v] tYesM m (r.map e) (acc ++ [f x]) (wipeS [v] ⟨ρ1.set v (.dat (e x)), k⟩) else .bad) = _
    have e3 : wipeS [v] ⟨ρ1.set v (.dat (e x)), k⟩ = ⟨ρ1.set v .unk, k⟩ := by
      show (⟨(ρ1.set v (.dat (e x))).set v .unk, k⟩ : S0) = _
      rw [List.set_set]
    rw [if_pos h1, e3, ih, List.append_assoc] <;> rfl
theorem mLc_ex {α : Type} {e f : α → D} {xs : List α} {v : Nat} {m : S0 → R D} {mi : S0 → R (List D)} {s : S0} {ρ : List SV} {k : Option Deck} {Pp : List SV → Prop} (hP : ∀ ρ, Pp ρ → v < ρ.length) (hmi : mi s = .ok (xs.map e) ⟨ρ, k⟩) (hp : Pp ρ) (hl : xs.length ≤ line)
    (hm : ∀ x ∈ xs, ∀ ρ, Pp ρ → ∃ ρ', m ⟨ρ.set v (.dat (e x)), k⟩ = .ok (f x) ⟨ρ'.set v (.dat (e x)), k⟩ ∧ Pp ρ') : ∃ ρ', mLc (.nm v) [v] mi tYesM m s = .ok (xs.map f) ⟨ρ'.set v (ρ[v]?.getD .unk), k⟩ ∧ Pp ρ' := by
  obtain ⟨ρ', h, hp'⟩ := lcL_ex (m := m) (k := k) hP xs [] ρ hp hm (by simpa using hl)
  refine ⟨ρ', ?_, hp'⟩
  unfold mLc
  rw [hmi]
  show (match lcL (.nm v) [v] tYesM m (xs.map e) [] ⟨ρ.set v .unk, k⟩ with
    | .ok acc s2 => R.ok acc { s2 with ρ := backR ρ s2.ρ [v] }
    | _ => .bad) = _
  rw [h]
  show R.ok _ (⟨(ρ'.set v .unk).set v (ρ[v]?.getD .unk), k⟩ : S0) = _
  rw [List.set_set] <;> rfl
theorem cutD_nat {ds : List D} {lo hi : Nat} (h : hi ≤ ds.length) : cutD ds (some (lo : Int)) (some (hi : Int)) = (ds.drop lo).take (hi - lo) := by
  unfold cutD
  rw [HT.sIx_nat, HT.sIx_nat, Nat.min_eq_left h]
  by_cases hl : lo ≤ ds.length
  · rw [Nat.min_eq_left hl]
  · rw [Nat.min_eq_right (by omega), List.drop_length, List.drop_eq_nil_of_le (by omega)]
    simp
theorem rep_l {x : D} {n : Nat} (h : n ≤ line) : dMulA [.list [x], nD n] = some (.list (List.replicate n x)) := by
  have hn := line_le h
  have e : ∀ n, (List.replicate n [x]).flatten = List.replicate n x := by
    intro n
    induction n with
    | zero => rfl
    | succ n ih => rw [List.replicate_succ, List.flatten_cons, ih, List.replicate_succ] <;> rfl
  have c := dMul_rep (xs := [x]) (k := (n : Int)) ⟨by omega, by omega, by rw [Int.toNat_natCast]; simpa using h⟩
  rw [Int.toNat_natCast, e] at c
  exact c
end Lf
namespace Lw
open PySem PySem.Spec PyProof.Rows L2 NdefX Lf
def stD : St → D
  | .dn k => .tuple [.str "done", nD k]
  | .on i => .tuple [.str "on", nD i]
def rowD (r : List St) : D := .tuple (r.map stD)
def rowsD (rs : List (List St)) : D := .tuple (rs.map rowD)
abbrev tosS (a F B : SV) (t : Tw) (kn : List Nat) (s6 x7 x8 x9 x10 x11 x12 x13 x14 : SV) (k : Option Deck) : S0 := ⟨[a, .dat (nD t.s), F, B, .dat (nD t.W), .dat (.list (nsD kn)), s6, x7, x8, x9, x10, x11, x12, x13, x14, .unk], k⟩
def dnB : MS := (sDrop (mExt 11 (mF dMulA [.m (mFrz (nLst [mTup [mC (.str "done"), mVar 12]])), .m (mF dFloor [.m (mF dMulA [.sl 13, .sl 1]), .sl 4])])))
theorem sum_ge : ∀ (ns : List Nat) (x : Nat), x ∈ ns → x ≤ ns.sum := le_sum
theorem dn_turn {a F B s6 x7 x8 x9 x10 x12 x13 x14 : SV} {t : Tw} {kn : List Nat} {k : Option Deck} (hW : t.W < 1000000) (hs : t.s < 1000) {r i : Nat} {acc : List D} (hrW : r < t.W) (hl : acc.length + r * t.s / t.W ≤ line) :
    turn (.tup [(.nm 12), (.nm 13)]) dnB (.tuple [nD i, nD r]) (tosS a F B t kn s6 x7 x8 x9 x10 (.lst acc) x12 x13 x14 k) = .nx (tosS a F B t kn s6 x7 x8 x9 x10 (.lst (acc ++ List.replicate (r * t.s / t.W) (stD (.dn i)))) (.dat (nD i)) (.dat (nD r)) x14 k) := by
  have hl2 : r * t.s / t.W ≤ line := by omega
  have hm : r * t.s < 9223372036854775808 := by
    have : r * t.s ≤ 1000000 * 1000 := Nat.mul_le_mul (by omega) (by omega)
    omega
  have e0 : turn (.tup [(.nm 12), (.nm 13)]) dnB (.tuple [nD i, nD r]) (tosS a F B t kn s6 x7 x8 x9 x10 (.lst acc) x12 x13 x14 k) = dnB (tosS a F B t kn s6 x7 x8 x9 x10 (.lst acc) (.dat (nD i)) (.dat (nD r)) x14 k) := by
    simp [turn, asgP, asgPs]
  rw [e0]
  have e1 : mF dMulA [.sl 13, .sl 1] (tosS a F B t kn s6 x7 x8 x9 x10 (.lst acc) (.dat (nD i)) (.dat (nD r)) x14 k) = .ok (nD (r * t.s)) (tosS a F B t kn s6 x7 x8 x9 x10 (.lst acc) (.dat (nD i)) (.dat (nD r)) x14 k) := mF_ru rfl (ml_nn (by omega) (by omega))
  have e2 : mF dFloor [.m (mF dMulA [.sl 13, .sl 1]), .sl 4] (tosS a F B t kn s6 x7 x8 x9 x10 (.lst acc) (.dat (nD i)) (.dat (nD r)) x14 k) = .ok (nD (r * t.s / t.W)) (tosS a F B t kn s6 x7 x8 x9 x10 (.lst acc) (.dat (nD i)) (.dat (nD r)) x14 k) := mF_ru (ev_m e1 (ev_sl rfl ev_nil rfl)) (fl_nn t.hW (by omega))
  have e3 : mFrz (nLst [mTup [mC (.str "done"), mVar 12]]) (tosS a F B t kn s6 x7 x8 x9 x10 (.lst acc) (.dat (nD i)) (.dat (nD r)) x14 k) = .ok (.list [stD (.dn i)]) (tosS a F B t kn s6 x7 x8 x9 x10 (.lst acc) (.dat (nD i)) (.dat (nD r)) x14 k) := by
    simp [mFrz, nLst, evalM, mTup, mC, mVar, Lf.R.bind, line1, line2, stD]
  exact sDrop_ru (mExt_ru (ys := acc) (xs := acc) rfl (mF_ru (ev_m e3 (ev_m e2 ev_nil)) (rep_l hl2)) rfl (by rw [List.length_replicate]; exact hl))
theorem dn_loop {a F B s6 x7 x8 x9 x10 x14 : SV} {t : Tw} {kn : List Nat} {k : Option Deck} (hW : t.W < 1000000) (hs : t.s < 1000) : ∀ (rs : List Nat) (i : Nat) (acc : List D) (x12 x13 : SV), acc.length + (digits t.W t.s rs).sum ≤ line → (∀ r ∈ rs, r < t.W) →
    ∃ y12 y13, forL (.tup [(.nm 12), (.nm 13)]) dnB (((nsD rs).zipIdx i).map fun p => PyData.tuple [.int (p.2 : Nat), p.1]) (tosS a F B t kn s6 x7 x8 x9 x10 (.lst acc) x12 x13 x14 k) = .nx (tosS a F B t kn s6 x7 x8 x9 x10 (.lst (acc ++ (donesFrom i (digits t.W t.s rs)).map stD)) y12 y13 x14 k) := by
  intro rs
  induction rs with
  | nil =>
    intro i acc x12 x13 _ _
    refine ⟨x12, x13, ?_⟩
    show RS.nx _ = RS.nx _
    simp [digits, donesFrom]
  | cons r rs ih =>
    intro i acc x12 x13 hl hr
    have hd : (digits t.W t.s (r :: rs)).sum = r * t.s / t.W + (digits t.W t.s rs).sum := by simp [digits]
    rw [hd] at hl
    have h1 : acc.length + r * t.s / t.W ≤ line := by omega
    obtain ⟨y12, y13, e⟩ := ih (i + 1) (acc ++ List.replicate (r * t.s / t.W) (stD (.dn i))) (.dat (nD i)) (.dat (nD r)) (by
      rw [List.length_append, List.length_replicate]
      omega) fun z hz => hr z (List.mem_cons_of_mem _ hz)
    refine ⟨y12, y13, (forL_cons (d := .tuple [nD i, nD r]) (dn_turn hW hs (hr r List.mem_cons_self) h1)).trans (e.trans ?_)⟩
    have e2 : acc ++ List.replicate (r * t.s / t.W) (stD (.dn i)) ++ (donesFrom (i + 1) (digits t.W t.s rs)).map stD = acc ++ (donesFrom i (digits t.W t.s (r :: rs))).map stD := by
      have : digits t.W t.s (r :: rs) = r * t.s / t.W :: digits t.W t.s rs := rfl
      rw [this, donesFrom, List.map_append, List.map_replicate, List.append_assoc]
    rw [e2]
/-- the steps that go on -/
theorem on_comp {a F B s6 x7 x8 x9 x11 x12 x13 : SV} {t : Tw} {kn : List Nat} {k : Option Deck} {d left b : Nat} (hs6 : ∃ ss : List Nat, s6 = .lst (nsD ss) ∧ ss[d + 1]? = some b) (hl : left ≤ line) :
    mLc (.nm 15) [15] (mRange1 (.sl 14)) (tYesM) (mTup [mC (.str "on"), mF dAdd [.m (mF dIx [.sl 6, .m (mF dAdd [.sl 10, .m (mC (.int 1))])]), .sl 15]]) (tosS a F B t kn s6 x7 x8 x9 (.dat (nD d)) x11 x12 x13 (.dat (nD left)) k) = .ok ((List.range left).map fun j => stD (.on (b + j))) (tosS a F B t kn s6 x7 x8 x9 (.dat (nD d)) x11 x12 x13 (.dat (nD left)) k) := by
  obtain ⟨ss, rfl, hb⟩ := hs6
  refine mLc_fn (e := nD) (f := fun j => stD (.on (b + j))) (xs := List.range left) (mR1_of rfl (Nat.lt_of_le_of_lt hl (by decide))) (by simp) (by simpa using hl) fun j _ => ?_
  have e1 : dIx [PyData.list (nsD ss), nD (d + 1)] = some (nD b) := by
    rw [ix_l]
    unfold nsD
    rw [List.getElem?_map, hb] <;> rfl
  exact mTup_ru (em_cons rfl (em_cons (mF_ru (ev_m (mF_ru (ev_sl rfl (ev_m (mF_ru (ev_sl rfl (ev_m rfl ev_nil) rfl) (ad_nn (a := d) (b := 1))) ev_nil) rfl) e1) (ev_sl rfl ev_nil rfl)) ad_nn) em_nil)) line2
/-- the rows of a depth -/
theorem row_comp {a F B s6 x7 x8 x9 x12 x13 x14 : SV} {t : Tw} {kn : List Nat} {k : Option Deck} {d n : Nat} {steps : List St} (hkn : kn[d]? = some n) (hst : steps.length = n * t.s) (hn : n ≤ 1000) (hs : t.s < 1000) :
    ∃ y11, mLc (.nm 15) [15] (mRange1 (.m (mF dIx [.sl 5, .sl 10]))) (tYesM) (mF dTuple [.m (mSlice (mVar 11) (some (mF dMulA [.sl 15, .sl 1])) (some (mF dAdd [.m (mF dMulA [.sl 15, .sl 1]), .sl 1])))]) (tosS a F B t kn s6 x7 x8 x9 (.dat (nD d)) (.lst (steps.map stD)) x12 x13 x14 k) = .ok ((chunks t.s steps n).map rowD) (tosS a F B t kn s6 x7 x8 x9 (.dat (nD d)) y11 x12 x13 x14 k) := by
  have e1 : dIx [PyData.list (nsD kn), nD d] = some (nD n) := by
    rw [ix_l]
    unfold nsD
    rw [List.getElem?_map, hkn] <;> rfl
  have e2 : mRange1 (.m (mF dIx [.sl 5, .sl 10])) (tosS a F B t kn s6 x7 x8 x9 (.dat (nD d)) (.lst (steps.map stD)) x12 x13 x14 k) = .ok (nsD (List.range n)) (tosS a F B t kn s6 x7 x8 x9 (.dat (nD d)) (.lst (steps.map stD)) x12 x13 x14 k) :=
    mR1_of (ev_m (mF_ru (ev_sl rfl (ev_sl rfl ev_nil rfl) rfl) e1) ev_nil) (by omega)
  have h := mLc_ex (α := Nat) (e := nD) (f := fun j => rowD ((steps.drop (j * t.s)).take t.s)) (xs := List.range n) (v := 15) (m := mF dTuple [.m (mSlice (mVar 11) (some (mF dMulA [.sl 15, .sl 1])) (some (mF dAdd [.m (mF dMulA [.sl 15, .sl 1]), .sl 1])))]) (mi := mRange1 (.m (mF dIx [.sl 5, .sl 10]))) (k := k)
    (Pp := fun ρ => ∃ y11, (y11 = .lst (steps.map stD) ∨ y11 = .dat (.list (steps.map stD))) ∧ ρ = (tosS a F B t kn s6 x7 x8 x9 (.dat (nD d)) y11 x12 x13 x14 k).ρ) (fun ρ hρ => by
      obtain ⟨_, _, rfl⟩ := hρ
      simp) e2 ⟨_, .inl rfl, rfl⟩ (by
      have := line_big
      rw [List.length_range]
      omega) (fun j hj ρ hρ => by
      obtain ⟨y11, hy, rfl⟩ := hρ
      refine ⟨(tosS a F B t kn s6 x7 x8 x9 (.dat (nD d)) (.dat (.list (steps.map stD))) x12 x13 x14 k).ρ, ?_, _, .inr rfl, rfl⟩
      have hj := List.mem_range.mp hj
      have hjs : j * t.s ≤ 1000 * 1000 := Nat.mul_le_mul (by omega) (by omega)
      have hjn : (j + 1) * t.s ≤ n * t.s := Nat.mul_le_mul_right _ hj
      rw [Nat.add_mul, Nat.one_mul] at hjn
      have e3 : mVar 11 ⟨(tosS a F B t kn s6 x7 x8 x9 (.dat (nD d)) y11 x12 x13 x14 k).ρ.set 15 (.dat (nD j)), k⟩ = .ok (.list (steps.map stD)) ⟨(tosS a F B t kn s6 x7 x8 x9 (.dat (nD d)) (.dat (.list (steps.map stD))) x12 x13 x14 k).ρ.set 15 (.dat (nD j)), k⟩ := by
        rcases hy with rfl | rfl <;> rfl
      have e4 : mF dMulA [.sl 15, .sl 1] ⟨(tosS a F B t kn s6 x7 x8 x9 (.dat (nD d)) (.dat (.list (steps.map stD))) x12 x13 x14 k).ρ.set 15 (.dat (nD j)), k⟩ = .ok (nD (j * t.s)) ⟨(tosS a F B t kn s6 x7 x8 x9 (.dat (nD d)) (.dat (.list (steps.map stD))) x12 x13 x14 k).ρ.set 15 (.dat (nD j)), k⟩ :=
        mF_ru rfl (ml_nn (by omega) (by omega))
      have e5 := mSlice_ru (hi := mF dAdd [.m (mF dMulA [.sl 15, .sl 1]), .sl 1]) e3 e4 (mF_ru (ev_m e4 (ev_sl rfl ev_nil rfl)) ad_nn)
      have e6 : cutD (steps.map stD) (some ((j * t.s : Nat) : Int)) (some ((j * t.s + t.s : Nat) : Int)) = ((steps.drop (j * t.s)).take t.s).map stD := by
        rw [cutD_nat (by rw [List.length_map, hst]; omega), ← List.map_drop, ← List.map_take]
        have : j * t.s + t.s - j * t.s = t.s := by omega
        rw [this]
      rw [e6] at e5
      exact mF_ru (ev_m e5 ev_nil) rfl)
  obtain ⟨ρ', h1, y11, hy, rfl⟩ := h
  refine ⟨y11, h1.trans ?_⟩
  have : (List.range n).map (fun j => rowD ((steps.drop (j * t.s)).take t.s)) = (chunks t.s steps n).map rowD := by
    unfold chunks
    rw [List.map_map] <;> rfl
  rw [this] <;> rfl
end Lw

set_option Elab.async false
set_option linter.all false
set_option maxRecDepth 100000
/-! k17: the tosser. -/
namespace Lf
open PySem PySem.Spec PyProof.Rows L2
theorem ix_last {xs : List D} {d : D} : dIx [.list (xs ++ [d]), .int (-1)] = some d := by
  show atI (xs ++ [d]) (-1) = _
  unfold atI ixN
  have h : ((xs ++ [d]).length : Int) = xs.length + 1 := by simp
  have e : (-1 + ((xs ++ [d]).length : Int)).toNat = xs.length := by omega
  rw [if_neg (by omega), if_pos (by omega), e]
  show (xs ++ [d])[xs.length]? = some d
  simp
theorem sSetAt_ru {i : Nat} {mk mv : S0 → Lf.R D} {s s1 s2 : S0} {d : D} {ys xs : List D} {j : Nat} {kd : Int} (h : mv s = .ok d s1) (h0 : s1.ρ[i]? = some (.lst ys)) (hk : mk s1 = .ok (.int kd) s2) (h1 : s2.ρ[i]? = some (.lst xs)) (hj : ixN xs.length kd = some j) :
    sSetAt i mk mv s = .nx { s2 with ρ := s2.ρ.set i (.lst (xs.set j d)) } := by
  unfold sSetAt
  rw [h]
  show (match s1.ρ[i]? with
    | some (.lst _) => (mk s1).toS fun kd s2 => (match s2.ρ[i]?, kd with
      | some (.lst xs), .int k => (match ixN xs.length k with
        | some j => RS.nx { s2 with ρ := s2.ρ.set i (.lst (xs.set j d)) }
        | none => .bad)
      | _, _ => .bad)
    | _ => .bad) = _
  rw [h0]
  show (mk s1).toS _ = _
  rw [hk]
  show (match s2.ρ[i]?, PyData.int kd with
      | some (.lst xs), .int k => (match ixN xs.length k with
        | some j => RS.nx { s2 with ρ := s2.ρ.set i (.lst (xs.set j d)) }
        | none => .bad)
      | _, _ => .bad) = _
  rw [h1]
  show (match ixN xs.length kd with
        | some j => RS.nx { s2 with ρ := s2.ρ.set i (.lst (xs.set j d)) }
        | none => .bad) = _
  rw [hj]
theorem ixN_last {n : Nat} (h : 0 < n) : ixN n (-1) = some (n - 1) := by
  unfold ixN
  rw [if_neg (by omega)]
  have : (-1 : Int) + (n : Int) = ((n - 1 : Nat) : Int) := by omega
  simp [this]
  omega
end Lf
namespace Lw
open PySem PySem.Spec PyProof.Rows L2 NdefX Lf
def scanF : Nat → List Nat → List Nat
  | _, [] => []
  | l, m :: r => (l + m) :: scanF (l + m) r
theorem scanF_len : ∀ (ms : List Nat) (l : Nat), (scanF l ms).length = ms.length
  | [], _ => rfl
  | m :: r, l => by simp [scanF, scanF_len r]
theorem scanF_get (W : Nat) : ∀ (rs : List (List Nat)) (l i : Nat), i ≤ rs.length → (l :: scanF l (rs.map (knots W)))[i]? = some (l + before W rs i)
  | rs, l, 0, _ => by
    rw [before_zero]
    simp
  | [], l, i + 1, h => by simp at h
  | r :: rs, l, i + 1, h => by
    have ih := scanF_get W rs (l + knots W r) i (by simpa using h)
    simp only [List.map_cons, scanF, before]
    rw [List.getElem?_cons_succ, ih, Nat.add_assoc]
def scB : MS := (sDrop (mApp 6 (mF dAdd [.m (mF dIx [.sl 6, .m (mF dNeg [.m (mC (.int 1))])]), .sl 8])))
theorem sc_loop {a F B x7 x9 x10 x11 x12 x13 x14 : SV} {t : Tw} {kn : List Nat} {k : Option Deck} : ∀ (ms : List Nat) (ss : List Nat) (l : Nat) (x8 : SV), ss.length + ms.length + 1 < line → ∃ y8, forL (.nm 8) scB (nsD ms) (tosS a F B t kn (.lst (nsD ss ++ [nD l])) x7 x8 x9 x10 x11 x12 x13 x14 k) = .nx (tosS a F B t kn (.lst (nsD (ss ++ l :: scanF l ms))) x7 y8 x9 x10 x11 x12 x13 x14 k) := by
  intro ms
  induction ms with
  | nil =>
    intro ss l x8 _
    refine ⟨x8, ?_⟩
    show RS.nx _ = RS.nx _
    simp [scanF, nsD]
  | cons m r ih =>
    intro ss l x8 hl
    rw [List.length_cons] at hl
    obtain ⟨y8, e⟩ := ih (ss ++ [l]) (l + m) (.dat (nD m)) (by
      rw [List.length_append]
      simp only [List.length_cons, List.length_nil]
      omega)
    refine ⟨y8, (forL_cons (r := nsD r) (d := nD m) (s' := tosS a F B t kn (.lst (nsD (ss ++ [l]) ++ [nD (l + m)])) x7 (.dat (nD m)) x9 x10 x11 x12 x13 x14 k) ?_).trans (e.trans ?_)⟩
    · have e1 : nsD ss ++ [nD l] = nsD (ss ++ [l]) := by simp [nsD]
      rw [e1]
      have e0 : turn (.nm 8) scB (nD m) (tosS a F B t kn (.lst (nsD (ss ++ [l]))) x7 x8 x9 x10 x11 x12 x13 x14 k) = scB (tosS a F B t kn (.lst (nsD (ss ++ [l]))) x7 (.dat (nD m)) x9 x10 x11 x12 x13 x14 k) := by
        rw [turn_nm (by simp)] <;> rfl
      rw [e0]
      have e2 : dIx [PyData.list (nsD (ss ++ [l])), .int (-1)] = some (nD l) := by
        rw [← e1]
        exact ix_last
      have e3 : mF dAdd [.m (mF dIx [.sl 6, .m (mF dNeg [.m (mC (.int 1))])]), .sl 8] (tosS a F B t kn (.lst (nsD (ss ++ [l]))) x7 (.dat (nD m)) x9 x10 x11 x12 x13 x14 k) = .ok (nD (l + m)) (tosS a F B t kn (.lst (nsD (ss ++ [l]))) x7 (.dat (nD m)) x9 x10 x11 x12 x13 x14 k) :=
        mF_ru (ev_m (mF_ru (ev_sl rfl (ev_m (mF_ru (ds := [.int 1]) rfl rfl) ev_nil) rfl) e2) (ev_sl rfl ev_nil rfl)) ad_nn
      exact sDrop_ru (mApp_ru (ys := nsD (ss ++ [l])) (xs := nsD (ss ++ [l])) rfl e3 rfl (by simp [nsD]; omega))
    · have : ss ++ [l] ++ (l + m) :: scanF (l + m) r = ss ++ l :: scanF l (m :: r) := by simp [scanF]
      rw [this]
def outB : MS := (sSeq (sSetN 11 (nLst []))
  (sSeq (sFor (mEnum (mVar 7)) (.tup [(.nm 12), (.nm 13)])
  dnB)
  (sSeq (sSet 14 (mF dSub [.m (mF dMulA [.m (mF dIx [.sl 5, .sl 10]), .sl 1]), .m (mF dLenA [.sl 11])]))
  (sSeq (sDrop (mExt 11 (mFrz (mLc (.nm 15) [15] (mRange1 (.sl 14)) (tYesM) (mTup [mC (.str "on"), mF dAdd [.m (mF dIx [.sl 6, .m (mF dAdd [.sl 10, .m (mC (.int 1))])]), .sl 15]])))))
  (sDrop (mExt 9 (mFrz (mLc (.nm 15) [15] (mRange1 (.m (mF dIx [.sl 5, .sl 10]))) (tYesM) (mF dTuple [.m (mSlice (mVar 11) (some (mF dMulA [.sl 15, .sl 1])) (some (mF dAdd [.m (mF dMulA [.sl 15, .sl 1]), .sl 1])))])))))))))
theorem out_turn {a F B x7 x8 x10 x11 x12 x13 x14 : SV} {t : Tw} {kn ss : List Nat} {k : Option Deck} {d b : Nat} {acc : List D} (hW : t.W < 1000000) (hs : t.s < 1000) (hws : t.ws.length ≤ 1000) (hkn : kn[d]? = some (knots t.W (t.R d))) (hss : ss[d + 1]? = some b) (hacc : acc.length + 1000 ≤ line) :
    ∃ y11 y12 y13 y14, turn (.tup [(.nm 10), (.nm 7)]) outB (.tuple [nD d, .tuple (nsD (t.R d))]) (tosS a F B t kn (.lst (nsD ss)) x7 x8 (.lst acc) x10 x11 x12 x13 x14 k) = .nx (tosS a F B t kn (.lst (nsD ss)) (.dat (.tuple (nsD (t.R d)))) x8 (.lst (acc ++ (chunks t.s (stepsOf t.W t.s (t.R d) b) (knots t.W (t.R d))).map rowD)) (.dat (nD d)) y11 y12 y13 y14 k) := by
  have hkl := t.knots_le d
  have hn : knots t.W (t.R d) ≤ 1000 := by omega
  have hns : knots t.W (t.R d) * t.s ≤ 1000 * 1000 := Nat.mul_le_mul hn (by omega)
  have hbig := line_big
  have hleft := t.left d
  have hdl : (donesFrom 0 (digits t.W t.s (t.R d))).length = (digits t.W t.s (t.R d)).sum := dones_len _ _
  have e0 : turn (.tup [(.nm 10), (.nm 7)]) outB (.tuple [nD d, .tuple (nsD (t.R d))]) (tosS a F B t kn (.lst (nsD ss)) x7 x8 (.lst acc) x10 x11 x12 x13 x14 k) = outB (tosS a F B t kn (.lst (nsD ss)) (.dat (.tuple (nsD (t.R d)))) x8 (.lst acc) (.dat (nD d)) x11 x12 x13 x14 k) := by
    simp [turn, asgP, asgPs]
  have e1 : sSetN 11 (nLst []) (tosS a F B t kn (.lst (nsD ss)) (.dat (.tuple (nsD (t.R d)))) x8 (.lst acc) (.dat (nD d)) x11 x12 x13 x14 k) = .nx (tosS a F B t kn (.lst (nsD ss)) (.dat (.tuple (nsD (t.R d)))) x8 (.lst acc) (.dat (nD d)) (.lst []) x12 x13 x14 k) :=
    sSetN_ru (nLst_ru em_nil (Nat.zero_le _)) (by simp)
  obtain ⟨y12, y13, e2⟩ := dn_loop (a := a) (F := F) (B := B) (s6 := .lst (nsD ss)) (x7 := .dat (.tuple (nsD (t.R d)))) (x8 := x8) (x9 := .lst acc) (x10 := .dat (nD d)) (x14 := x14) (t := t) (kn := kn) (k := k) hW hs (t.R d) 0 [] x12 x13 (by simp only [List.length_nil]; omega) (lt_R t d)
  rw [List.nil_append] at e2
  have e2' := (sFor_of (mi := mEnum (mVar 7)) (p := .tup [(.nm 12), (.nm 13)]) (body := dnB) (s := tosS a F B t kn (.lst (nsD ss)) (.dat (.tuple (nsD (t.R d)))) x8 (.lst acc) (.dat (nD d)) (.lst []) x12 x13 x14 k) (mEnum_ru rfl rfl)).trans e2
  have ek : dIx [PyData.list (nsD kn), nD d] = some (nD (knots t.W (t.R d))) := by
    rw [ix_l]
    unfold nsD
    rw [List.getElem?_map, hkn] <;> rfl
  have elen : dLenA [PyData.list ((donesFrom 0 (digits t.W t.s (t.R d))).map stD)] = some (nD (digits t.W t.s (t.R d)).sum) := by
    rw [len_l, List.length_map, hdl]
  have e3 : sSet 14 (mF dSub [.m (mF dMulA [.m (mF dIx [.sl 5, .sl 10]), .sl 1]), .m (mF dLenA [.sl 11])]) (tosS a F B t kn (.lst (nsD ss)) (.dat (.tuple (nsD (t.R d)))) x8 (.lst acc) (.dat (nD d)) (.lst ((donesFrom 0 (digits t.W t.s (t.R d))).map stD)) y12 y13 x14 k) =
      .nx (tosS a F B t kn (.lst (nsD ss)) (.dat (.tuple (nsD (t.R d)))) x8 (.lst acc) (.dat (nD d)) (.lst ((donesFrom 0 (digits t.W t.s (t.R d))).map stD)) y12 y13 (.dat (nD (knots t.W (t.R d) * t.s - (digits t.W t.s (t.R d)).sum))) k) :=
    sSet_ru (mF_ru (ev_m (mF_ru (ev_m (mF_ru (ev_sl rfl (ev_sl rfl ev_nil rfl) rfl) ek) (ev_sl rfl ev_nil rfl)) (ml_nn (by omega) (by omega))) (ev_m (mF_ru (ev_sl rfl ev_nil rfl) elen) ev_nil)) (sb_nn (by omega))) (by simp)
  have e4 := on_comp (a := a) (F := F) (B := B) (s6 := .lst (nsD ss)) (x7 := .dat (.tuple (nsD (t.R d)))) (x8 := x8) (x9 := .lst acc) (x11 := .lst ((donesFrom 0 (digits t.W t.s (t.R d))).map stD)) (x12 := y12) (x13 := y13) (t := t) (kn := kn) (k := k) (d := d) (left := knots t.W (t.R d) * t.s - (digits t.W t.s (t.R d)).sum) (b := b) ⟨ss, rfl, hss⟩ (by omega)
  have e5 := sDrop_ru (mExt_ru (i := 11) (ys := (donesFrom 0 (digits t.W t.s (t.R d))).map stD) (xs := (donesFrom 0 (digits t.W t.s (t.R d))).map stD) rfl (mFrz_ru e4) rfl (by
    rw [List.length_map, hdl, List.length_map, List.length_range]
    omega))
  have es : (donesFrom 0 (digits t.W t.s (t.R d))).map stD ++ (List.range (knots t.W (t.R d) * t.s - (digits t.W t.s (t.R d)).sum)).map (fun j => stD (.on (b + j))) = (stepsOf t.W t.s (t.R d) b).map stD := by
    unfold stepsOf
    simp only [hdl]
    rw [List.map_append, List.map_map] <;> rfl
  rw [es] at e5
  obtain ⟨y11, e6⟩ := row_comp (a := a) (F := F) (B := B) (s6 := .lst (nsD ss)) (x7 := .dat (.tuple (nsD (t.R d)))) (x8 := x8) (x9 := .lst acc) (x12 := y12) (x13 := y13) (x14 := .dat (nD (knots t.W (t.R d) * t.s - (digits t.W t.s (t.R d)).sum))) (t := t) (kn := kn) (k := k) (d := d) hkn (t.steps_len d b) hn hs
  have e7 := sDrop_ru (mExt_ru (i := 9) (ys := acc) (xs := acc) rfl (mFrz_ru e6) rfl (by
    rw [List.length_map, chunks_len]
    omega))
  exact ⟨y11, y12, y13, _, e0.trans ((sSeq_nx e1).trans ((sSeq_nx e2').trans ((sSeq_nx e3).trans ((sSeq_nx e5).trans e7))))⟩
end Lw

set_option Elab.async false
set_option linter.all false
set_option maxRecDepth 100000
/-! k17: the tosser, whole. -/
namespace Lw
open PySem PySem.Spec PyProof.Rows L2 NdefX Lf
theorem rowsGo_few (W s n : Nat) (sa : Nat → Nat) (rs : List (List Nat)) (d : Nat) (h : ∀ r ∈ rs, knots W r ≤ n) : (rowsGo W s sa rs d).length ≤ rs.length * n := by
  rw [rowsGo_len]
  exact before_le W n rs h rs.length
theorem out_loop {a F B x8 : SV} {t : Tw} {kn ss : List Nat} {k : Option Deck} {sa : Nat → Nat} {N : Nat} (hW : t.W < 1000000) (hs : t.s < 1000) (hws : t.ws.length ≤ 1000) (hN : N ≤ 100) (hkn : ∀ d, d < N → kn[d]? = some (knots t.W (t.R d))) (hss : ∀ d, d < N → ss[d + 1]? = some (sa (d + 1))) :
    ∀ (rs : List (List Nat)) (d : Nat) (acc : List D) (x7 x10 x11 x12 x13 x14 : SV), (∀ i r, rs[i]? = some r → r = t.R (d + i) ∧ d + i < N) → acc.length + rs.length * 1000 + 1000 ≤ line →
    ∃ y7 y10 y11 y12 y13 y14, forL (.tup [(.nm 10), (.nm 7)]) outB ((((rs.map fun r => PyData.tuple (nsD r))).zipIdx d).map fun p => PyData.tuple [.int (p.2 : Nat), p.1]) (tosS a F B t kn (.lst (nsD ss)) x7 x8 (.lst acc) x10 x11 x12 x13 x14 k) =
      .nx (tosS a F B t kn (.lst (nsD ss)) y7 x8 (.lst (acc ++ (rowsGo t.W t.s sa rs d).map rowD)) y10 y11 y12 y13 y14 k) := by
  intro rs
  induction rs with
  | nil =>
    intro d acc x7 x10 x11 x12 x13 x14 _ _
    refine ⟨x7, x10, x11, x12, x13, x14, ?_⟩
    show RS.nx _ = RS.nx _
    simp [rowsGo]
  | cons r rs ih =>
    intro d acc x7 x10 x11 x12 x13 x14 hr hl
    obtain ⟨h1, h2⟩ := hr 0 r rfl
    rw [Nat.add_zero] at h1 h2
    subst h1
    rw [List.length_cons, Nat.add_mul, Nat.one_mul] at hl
    have hk := t.knots_le d
    obtain ⟨y11, y12, y13, y14, e1⟩ := out_turn (a := a) (F := F) (B := B) (x7 := x7) (x8 := x8) (x10 := x10) (x11 := x11) (x12 := x12) (x13 := x13) (x14 := x14) (k := k) (acc := acc) hW hs hws (hkn d h2) (hss d h2) (by omega)
    obtain ⟨z7, z10, z11, z12, z13, z14, e2⟩ := ih (d + 1) (acc ++ (chunks t.s (stepsOf t.W t.s (t.R d) (sa (d + 1))) (knots t.W (t.R d))).map rowD) (.dat (.tuple (nsD (t.R d)))) (.dat (nD d)) y11 y12 y13 y14 (fun i r' h => by
      have := hr (i + 1) r' (by simpa using h)
      have e : d + (i + 1) = d + 1 + i := by omega
      rw [e] at this
      exact this) (by
      rw [List.length_append, List.length_map, chunks_len]
      omega)
    refine ⟨z7, z10, z11, z12, z13, z14, (forL_cons (d := .tuple [nD d, .tuple (nsD (t.R d))]) e1).trans (e2.trans ?_)⟩
    rw [rowsGo, List.map_append, List.append_assoc]
/-- what the tosser is -/
theorem q_tosser (t : Tw) (ws : List Nat) (h1 : t.W < 25) (h2 : t.s ∈ [2, 3, 4, 6, 12]) (hl : t.ws.length ≤ 4) (hlow : ∀ k, r__law_lowest ⟨[.dat (.tuple (nsD ws))], k⟩ = .ok (.tuple [.list (nsD t.ws), nD t.W]) k) :
    ∃ N back, Deps t N back ∧ ∀ k, r__law_tosser ⟨[.dat (.tuple (nsD ws)), .dat (nD t.s)], k⟩ = .ok (rowsD (t.rows N back)) k := by
  obtain ⟨N, back, hD, hdep⟩ := q_depths t ws h1 h2 (by omega) hlow
  refine ⟨N, back, hD, fun k => ?_⟩
  have hs : t.s < 1000 := by
    simp only [List.mem_cons, List.not_mem_nil, or_false] at h2
    omega
  have hN := hD.few
  have hbig := line_big
  let A : SV := .dat (.tuple (nsD ws))
  let F : SV := .dat (.list ((t.found N).map fun r => .tuple (nsD r)))
  let B : SV := .dat (backD back)
  let kn : List Nat := (t.found N).map (knots t.W)
  let ss : List Nat := 0 :: scanF 0 kn
  have hkl : kn.length = N := by simp [kn, t.found_len]
  have hsl : ss.length = N + 1 := by simp [ss, scanF_len, hkl]
  have e1 : sPat (.tup [(.tup [(.nm 2), (.nm 3)]), (.nm 4)]) (mTup [mCall r__law_depths [.m (mVar 0), .m (mVar 1)], mF dIx [.m (mCall r__law_lowest [.m (mVar 0)]), .m (mC (.int 1))]]) ⟨[A, .dat (nD t.s), .unk, .unk, .unk, .unk, .unk, .unk, .unk, .unk, .unk, .unk, .unk, .unk, .unk, .unk], k⟩ = .nx ⟨[A, .dat (nD t.s), F, B, .dat (nD t.W), .unk, .unk, .unk, .unk, .unk, .unk, .unk, .unk, .unk, .unk, .unk], k⟩ := by
    have c1 : mCall r__law_depths [.m (mVar 0), .m (mVar 1)] ⟨[A, .dat (nD t.s), .unk, .unk, .unk, .unk, .unk, .unk, .unk, .unk, .unk, .unk, .unk, .unk, .unk, .unk], k⟩ = .ok (.tuple [.list ((t.found N).map fun r => .tuple (nsD r)), backD back]) ⟨[A, .dat (nD t.s), .unk, .unk, .unk, .unk, .unk, .unk, .unk, .unk, .unk, .unk, .unk, .unk, .unk, .unk], k⟩ := mCall_ru (ga_m rfl (ga_m rfl ga_nil)) (hdep k)
    have c2 : mCall r__law_lowest [.m (mVar 0)] ⟨[A, .dat (nD t.s), .unk, .unk, .unk, .unk, .unk, .unk, .unk, .unk, .unk, .unk, .unk, .unk, .unk, .unk], k⟩ = .ok (.tuple [.list (nsD t.ws), nD t.W]) ⟨[A, .dat (nD t.s), .unk, .unk, .unk, .unk, .unk, .unk, .unk, .unk, .unk, .unk, .unk, .unk, .unk, .unk], k⟩ := mCall_ru (ga_m rfl ga_nil) (hlow k)
    exact sPat_ru (mTup_ru (em_cons c1 (em_cons (mF_ru (ev_m c2 (ev_m rfl ev_nil)) (ix_t (i := 1))) em_nil)) line2) (by simp [asgP, asgPs, F, B])
  have e2 : mLc (.nm 7) [7] (mItD (mVar 2)) (tYesM) (mF dFloor [.m (mF dSum [.sl 7]), .sl 4]) ⟨[A, .dat (nD t.s), F, B, .dat (nD t.W), .unk, .unk, .unk, .unk, .unk, .unk, .unk, .unk, .unk, .unk, .unk], k⟩ = .ok (nsD kn) ⟨[A, .dat (nD t.s), F, B, .dat (nD t.W), .unk, .unk, .unk, .unk, .unk, .unk, .unk, .unk, .unk, .unk, .unk], k⟩ := by
    have h := mLc_fn (e := fun r => PyData.tuple (nsD r)) (f := fun r => nD (knots t.W r)) (xs := t.found N) (v := 7) (m := mF dFloor [.m (mF dSum [.sl 7]), .sl 4]) (mi := mItD (mVar 2)) (s := ⟨[A, .dat (nD t.s), F, B, .dat (nD t.W), .unk, .unk, .unk, .unk, .unk, .unk, .unk, .unk, .unk, .unk, .unk], k⟩) (ρ := [A, .dat (nD t.s), F, B, .dat (nD t.W), .unk, .unk, .unk, .unk, .unk, .unk, .unk, .unk, .unk, .unk, .unk]) (k := k) rfl (by simp) (by rw [t.found_len]; omega)
      fun r _ => mF_ru (ev_m (mF_ru (ev_sl rfl ev_nil rfl) (dSum_tup r)) (ev_sl rfl ev_nil rfl)) (fl_nn t.hW (by omega))
    have e : (t.found N).map (fun r => nD (knots t.W r)) = nsD kn := by
      show _ = ((t.found N).map (knots t.W)).map nD
      rw [List.map_map] <;> rfl
    rw [e] at h
    exact h
  have e3 : sPar 5 6 (svD (mFrz (mLc (.nm 7) [7] (mItD (mVar 2)) (tYesM) (mF dFloor [.m (mF dSum [.sl 7]), .sl 4])))) (svN (nLst [mC (.int 0)])) ⟨[A, .dat (nD t.s), F, B, .dat (nD t.W), .unk, .unk, .unk, .unk, .unk, .unk, .unk, .unk, .unk, .unk, .unk], k⟩ = .nx (tosS A F B t kn (.lst (nsD [] ++ [nD 0])) .unk .unk .unk .unk .unk .unk .unk .unk k) :=
    sPar_ru (svD_ru (mFrz_ru e2)) (svN_ru (nLst_ru (em_cons rfl em_nil) line1)) (by simp)
  obtain ⟨y8, e4⟩ := sc_loop (a := A) (F := F) (B := B) (x7 := .unk) (x9 := .unk) (x10 := .unk) (x11 := .unk) (x12 := .unk) (x13 := .unk) (x14 := .unk) (t := t) (kn := kn) (k := k) kn [] 0 .unk (by rw [hkl, List.length_nil]; omega)
  have e4' := (sFor_of (mi := mItD (mVar 5)) (p := .nm 8) (body := scB) (s := tosS A F B t kn (.lst (nsD [] ++ [nD 0])) .unk .unk .unk .unk .unk .unk .unk .unk k) (mItD_ru rfl rfl)).trans e4
  rw [List.nil_append] at e4'
  have hget : ∀ i, i ≤ N → ss[i]? = some (before t.W (t.found N) i) := fun i hi => by
    have := scanF_get t.W (t.found N) 0 i (by rw [t.found_len]; exact hi)
    rw [Nat.zero_add] at this
    exact this
  have e5 : ∃ ss' : List Nat, (∀ d, d < N → ss'[d + 1]? = some (t.sa N back (d + 1))) ∧ sIf (toB (mF dGe [.sl 3, .m (mC (.int 0))])) (sSetAt 6 (mF dNeg [.m (mC (.int 1))]) (mF dIx [.sl 6, .sl 3])) sNop (tosS A F B t kn (.lst (nsD ss)) .unk y8 .unk .unk .unk .unk .unk .unk k) = .nx (tosS A F B t kn (.lst (nsD ss')) .unk y8 .unk .unk .unk .unk .unk .unk k) := by
    cases hb : back with
    | none =>
      refine ⟨ss, fun d hd => ?_, sIf_f (toB_ru (mF_ru (ds := [.int (-1), .int 0]) (ev_sl rfl (ev_m rfl ev_nil) (by simp [B, hb, look, SV.val, backD])) rfl)) rfl⟩
      rw [hget (d + 1) hd]
      unfold Tw.sa
      by_cases h : d + 1 = N
      · rw [if_pos h, h]
      · rw [if_neg h]
    | some b =>
      have hok := hD.ok
      rw [hb] at hok
      have hbN : b < N := hok.1
      refine ⟨ss.set N (before t.W (t.found N) b), fun d hd => ?_, ?_⟩
      · unfold Tw.sa
        by_cases h : d + 1 = N
        · rw [if_pos h, h, List.getElem?_set_self (by omega)]
        · rw [if_neg h, List.getElem?_set_ne (by omega), hget (d + 1) hd]
      · have c0 : mF dGe [.sl 3, .m (mC (.int 0))] (tosS A F B t kn (.lst (nsD ss)) .unk y8 .unk .unk .unk .unk .unk .unk k) = .ok (.bool (decide (0 ≤ b))) (tosS A F B t kn (.lst (nsD ss)) .unk y8 .unk .unk .unk .unk .unk .unk k) :=
          mF_ru (ds := [nD b, nD 0]) (ev_sl rfl (ev_m rfl ev_nil) (by simp [B, hb, look, SV.val, backD])) (ge_nn b 0)
        have c0' : mF dGe [.sl 3, .m (mC (.int 0))] (tosS A F B t kn (.lst (nsD ss)) .unk y8 .unk .unk .unk .unk .unk .unk k) = .ok (.bool true) (tosS A F B t kn (.lst (nsD ss)) .unk y8 .unk .unk .unk .unk .unk .unk k) := c0.trans (by simp)
        have c1 : dIx [PyData.list (nsD ss), nD b] = some (nD (before t.W (t.found N) b)) := by
          rw [ix_l]
          unfold nsD
          rw [List.getElem?_map, hget b (by omega)] <;> rfl
        have c2 : mF dIx [.sl 6, .sl 3] (tosS A F B t kn (.lst (nsD ss)) .unk y8 .unk .unk .unk .unk .unk .unk k) = .ok (nD (before t.W (t.found N) b)) (tosS A F B t kn (.lst (nsD ss)) .unk y8 .unk .unk .unk .unk .unk .unk k) :=
          mF_ru (ds := [.list (nsD ss), nD b]) (ev_sl rfl (ev_sl rfl ev_nil (by simp [B, hb, look, SV.val, backD])) rfl) c1
        have c3 : mF dNeg [.m (mC (.int 1))] (tosS A F B t kn (.lst (nsD ss)) .unk y8 .unk .unk .unk .unk .unk .unk k) = .ok (.int (-1)) (tosS A F B t kn (.lst (nsD ss)) .unk y8 .unk .unk .unk .unk .unk .unk k) := mF_ru (ds := [.int 1]) rfl rfl
        have c4 := sSetAt_ru (i := 6) (ys := nsD ss) (xs := nsD ss) (j := N) c2 rfl c3 rfl (by
          have : (nsD ss).length = N + 1 := by simp [nsD, hsl]
          rw [this, ixN_last (by omega)] <;> rfl)
        refine sIf_t (toB_ru c0') (c4.trans ?_)
        have : (nsD ss).set N (nD (before t.W (t.found N) b)) = nsD (ss.set N (before t.W (t.found N) b)) := by
          unfold nsD
          rw [List.map_set]
        rw [this] <;> rfl
  obtain ⟨ss', hss', e5⟩ := e5
  have e6 : sSetN 9 (nLst []) (tosS A F B t kn (.lst (nsD ss')) .unk y8 .unk .unk .unk .unk .unk .unk k) = .nx (tosS A F B t kn (.lst (nsD ss')) .unk y8 (.lst []) .unk .unk .unk .unk .unk k) := sSetN_ru (nLst_ru em_nil (Nat.zero_le _)) (by simp)
  obtain ⟨y7, y10, y11, y12, y13, y14, e7⟩ := out_loop (a := A) (F := F) (B := B) (x8 := y8) (t := t) (kn := kn) (ss := ss') (k := k) (sa := t.sa N back) (N := N) (by omega) hs (by omega) (by omega) (fun d hd => by
    show ((t.found N).map (knots t.W))[d]? = _
    simp [Tw.found, hd]) hss' (t.found N) 0 [] .unk .unk .unk .unk .unk .unk (fun i r h => by
    have hi := (List.getElem?_eq_some_iff.mp h).1
    rw [t.found_len] at hi
    have : (t.found N)[i]? = some (t.R i) := by simp [Tw.found, hi]
    rw [this] at h
    rw [Nat.zero_add]
    exact ⟨(Option.some.inj h).symm, hi⟩) (by
    rw [t.found_len, List.length_nil]
    omega)
  have e7' := (sFor_of (mi := mEnum (mVar 2)) (p := .tup [(.nm 10), (.nm 7)]) (body := outB) (s := tosS A F B t kn (.lst (nsD ss')) .unk y8 (.lst []) .unk .unk .unk .unk .unk k) (mEnum_ru rfl rfl)).trans e7
  rw [List.nil_append] at e7'
  have e8 : sRet (mF dTuple [.sl 9]) (tosS A F B t kn (.lst (nsD ss')) y7 y8 (.lst ((rowsGo t.W t.s (t.sa N back) (t.found N) 0).map rowD)) y10 y11 y12 y13 y14 k) = .rt (rowsD (t.rows N back)) (tosS A F B t kn (.lst (nsD ss')) y7 y8 (.lst ((rowsGo t.W t.s (t.sa N back) (t.found N) 0).map rowD)) y10 y11 y12 y13 y14 k) :=
    sRet_ru (mF_ru (ev_sl rfl ev_nil rfl) rfl)
  exact fnM_rt (pad := 14) (s := ⟨[A, .dat (nD t.s)], k⟩) ((sSeq_nx e1).trans ((sSeq_nx e3).trans ((sSeq_nx e4').trans ((sSeq_nx e5).trans ((sSeq_nx e6).trans ((sSeq_nx e7').trans e8))))))
end Lw

set_option Elab.async false
set_option linter.all false
set_option maxRecDepth 100000
/-! k17: a tape's walk over rows. -/
namespace Lw
open PySem PySem.Spec PyProof.Rows L2 NdefX Lf
inductive Wk where
  | dn (k u : Nat)
  | on (i : Nat)
def Wk.st : Wk → St
  | .dn k _ => .dn k
  | .on i => .on i
def wkD : Wk → D
  | .dn k u => .tuple [.str "done", nD k, nD u]
  | .on i => .tuple [.str "on", nD i]
/-- rows of so many sides -/
structure RowsOk (s : Nat) (rs : List (List St)) : Prop where
  ne : rs ≠ []
  s2 : 2 ≤ s
  s12 : s ≤ 12
  few : rs.length ≤ 1000
  row : ∀ row ∈ rs, row.length = s ∧ ∀ x ∈ row, stOk 256 rs.length x
def walkT (rs : List (List St)) : Nat → Nat → List Nat → Wk
  | i, _, [] => .on i
  | i, u, x :: r => match (rs.getD i []).getD x (.on 0) with
    | .dn k => .dn k (u + 1)
    | .on j => walkT rs j (u + 1) r
theorem RowsOk.at {s : Nat} {rs : List (List St)} (h : RowsOk s rs) {i x : Nat} (hi : i < rs.length) (hx : x < s) : (rs.map rowD)[i]? = some (rowD (rs.getD i [])) ∧ ((rs.getD i []).map stD)[x]? = some (stD ((rs.getD i []).getD x (.on 0))) ∧ stOk 256 rs.length ((rs.getD i []).getD x (.on 0)) := by
  have e1 : rs.getD i [] = rs[i] := by rw [List.getD_eq_getElem?_getD, List.getElem?_eq_getElem hi] <;> rfl
  obtain ⟨h1, h2⟩ := h.row rs[i] (List.getElem_mem hi)
  have hx' : x < rs[i].length := by omega
  have e2 : (rs[i]).getD x (.on 0) = rs[i][x] := by rw [List.getD_eq_getElem?_getD, List.getElem?_eq_getElem hx'] <;> rfl
  rw [e1, e2]
  refine ⟨?_, ?_, h2 _ (List.getElem_mem hx')⟩
  · rw [List.getElem?_map, List.getElem?_eq_getElem hi] <;> rfl
  · rw [List.getElem?_map, List.getElem?_eq_getElem hx'] <;> rfl
def tapeD (t : List Nat) : D := .tuple (nsD t)
def rolB : MS := (sSeq (sPat (.tup [(.nm 5), (.nm 6)]) (mF dIx [.m (mF dIx [.sl 0, .sl 2]), .sl 4]))
  (sSeq (sIf (toB (mF dEq [.sl 5, .m (mC (.str "done"))]))
  (sRet (mTup [mC (.str "done"), mVar 6, mF dAdd [.sl 3, .m (mC (.int 1))]]))
  (sNop))
  (sSet 2 (mVar 6))))
theorem eq_done : dEq [.str "done", .str "done"] = some (.bool true) := by
  have e := word_eqOk (w := "done") (by decide +kernel)
  rw [e]
  have : (("done" : Str) == ("done" : Str)) = true := by decide +kernel
  rw [this]
theorem eq_on : dEq [.str "on", .str "done"] = some (.bool false) := by
  have e := word_eqOk (w := "on") (by decide +kernel)
  rw [e]
  have : (("done" : Str) == ("on" : Str)) = false := by decide +kernel
  rw [this]
theorem rol_loop {s : Nat} {rs : List (List St)} (h : RowsOk s rs) {b : SV} {k : Option Deck} : ∀ (r : List Nat) (i u : Nat) (x3 x4 x5 x6 : SV), i < rs.length → (∀ x ∈ r, x < s) →
    (∃ k' u', walkT rs i u r = .dn k' u' ∧ ∃ s', forL (.tup [(.nm 3), (.nm 4)]) rolB (((nsD r).zipIdx u).map fun p => PyData.tuple [.int (p.2 : Nat), p.1]) ⟨[.dat (rowsD rs), b, .dat (nD i), x3, x4, x5, x6], k⟩ = .rt (wkD (.dn k' u')) s' ∧ s'.dk = k) ∨
    (∃ j y3 y4 y5 y6, walkT rs i u r = .on j ∧ forL (.tup [(.nm 3), (.nm 4)]) rolB (((nsD r).zipIdx u).map fun p => PyData.tuple [.int (p.2 : Nat), p.1]) ⟨[.dat (rowsD rs), b, .dat (nD i), x3, x4, x5, x6], k⟩ = .nx ⟨[.dat (rowsD rs), b, .dat (nD j), y3, y4, y5, y6], k⟩) := by
  intro r
  induction r with
  | nil =>
    intro i u x3 x4 x5 x6 hi _
    exact .inr ⟨i, x3, x4, x5, x6, rfl, rfl⟩
  | cons x r ih =>
    intro i u x3 x4 x5 x6 hi hr
    have hx := hr x List.mem_cons_self
    obtain ⟨g1, g2, g3⟩ := h.at hi hx
    have e0 : turn (.tup [(.nm 3), (.nm 4)]) rolB (.tuple [nD u, nD x]) ⟨[.dat (rowsD rs), b, .dat (nD i), x3, x4, x5, x6], k⟩ = rolB ⟨[.dat (rowsD rs), b, .dat (nD i), .dat (nD u), .dat (nD x), x5, x6], k⟩ := by
      simp [turn, asgP, asgPs]
    have c1 : dIx [rowsD rs, nD i] = some (rowD (rs.getD i [])) := ix_t.trans g1
    have c2 : dIx [rowD (rs.getD i []), nD x] = some (stD ((rs.getD i []).getD x (.on 0))) := ix_t.trans g2
    have e1 : mF dIx [.m (mF dIx [.sl 0, .sl 2]), .sl 4] ⟨[.dat (rowsD rs), b, .dat (nD i), .dat (nD u), .dat (nD x), x5, x6], k⟩ = .ok (stD ((rs.getD i []).getD x (.on 0))) ⟨[.dat (rowsD rs), b, .dat (nD i), .dat (nD u), .dat (nD x), x5, x6], k⟩ :=
      mF_ru (ev_m (mF_ru (ev_sl rfl (ev_sl rfl ev_nil rfl) rfl) c1) (ev_sl rfl ev_nil rfl)) c2
    cases hst : (rs.getD i []).getD x (.on 0) with
    | dn k' =>
      rw [hst] at e1
      have e2 : sPat (.tup [(.nm 5), (.nm 6)]) (mF dIx [.m (mF dIx [.sl 0, .sl 2]), .sl 4]) ⟨[.dat (rowsD rs), b, .dat (nD i), .dat (nD u), .dat (nD x), x5, x6], k⟩ = .nx ⟨[.dat (rowsD rs), b, .dat (nD i), .dat (nD u), .dat (nD x), .dat (.str "done"), .dat (nD k')], k⟩ := sPat_ru e1 (by simp [asgP, asgPs, stD])
      have e3 : toB (mF dEq [.sl 5, .m (mC (.str "done"))]) ⟨[.dat (rowsD rs), b, .dat (nD i), .dat (nD u), .dat (nD x), .dat (.str "done"), .dat (nD k')], k⟩ = .ok true ⟨[.dat (rowsD rs), b, .dat (nD i), .dat (nD u), .dat (nD x), .dat (.str "done"), .dat (nD k')], k⟩ := toB_ru (mF_ru (ev_sl rfl (ev_m rfl ev_nil) rfl) eq_done)
      have e4 : sRet (mTup [mC (.str "done"), mVar 6, mF dAdd [.sl 3, .m (mC (.int 1))]]) ⟨[.dat (rowsD rs), b, .dat (nD i), .dat (nD u), .dat (nD x), .dat (.str "done"), .dat (nD k')], k⟩ = .rt (wkD (.dn k' (u + 1))) ⟨[.dat (rowsD rs), b, .dat (nD i), .dat (nD u), .dat (nD x), .dat (.str "done"), .dat (nD k')], k⟩ :=
        sRet_ru (mTup_ru (em_cons rfl (em_cons rfl (em_cons (mF_ru (ev_sl rfl (ev_m rfl ev_nil) rfl) (ad_nn (a := u) (b := 1))) em_nil))) line3)
      refine .inl ⟨k', u + 1, by rw [walkT, hst], _, forL_rt (d := .tuple [nD u, nD x]) (e0.trans ((sSeq_nx e2).trans (sSeq_rt (sIf_t e3 e4)))), rfl⟩
    | on j =>
      rw [hst] at e1 g3
      have e2 : sPat (.tup [(.nm 5), (.nm 6)]) (mF dIx [.m (mF dIx [.sl 0, .sl 2]), .sl 4]) ⟨[.dat (rowsD rs), b, .dat (nD i), .dat (nD u), .dat (nD x), x5, x6], k⟩ = .nx ⟨[.dat (rowsD rs), b, .dat (nD i), .dat (nD u), .dat (nD x), .dat (.str "on"), .dat (nD j)], k⟩ := sPat_ru e1 (by simp [asgP, asgPs, stD])
      have e3 : toB (mF dEq [.sl 5, .m (mC (.str "done"))]) ⟨[.dat (rowsD rs), b, .dat (nD i), .dat (nD u), .dat (nD x), .dat (.str "on"), .dat (nD j)], k⟩ = .ok false ⟨[.dat (rowsD rs), b, .dat (nD i), .dat (nD u), .dat (nD x), .dat (.str "on"), .dat (nD j)], k⟩ := toB_ru (mF_ru (ev_sl rfl (ev_m rfl ev_nil) rfl) eq_on)
      have e4 : sSet 2 (mVar 6) ⟨[.dat (rowsD rs), b, .dat (nD i), .dat (nD u), .dat (nD x), .dat (.str "on"), .dat (nD j)], k⟩ = .nx ⟨[.dat (rowsD rs), b, .dat (nD j), .dat (nD u), .dat (nD x), .dat (.str "on"), .dat (nD j)], k⟩ := sSet_ru rfl (by simp)
      have e5 : turn (.tup [(.nm 3), (.nm 4)]) rolB (.tuple [nD u, nD x]) ⟨[.dat (rowsD rs), b, .dat (nD i), x3, x4, x5, x6], k⟩ = .nx ⟨[.dat (rowsD rs), b, .dat (nD j), .dat (nD u), .dat (nD x), .dat (.str "on"), .dat (nD j)], k⟩ := e0.trans ((sSeq_nx e2).trans ((sSeq_nx (sIf_f e3 rfl)).trans e4))
      have hw : walkT rs i u (x :: r) = walkT rs j (u + 1) r := by rw [walkT, hst]
      rw [hw]
      rcases ih j (u + 1) (.dat (nD u)) (.dat (nD x)) (.dat (.str "on")) (.dat (nD j)) g3 (fun z hz => hr z (List.mem_cons_of_mem _ hz)) with ⟨k', u', q1, s', q2, q3⟩ | ⟨j', y3, y4, y5, y6, q1, q2⟩
      · exact .inl ⟨k', u', q1, s', (forL_cons (d := .tuple [nD u, nD x]) e5).trans q2, q3⟩
      · exact .inr ⟨j', y3, y4, y5, y6, q1, (forL_cons (d := .tuple [nD u, nD x]) e5).trans q2⟩
theorem q_law_rolled {s : Nat} {rs : List (List St)} (h : RowsOk s rs) {tape : List Nat} (ht : ∀ x ∈ tape, x < s) (k : Option Deck) : r__law_rolled ⟨[.dat (rowsD rs), .dat (tapeD tape)], k⟩ = .ok (wkD (walkT rs 0 0 tape)) k := by
  have hp : 0 < rs.length := List.length_pos_iff.mpr h.ne
  have e1 : sSet 2 (mC (.int 0)) ⟨[.dat (rowsD rs), .dat (tapeD tape), .unk, .unk, .unk, .unk, .unk], k⟩ = .nx ⟨[.dat (rowsD rs), .dat (tapeD tape), .dat (nD 0), .unk, .unk, .unk, .unk], k⟩ := sSet_ru rfl (by simp)
  have e2 := sFor_of (mi := mEnum (mVar 1)) (p := .tup [(.nm 3), (.nm 4)]) (body := rolB) (s := ⟨[.dat (rowsD rs), .dat (tapeD tape), .dat (nD 0), .unk, .unk, .unk, .unk], k⟩) (mEnum_ru (d := tapeD tape) rfl rfl)
  rcases rol_loop h (b := .dat (tapeD tape)) (k := k) tape 0 0 .unk .unk .unk .unk hp ht with ⟨k', u', q1, s', q2, q3⟩ | ⟨j', y3, y4, y5, y6, q1, q2⟩
  · rw [q1]
    have := fnM_rt (mb := m__law_rolled) (pad := 5) (s := ⟨[.dat (rowsD rs), .dat (tapeD tape)], k⟩) ((sSeq_nx e1).trans (sSeq_rt (e2.trans q2)))
    rw [q3] at this
    exact this
  · rw [q1]
    have e3 : sRet (mTup [mC (.str "on"), mVar 2]) ⟨[.dat (rowsD rs), .dat (tapeD tape), .dat (nD j'), y3, y4, y5, y6], k⟩ = .rt (wkD (.on j')) ⟨[.dat (rowsD rs), .dat (tapeD tape), .dat (nD j'), y3, y4, y5, y6], k⟩ := sRet_ru (mTup_ru (em_cons rfl (em_cons rfl em_nil)) line2)
    exact fnM_rt (mb := m__law_rolled) (pad := 5) (s := ⟨[.dat (rowsD rs), .dat (tapeD tape)], k⟩) ((sSeq_nx e1).trans ((sSeq_nx (e2.trans q2)).trans e3))
end Lw

set_option Elab.async false
set_option linter.all false
set_option maxRecDepth 100000
/-! k17: rows that are right, as data. -/
namespace Lw
open PySem PySem.Spec PyProof.Rows L2 NdefX Lf
theorem ok1_int (i : Int) : ok1 0 (.int i) = true := by simp [ok1, noDict, PyData.canLay0, PyData.depth]
theorem ok1_n (n : Nat) : ok1 0 (nD n) = true := ok1_int _
theorem ok1_done : ok1 0 (.str "done") = true := by decide +kernel
theorem ok1_on : ok1 0 (.str "on") = true := by decide +kernel
theorem ok1_st (x : St) : ok1 1 (stD x) = true := by
  cases x with
  | dn k =>
    refine (ok1_tup 0 _).mpr fun d hd => ?_
    simp only [List.mem_cons, List.not_mem_nil, or_false] at hd
    rcases hd with rfl | rfl
    · exact ok1_done
    · exact ok1_n _
  | on k =>
    refine (ok1_tup 0 _).mpr fun d hd => ?_
    simp only [List.mem_cons, List.not_mem_nil, or_false] at hd
    rcases hd with rfl | rfl
    · exact ok1_on
    · exact ok1_n _
theorem ok1_row (r : List St) : ok1 2 (rowD r) = true := (ok1_tup 1 _).mpr fun d hd => by
  obtain ⟨x, _, rfl⟩ := List.mem_map.mp hd
  exact ok1_st x
theorem ok1_rows (rs : List (List St)) : ok1 3 (rowsD rs) = true := (ok1_tup 2 _).mpr fun d hd => by
  obtain ⟨x, _, rfl⟩ := List.mem_map.mp hd
  exact ok1_row x
theorem ok1_wk (w : Wk) : ok1 1 (wkD w) = true := by
  cases w with
  | dn k u =>
    refine (ok1_tup 0 _).mpr fun d hd => ?_
    simp only [List.mem_cons, List.not_mem_nil, or_false] at hd
    rcases hd with rfl | rfl | rfl
    · exact ok1_done
    · exact ok1_n _
    · exact ok1_n _
  | on k =>
    refine (ok1_tup 0 _).mpr fun d hd => ?_
    simp only [List.mem_cons, List.not_mem_nil, or_false] at hd
    rcases hd with rfl | rfl
    · exact ok1_on
    · exact ok1_n _
theorem sz_wk (w : Wk) : sz (wkD w) ≤ 10 := by
  cases w <;> simp [wkD, sz, szs, nD]
theorem rowsD_nice (rs : List (List St)) : nice (rowsD rs) = true := ok1_nice (n := 3) (by decide) (ok1_rows rs)
theorem rowsD_short {s : Nat} {rs : List (List St)} (h : RowsOk s rs) : short (rowsD rs) := by
  intro ds e
  have e1 : ds = rs.map rowD := (PyData.tuple.inj e).symm
  have hb := line_big
  have hf := h.few
  have h12 := h.s12
  subst e1
  refine ⟨by rw [List.length_map]; omega, fun r hr ss e2 => ?_⟩
  obtain ⟨row, hrow, e3⟩ := List.mem_map.mp hr
  have e4 : row.map stD = ss := PyData.tuple.inj (e3.trans e2)
  rw [← e4, List.length_map, (h.row row hrow).1]
  omega
theorem isBtw_n {n hi : Nat} (h : n ≤ hi) (h2 : n < 1000) : isBtw 0 (hi : Int) (nD n) = true := by
  have hb : Builtin.Int.intBits (n : Int) ≤ 10 := bits_le (z := (n : Int)) (n := 10) (by omega)
  show (decide ((Builtin.Int.intBits (n : Int) : Int) ≤ 20000) && (decide ((0 : Int) ≤ (n : Int)) && decide ((n : Int) ≤ (hi : Int)))) = true
  simp only [Bool.and_eq_true, decide_eq_true_eq]
  omega
theorem isStep_st {many : Nat} (hm : many ≤ 1000) {x : St} (h : stOk 256 many x) : isStep many (stD x) = true := by
  cases x with
  | dn k =>
    have hk : k < 256 := h
    have e1 : isBtw 0 255 (nD k) = true := isBtw_n (hi := 255) (by omega) (by omega)
    have e2 : isWord (.str "done") = true := by decide +kernel
    have e3 : (("done" : Str) == ("done" : Str)) = true := by decide +kernel
    show (isWord (.str "done") && isBtw 0 (if ("done" : Str) == ("done" : Str) then 255 else (many : Int) - 1) (nD k)) = true
    rw [e2, e3]
    simpa using e1
  | on k =>
    have hk : k < many := h
    have e1 : isBtw 0 ((many - 1 : Nat) : Int) (nD k) = true := isBtw_n (by omega) (by omega)
    have e2 : isWord (.str "on") = true := by decide +kernel
    have e3 : (("done" : Str) == ("on" : Str)) = false := by decide +kernel
    have e4 : ((many - 1 : Nat) : Int) = (many : Int) - 1 := by omega
    rw [e4] at e1
    show (isWord (.str "on") && isBtw 0 (if ("done" : Str) == ("on" : Str) then 255 else (many : Int) - 1) (nD k)) = true
    rw [e2, e3]
    simpa using e1
theorem rows_dice {s : Nat} {rs : List (List St)} (h : RowsOk s rs) : isDice (rowsD rs) = true := by
  have hall : (rs.map rowD).all (isRow (s : Int) ((rs.map rowD).length : Nat)) = true := by
    rw [List.all_eq_true]
    intro d hd
    obtain ⟨row, hrow, rfl⟩ := List.mem_map.mp hd
    obtain ⟨h1, h2⟩ := h.row row hrow
    show (decide (((row.map stD).length : Int) = (s : Int)) && (row.map stD).all (isStep ((rs.map rowD).length : Nat))) = true
    rw [Bool.and_eq_true]
    refine ⟨by rw [List.length_map, h1]; simp, ?_⟩
    rw [List.all_eq_true]
    intro x hx
    obtain ⟨y, hy, rfl⟩ := List.mem_map.mp hx
    rw [List.length_map]
    exact isStep_st h.few (h2 y hy)
  cases hrs : rs with
  | nil => exact absurd hrs h.ne
  | cons row r =>
    have hl : row.length = s := (h.row row (by rw [hrs]; exact List.mem_cons_self)).1
    rw [hrs] at hall
    show ((decide (2 ≤ (row.map stD).length) && decide ((row.map stD).length ≤ 12)) && isRows ((row.map stD).length : Nat) (.tuple (rowD row :: r.map rowD))) = true
    rw [List.length_map, hl]
    have h1 := h.s2
    have h2 := h.s12
    simp only [Bool.and_eq_true, decide_eq_true_eq]
    refine ⟨⟨h1, h2⟩, ?_⟩
    show (!(rowD row :: r.map rowD).isEmpty && (rowD row :: r.map rowD).all (isRow (s : Int) (((rowD row :: r.map rowD).length : Nat) : Int))) = true
    rw [show (rowD row :: r.map rowD) = (row :: r).map rowD from rfl, hall] <;> rfl
theorem sides_rows {s : Nat} {rs : List (List St)} (h : RowsOk s rs) : sidesOf (rowsD rs) = s := by
  cases hrs : rs with
  | nil => exact absurd hrs h.ne
  | cons row r =>
    have hl : row.length = s := (h.row row (by rw [hrs]; exact List.mem_cons_self)).1
    show (row.map stD).length = s
    rw [List.length_map, hl]
theorem tape_ok {s : Nat} {rs : List (List St)} (h : RowsOk s rs) {t : List Nat} (ht : ∀ x ∈ t, x < s) : tapeFor (rowsD rs) (tapeD t) = true := by
  unfold tapeFor
  rw [sides_rows h]
  show (nsD t).all (isBtw 0 ((s : Int) - 1)) = true
  rw [List.all_eq_true]
  intro d hd
  obtain ⟨x, hx, rfl⟩ := List.mem_map.mp hd
  have h2 := h.s2
  have h12 := h.s12
  have hx := ht x hx
  have e := isBtw_n (n := x) (hi := s - 1) (by omega) (by omega)
  have e4 : ((s - 1 : Nat) : Int) = (s : Int) - 1 := by omega
  rw [e4] at e
  exact e
theorem q_rolled_ok {s : Nat} {rs : List (List St)} (h : RowsOk s rs) {t : List Nat} (ht : ∀ x ∈ t, x < s) (hl : t.length ≤ line) (k : Option Deck) : r_rolled ⟨[.dat (rowsD rs), .dat (tapeD t)], k⟩ = .ok (wkD (walkT rs 0 0 t)) k := by
  rw [q_rolled (rowsD rs) (tapeD t) k (rowsD_nice rs) (rowsD_short h) fun ds e => by
    have e1 : nsD t = ds := PyData.tuple.inj e
    rw [← e1]
    unfold nsD
    rw [List.length_map]
    exact hl]
  unfold rolledOf
  rw [if_pos (rows_dice h), if_pos (tape_ok h ht)]
  exact q_law_rolled h ht k
theorem walk_append {rs : List (List St)} : ∀ (t : List Nat) (i u : Nat) (more : List Nat) (k w : Nat), walkT rs i u t = .dn k w → walkT rs i u (t ++ more) = .dn k w
  | [], i, u, more, k, w, h => by
    rw [walkT] at h
    cases h
  | x :: r, i, u, more, k, w, h => by
    rw [List.cons_append, walkT]
    rw [walkT] at h
    cases hst : (rs.getD i []).getD x (.on 0) with
    | dn k' =>
      rw [hst] at h
      exact h
    | on j =>
      rw [hst] at h
      exact walk_append r j (u + 1) more k w h
theorem walk_snoc {rs : List (List St)} : ∀ (t : List Nat) (i u x : Nat), (walkT rs i u (t ++ [x])).st = (match (walkT rs i u t).st with
    | .dn k => .dn k
    | .on j => (rs.getD j []).getD x (.on 0))
  | [], i, u, x => by
    rw [List.nil_append, walkT, walkT]
    show Wk.st _ = (rs.getD i []).getD x (.on 0)
    cases hst : (rs.getD i []).getD x (.on 0) with
    | dn k' => rfl
    | on j => rfl
  | y :: r, i, u, x => by
    rw [List.cons_append, walkT, walkT]
    cases hst : (rs.getD i []).getD y (.on 0) with
    | dn k' => rfl
    | on j => exact walk_snoc r j (u + 1) x
def tapesN (s : Nat) : Nat → List (List Nat)
  | 0 => [[]]
  | r + 1 => (tapesN s r).flatMap fun t => (List.range s).map fun x => t ++ [x]
theorem tapes_lt (s : Nat) : ∀ (r : Nat) (t : List Nat), t ∈ tapesN s r → ∀ x ∈ t, x < s
  | 0, t, h, x, hx => by
    simp [tapesN] at h
    subst h
    cases hx
  | r + 1, t, h, x, hx => by
    obtain ⟨t', h1, h2⟩ := List.mem_flatMap.mp h
    obtain ⟨y, hy, rfl⟩ := List.mem_map.mp h2
    rcases List.mem_append.mp hx with hx | hx
    · exact tapes_lt s r t' h1 x hx
    · rw [List.mem_singleton.mp hx]
      exact List.mem_range.mp hy
theorem tapes_len (s : Nat) : ∀ (r : Nat) (t : List Nat), t ∈ tapesN s r → t.length = r
  | 0, t, h => by
    simp [tapesN] at h
    subst h
    rfl
  | r + 1, t, h => by
    obtain ⟨t', h1, h2⟩ := List.mem_flatMap.mp h
    obtain ⟨y, hy, rfl⟩ := List.mem_map.mp h2
    rw [List.length_append, tapes_len s r t' h1] <;> rfl
theorem flat_len {α β : Type} (f : α → List β) (n : Nat) : ∀ l : List α, (∀ x ∈ l, (f x).length = n) → (l.flatMap f).length = l.length * n
  | [], _ => by simp
  | x :: r, h => by
    rw [List.flatMap_cons, List.length_append, flat_len f n r fun z hz => h z (List.mem_cons_of_mem _ hz), h x List.mem_cons_self, List.length_cons, Nat.add_mul, Nat.one_mul, Nat.add_comm]
theorem tapes_many (s : Nat) : ∀ r, (tapesN s r).length = s ^ r
  | 0 => rfl
  | r + 1 => by
    show ((tapesN s r).flatMap _).length = _
    rw [flat_len _ s _ (fun t _ => by simp), tapes_many s r, Nat.pow_succ]
theorem flat_congr {α β : Type} {f g : α → List β} : ∀ l : List α, (∀ x ∈ l, f x = g x) → l.flatMap f = l.flatMap g
  | [], _ => rfl
  | x :: r, h => by rw [List.flatMap_cons, List.flatMap_cons, h x List.mem_cons_self, flat_congr r fun z hz => h z (List.mem_cons_of_mem _ hz)]
/-- all tapes together -/
theorem outs_walk {s : Nat} {rs : List (List St)} (h : RowsOk s rs) : ∀ r, (tapesN s r).map (fun t => (walkT rs 0 0 t).st) = outs rs s r ∧ ∀ o ∈ outs rs s r, stOk 256 rs.length o
  | 0 => ⟨rfl, fun o ho => by
    simp [outs] at ho
    subst ho
    exact List.length_pos_iff.mpr h.ne⟩
  | r + 1 => by
    obtain ⟨ih, ih2⟩ := outs_walk h r
    have hn : ∀ o, stOk 256 rs.length o → (List.range s).map (fun x => (match o with
      | .dn k => .dn k
      | .on j => (rs.getD j []).getD x (.on 0))) = nxt rs s o := by
      intro o ho
      cases o with
      | dn k =>
        show (List.range s).map (fun _ => St.dn k) = List.replicate s (.dn k)
        rw [List.map_const', List.length_range]
      | on j =>
        have hj : j < rs.length := ho
        have e1 : rs.getD j [] = rs[j] := by rw [List.getD_eq_getElem?_getD, List.getElem?_eq_getElem hj] <;> rfl
        have hl := (h.row rs[j] (List.getElem_mem hj)).1
        show (List.range s).map (fun x => (rs.getD j []).getD x (.on 0)) = rs.getD j []
        rw [e1]
        apply List.ext_getElem?
        intro i
        by_cases hi : i < s
        · simp [hi, hl]
        · rw [List.getElem?_eq_none (by simp; omega), List.getElem?_eq_none (by omega)]
    refine ⟨?_, fun o ho => ?_⟩
    · show ((tapesN s r).flatMap fun t => (List.range s).map fun x => t ++ [x]).map _ = (outs rs s r).flatMap (nxt rs s)
      rw [List.map_flatMap, ← ih, List.flatMap_map]
      apply flat_congr
      intro t ht
      rw [List.map_map]
      have ho : stOk 256 rs.length (walkT rs 0 0 t).st := ih2 _ (by
        rw [← ih]
        exact List.mem_map.mpr ⟨t, ht, rfl⟩)
      rw [← hn _ ho]
      apply List.map_congr_left
      intro x _
      exact walk_snoc t 0 0 x
    · obtain ⟨p, hp, ho⟩ := List.mem_flatMap.mp ho
      have hp2 := ih2 p hp
      cases p with
      | dn k =>
        rw [List.eq_of_mem_replicate ho]
        exact hp2
      | on j =>
        have hj : j < rs.length := hp2
        have e1 : rs.getD j [] = rs[j] := by rw [List.getD_eq_getElem?_getD, List.getElem?_eq_getElem hj] <;> rfl
        have ho : o ∈ rs.getD j [] := ho
        rw [e1] at ho
        exact (h.row rs[j] (List.getElem_mem hj)).2 o ho
end Lw

set_option Elab.async false
set_option linter.all false
set_option maxRecDepth 100000
/-! k17: settled. -/
namespace Lf
open PySem PySem.Spec PyProof.Rows L2
theorem mChain_ru {p p' : Int → Int → Bool} {o1 o2 o3 : Opd} {s s1 s2 : S0} {i j z : Int} (h : evalO [o1, o2] s = .ok [.int i, .int j] s1) (hp : p i j = true) (h3 : evalO [o3] s1 = .ok [.int z] s2) : mChain p p' o1 o2 o3 s = .ok (.bool (p' j z)) s2 := by
  unfold mChain
  rw [h]
  show (if p i j then (evalO [o3] s1).bind fun es s2 => (match es with
      | [.int k] => Lf.R.ok (PyData.bool (p' j k)) s2
      | _ => .bad) else .ok (PyData.bool false) s1) = _
  rw [if_pos hp, h3] <;> rfl
theorem gcd_nn (a b : Nat) : dGcd [nD a, nD b] = some (nD (Nat.gcd a b)) := by
  show some (PyData.int ((Nat.gcd (a : Int).natAbs (b : Int).natAbs : Nat) : Int)) = _
  rw [Int.natAbs_natCast, Int.natAbs_natCast] <;> rfl
theorem any_ns (ns : List Nat) (h : ∃ n ∈ ns, 0 < n) : dAny [.tuple (nsD ns)] = some (.bool true) := by
  show (asInts (nsD ns)).map (fun ns => PyData.bool (ns.any fun n => n != 0)) = _
  rw [asInts_ns]
  have : (ns.map Int.ofNat).any (fun n => n != 0) = true := by
    obtain ⟨n, h1, h2⟩ := h
    rw [List.any_eq_true]
    refine ⟨Int.ofNat n, List.mem_map.mpr ⟨n, h1, rfl⟩, ?_⟩
    have : (n : Int) ≠ 0 := by omega
    simpa using this
  show some (PyData.bool ((ns.map Int.ofNat).any fun n => n != 0)) = _
  rw [this]
end Lf
namespace Lw
open PySem PySem.Spec PyProof.Rows L2 NdefX Lf
theorem glow_loop {W : SV} {k : Option Deck} : ∀ (r : List Nat) (g : Nat) (x : SV), ∃ y, forL (.nm 2) (sSet 1 (mF dGcd [.sl 1, .sl 2])) (nsD r) ⟨[W, .dat (nD g), x], k⟩ = .nx ⟨[W, .dat (nD (gcdL g r)), y], k⟩
  | [], g, x => ⟨x, rfl⟩
  | w :: r, g, x => by
    obtain ⟨y, e⟩ := glow_loop r (Nat.gcd w g) (.dat (nD w))
    have e0 : turn (.nm 2) (sSet 1 (mF dGcd [.sl 1, .sl 2])) (nD w) ⟨[W, .dat (nD g), x], k⟩ = .nx ⟨[W, .dat (nD (Nat.gcd w g)), .dat (nD w)], k⟩ := by
      rw [turn_nm (by simp), Nat.gcd_comm w g]
      have e1 : mF dGcd [.sl 1, .sl 2] ⟨[W, .dat (nD g), .dat (nD w)], k⟩ = .ok (nD (Nat.gcd g w)) ⟨[W, .dat (nD g), .dat (nD w)], k⟩ := mF_ru (ev_sl rfl (ev_sl rfl ev_nil rfl) rfl) (gcd_nn g w)
      exact sSet_ru e1 (by simp)
    exact ⟨y, (forL_cons (r := nsD r) (d := nD w) e0).trans e⟩
theorem q_lowest_weights (ws : List Nat) (hw : ∀ w ∈ ws, w < 1000000) (hp : ∃ w ∈ ws, 0 < w) (hl : ws.length ≤ 1000) (k : Option Deck) : r_lowest_weights ⟨[.dat (.tuple (nsD ws))], k⟩ = .ok (.list (nsD (lowW ws))) k := by
  obtain ⟨y, e⟩ := glow_loop (W := .dat (.tuple (nsD ws))) (k := k) ws 0 .unk
  have hg := gcdL_pos ws 0 (.inr hp)
  have hgl := gcdL_le ws 0 1000000 (by decide) fun w h => Nat.le_of_lt (hw w h)
  have e1 : sSet 1 (mC (.int 0)) ⟨[.dat (.tuple (nsD ws)), .unk, .unk], k⟩ = .nx ⟨[.dat (.tuple (nsD ws)), .dat (nD 0), .unk], k⟩ := sSet_ru rfl (by simp)
  have e2 : sFor (mItD (mVar 0)) (.nm 2) (sSet 1 (mF dGcd [.sl 1, .sl 2])) ⟨[.dat (.tuple (nsD ws)), .dat (nD 0), .unk], k⟩ = .nx ⟨[.dat (.tuple (nsD ws)), .dat (nD (gcdL 0 ws)), y], k⟩ := (sFor_of rfl).trans e
  have e3 := mLc_fn (e := nD) (f := fun w => nD (w / gcdL 0 ws)) (xs := ws) (v := 2) (m := mF dFloor [.sl 2, .sl 1]) (mi := mItD (mVar 0)) (s := ⟨[.dat (.tuple (nsD ws)), .dat (nD (gcdL 0 ws)), y], k⟩) (ρ := [.dat (.tuple (nsD ws)), .dat (nD (gcdL 0 ws)), y]) (k := k) rfl (by simp) (by have := line_big; omega)
    (fun w _ => mF_ru (ev_sl rfl (ev_sl rfl ev_nil rfl) rfl) (fl_nn (a := w) hg (by omega)))
  have e4 : ws.map (fun w => nD (w / gcdL 0 ws)) = nsD (lowW ws) := by
    unfold lowW nsD
    rw [List.map_map] <;> rfl
  rw [e4] at e3
  exact fnM_rt (mb := m_lowest_weights) (pad := 2) (s := ⟨[.dat (.tuple (nsD ws))], k⟩) ((sSeq_nx e1).trans ((sSeq_nx e2).trans (sRet_ru (mFrz_ru e3))))
theorem q_are_weights (ws : List Nat) (hw : ∀ w ∈ ws, w < 1000) (hp : ∃ w ∈ ws, 0 < w) (hl : ws.length ≤ 200) (k : Option Deck) : r_are_weights ⟨[.dat (.tuple (nsD ws))], k⟩ = .ok (.bool true) k := by
  have hl1 : 1 ≤ ws.length := by
    obtain ⟨w, h, _⟩ := hp
    exact List.length_pos_of_mem h
  have hf : ∀ x, LM0 0 [] ⟨[.dat x], k⟩ = .ok (.bool (isWhole x && (match x with | .int i => decide (0 ≤ i) | _ => false))) k := fun x => lm0_0 [] x k rfl
  have hb : isTupBy (fun x => isWhole x && (match x with | .int i => decide (0 ≤ i) | _ => false)) (.tuple (nsD ws)) = true := by
    show (nsD ws).all _ = true
    rw [List.all_eq_true]
    intro d hd
    obtain ⟨w, h, rfl⟩ := List.mem_map.mp hd
    have h := hw w h
    have hb : Builtin.Int.intBits (w : Int) ≤ 10 := bits_le (z := (w : Int)) (n := 10) (by omega)
    show (decide ((Builtin.Int.intBits (w : Int) : Int) ≤ 20000) && decide ((0 : Int) ≤ (w : Int))) = true
    simp only [Bool.and_eq_true, decide_eq_true_eq]
    omega
  have q := q_is_tuple_by (.tuple (nsD ws)) 0 [] _ k hf rfl fun ds e => by
    have e1 : nsD ws = ds := PyData.tuple.inj e
    rw [← e1]
    unfold nsD
    have := line_big
    rw [List.length_map]
    omega
  rw [hb] at q
  have e1 : bNot (toB (mCallC r_is_tuple_by [.m (mVar 0)] 0 [])) ⟨[.dat (.tuple (nsD ws))], k⟩ = .ok false ⟨[.dat (.tuple (nsD ws))], k⟩ := by
    have c : mCallC r_is_tuple_by [.m (mVar 0)] 0 [] ⟨[.dat (.tuple (nsD ws))], k⟩ = .ok (.bool true) ⟨[.dat (.tuple (nsD ws))], k⟩ := mCallC_ru (ga_m rfl ga_nil) (cs := []) rfl q
    exact bNot_t (toB_ru c)
  have e2 : mChain (fun i j => decide (i ≤ j)) (fun i j => decide (i ≤ j)) (.m (mC (.int 1))) (.m (mF dLenA [.sl 0])) (.m (mC (.int 256))) ⟨[.dat (.tuple (nsD ws))], k⟩ = .ok (.bool (decide (((nsD ws).length : Int) ≤ 256))) ⟨[.dat (.tuple (nsD ws))], k⟩ :=
    mChain_ru (i := 1) (j := ((nsD ws).length : Nat)) (z := 256) (s1 := ⟨[.dat (.tuple (nsD ws))], k⟩) rfl (by
      simp [nsD]
      omega) rfl
  have e3 : decide (((nsD ws).length : Int) ≤ 256) = true := by
    simp [nsD]
    omega
  rw [e3] at e2
  have e4 : sIf (bOr (bNot (toB (mCallC r_is_tuple_by [.m (mVar 0)] 0 []))) (bNot (toB (mChain (fun i j => decide (i ≤ j)) (fun i j => decide (i ≤ j)) (.m (mC (.int 1))) (.m (mF dLenA [.sl 0])) (.m (mC (.int 256))))))) (sRet (mC (.bool false))) sNop ⟨[.dat (.tuple (nsD ws))], k⟩ = .nx ⟨[.dat (.tuple (nsD ws))], k⟩ :=
    sIf_f (bOr_f e1 (bNot_t (toB_ru e2))) rfl
  have e5 : sRet (mF dAny [.sl 0]) ⟨[.dat (.tuple (nsD ws))], k⟩ = .rt (.bool true) ⟨[.dat (.tuple (nsD ws))], k⟩ := sRet_ru (mF_ru (ev_sl rfl ev_nil rfl) (any_ns ws hp))
  exact fnM_rt (mb := m_are_weights) (pad := 0) (s := ⟨[.dat (.tuple (nsD ws))], k⟩) ((sSeq_nx e4).trans e5)
theorem q_btw (n lo hi : Nat) (h1 : lo ≤ n) (h2 : n ≤ hi) (h3 : n < 1000) (k : Option Deck) : r_is_whole_between ⟨[.dat (nD n), .dat (.int (lo : Int)), .dat (.int (hi : Int))], k⟩ = .ok (.bool true) k := by
  rw [q_is_whole_between]
  have hb : Builtin.Int.intBits (n : Int) ≤ 10 := bits_le (z := (n : Int)) (n := 10) (by omega)
  have : isBtw (lo : Int) (hi : Int) (nD n) = true := by
    show (decide ((Builtin.Int.intBits (n : Int) : Int) ≤ 20000) && (decide ((lo : Int) ≤ (n : Int)) && decide ((n : Int) ≤ (hi : Int)))) = true
    simp only [Bool.and_eq_true, decide_eq_true_eq]
    omega
  rw [this]
theorem q_need_weights (ws : List Nat) (s : Nat) (hw : ∀ w ∈ ws, w < 1000) (hp : ∃ w ∈ ws, 0 < w) (hl : ws.length ≤ 200) (h2 : 2 ≤ s) (h12 : s ≤ 12) (k : Option Deck) : r_need_weights ⟨[.dat (.tuple (nsD ws)), .dat (nD s)], k⟩ = .ok .none k := by
  have e1 : sIf (bNot (toB (mCall r_are_weights [.m (mVar 0)]))) (sRaise "BadWeights" (mVar 0)) sNop ⟨[.dat (.tuple (nsD ws)), .dat (nD s)], k⟩ = .nx ⟨[.dat (.tuple (nsD ws)), .dat (nD s)], k⟩ :=
    sIf_f (bNot_t (toB_ru (show mCall r_are_weights [.m (mVar 0)] ⟨[.dat (.tuple (nsD ws)), .dat (nD s)], k⟩ = .ok (.bool true) ⟨[.dat (.tuple (nsD ws)), .dat (nD s)], k⟩ from mCall_ru (ga_m rfl ga_nil) (q_are_weights ws hw hp hl k)))) rfl
  have e2 : sIf (bNot (toB (mCall r_is_whole_between [.m (mVar 1), .m (mC (.int 2)), .m (mC (.int 12))]))) (sRaise "BadMany" (mVar 1)) sNop ⟨[.dat (.tuple (nsD ws)), .dat (nD s)], k⟩ = .nx ⟨[.dat (.tuple (nsD ws)), .dat (nD s)], k⟩ :=
    sIf_f (bNot_t (toB_ru (show mCall r_is_whole_between [.m (mVar 1), .m (mC (.int 2)), .m (mC (.int 12))] ⟨[.dat (.tuple (nsD ws)), .dat (nD s)], k⟩ = .ok (.bool true) ⟨[.dat (.tuple (nsD ws)), .dat (nD s)], k⟩ from mCall_ru (ga_m rfl (ga_m rfl (ga_m rfl ga_nil))) (q_btw s 2 12 h2 h12 (by omega) k)))) rfl
  exact fnM_nx (mb := m_need_weights) (pad := 0) (s := ⟨[.dat (.tuple (nsD ws)), .dat (nD s)], k⟩) ((sSeq_nx e1).trans e2)
theorem q_need_low (ws : List Nat) (hw : ∀ w ∈ ws, w < 1000000) (hp : ∃ w ∈ ws, 0 < w) (hl : ws.length ≤ 200) (hs : (lowW ws).sum ≤ 1000) (k : Option Deck) : r_need_low ⟨[.dat (.tuple (nsD ws))], k⟩ = .ok .none k := by
  have c1 : mCall r_lowest_weights [.m (mVar 0)] ⟨[.dat (.tuple (nsD ws))], k⟩ = .ok (.list (nsD (lowW ws))) ⟨[.dat (.tuple (nsD ws))], k⟩ := mCall_ru (ga_m rfl ga_nil) (q_lowest_weights ws hw hp (by omega) k)
  have c2 : mF dSum [.m (mCall r_lowest_weights [.m (mVar 0)])] ⟨[.dat (.tuple (nsD ws))], k⟩ = .ok (nD (lowW ws).sum) ⟨[.dat (.tuple (nsD ws))], k⟩ := mF_ru (ev_m c1 ev_nil) (dSum_lst _)
  have c3 : mF dGt [.m (mF dSum [.m (mCall r_lowest_weights [.m (mVar 0)])]), .m (mC (.int 1000))] ⟨[.dat (.tuple (nsD ws))], k⟩ = .ok (.bool (decide (1000 < (lowW ws).sum))) ⟨[.dat (.tuple (nsD ws))], k⟩ := mF_ru (ev_m c2 (ev_m rfl ev_nil)) (gt_nn _ 1000)
  have c4 : decide (1000 < (lowW ws).sum) = false := by
    simp
    omega
  rw [c4] at c3
  exact fnM_nx (mb := m_need_low) (pad := 0) (s := ⟨[.dat (.tuple (nsD ws))], k⟩) (sIf_f (toB_ru c3) rfl)
theorem pow_loop {a b c x6 : SV} {s : Nat} {k : Option Deck} {M : Nat} (hM : M ≤ 1000) (hs : s ≤ 12) (h1 : 1 ≤ s) : ∀ (n : Nat) (ds : List D) (m : Nat) (x5 : SV), ds.length = n → m * s ^ n ≤ M → ∃ y5, forL (.nm 5) (sSet 4 (mF dMulA [.sl 4, .sl 1])) ds ⟨[a, .dat (nD s), b, c, .dat (nD m), x5, x6], k⟩ = .nx ⟨[a, .dat (nD s), b, c, .dat (nD (m * s ^ n)), y5, x6], k⟩
  | 0, ds, m, x5, hl, _ => by
    cases List.length_eq_zero_iff.mp hl
    refine ⟨x5, ?_⟩
    rw [Nat.pow_zero, Nat.mul_one] <;> rfl
  | n + 1, ds, m, x5, hl, hm => by
    cases ds with
    | nil => simp at hl
    | cons d r =>
      have hp : 1 ≤ s ^ (n + 1) := Nat.pow_pos h1
      have hmM : m ≤ M := Nat.le_trans (Nat.le_mul_of_pos_right m hp) hm
      have e : m * s * s ^ n = m * s ^ (n + 1) := by rw [Nat.pow_succ, Nat.mul_assoc, Nat.mul_comm s]
      obtain ⟨y5, e1⟩ := pow_loop hM hs h1 n r (m * s) (.dat d) (by simpa using hl) (by rw [e]; exact hm)
      rw [e] at e1
      have e0 : turn (.nm 5) (sSet 4 (mF dMulA [.sl 4, .sl 1])) d ⟨[a, .dat (nD s), b, c, .dat (nD m), x5, x6], k⟩ = .nx ⟨[a, .dat (nD s), b, c, .dat (nD (m * s)), .dat d, x6], k⟩ := by
        rw [turn_nm (by simp)]
        have e2 : mF dMulA [.sl 4, .sl 1] ⟨[a, .dat (nD s), b, c, .dat (nD m), .dat d, x6], k⟩ = .ok (nD (m * s)) ⟨[a, .dat (nD s), b, c, .dat (nD m), .dat d, x6], k⟩ := mF_ru (ev_sl rfl (ev_sl rfl ev_nil rfl) rfl) (ml_nn (by omega) (by omega))
        exact sSet_ru e2 (by simp)
      exact ⟨y5, (forL_cons e0).trans e1⟩
theorem q_settled (ws : List Nat) (s r : Nat) (hw : ∀ w ∈ ws, w < 1000) (hp : ∃ w ∈ ws, 0 < w) (hl : ws.length ≤ 200) (h2 : 2 ≤ s) (h12 : s ≤ 12) (hr : r ≤ 60) (hsr : s ^ r ≤ 1000) (hs1 : (lowW ws).sum ≤ 1000) (hs0 : 0 < (lowW ws).sum) (k : Option Deck) :
    r_settled ⟨[.dat (.tuple (nsD ws)), .dat (nD s), .dat (nD r)], k⟩ = .ok (.tuple (nsD ((lowW ws).map fun w => w * s ^ r / (lowW ws).sum))) k := by
  have hw6 : ∀ w ∈ ws, w < 1000000 := fun w h => by have := hw w h; omega
  have hbig := line_big
  let A : SV := .dat (.tuple (nsD ws))
  have e1 : sDrop (mCall r_need_weights [.m (mVar 0), .m (mVar 1)]) ⟨[A, .dat (nD s), .dat (nD r), .unk, .unk, .unk, .unk], k⟩ = .nx ⟨[A, .dat (nD s), .dat (nD r), .unk, .unk, .unk, .unk], k⟩ :=
    sDrop_ru (mCall_ru (ga_m rfl (ga_m rfl ga_nil)) (q_need_weights ws s hw hp hl h2 h12 k))
  have e2 : sIf (bNot (toB (mCall r_is_whole_between [.m (mVar 2), .m (mC (.int 0)), .m (mC (.int 60))]))) (sRaise "BadMany" (mVar 2)) sNop ⟨[A, .dat (nD s), .dat (nD r), .unk, .unk, .unk, .unk], k⟩ = .nx ⟨[A, .dat (nD s), .dat (nD r), .unk, .unk, .unk, .unk], k⟩ :=
    sIf_f (bNot_t (toB_ru (show mCall r_is_whole_between [.m (mVar 2), .m (mC (.int 0)), .m (mC (.int 60))] ⟨[A, .dat (nD s), .dat (nD r), .unk, .unk, .unk, .unk], k⟩ = .ok (.bool true) ⟨[A, .dat (nD s), .dat (nD r), .unk, .unk, .unk, .unk], k⟩ from mCall_ru (ga_m rfl (ga_m rfl (ga_m rfl ga_nil))) (q_btw r 0 60 (Nat.zero_le _) hr (by omega) k)))) rfl
  have e3 : sDrop (mCall r_need_low [.m (mVar 0)]) ⟨[A, .dat (nD s), .dat (nD r), .unk, .unk, .unk, .unk], k⟩ = .nx ⟨[A, .dat (nD s), .dat (nD r), .unk, .unk, .unk, .unk], k⟩ :=
    sDrop_ru (mCall_ru (ga_m rfl ga_nil) (q_need_low ws hw6 hp hl hs1 k))
  have e4 : sPat (.tup [(.nm 3), (.nm 4)]) (mTup [mCall r_lowest_weights [.m (mVar 0)], mC (.int 1)]) ⟨[A, .dat (nD s), .dat (nD r), .unk, .unk, .unk, .unk], k⟩ = .nx ⟨[A, .dat (nD s), .dat (nD r), .dat (.list (nsD (lowW ws))), .dat (nD 1), .unk, .unk], k⟩ := by
    have c1 : mCall r_lowest_weights [.m (mVar 0)] ⟨[A, .dat (nD s), .dat (nD r), .unk, .unk, .unk, .unk], k⟩ = .ok (.list (nsD (lowW ws))) ⟨[A, .dat (nD s), .dat (nD r), .unk, .unk, .unk, .unk], k⟩ := mCall_ru (ga_m rfl ga_nil) (q_lowest_weights ws hw6 hp (by omega) k)
    exact sPat_ru (mTup_ru (em_cons c1 (em_cons rfl em_nil)) line2) (by simp [asgP, asgPs, nD])
  obtain ⟨y5, e5⟩ := pow_loop (a := A) (b := .dat (nD r)) (c := .dat (.list (nsD (lowW ws)))) (x6 := .unk) (s := s) (k := k) (M := 1000) (Nat.le_refl _) h12 (by omega) r (nsD (List.range r)) 1 .unk (by simp [nsD]) (by rw [Nat.one_mul]; exact hsr)
  rw [Nat.one_mul] at e5
  have e5' : sFor (mRange1 (.sl 2)) (.nm 5) (sSet 4 (mF dMulA [.sl 4, .sl 1])) ⟨[A, .dat (nD s), .dat (nD r), .dat (.list (nsD (lowW ws))), .dat (nD 1), .unk, .unk], k⟩ = .nx ⟨[A, .dat (nD s), .dat (nD r), .dat (.list (nsD (lowW ws))), .dat (nD (s ^ r)), y5, .unk], k⟩ := (sFor_of (mR1_of rfl (by omega))).trans e5
  have hlw : (lowW ws).length ≤ line := by
    unfold lowW
    rw [List.length_map]
    omega
  have e6 := mLc_fn (e := nD) (f := fun w => nD (w * s ^ r / (lowW ws).sum)) (xs := lowW ws) (v := 6) (m := mF dFloor [.m (mF dMulA [.sl 6, .sl 4]), .m (mF dSum [.sl 3])]) (mi := mItD (mVar 3)) (s := ⟨[A, .dat (nD s), .dat (nD r), .dat (.list (nsD (lowW ws))), .dat (nD (s ^ r)), y5, .unk], k⟩) (ρ := [A, .dat (nD s), .dat (nD r), .dat (.list (nsD (lowW ws))), .dat (nD (s ^ r)), y5, .unk]) (k := k) rfl (by simp) hlw
    (fun w hw => by
      have h := le_sum _ _ hw
      have c1 : mF dMulA [.sl 6, .sl 4] ⟨[A, .dat (nD s), .dat (nD r), .dat (.list (nsD (lowW ws))), .dat (nD (s ^ r)), y5, .dat (nD w)], k⟩ = .ok (nD (w * s ^ r)) ⟨[A, .dat (nD s), .dat (nD r), .dat (.list (nsD (lowW ws))), .dat (nD (s ^ r)), y5, .dat (nD w)], k⟩ := mF_ru (ev_sl rfl (ev_sl rfl ev_nil rfl) rfl) (ml_nn (by omega) (by omega))
      have c2 : mF dSum [.sl 3] ⟨[A, .dat (nD s), .dat (nD r), .dat (.list (nsD (lowW ws))), .dat (nD (s ^ r)), y5, .dat (nD w)], k⟩ = .ok (nD (lowW ws).sum) ⟨[A, .dat (nD s), .dat (nD r), .dat (.list (nsD (lowW ws))), .dat (nD (s ^ r)), y5, .dat (nD w)], k⟩ := mF_ru (ev_sl rfl ev_nil rfl) (dSum_lst _)
      exact mF_ru (ev_m c1 (ev_m c2 ev_nil)) (fl_nn hs0 (by omega)))
  have e7 : (lowW ws).map (fun w => nD (w * s ^ r / (lowW ws).sum)) = nsD ((lowW ws).map fun w => w * s ^ r / (lowW ws).sum) := by
    unfold nsD
    rw [List.map_map] <;> rfl
  rw [e7] at e6
  exact fnM_rt (mb := m_settled) (pad := 4) (s := ⟨[A, .dat (nD s), .dat (nD r)], k⟩) ((sSeq_nx e1).trans ((sSeq_nx e2).trans ((sSeq_nx e3).trans ((sSeq_nx e4).trans ((sSeq_nx e5').trans (sRet_ru (mF_ru (ev_m (mFrz_ru e6) ev_nil) rfl)))))))
end Lw

set_option Elab.async false
set_option linter.all false
set_option maxRecDepth 100000
/-! k17: all tapes; the tapes of rows. -/
namespace Lf
open PySem PySem.Spec PyProof.Rows L2
theorem mKy_ru {m : S0 → Lf.R SV} {s s1 : S0} {sv : SV} {k : Ky} (h : m s = .ok sv s1) (hk : kyOf sv = some k) : mKy m s = .ok k s1 := by
  unfold mKy
  rw [h]
  show (match kyOf sv with
    | some k => Lf.R.ok k s1
    | none => .bad) = _
  rw [hk]
theorem mDGet2_ru {i : Nat} {mk : S0 → Lf.R Ky} {m : S0 → Lf.R D} {s s1 s2 : S0} {k : Ky} {d0 : D} {o : Option D} (h0 : isDk' s.ρ[i]? = true) (hk : mk s = .ok k s1) (hm : m s1 = .ok d0 s2) (ho : (s2.ρ[i]?).bind (fun sv => dGet sv k) = some o) : mDGet2 i mk m s = .ok (o.getD d0) s2 := by
  unfold mDGet2
  rw [if_pos h0, hk]
  show (m s1).bind _ = _
  rw [hm]
  show (match (s2.ρ[i]?).bind fun sv => dGet sv k with
    | some o => Lf.R.ok (o.getD d0) s2
    | _ => .bad) = _
  rw [ho]
theorem sDput_ru {i : Nat} {mk : S0 → Lf.R Ky} {m : S0 → Lf.R D} {s s1 s2 : S0} {k : Ky} {d : D} {sv : SV} (hm : m s = .ok d s1) (h0 : isDk' s1.ρ[i]? = true) (hk : mk s1 = .ok k s2) (hp : (s2.ρ[i]?).bind (fun sv => dPut sv k d) = some sv) : sDput i mk m s = .nx { s2 with ρ := s2.ρ.set i sv } := by
  unfold sDput
  rw [hm]
  show (if isDk' s1.ρ[i]? then (mk s1).toS fun k s2 => (match (s2.ρ[i]?).bind fun sv => dPut sv k d with
    | some sv => RS.nx { s2 with ρ := s2.ρ.set i sv }
    | none => .bad) else .bad) = _
  rw [if_pos h0, hk]
  show (match (s2.ρ[i]?).bind fun sv => dPut sv k d with
    | some sv => RS.nx { s2 with ρ := s2.ρ.set i sv }
    | none => .bad) = _
  rw [hp]
theorem valM_put {κ β : Type} [DecidableEq κ] (kvs : List (κ × β)) (k k' : κ) (v : β) : valM (putM kvs k v) k' = if k' = k then some v else valM kvs k' := by
  unfold putM
  split
  · rename_i h
    induction kvs with
    | nil => simp at h
    | cons p r ih =>
      unfold valM at ih ⊢
      rw [List.map_cons]
      by_cases hp : p.1 = k
      · by_cases hk : k' = k
        · simp [List.find?_cons, hp, hk]
        · have hpk : ¬ p.1 = k' := fun z => hk (z.symm.trans hp)
          have hkk : ¬ k = k' := fun z => hk z.symm
          by_cases hr : (r.any fun kv => decide (kv.1 = k)) = true
          · have := ih hr
            simp only [List.find?_cons, hp, if_true, hkk, decide_false, hk, if_false] at this ⊢
            exact this
          · have e : r.map (fun kv => if kv.1 = k then (kv.1, v) else kv) = r := by
              have : r.map (fun kv => if kv.1 = k then (kv.1, v) else kv) = r.map id := by
                apply List.map_congr_left
                intro x hx
                have : ¬ x.1 = k := fun z => hr (List.any_eq_true.mpr ⟨x, hx, by simpa using z⟩)
                rw [if_neg this] <;> rfl
              rw [this, List.map_id]
            rw [e]
            simp [List.find?_cons, hp, hk, hkk]
      · have hr : (r.any fun kv => decide (kv.1 = k)) = true := by
          rw [List.any_cons] at h
          simpa [hp] using h
        have ih := ih hr
        rw [if_neg hp]
        by_cases hk' : p.1 = k'
        · have : ¬ k' = k := fun z => hp (hk'.trans z)
          simp [List.find?_cons, hk', this]
        · simp only [List.find?_cons, hk', decide_false]
          exact ih
  · rename_i h
    unfold valM
    rw [List.find?_append]
    by_cases hk : k' = k
    · subst hk
      have : kvs.find? (fun kv => decide (kv.1 = k')) = none := by
        rw [List.find?_eq_none]
        intro x hx z
        exact h (List.any_eq_true.mpr ⟨x, hx, z⟩)
      simp [this, List.find?_cons]
    · have hkk : ¬ k = k' := fun z => hk z.symm
      simp [List.find?_cons, hk, hkk]
theorem putM_len {κ β : Type} [DecidableEq κ] (kvs : List (κ × β)) (k : κ) (v : β) : (putM kvs k v).length ≤ kvs.length + 1 := by
  unfold putM
  split
  · rw [List.length_map]
    omega
  · simp
end Lf
namespace Lw
open PySem PySem.Spec PyProof.Rows L2 NdefX Lf
def extN (s : Nat) (t : List Nat) : List (List Nat) := (List.range s).map fun x => t ++ [x]
def atB : MS := sDrop (mExt 4 (mFrz (mLc (.nm 6) [6] (mRange1 (.sl 0)) (tYesM) (mF dAdd [.sl 5, .m (mTup [mVar 6])]))))
theorem at_loop {b c d : SV} {s : Nat} {k : Option Deck} (hs : s ≤ 1000) : ∀ (ts : List (List Nat)) (acc : List D) (x5 : SV), acc.length + ts.length * s ≤ line → (∀ t ∈ ts, t.length ≤ 1000) →
    ∃ y5, forL (.nm 5) atB (ts.map tapeD) ⟨[.dat (nD s), b, c, d, .lst acc, x5, .unk], k⟩ = .nx ⟨[.dat (nD s), b, c, d, .lst (acc ++ (ts.flatMap (extN s)).map tapeD), y5, .unk], k⟩ := by
  intro ts
  have hbig := line_big
  induction ts with
  | nil =>
    intro acc x5 _ _
    refine ⟨x5, ?_⟩
    show RS.nx _ = RS.nx _
    simp
  | cons t ts ih =>
    intro acc x5 hl ht
    rw [List.length_cons, Nat.add_mul, Nat.one_mul] at hl
    have htl := ht t List.mem_cons_self
    have el : (extN s t).length = s := by simp [extN]
    obtain ⟨y5, e⟩ := ih (acc ++ (extN s t).map tapeD) (.dat (tapeD t)) (by
      rw [List.length_append, List.length_map, el]
      omega) fun z hz => ht z (List.mem_cons_of_mem _ hz)
    have e0 : turn (.nm 5) atB (tapeD t) ⟨[.dat (nD s), b, c, d, .lst acc, x5, .unk], k⟩ = .nx ⟨[.dat (nD s), b, c, d, .lst (acc ++ (extN s t).map tapeD), .dat (tapeD t), .unk], k⟩ := by
      rw [turn_nm (by simp)]
      have c1 := mLc_fn (e := nD) (f := fun x => tapeD (t ++ [x])) (xs := List.range s) (v := 6) (m := mF dAdd [.sl 5, .m (mTup [mVar 6])]) (mi := mRange1 (.sl 0)) (s := ⟨[.dat (nD s), b, c, d, .lst acc, .dat (tapeD t), .unk], k⟩) (ρ := [.dat (nD s), b, c, d, .lst acc, .dat (tapeD t), .unk]) (k := k) (mR1_of rfl (by omega)) (by simp) (by rw [List.length_range]; omega)
        (fun x _ => by
          have c2 : mTup [mVar 6] ⟨[.dat (nD s), b, c, d, .lst acc, .dat (tapeD t), .dat (nD x)], k⟩ = .ok (.tuple [nD x]) ⟨[.dat (nD s), b, c, d, .lst acc, .dat (tapeD t), .dat (nD x)], k⟩ := mTup_ru (em_cons rfl em_nil) line1
          have c3 : dAdd [tapeD t, .tuple [nD x]] = some (tapeD (t ++ [x])) := by
            show (if (nsD t).length + [nD x].length ≤ line then some (PyData.tuple (nsD t ++ [nD x])) else none) = _
            have h1 : (nsD t).length + [nD x].length ≤ line := by
              simp [nsD]
              omega
            rw [if_pos h1]
            unfold tapeD nsD
            rw [List.map_append] <;> rfl
          exact mF_ru (ev_sl rfl (ev_m c2 ev_nil) rfl) c3)
      have c4 : (List.range s).map (fun x => tapeD (t ++ [x])) = (extN s t).map tapeD := by
        unfold extN
        rw [List.map_map] <;> rfl
      rw [c4] at c1
      exact sDrop_ru (mExt_ru (i := 4) (ys := acc) (xs := acc) (s1 := ⟨[.dat (nD s), b, c, d, .lst acc, .dat (tapeD t), .unk], k⟩) rfl (mFrz_ru c1) rfl (by
        rw [List.length_map, el]
        omega))
    refine ⟨y5, (forL_cons e0).trans (e.trans ?_)⟩
    rw [List.flatMap_cons, List.map_append, List.append_assoc]
def atO : MS := (sSeq (sSetN 4 (nLst []))
  (sSeq (sFor (mItD (mVar 2)) (.nm 5)
  atB)
  (sSet 2 (mF dListA [.sl 4]))))
theorem ato_loop {b : SV} {s R0 : Nat} {k : Option Deck} (hs : 1 ≤ s) (hs2 : s ≤ 12) (hR0 : R0 ≤ 60) (hM : s ^ R0 ≤ 1000) : ∀ (n : Nat) (ds : List D) (r : Nat) (x3 x4 x5 : SV), ds.length = n → r + n = R0 →
    ∃ y3 y4 y5, forL (.nm 3) atO ds ⟨[.dat (nD s), b, .dat (.list ((tapesN s r).map tapeD)), x3, x4, x5, .unk], k⟩ = .nx ⟨[.dat (nD s), b, .dat (.list ((tapesN s R0).map tapeD)), y3, y4, y5, .unk], k⟩
  | 0, ds, r, x3, x4, x5, hl, hr => by
    cases List.length_eq_zero_iff.mp hl
    rw [Nat.add_zero] at hr
    subst hr
    exact ⟨x3, x4, x5, rfl⟩
  | n + 1, ds, r, x3, x4, x5, hl, hr => by
    cases ds with
    | nil => simp at hl
    | cons d ds =>
      have hbig := line_big
      have hle : s ^ (r + 1) ≤ s ^ R0 := Nat.pow_le_pow_right hs (by omega)
      rw [Nat.pow_succ] at hle
      obtain ⟨y5, e2⟩ := at_loop (b := b) (c := .dat (.list ((tapesN s r).map tapeD))) (d := .dat d) (s := s) (k := k) (by omega) (tapesN s r) [] x5 (by rw [tapes_many, List.length_nil]; omega) (fun t ht => by rw [tapes_len s r t ht]; omega)
      rw [List.nil_append] at e2
      obtain ⟨z3, z4, z5, e4⟩ := ato_loop hs hs2 hR0 hM n ds (r + 1) (.dat d) (.lst ((tapesN s (r + 1)).map tapeD)) y5 (by simpa using hl) (by omega)
      have e0 : turn (.nm 3) atO d ⟨[.dat (nD s), b, .dat (.list ((tapesN s r).map tapeD)), x3, x4, x5, .unk], k⟩ = atO ⟨[.dat (nD s), b, .dat (.list ((tapesN s r).map tapeD)), .dat d, x4, x5, .unk], k⟩ := by
        rw [turn_nm (by simp)] <;> rfl
      have e1 : sSetN 4 (nLst []) ⟨[.dat (nD s), b, .dat (.list ((tapesN s r).map tapeD)), .dat d, x4, x5, .unk], k⟩ = .nx ⟨[.dat (nD s), b, .dat (.list ((tapesN s r).map tapeD)), .dat d, .lst [], x5, .unk], k⟩ := sSetN_ru (nLst_ru em_nil (Nat.zero_le _)) (by simp)
      have e2' := (sFor_of (mi := mItD (mVar 2)) (p := .nm 5) (body := atB) (s := ⟨[.dat (nD s), b, .dat (.list ((tapesN s r).map tapeD)), .dat d, .lst [], x5, .unk], k⟩) (mItD_ru rfl rfl)).trans e2
      have e3 : sSet 2 (mF dListA [.sl 4]) ⟨[.dat (nD s), b, .dat (.list ((tapesN s r).map tapeD)), .dat d, .lst ((tapesN s (r + 1)).map tapeD), y5, .unk], k⟩ = .nx ⟨[.dat (nD s), b, .dat (.list ((tapesN s (r + 1)).map tapeD)), .dat d, .lst ((tapesN s (r + 1)).map tapeD), y5, .unk], k⟩ := by
        have c : mF dListA [.sl 4] ⟨[.dat (nD s), b, .dat (.list ((tapesN s r).map tapeD)), .dat d, .lst ((tapesN s (r + 1)).map tapeD), y5, .unk], k⟩ = .ok (.list ((tapesN s (r + 1)).map tapeD)) ⟨[.dat (nD s), b, .dat (.list ((tapesN s r).map tapeD)), .dat d, .lst ((tapesN s (r + 1)).map tapeD), y5, .unk], k⟩ := mF_ru (ev_sl rfl ev_nil rfl) rfl
        exact sSet_ru c (by simp)
      exact ⟨z3, z4, z5, (forL_cons (e0.trans ((sSeq_nx e1).trans ((sSeq_nx e2').trans e3)))).trans e4⟩
theorem q_all_tapes (s r : Nat) (hs : 1 ≤ s) (hs2 : s ≤ 12) (hr : r ≤ 60) (hM : s ^ r ≤ 1000) (k : Option Deck) : r__law_all_tapes ⟨[.dat (nD s), .dat (nD r)], k⟩ = .ok (.list ((tapesN s r).map tapeD)) k := by
  have e1 : sSet 2 (mFrz (nLst [mTup []])) ⟨[.dat (nD s), .dat (nD r), .unk, .unk, .unk, .unk, .unk], k⟩ = .nx ⟨[.dat (nD s), .dat (nD r), .dat (.list ((tapesN s 0).map tapeD)), .unk, .unk, .unk, .unk], k⟩ :=
    sSet_ru (mFrz_ru (nLst_ru (em_cons (mTup_ru em_nil (Nat.zero_le _)) em_nil) line1)) (by simp)
  obtain ⟨y3, y4, y5, e2⟩ := ato_loop (b := .dat (nD r)) (s := s) (R0 := r) (k := k) hs hs2 hr hM r (nsD (List.range r)) 0 .unk .unk .unk (by simp [nsD]) (by omega)
  have e2' := (sFor_of (mi := mRange1 (.sl 1)) (p := .nm 3) (body := atO) (s := ⟨[.dat (nD s), .dat (nD r), .dat (.list ((tapesN s 0).map tapeD)), .unk, .unk, .unk, .unk], k⟩) (mR1_of (n := r) rfl (by omega))).trans e2
  have e3 : sRet (mVar 2) ⟨[.dat (nD s), .dat (nD r), .dat (.list ((tapesN s r).map tapeD)), y3, y4, y5, .unk], k⟩ = .rt (.list ((tapesN s r).map tapeD)) ⟨[.dat (nD s), .dat (nD r), .dat (.list ((tapesN s r).map tapeD)), y3, y4, y5, .unk], k⟩ := rfl
  exact fnM_rt (mb := m__law_all_tapes) (pad := 5) (s := ⟨[.dat (nD s), .dat (nD r)], k⟩) ((sSeq_nx e1).trans ((sSeq_nx e2').trans e3))
end Lw

set_option Elab.async false
set_option linter.all false
set_option maxRecDepth 100000
/-! k17: is_right, tape by tape. -/
namespace Lw
open PySem PySem.Spec PyProof.Rows L2 NdefX Lf
abbrev irS (rs : List (List St)) (s : Nat) (W : SV) (r : Nat) (kvs : List (Key × D)) (x6 x7 x8 x9 : SV) (kd : Deck) : S0 := ⟨[.deck, .dat (rowsD rs), .dat (nD s), W, .dat (nD r), .dk kvs, x6, x7, x8, x9, .unk], some kd⟩
def irB : MS := (sSeq (sSet 8 (mCall r__law_rolled [.m (mVar 1), .m (mVar 7)]))
  (sSeq (sIf (bNot (toB (mCall r__law_same [.m (mIf (toB (mF dEq [.m (mF dBitAnd [.sl 6, .m (mC (.int 1))]), .m (mC (.int 0))])) (mCall r_rolled [.m (mVar 1), .m (mVar 7)]) (mCallK r_rolled [.m (mVar 7), .m (mVar 1)] [1, 0])), .m (mVar 8)])))
  (sRet (mC (.bool false)))
  (sNop))
  (sIf (toB (mF dEq [.m (mF dIx [.sl 8, .m (mC (.int 0))]), .m (mC (.str "done"))]))
  (sSeq (sDput 5 (mKy (svD (mF dIx [.sl 8, .m (mC (.int 1))]))) (mF dAdd [.m (mDGet2 5 (mKy (svD (mF dIx [.sl 8, .m (mC (.int 1))]))) (mC (.int 0))), .m (mC (.int 1))]))
  (sSeq (sSet 9 (mF dAdd [.sl 7, .m (mTup [mCall r__law_draw [.dk 0, .m (mVar 2)], mCall r__law_draw [.dk 0, .m (mVar 2)]])]))
  (sIf (bAnd (toB (mF dLt [.sl 6, .m (mC (.int 6))])) (bNot (toB (mCall r__law_same [.m (mCall r_rolled [.m (mVar 1), .m (mVar 9)]), .m (mVar 8)]))))
  (sRet (mC (.bool false)))
  (sNop))))
  (sNop))))
/-- how often each outcome came -/
structure Cnt (kvs : List (Key × D)) (os : List St) : Prop where
  val : ∀ c : Nat, (valM kvs (.inl (c : Int))).getD (.int 0) = nD (cntOf c os)
  len : kvs.length ≤ os.length
theorem ir_draw {rs : List (List St)} {s : Nat} {W : SV} {r : Nat} {kvs : List (Key × D)} {x6 x7 x8 x9 : SV} {kd : Deck} {n : Nat} (g : Good n kd) (hn : n < 1000000) (h1 : 1 ≤ s) (h12 : s ≤ 12) :
    ∃ (v : Nat) (kd' : Deck), v < s ∧ Good (n + 1) kd' ∧ mCall r__law_draw [.dk 0, .m (mVar 2)] (irS rs s W r kvs x6 x7 x8 x9 kd) = .ok (nD v) (irS rs s W r kvs x6 x7 x8 x9 kd') := by
  obtain ⟨v, kd', e, hv0, hv1, g'⟩ := q_draw (many := (s : Int)) g (by omega) (by omega) (by omega)
  refine ⟨v.toNat, kd', by omega, g', ?_⟩
  have ev : ((v.toNat : Nat) : Int) = v := Int.toNat_of_nonneg hv0
  have e2 : nD v.toNat = .int v := by
    show PyData.int _ = _
    rw [ev]
  rw [e2]
  exact mCall_ru (ga_dk rfl (ga_m rfl ga_nil)) e
theorem ir_turn {rs : List (List St)} {s : Nat} (h : RowsOk s rs) {W : SV} {r : Nat} {kvs : List (Key × D)} {x6 x7 x8 x9 : SV} {kd : Deck} {n i : Nat} {t : List Nat} {os : List St} (g : Good n kd) (hn : n < 100000) (ht : ∀ x ∈ t, x < s) (htl : t.length ≤ 100) (hc : Cnt kvs os) (hos : os.length ≤ 1000) :
    ∃ kvs' y9 kd', turn (.tup [(.nm 6), (.nm 7)]) irB (.tuple [nD i, tapeD t]) (irS rs s W r kvs x6 x7 x8 x9 kd) = .nx (irS rs s W r kvs' (.dat (nD i)) (.dat (tapeD t)) (.dat (wkD (walkT rs 0 0 t))) y9 kd') ∧ Good (n + 2) kd' ∧ Cnt kvs' (os ++ [(walkT rs 0 0 t).st]) := by
  have hbig := line_big
  have h2 := h.s2
  have h12 := h.s12
  let w := walkT rs 0 0 t
  have e0 : turn (.tup [(.nm 6), (.nm 7)]) irB (.tuple [nD i, tapeD t]) (irS rs s W r kvs x6 x7 x8 x9 kd) = irB (irS rs s W r kvs (.dat (nD i)) (.dat (tapeD t)) x8 x9 kd) := by
    simp [turn, asgP, asgPs]
  have e1 : sSet 8 (mCall r__law_rolled [.m (mVar 1), .m (mVar 7)]) (irS rs s W r kvs (.dat (nD i)) (.dat (tapeD t)) x8 x9 kd) = .nx (irS rs s W r kvs (.dat (nD i)) (.dat (tapeD t)) (.dat (wkD w)) x9 kd) := by
    have c : mCall r__law_rolled [.m (mVar 1), .m (mVar 7)] (irS rs s W r kvs (.dat (nD i)) (.dat (tapeD t)) x8 x9 kd) = .ok (wkD w) (irS rs s W r kvs (.dat (nD i)) (.dat (tapeD t)) x8 x9 kd) := mCall_ru (ga_m rfl (ga_m rfl ga_nil)) (q_law_rolled h ht _)
    exact sSet_ru c (by simp)
  have hsame : ∀ k, r__law_same ⟨[.dat (wkD w), .dat (wkD w)], k⟩ = .ok (.bool true) k := fun k => q_same (ok1_mono (by decide) (ok1_wk w)) (by have := sz_wk w; omega)
  have e2 : sIf (bNot (toB (mCall r__law_same [.m (mIf (toB (mF dEq [.m (mF dBitAnd [.sl 6, .m (mC (.int 1))]), .m (mC (.int 0))])) (mCall r_rolled [.m (mVar 1), .m (mVar 7)]) (mCallK r_rolled [.m (mVar 7), .m (mVar 1)] [1, 0])), .m (mVar 8)]))) (sRet (mC (.bool false))) sNop (irS rs s W r kvs (.dat (nD i)) (.dat (tapeD t)) (.dat (wkD w)) x9 kd) = .nx (irS rs s W r kvs (.dat (nD i)) (.dat (tapeD t)) (.dat (wkD w)) x9 kd) := by
    have hr := q_rolled_ok h ht (by omega) (some kd)
    have c1 : mCall r_rolled [.m (mVar 1), .m (mVar 7)] (irS rs s W r kvs (.dat (nD i)) (.dat (tapeD t)) (.dat (wkD w)) x9 kd) = .ok (wkD w) (irS rs s W r kvs (.dat (nD i)) (.dat (tapeD t)) (.dat (wkD w)) x9 kd) := mCall_ru (ga_m rfl (ga_m rfl ga_nil)) hr
    have c2 : mCallK r_rolled [.m (mVar 7), .m (mVar 1)] [1, 0] (irS rs s W r kvs (.dat (nD i)) (.dat (tapeD t)) (.dat (wkD w)) x9 kd) = .ok (wkD w) (irS rs s W r kvs (.dat (nD i)) (.dat (tapeD t)) (.dat (wkD w)) x9 kd) := mCallK_ru (ga_m rfl (ga_m rfl ga_nil)) hr
    have c3 : mF dEq [.m (mF dBitAnd [.sl 6, .m (mC (.int 1))]), .m (mC (.int 0))] (irS rs s W r kvs (.dat (nD i)) (.dat (tapeD t)) (.dat (wkD w)) x9 kd) = .ok (.bool (decide (Builtin.bitAnd (i : Int) 1 = 0))) (irS rs s W r kvs (.dat (nD i)) (.dat (tapeD t)) (.dat (wkD w)) x9 kd) :=
      mF_ru (ds := [.int (Builtin.bitAnd (i : Int) 1), .int 0]) rfl (dEq_int _ _)
    have c4 : mIf (toB (mF dEq [.m (mF dBitAnd [.sl 6, .m (mC (.int 1))]), .m (mC (.int 0))])) (mCall r_rolled [.m (mVar 1), .m (mVar 7)]) (mCallK r_rolled [.m (mVar 7), .m (mVar 1)] [1, 0]) (irS rs s W r kvs (.dat (nD i)) (.dat (tapeD t)) (.dat (wkD w)) x9 kd) = .ok (wkD w) (irS rs s W r kvs (.dat (nD i)) (.dat (tapeD t)) (.dat (wkD w)) x9 kd) := by
      cases hb : decide (Builtin.bitAnd (i : Int) 1 = 0) with
      | true =>
        rw [hb] at c3
        exact mIf_t (toB_ru c3) c1
      | false =>
        rw [hb] at c3
        exact mIf_f (toB_ru c3) c2
    have c5 : mCall r__law_same [.m (mIf (toB (mF dEq [.m (mF dBitAnd [.sl 6, .m (mC (.int 1))]), .m (mC (.int 0))])) (mCall r_rolled [.m (mVar 1), .m (mVar 7)]) (mCallK r_rolled [.m (mVar 7), .m (mVar 1)] [1, 0])), .m (mVar 8)] (irS rs s W r kvs (.dat (nD i)) (.dat (tapeD t)) (.dat (wkD w)) x9 kd) = .ok (.bool true) (irS rs s W r kvs (.dat (nD i)) (.dat (tapeD t)) (.dat (wkD w)) x9 kd) := mCall_ru (ga_m c4 (ga_m rfl ga_nil)) (hsame _)
    exact sIf_f (bNot_t (toB_ru c5)) rfl
  cases hw : walkT rs 0 0 t with
  | on j =>
    have hw' : w = .on j := hw
    have c1 : mF dEq [.m (mF dIx [.sl 8, .m (mC (.int 0))]), .m (mC (.str "done"))] (irS rs s W r kvs (.dat (nD i)) (.dat (tapeD t)) (.dat (wkD w)) x9 kd) = .ok (.bool false) (irS rs s W r kvs (.dat (nD i)) (.dat (tapeD t)) (.dat (wkD w)) x9 kd) := by
      rw [hw']
      have c2 : mF dIx [.sl 8, .m (mC (.int 0))] (irS rs s W r kvs (.dat (nD i)) (.dat (tapeD t)) (.dat (wkD (.on j))) x9 kd) = .ok (.str "on") (irS rs s W r kvs (.dat (nD i)) (.dat (tapeD t)) (.dat (wkD (.on j))) x9 kd) := mF_ru (ds := [wkD (.on j), nD 0]) rfl ix_t
      exact mF_ru (ev_m c2 (ev_m rfl ev_nil)) eq_on
    refine ⟨kvs, x9, kd, ?_, g.mono (by omega), ?_⟩
    · rw [e0]
      refine ((sSeq_nx e1).trans ((sSeq_nx e2).trans (sIf_f (toB_ru c1) rfl))).trans ?_
      rw [hw'] <;> rfl
    · refine ⟨fun c => ?_, by rw [List.length_append]; exact Nat.le_trans hc.len (by simp)⟩
      rw [cntOf_append, hc.val c] <;> rfl
  | dn c u =>
    have hw' : w = .dn c u := hw
    have c0 : mF dIx [.sl 8, .m (mC (.int 1))] (irS rs s W r kvs (.dat (nD i)) (.dat (tapeD t)) (.dat (wkD w)) x9 kd) = .ok (nD c) (irS rs s W r kvs (.dat (nD i)) (.dat (tapeD t)) (.dat (wkD w)) x9 kd) := by
      rw [hw']
      exact mF_ru (ds := [wkD (.dn c u), nD 1]) rfl ix_t
    have c1 : mF dEq [.m (mF dIx [.sl 8, .m (mC (.int 0))]), .m (mC (.str "done"))] (irS rs s W r kvs (.dat (nD i)) (.dat (tapeD t)) (.dat (wkD w)) x9 kd) = .ok (.bool true) (irS rs s W r kvs (.dat (nD i)) (.dat (tapeD t)) (.dat (wkD w)) x9 kd) := by
      rw [hw']
      have c2 : mF dIx [.sl 8, .m (mC (.int 0))] (irS rs s W r kvs (.dat (nD i)) (.dat (tapeD t)) (.dat (wkD (.dn c u))) x9 kd) = .ok (.str "done") (irS rs s W r kvs (.dat (nD i)) (.dat (tapeD t)) (.dat (wkD (.dn c u))) x9 kd) := mF_ru (ds := [wkD (.dn c u), nD 0]) rfl ix_t
      exact mF_ru (ev_m c2 (ev_m rfl ev_nil)) eq_done
    have ck : mKy (svD (mF dIx [.sl 8, .m (mC (.int 1))])) (irS rs s W r kvs (.dat (nD i)) (.dat (tapeD t)) (.dat (wkD w)) x9 kd) = .ok (.inl (.inl (c : Int))) (irS rs s W r kvs (.dat (nD i)) (.dat (tapeD t)) (.dat (wkD w)) x9 kd) := mKy_ru (svD_ru c0) rfl
    have cg : mDGet2 5 (mKy (svD (mF dIx [.sl 8, .m (mC (.int 1))]))) (mC (.int 0)) (irS rs s W r kvs (.dat (nD i)) (.dat (tapeD t)) (.dat (wkD w)) x9 kd) = .ok (nD (cntOf c os)) (irS rs s W r kvs (.dat (nD i)) (.dat (tapeD t)) (.dat (wkD w)) x9 kd) := by
      rw [← hc.val c]
      exact mDGet2_ru rfl ck rfl rfl
    have ca : mF dAdd [.m (mDGet2 5 (mKy (svD (mF dIx [.sl 8, .m (mC (.int 1))]))) (mC (.int 0))), .m (mC (.int 1))] (irS rs s W r kvs (.dat (nD i)) (.dat (tapeD t)) (.dat (wkD w)) x9 kd) = .ok (nD (cntOf c os + 1)) (irS rs s W r kvs (.dat (nD i)) (.dat (tapeD t)) (.dat (wkD w)) x9 kd) := mF_ru (ev_m cg (ev_m rfl ev_nil)) (ad_nn (b := 1))
    have hkl : kvs.length < line := by
      have := hc.len
      omega
    have e3 : sDput 5 (mKy (svD (mF dIx [.sl 8, .m (mC (.int 1))]))) (mF dAdd [.m (mDGet2 5 (mKy (svD (mF dIx [.sl 8, .m (mC (.int 1))]))) (mC (.int 0))), .m (mC (.int 1))]) (irS rs s W r kvs (.dat (nD i)) (.dat (tapeD t)) (.dat (wkD w)) x9 kd) = .nx (irS rs s W r (putM kvs (.inl (c : Int)) (nD (cntOf c os + 1))) (.dat (nD i)) (.dat (tapeD t)) (.dat (wkD w)) x9 kd) :=
      sDput_ru ca rfl ck (by
        show dPut (.dk kvs) (.inl (.inl (c : Int))) (nD (cntOf c os + 1)) = _
        exact if_pos hkl)
    obtain ⟨v1, kd1, hv1, g1, ed1⟩ := ir_draw (rs := rs) (W := W) (r := r) (kvs := putM kvs (.inl (c : Int)) (nD (cntOf c os + 1))) (x6 := .dat (nD i)) (x7 := .dat (tapeD t)) (x8 := .dat (wkD w)) (x9 := x9) g (by omega) (by omega) h12
    obtain ⟨v2, kd2, hv2, g2, ed2⟩ := ir_draw (rs := rs) (W := W) (r := r) (kvs := putM kvs (.inl (c : Int)) (nD (cntOf c os + 1))) (x6 := .dat (nD i)) (x7 := .dat (tapeD t)) (x8 := .dat (wkD w)) (x9 := x9) g1 (by omega) (by omega) h12
    have e4 : sSet 9 (mF dAdd [.sl 7, .m (mTup [mCall r__law_draw [.dk 0, .m (mVar 2)], mCall r__law_draw [.dk 0, .m (mVar 2)]])]) (irS rs s W r (putM kvs (.inl (c : Int)) (nD (cntOf c os + 1))) (.dat (nD i)) (.dat (tapeD t)) (.dat (wkD w)) x9 kd) = .nx (irS rs s W r (putM kvs (.inl (c : Int)) (nD (cntOf c os + 1))) (.dat (nD i)) (.dat (tapeD t)) (.dat (wkD w)) (.dat (tapeD (t ++ [v1, v2]))) kd2) := by
      have d1 := mTup_ru (em_cons ed1 (em_cons ed2 em_nil)) line2
      have d2 : dAdd [tapeD t, .tuple [nD v1, nD v2]] = some (tapeD (t ++ [v1, v2])) := by
        show (if (nsD t).length + [nD v1, nD v2].length ≤ line then some (PyData.tuple (nsD t ++ [nD v1, nD v2])) else none) = _
        have h1 : (nsD t).length + [nD v1, nD v2].length ≤ line := by
          simp [nsD]
          omega
        rw [if_pos h1]
        unfold tapeD nsD
        rw [List.map_append] <;> rfl
      have d3 : mF dAdd [.sl 7, .m (mTup [mCall r__law_draw [.dk 0, .m (mVar 2)], mCall r__law_draw [.dk 0, .m (mVar 2)]])] (irS rs s W r (putM kvs (.inl (c : Int)) (nD (cntOf c os + 1))) (.dat (nD i)) (.dat (tapeD t)) (.dat (wkD w)) x9 kd) = .ok (tapeD (t ++ [v1, v2])) (irS rs s W r (putM kvs (.inl (c : Int)) (nD (cntOf c os + 1))) (.dat (nD i)) (.dat (tapeD t)) (.dat (wkD w)) x9 kd2) := mF_ru (ev_sl rfl (ev_m d1 ev_nil) rfl) d2
      exact sSet_ru d3 (by simp)
    have e5 : sIf (bAnd (toB (mF dLt [.sl 6, .m (mC (.int 6))])) (bNot (toB (mCall r__law_same [.m (mCall r_rolled [.m (mVar 1), .m (mVar 9)]), .m (mVar 8)])))) (sRet (mC (.bool false))) sNop (irS rs s W r (putM kvs (.inl (c : Int)) (nD (cntOf c os + 1))) (.dat (nD i)) (.dat (tapeD t)) (.dat (wkD w)) (.dat (tapeD (t ++ [v1, v2]))) kd2) = .nx (irS rs s W r (putM kvs (.inl (c : Int)) (nD (cntOf c os + 1))) (.dat (nD i)) (.dat (tapeD t)) (.dat (wkD w)) (.dat (tapeD (t ++ [v1, v2]))) kd2) := by
      have hm : ∀ x ∈ t ++ [v1, v2], x < s := fun x hx => by
        rcases List.mem_append.mp hx with hx | hx
        · exact ht x hx
        · simp only [List.mem_cons, List.not_mem_nil, or_false] at hx
          rcases hx with rfl | rfl
          · exact hv1
          · exact hv2
      have hr := q_rolled_ok h hm (by
        rw [List.length_append]
        simp only [List.length_cons, List.length_nil]
        omega) (some kd2)
      have hw2 : walkT rs 0 0 (t ++ [v1, v2]) = w := by
        rw [hw']
        exact walk_append t 0 0 _ c u hw
      rw [hw2] at hr
      have f1 : mF dLt [.sl 6, .m (mC (.int 6))] (irS rs s W r (putM kvs (.inl (c : Int)) (nD (cntOf c os + 1))) (.dat (nD i)) (.dat (tapeD t)) (.dat (wkD w)) (.dat (tapeD (t ++ [v1, v2]))) kd2) = .ok (.bool (decide (i < 6))) (irS rs s W r (putM kvs (.inl (c : Int)) (nD (cntOf c os + 1))) (.dat (nD i)) (.dat (tapeD t)) (.dat (wkD w)) (.dat (tapeD (t ++ [v1, v2]))) kd2) := mF_ru (ds := [nD i, nD 6]) rfl (lt_nn i 6)
      have f2 : mCall r_rolled [.m (mVar 1), .m (mVar 9)] (irS rs s W r (putM kvs (.inl (c : Int)) (nD (cntOf c os + 1))) (.dat (nD i)) (.dat (tapeD t)) (.dat (wkD w)) (.dat (tapeD (t ++ [v1, v2]))) kd2) = .ok (wkD w) (irS rs s W r (putM kvs (.inl (c : Int)) (nD (cntOf c os + 1))) (.dat (nD i)) (.dat (tapeD t)) (.dat (wkD w)) (.dat (tapeD (t ++ [v1, v2]))) kd2) := mCall_ru (ga_m rfl (ga_m rfl ga_nil)) hr
      have f3 : mCall r__law_same [.m (mCall r_rolled [.m (mVar 1), .m (mVar 9)]), .m (mVar 8)] (irS rs s W r (putM kvs (.inl (c : Int)) (nD (cntOf c os + 1))) (.dat (nD i)) (.dat (tapeD t)) (.dat (wkD w)) (.dat (tapeD (t ++ [v1, v2]))) kd2) = .ok (.bool true) (irS rs s W r (putM kvs (.inl (c : Int)) (nD (cntOf c os + 1))) (.dat (nD i)) (.dat (tapeD t)) (.dat (wkD w)) (.dat (tapeD (t ++ [v1, v2]))) kd2) := mCall_ru (ga_m f2 (ga_m rfl ga_nil)) (hsame _)
      cases hb : decide (i < 6) with
      | true =>
        rw [hb] at f1
        exact sIf_f (bAnd_t (toB_ru f1) (bNot_t (toB_ru f3))) rfl
      | false =>
        rw [hb] at f1
        exact sIf_f (bAnd_f (toB_ru f1)) rfl
    refine ⟨putM kvs (.inl (c : Int)) (nD (cntOf c os + 1)), .dat (tapeD (t ++ [v1, v2])), kd2, ?_, g2, ?_⟩
    · rw [e0]
      refine ((sSeq_nx e1).trans ((sSeq_nx e2).trans (sIf_t (toB_ru c1) ((sSeq_nx e3).trans ((sSeq_nx e4).trans e5))))).trans ?_
      rw [hw'] <;> rfl
    · refine ⟨fun c' => ?_, ?_⟩
      · rw [valM_put, cntOf_append]
        by_cases hcc : c' = c
        · subst hcc
          rw [if_pos rfl]
          show nD (cntOf c' os + 1) = nD (cntOf c' os + cntOf c' [St.dn c'])
          simp [cntOf]
        · have hne : ¬ (Sum.inl (c' : Int) : Key) = .inl (c : Int) := fun z => hcc (by
            have := Sum.inl.inj z
            omega)
          have hne2 : ¬ c = c' := fun z => hcc z.symm
          rw [if_neg hne, hc.val c']
          show nD (cntOf c' os) = nD (cntOf c' os + cntOf c' [St.dn c])
          simp [cntOf, hne2]
      · have := putM_len kvs (.inl (c : Int)) (nD (cntOf c os + 1))
        have h3 := hc.len
        rw [List.length_append]
        simp only [List.length_cons, List.length_nil]
        omega
end Lw

set_option Elab.async false
set_option linter.all false
set_option maxRecDepth 100000
/-! k17: is_right, whole. -/
namespace Lf
open PySem PySem.Spec PyProof.Rows L2
theorem mDisGet_ru {kvs : List (Key × D)} {mk : S0 → Lf.R Ky} {m : S0 → Lf.R D} {s s1 s2 : S0} {k : Ky} {d0 : D} {o : Option D} (hk : mk s = .ok k s1) (hm : m s1 = .ok d0 s2) (ho : dGet (.dk (mergeM [] kvs)) k = some o) : mDisGet kvs mk m s = .ok (o.getD d0) s2 := by
  unfold mDisGet
  rw [hk]
  show (m s1).bind _ = _
  rw [hm]
  show (match dGet (.dk (mergeM [] kvs)) k with
    | some o => Lf.R.ok (o.getD d0) s2
    | none => .bad) = _
  rw [ho]
end Lf
namespace Lw
open PySem PySem.Spec PyProof.Rows L2 NdefX Lf
theorem ir_loop {rs : List (List St)} {s : Nat} (h : RowsOk s rs) {W : SV} {r : Nat} {n0 : Nat} : ∀ (ts : List (List Nat)) (i : Nat) (os : List St) (kvs : List (Key × D)) (x6 x7 x8 x9 : SV) (kd : Deck) (n : Nat), Good n kd → n + 2 * ts.length < 100000 → (∀ t ∈ ts, t.length ≤ 100 ∧ ∀ x ∈ t, x < s) → os.length + ts.length ≤ 1000 → Cnt kvs os →
    ∃ kvs' y6 y7 y8 y9 kd', forL (.tup [(.nm 6), (.nm 7)]) irB (((ts.map tapeD).zipIdx i).map fun p => PyData.tuple [.int (p.2 : Nat), p.1]) (irS rs s W r kvs x6 x7 x8 x9 kd) = .nx (irS rs s W r kvs' y6 y7 y8 y9 kd') ∧ Good (n + 2 * ts.length) kd' ∧ Cnt kvs' (os ++ ts.map fun t => (walkT rs 0 0 t).st) := by
  intro ts
  induction ts with
  | nil =>
    intro i os kvs x6 x7 x8 x9 kd n g _ _ _ hc
    refine ⟨kvs, x6, x7, x8, x9, kd, rfl, g, ?_⟩
    simpa using hc
  | cons t ts ih =>
    intro i os kvs x6 x7 x8 x9 kd n g hn ht hos hc
    rw [List.length_cons] at hn hos
    obtain ⟨h1, h2⟩ := ht t List.mem_cons_self
    obtain ⟨kvs1, y9, kd1, e1, g1, c1⟩ := ir_turn h (W := W) (r := r) (x6 := x6) (x7 := x7) (x8 := x8) (x9 := x9) (i := i) g (by omega) h2 h1 hc (by omega)
    obtain ⟨kvs2, z6, z7, z8, z9, kd2, e2, g2, c2⟩ := ih (i + 1) (os ++ [(walkT rs 0 0 t).st]) kvs1 (.dat (nD i)) (.dat (tapeD t)) (.dat (wkD (walkT rs 0 0 t))) y9 kd1 (n + 2) g1 (by omega) (fun z hz => ht z (List.mem_cons_of_mem _ hz)) (by
      rw [List.length_append]
      simp only [List.length_cons, List.length_nil]
      omega) c1
    refine ⟨kvs2, z6, z7, z8, z9, kd2, (forL_cons (d := .tuple [nD i, tapeD t]) e1).trans e2, ?_, ?_⟩
    · rw [List.length_cons]
      exact g2.mono (by omega)
    · rw [List.map_cons]
      rw [List.append_assoc] at c2
      exact c2
def rollsFor (s : Nat) : Nat := if s = 2 then 7 else if s = 3 then 5 else if s = 4 then 4 else if s = 6 then 3 else 2
theorem rolls_pow {s r : Nat} (h : s ∈ [2, 3, 4, 6, 12]) (hr : r < rollsFor s) : s ^ r ≤ 100 ∧ r ≤ 6 := by
  simp only [List.mem_cons, List.not_mem_nil, or_false] at h
  have h7 : r < 7 := by
    unfold rollsFor at hr
    split at hr
    · exact hr
    · split at hr
      · omega
      · split at hr
        · omega
        · split at hr <;> omega
  rcases h with rfl | rfl | rfl | rfl | rfl
  · have h' : r < 7 := hr
    have : r = 0 ∨ r = 1 ∨ r = 2 ∨ r = 3 ∨ r = 4 ∨ r = 5 ∨ r = 6 := by omega
    rcases this with rfl | rfl | rfl | rfl | rfl | rfl | rfl <;> decide
  · have h' : r < 5 := hr
    have : r = 0 ∨ r = 1 ∨ r = 2 ∨ r = 3 ∨ r = 4 := by omega
    rcases this with rfl | rfl | rfl | rfl | rfl <;> decide
  · have h' : r < 4 := hr
    have : r = 0 ∨ r = 1 ∨ r = 2 ∨ r = 3 := by omega
    rcases this with rfl | rfl | rfl | rfl <;> decide
  · have h' : r < 3 := hr
    have : r = 0 ∨ r = 1 ∨ r = 2 := by omega
    rcases this with rfl | rfl | rfl <;> decide
  · have h' : r < 2 := hr
    have : r = 0 ∨ r = 1 := by omega
    rcases this with rfl | rfl <;> decide
def rollsM : S0 → Lf.R D := mIf (toB (mF dLt [.sl 2, .m (mC (.int 9))])) (mDisGet [(.inl 2, .int 7), (.inl 3, .int 5), (.inl 4, .int 4)] (mKy (svVar 2)) (mC (.int 3))) (mC (.int 2))
theorem rollsM_ok {s : Nat} (h : s ∈ [2, 3, 4, 6, 12]) {a b W : SV} {r : List SV} {k : Option Deck} : rollsM ⟨a :: b :: .dat (nD s) :: W :: r, k⟩ = .ok (nD (rollsFor s)) ⟨a :: b :: .dat (nD s) :: W :: r, k⟩ := by
  have c1 : mF dLt [.sl 2, .m (mC (.int 9))] ⟨a :: b :: .dat (nD s) :: W :: r, k⟩ = .ok (.bool (decide (s < 9))) ⟨a :: b :: .dat (nD s) :: W :: r, k⟩ := mF_ru (ds := [nD s, nD 9]) rfl (lt_nn s 9)
  have ck : mKy (svVar 2) ⟨a :: b :: .dat (nD s) :: W :: r, k⟩ = .ok (.inl (.inl (s : Int))) ⟨a :: b :: .dat (nD s) :: W :: r, k⟩ := mKy_ru (sv := .dat (nD s)) rfl rfl
  simp only [List.mem_cons, List.not_mem_nil, or_false] at h
  rcases h with rfl | rfl | rfl | rfl | rfl
  · exact mIf_t (toB_ru c1) (mDisGet_ru (o := some (.int 7)) ck rfl rfl)
  · exact mIf_t (toB_ru c1) (mDisGet_ru (o := some (.int 5)) ck rfl rfl)
  · exact mIf_t (toB_ru c1) (mDisGet_ru (o := some (.int 4)) ck rfl rfl)
  · exact mIf_t (toB_ru c1) (mDisGet_ru (o := none) ck rfl rfl)
  · exact mIf_f (toB_ru c1) rfl
/-- the part ahead of the last row -/
theorem ir_head {rs : List (List St)} {s : Nat} (h : RowsOk s rs) (hs : s ∈ [2, 3, 4, 6, 12]) {W : SV} {kd : Deck} {n : Nat} (g : Good n kd) (hn : n < 90000) :
    ∃ (r : Nat) (kvs : List (Key × D)) (y6 y7 y8 y9 : SV) (kd' : Deck), s ^ r ≤ 1000 ∧ r ≤ 60 ∧ Good (n + 300) kd' ∧ Cnt kvs (outs rs s r) ∧
      ∀ K : MS, (∀ (v : D) (s' : S0), K (irS rs s W r kvs y6 y7 y8 y9 kd') = .rt v s' → (fnM (sSeq (sSet 4 (mCall r__law_draw [.dk 0, .m rollsM])) (sSeq (sSetV 5 ((fun s => .ok (.dk []) s))) (sSeq (sFor (mEnum (mCall r__law_all_tapes [.m (mVar 2), .m (mVar 4)])) (.tup [(.nm 6), (.nm 7)]) irB) K))) 7 ⟨[.deck, .dat (rowsD rs), .dat (nD s), W], some kd⟩) = .ok v s'.dk) := by
  have h12 := h.s12
  have h2 := h.s2
  have hrf : 1 ≤ rollsFor s ∧ rollsFor s ≤ 7 := by
    simp only [List.mem_cons, List.not_mem_nil, or_false] at hs
    rcases hs with rfl | rfl | rfl | rfl | rfl <;> decide
  obtain ⟨v, kd1, ed, hv0, hv1, g1⟩ := q_draw (many := (rollsFor s : Int)) g (by omega) (by omega) (by omega)
  have ev : ((v.toNat : Nat) : Int) = v := Int.toNat_of_nonneg hv0
  have hrv : v.toNat < rollsFor s := by omega
  generalize hr : v.toNat = r at ev hrv
  have e2 : PyData.int v = nD r := by
    show _ = PyData.int _
    rw [ev]
  rw [e2] at ed
  obtain ⟨hp, hp2⟩ := rolls_pow hs hrv
  have q1 : sSet 4 (mCall r__law_draw [.dk 0, .m rollsM]) ⟨[.deck, .dat (rowsD rs), .dat (nD s), W, .unk, .unk, .unk, .unk, .unk, .unk, .unk], some kd⟩ = .nx ⟨[.deck, .dat (rowsD rs), .dat (nD s), W, .dat (nD r), .unk, .unk, .unk, .unk, .unk, .unk], some kd1⟩ := by
    have c : mCall r__law_draw [.dk 0, .m rollsM] ⟨[.deck, .dat (rowsD rs), .dat (nD s), W, .unk, .unk, .unk, .unk, .unk, .unk, .unk], some kd⟩ = .ok (nD r) ⟨[.deck, .dat (rowsD rs), .dat (nD s), W, .unk, .unk, .unk, .unk, .unk, .unk, .unk], some kd1⟩ := mCall_ru (ga_dk rfl (ga_m (rollsM_ok hs) ga_nil)) ed
    exact sSet_ru c (by simp)
  have q2 : sSetV 5 ((fun s => .ok (.dk []) s)) ⟨[.deck, .dat (rowsD rs), .dat (nD s), W, .dat (nD r), .unk, .unk, .unk, .unk, .unk, .unk], some kd1⟩ = .nx (irS rs s W r [] .unk .unk .unk .unk kd1) := sSetV_ru rfl (by simp)
  have c3 : mCall r__law_all_tapes [.m (mVar 2), .m (mVar 4)] (irS rs s W r [] .unk .unk .unk .unk kd1) = .ok (.list ((tapesN s r).map tapeD)) (irS rs s W r [] .unk .unk .unk .unk kd1) := mCall_ru (ga_m rfl (ga_m rfl ga_nil)) (q_all_tapes s r (by omega) h12 (by omega) (by omega) (some kd1))
  obtain ⟨kvs, y6, y7, y8, y9, kd2, e3, g3, c4⟩ := ir_loop h (W := W) (r := r) (n0 := 0) (tapesN s r) 0 [] [] .unk .unk .unk .unk kd1 (n + 1) g1 (by rw [tapes_many]; omega) (fun t ht => ⟨by rw [tapes_len s r t ht]; omega, tapes_lt s r t ht⟩) (by rw [tapes_many, List.length_nil]; omega) ⟨fun c => rfl, Nat.le_refl _⟩
  rw [List.nil_append, (outs_walk h r).1] at c4
  have q3 := (sFor_of (mi := mEnum (mCall r__law_all_tapes [.m (mVar 2), .m (mVar 4)])) (p := .tup [(.nm 6), (.nm 7)]) (body := irB) (s := irS rs s W r [] .unk .unk .unk .unk kd1) (mEnum_ru c3 rfl)).trans e3
  rw [tapes_many] at g3
  refine ⟨r, kvs, y6, y7, y8, y9, kd2, by omega, by omega, g3.mono (by omega), c4, fun K v s' hK => ?_⟩
  exact fnM_rt (pad := 7) (s := ⟨[.deck, .dat (rowsD rs), .dat (nD s), W], some kd⟩) ((sSeq_nx q1).trans ((sSeq_nx q2).trans ((sSeq_nx q3).trans hK)))
def irL : MS := (sRet (mOr (mF dEq [.sl 3, .m (mTup [])]) (mCall r__law_same [.m (mCall r_settled [.m (mVar 3), .m (mVar 2), .m (mVar 4)]), .m (mF dTuple [.m (mFrz (mLc (.nm 10) [10] (mRange1 (.m (mF dLenA [.sl 3]))) (tYesM) (mDGet2 5 (mKy (svVar 10)) (mC (.int 0)))))])])))
theorem q_is_right0 {rs : List (List St)} {s : Nat} (h : RowsOk s rs) (hs : s ∈ [2, 3, 4, 6, 12]) {kd : Deck} {n : Nat} (g : Good n kd) (hn : n < 90000) :
    ∃ kd', r__law_is_right ⟨[.deck, .dat (rowsD rs), .dat (nD s), .dat (.tuple [])], some kd⟩ = .ok (.bool true) (some kd') ∧ Good (n + 300) kd' := by
  obtain ⟨r, kvs, y6, y7, y8, y9, kd', hp, hr, g', hc, hK⟩ := ir_head h hs (W := .dat (.tuple [])) g hn
  refine ⟨kd', ?_, g'⟩
  have c1 : mF dEq [.sl 3, .m (mTup [])] (irS rs s (.dat (.tuple [])) r kvs y6 y7 y8 y9 kd') = .ok (.bool true) (irS rs s (.dat (.tuple [])) r kvs y6 y7 y8 y9 kd') := mF_ru (ds := [.tuple [], .tuple []]) rfl (nice_tup (ds := []) (by decide +kernel))
  exact hK irL _ _ (sRet_ru (mOr_t c1))
theorem ok1_ns (ns : List Nat) : ok1 1 (.tuple (nsD ns)) = true := (ok1_tup 0 _).mpr fun d hd => by
  obtain ⟨x, _, rfl⟩ := List.mem_map.mp hd
  exact ok1_n x
theorem szs_ns : ∀ ns : List Nat, szs (nsD ns) = ns.length
  | [] => rfl
  | n :: r => by
    show sz (nD n) + szs (nsD r) = _
    rw [szs_ns r]
    simp [sz, nD]
    omega
theorem q_is_right1 {rs : List (List St)} {s : Nat} (h : RowsOk s rs) (hs : s ∈ [2, 3, 4, 6, 12]) {ws : List Nat} (hw : ∀ w ∈ ws, w < 1000) (hp : ∃ w ∈ ws, 0 < w) (hl : ws.length ≤ 200) (hs1 : (lowW ws).sum ≤ 1000) (hs0 : 0 < (lowW ws).sum)
    (hcnt : ∀ r, (List.range ws.length).map (fun c => cntOf c (outs rs s r)) = (lowW ws).map fun w => w * s ^ r / (lowW ws).sum) {kd : Deck} {n : Nat} (g : Good n kd) (hn : n < 90000) :
    ∃ kd', r__law_is_right ⟨[.deck, .dat (rowsD rs), .dat (nD s), .dat (.tuple (nsD ws))], some kd⟩ = .ok (.bool true) (some kd') ∧ Good (n + 300) kd' := by
  obtain ⟨r, kvs, y6, y7, y8, y9, kd', hp', hr, g', hc, hK⟩ := ir_head h hs (W := .dat (.tuple (nsD ws))) g hn
  refine ⟨kd', ?_, g'⟩
  have hbig := line_big
  have h1 : ws ≠ [] := by
    obtain ⟨w, hw, _⟩ := hp
    exact List.ne_nil_of_mem hw
  let S := irS rs s (.dat (.tuple (nsD ws))) r kvs y6 y7 y8 y9 kd'
  have c1 : mF dEq [.sl 3, .m (mTup [])] S = .ok (.bool false) S := by
    have e := nice_tup (ds := nsD ws) (ok1_nice (n := 1) (by decide) (ok1_ns ws))
    have e2 : (nsD ws).isEmpty = false := by
      cases ws with
      | nil => exact absurd rfl h1
      | cons w r => rfl
    rw [e2] at e
    exact mF_ru (ds := [.tuple (nsD ws), .tuple []]) rfl e
  have c2 : mCall r_settled [.m (mVar 3), .m (mVar 2), .m (mVar 4)] S = .ok (.tuple (nsD ((lowW ws).map fun w => w * s ^ r / (lowW ws).sum))) S := mCall_ru (ga_m rfl (ga_m rfl (ga_m rfl ga_nil))) (q_settled ws s r hw hp hl h.s2 h.s12 hr hp' hs1 hs0 (some kd'))
  have c3 := mLc_fn (e := nD) (f := fun c => nD (cntOf c (outs rs s r))) (xs := List.range ws.length) (v := 10) (m := mDGet2 5 (mKy (svVar 10)) (mC (.int 0))) (mi := mRange1 (.m (mF dLenA [.sl 3]))) (s := S) (ρ := S.ρ) (k := some kd') (mR1_of (n := ws.length) (by
      have : (nsD ws).length = ws.length := by simp [nsD]
      rw [← this] <;> rfl) (by omega)) (by simp [S]) (by rw [List.length_range]; omega)
    (fun c _ => by
      rw [← hc.val c]
      exact mDGet2_ru rfl (mKy_ru (sv := .dat (nD c)) (k := .inl (.inl (c : Int))) rfl rfl) rfl rfl)
  have c4 : (List.range ws.length).map (fun c => nD (cntOf c (outs rs s r))) = nsD ((lowW ws).map fun w => w * s ^ r / (lowW ws).sum) := by
    rw [← hcnt r]
    unfold nsD
    rw [List.map_map] <;> rfl
  rw [c4] at c3
  have c5 : mF dTuple [.m (mFrz (mLc (.nm 10) [10] (mRange1 (.m (mF dLenA [.sl 3]))) (tYesM) (mDGet2 5 (mKy (svVar 10)) (mC (.int 0)))))] S = .ok (.tuple (nsD ((lowW ws).map fun w => w * s ^ r / (lowW ws).sum))) S := mF_ru (ev_m (mFrz_ru c3) ev_nil) rfl
  have hlw : (lowW ws).length ≤ 200 := by
    unfold lowW
    rw [List.length_map]
    exact hl
  have c6 : mCall r__law_same [.m (mCall r_settled [.m (mVar 3), .m (mVar 2), .m (mVar 4)]), .m (mF dTuple [.m (mFrz (mLc (.nm 10) [10] (mRange1 (.m (mF dLenA [.sl 3]))) (tYesM) (mDGet2 5 (mKy (svVar 10)) (mC (.int 0)))))])] S = .ok (.bool true) S :=
    mCall_ru (ga_m c2 (ga_m c5 ga_nil)) (q_same (ok1_mono (by decide) (ok1_ns _)) (by
      simp only [sz, szs_ns, List.length_map]
      omega))
  exact hK irL _ _ (sRet_ru (mOr_f c1 c6))
end Lw

set_option Elab.async false
set_option linter.all false
set_option maxRecDepth 100000
/-! k17: what are no rows, what is no tape. -/
namespace Lw
open PySem PySem.Spec PyProof.Rows L2 NdefX Lf
theorem szs_drop : ∀ (n : Nat) (l : List D), szs (l.drop n) ≤ szs l
  | 0, l => by simp
  | n + 1, [] => by simp
  | n + 1, d :: r => by
    rw [List.drop_succ_cons]
    have := szs_drop n r
    simp only [szs]
    omega
theorem szs_take : ∀ (n : Nat) (l : List D), szs (l.take n) ≤ szs l
  | 0, l => by simp [szs]
  | n + 1, [] => by simp
  | n + 1, d :: r => by
    rw [List.take_succ_cons]
    have := szs_take n r
    simp only [szs]
    omega
theorem sz_st (x : St) : sz (stD x) = 3 := by cases x <;> simp [stD, sz, szs, nD]
theorem szs_sts : ∀ r : List St, szs (r.map stD) = 3 * r.length
  | [] => rfl
  | x :: r => by
    simp only [List.map_cons, szs, szs_sts r, sz_st, List.length_cons]
    omega
theorem szs_rows {s : Nat} : ∀ rs : List (List St), (∀ row ∈ rs, row.length = s) → szs (rs.map rowD) = rs.length * (1 + 3 * s)
  | [], _ => by simp [szs]
  | row :: r, h => by
    have h1 := szs_rows r fun z hz => h z (List.mem_cons_of_mem _ hz)
    have h2 := h row List.mem_cons_self
    simp only [List.map_cons, szs, h1, List.length_cons, Nat.add_mul, Nat.one_mul]
    have : sz (rowD row) = 1 + 3 * s := by
      show 1 + szs (row.map stD) = _
      rw [szs_sts, h2]
    omega
theorem short_sz {d : D} (h : sz d ≤ 1000000) : short d := by
  intro ds e
  subst e
  have hb := line_big
  have h1 : 1 + szs ds ≤ 1000000 := h
  have h2 := len_szs ds
  refine ⟨by omega, fun r hr ss e => ?_⟩
  subst e
  have : ∀ (ds : List D), PyData.tuple ss ∈ ds → sz (.tuple ss) ≤ szs ds := by
    intro ds
    induction ds with
    | nil => intro h; cases h
    | cons d r ih =>
      intro h
      simp only [szs]
      rcases List.mem_cons.mp h with e | h
      · rw [e]
        omega
      · have := ih h
        omega
  have h3 := this ds hr
  have h4 : sz (.tuple ss) = 1 + szs ss := rfl
  have h5 := len_szs ss
  omega
/-- what is refused -/
structure Bd (b : D) : Prop where
  no : isDice b = false
  ok : ok1 5 b = true
  sz : sz b ≤ 100000
theorem dice_all {ss r : List D} (h : isDice (.tuple (.tuple ss :: r)) = true) : 2 ≤ ss.length ∧ ss.length ≤ 12 ∧ ∀ d ∈ (PyData.tuple ss :: r), isRow ss.length ((PyData.tuple ss :: r).length : Nat) d = true := by
  have h1 : ((decide (2 ≤ ss.length) && decide (ss.length ≤ 12)) && isRows ss.length (.tuple (.tuple ss :: r))) = true := h
  simp only [Bool.and_eq_true, decide_eq_true_eq] at h1
  refine ⟨h1.1.1, h1.1.2, ?_⟩
  have h2 : (!(PyData.tuple ss :: r).isEmpty && (PyData.tuple ss :: r).all (isRow (ss.length : Int) (((PyData.tuple ss :: r).length : Nat) : Int))) = true := h1.2
  rw [Bool.and_eq_true] at h2
  exact List.all_eq_true.mp h2.2
theorem row_len {sides many : Int} {ss : List D} (h : isRow sides many (.tuple ss) = true) : (ss.length : Int) = sides ∧ ∀ d ∈ ss, isStep many d = true := by
  have h1 : (decide ((ss.length : Int) = sides) && ss.all (isStep many)) = true := h
  simp only [Bool.and_eq_true, decide_eq_true_eq] at h1
  exact ⟨h1.1, List.all_eq_true.mp h1.2⟩
theorem not_true {b : Bool} (h : b = true → False) : b = false := by
  cases b
  · rfl
  · exact (h rfl).elim
section
variable {s : Nat} {row : List St} {r : List (List St)}
theorem ok1_rowS (row : List St) : ∀ d ∈ row.map stD, ok1 1 d = true := fun d hd => by
  obtain ⟨x, _, rfl⟩ := List.mem_map.mp hd
  exact ok1_st x
theorem ok1_R (rs : List (List St)) : ∀ d ∈ rs.map rowD, ok1 2 d = true := fun d hd => by
  obtain ⟨x, _, rfl⟩ := List.mem_map.mp hd
  exact ok1_row x
theorem row_sz (h : RowsOk s (row :: r)) : szs (row.map stD) ≤ 36 := by
  rw [szs_sts, (h.row row List.mem_cons_self).1]
  have := h.s12
  omega
theorem R_sz (h : RowsOk s (row :: r)) : szs ((row :: r).map rowD) ≤ 37000 := by
  rw [szs_rows (s := s) (row :: r) fun z hz => (h.row z hz).1]
  have h1 := h.few
  have h2 := h.s12
  have : (row :: r).length * (1 + 3 * s) ≤ 1000 * 37 := Nat.mul_le_mul h1 (by omega)
  omega
/-- rows with one row more -/
theorem bd_more (h : RowsOk s (row :: r)) {x : D} (hx : ok1 4 x = true) (hs : sz x ≤ 1000) (hr : isRow s ((((row :: r).map rowD ++ [x]).length : Nat) : Int) x = false) : Bd (.tuple ((row :: r).map rowD ++ [x])) := by
  refine ⟨not_true fun hd => ?_, (ok1_tup 4 _).mpr fun d hd => ?_, ?_⟩
  · have h2 := (dice_all (ss := row.map stD) (r := r.map rowD ++ [x]) hd).2.2 x (by simp)
    rw [List.length_map, (h.row row List.mem_cons_self).1] at h2
    rw [show (PyData.tuple (row.map stD) :: (r.map rowD ++ [x])) = (row :: r).map rowD ++ [x] from rfl, hr] at h2
    cases h2
  · rcases List.mem_append.mp hd with hd | hd
    · exact ok1_mono (by decide) (ok1_R _ d hd)
    · rw [List.mem_singleton.mp hd]
      exact hx
  · have := R_sz h
    show 1 + szs ((row :: r).map rowD ++ [x]) ≤ 100000
    rw [szs_append]
    simp only [szs]
    omega
/-- rows whose first step is another -/
theorem bd_first (h : RowsOk s (row :: r)) {it : D} (hx : ok1 2 it = true) (hs : sz it ≤ 1000) (hi : isStep (((row :: r).length : Nat) : Int) it = false) : Bd (.tuple (.tuple (it :: (row.map stD).drop 1) :: r.map rowD)) := by
  refine ⟨not_true fun hd => ?_, (ok1_tup 4 _).mpr fun d hd => ?_, ?_⟩
  · have h2 := (dice_all hd).2.2 _ List.mem_cons_self
    have h3 := (row_len h2).2 it List.mem_cons_self
    have e : (((PyData.tuple (it :: (row.map stD).drop 1) :: r.map rowD).length : Nat) : Int) = (((row :: r).length : Nat) : Int) := by simp
    rw [e, hi] at h3
    cases h3
  · rcases List.mem_cons.mp hd with rfl | hd
    · refine ok1_mono (n := 3) (by decide) ((ok1_tup 2 _).mpr fun z hz => ?_)
      rcases List.mem_cons.mp hz with rfl | hz
      · exact hx
      · exact ok1_mono (by decide) (ok1_rowS row z (List.mem_of_mem_drop hz))
    · exact ok1_mono (by decide) (ok1_R _ d hd)
  · have h1 := R_sz h
    have h2 := szs_drop 1 (row.map stD)
    have h3 := row_sz h
    simp only [List.map_cons, szs] at h1
    show 1 + szs (.tuple (it :: (row.map stD).drop 1) :: r.map rowD) ≤ 100000
    simp only [szs, sz]
    omega
/-- the first candidates -/
def bads1 (row : List St) (r : List (List St)) : List D := [.none, .tuple [], .list ((row :: r).map rowD), .tuple ((row :: r).map rowD ++ [.tuple []]), .tuple ((row :: r).map rowD ++ [.tuple ((row.map stD).drop 1)]), .tuple [.tuple ((row.map stD).take 1)], rowD row, .tuple ((row :: r).map rowD ++ [.list (row.map stD)]), .tuple [.tuple (List.replicate 13 (.tuple [.str "on", .int 0]))]]
def its (row : List St) (r : List (List St)) : List D := [.tuple [.str "on", .int (((row :: r).length : Nat) : Int)], .tuple [.str "on", .int (-1)], .tuple [.str "done", .int (-1)], .tuple [.str "done", .int 256], .tuple [.str "done", .bool true], .tuple [.str "done"], .tuple [.str "off", .int 0], .list [.str "done", .int 0], .none, .tuple [.int 0, .str "done"], .tuple [.str "on", .str "0"]]
theorem bads1_ok (h : RowsOk s (row :: r)) : ∀ b ∈ bads1 row r, Bd b := by
  have hl := (h.row row List.mem_cons_self).1
  have h2 := h.s2
  have h12 := h.s12
  have hR := R_sz h
  have hS := row_sz h
  intro b hb
  simp only [bads1, List.mem_cons, List.not_mem_nil, or_false] at hb
  rcases hb with rfl | rfl | rfl | rfl | rfl | rfl | rfl | rfl | rfl
  · exact ⟨rfl, by decide +kernel, by decide⟩
  · exact ⟨rfl, by decide +kernel, by decide⟩
  · refine ⟨rfl, (ok1_lst 4 _).mpr fun d hd => ok1_mono (by decide) (ok1_R _ d hd), ?_⟩
    show 1 + szs ((row :: r).map rowD) ≤ 100000
    omega
  · refine bd_more h (by decide +kernel) (by decide) (not_true fun z => ?_)
    have := (row_len z).1
    simp at this
    omega
  · refine bd_more h (ok1_mono (n := 2) (by decide) ((ok1_tup 1 _).mpr fun d hd => ok1_rowS row d (List.mem_of_mem_drop hd))) ?_ (not_true fun z => ?_)
    · have := szs_drop 1 (row.map stD)
      show 1 + szs ((row.map stD).drop 1) ≤ 1000
      omega
    · have := (row_len z).1
      simp [hl] at this
      omega
  · refine ⟨not_true fun z => ?_, ok1_mono (n := 3) (by decide) ((ok1_tup 2 _).mpr fun d hd => ?_), ?_⟩
    · have := (dice_all z).1
      simp at this
      omega
    · rw [List.mem_singleton.mp hd]
      exact (ok1_tup 1 _).mpr fun d hd => ok1_rowS row d (List.mem_of_mem_take hd)
    · have := szs_take 1 (row.map stD)
      show 1 + szs [.tuple ((row.map stD).take 1)] ≤ 100000
      simp only [szs, sz]
      omega
  · refine ⟨not_true fun z => ?_, ok1_mono (by decide) (ok1_row row), ?_⟩
    · cases row with
      | nil => simp at hl; omega
      | cons x q =>
        have hx : ∃ w n, stD x = .tuple [.str w, nD n] := by
          cases x with
          | dn k => exact ⟨_, _, rfl⟩
          | on k => exact ⟨_, _, rfl⟩
        obtain ⟨w, n, hx⟩ := hx
        have z2 : isDice (.tuple (.tuple [.str w, nD n] :: q.map stD)) = true := by
          rw [← hx]
          exact z
        have z3 := (row_len ((dice_all z2).2.2 _ List.mem_cons_self)).2 (.str w) List.mem_cons_self
        cases z3
    · show 1 + szs (row.map stD) ≤ 100000
      omega
  · refine bd_more h (ok1_mono (n := 2) (by decide) ((ok1_lst 1 _).mpr fun d hd => ok1_rowS row d hd)) ?_ rfl
    show 1 + szs (row.map stD) ≤ 1000
    omega
  · refine ⟨not_true fun z => ?_, by decide +kernel, by decide +kernel⟩
    have := (dice_all z).2.1
    simp at this
theorem isBtw_hi {n : Nat} {hi : Int} (h : hi < (n : Int)) : isBtw 0 hi (.int (n : Int)) = false := by
  show (decide ((Builtin.Int.intBits (n : Int) : Int) ≤ 20000) && (decide ((0 : Int) ≤ (n : Int)) && decide ((n : Int) ≤ hi))) = false
  have : decide ((n : Int) ≤ hi) = false := by simpa using h
  rw [this]
  simp
theorem isStep_str (many : Int) (w : Str) (y : D) : isStep many (.tuple [.str w, y]) = (isWord (.str w) && isBtw 0 (if ("done" : Str) == w then 255 else many - 1) y) := rfl
theorem its_ok (h : RowsOk s (row :: r)) : ∀ it ∈ its row r, ok1 2 it = true ∧ sz it ≤ 1000 ∧ isStep (((row :: r).length : Nat) : Int) it = false := by
  intro it hit
  have e1 : (("done" : Str) == ("on" : Str)) = false := by decide +kernel
  have e2 : (("done" : Str) == ("done" : Str)) = true := by decide +kernel
  have w1 : isWord (.str "on") = true := by decide +kernel
  have w2 : isWord (.str "done") = true := by decide +kernel
  have w3 : isWord (.str "off") = false := by decide +kernel
  simp only [its, List.mem_cons, List.not_mem_nil, or_false] at hit
  rcases hit with rfl | rfl | rfl | rfl | rfl | rfl | rfl | rfl | rfl | rfl | rfl
  · refine ⟨ok1_mono (n := 1) (by decide) (ok1_st (.on (row :: r).length)), by simp [sz, szs], ?_⟩
    show (isWord (.str "on") && isBtw 0 (if ("done" : Str) == ("on" : Str) then 255 else (((row :: r).length : Nat) : Int) - 1) (.int (((row :: r).length : Nat) : Int))) = false
    rw [w1, e1]
    show (true && isBtw 0 ((((row :: r).length : Nat) : Int) - 1) (.int (((row :: r).length : Nat) : Int))) = false
    rw [isBtw_hi (by omega)] <;> rfl
  · refine ⟨by decide +kernel, by decide, ?_⟩
    have : ∀ hi, isBtw 0 hi (.int (-1)) = false := fun hi => by simp [isBtw]
    rw [isStep_str, this]
    simp
  · refine ⟨by decide +kernel, by decide, ?_⟩
    have : ∀ hi, isBtw 0 hi (.int (-1)) = false := fun hi => by simp [isBtw]
    rw [isStep_str, this]
    simp
  · refine ⟨by decide +kernel, by decide, ?_⟩
    show (isWord (.str "done") && isBtw 0 (if ("done" : Str) == ("done" : Str) then 255 else (((row :: r).length : Nat) : Int) - 1) (.int 256)) = false
    rw [e2]
    show (isWord (.str "done") && isBtw 0 255 (.int 256)) = false
    have : isBtw 0 255 (.int 256) = false := isBtw_hi (n := 256) (by decide)
    rw [this]
    simp
  · refine ⟨by decide +kernel, by decide, ?_⟩
    show (isWord (.str "done") && false) = false
    simp
  · exact ⟨by decide +kernel, by decide, rfl⟩
  · refine ⟨by decide +kernel, by decide, ?_⟩
    rw [isStep_str, w3] <;> rfl
  · exact ⟨by decide +kernel, by decide, rfl⟩
  · exact ⟨by decide +kernel, by decide, rfl⟩
  · exact ⟨by decide +kernel, by decide, rfl⟩
  · refine ⟨by decide +kernel, by decide, ?_⟩
    show (isWord (.str "on") && false) = false
    simp
end
/-- what is no tape -/
def odds (s : Nat) : List D := [.none, .list [.int 0], .tuple [nD s], .tuple [.int 0, .int (-1)], .tuple [.bool true], .tuple [.str "0"], .tuple [.tuple [.int 0]], .int 0, .str "00"]
theorem odds_ok {s : Nat} (h12 : s ≤ 12) : ∀ o ∈ odds s, isTape s o = false ∧ ok1 5 o = true ∧ sz o ≤ 1000 := by
  intro o ho
  simp only [odds, List.mem_cons, List.not_mem_nil, or_false] at ho
  have hneg : ∀ hi, isBtw 0 hi (.int (-1)) = false := fun hi => by simp [isBtw]
  rcases ho with rfl | rfl | rfl | rfl | rfl | rfl | rfl | rfl | rfl
  · exact ⟨rfl, by decide +kernel, by decide⟩
  · exact ⟨rfl, by decide +kernel, by decide⟩
  · refine ⟨?_, ok1_mono (n := 1) (by decide) (ok1_ns [s]), by simp [sz, szs, nD]⟩
    show (isBtw 0 ((s : Int) - 1) (.int (s : Int)) && true) = false
    rw [isBtw_hi (by omega)] <;> rfl
  · refine ⟨?_, by decide +kernel, by decide⟩
    show (isBtw 0 ((s : Int) - 1) (.int 0) && (isBtw 0 ((s : Int) - 1) (.int (-1)) && true)) = false
    rw [hneg]
    simp
  · exact ⟨rfl, by decide +kernel, by decide⟩
  · exact ⟨rfl, by decide +kernel, by decide⟩
  · exact ⟨rfl, by decide +kernel, by decide⟩
  · exact ⟨rfl, by decide +kernel, by decide⟩
  · exact ⟨rfl, by decide +kernel, by decide⟩
end Lw

set_option Elab.async false
set_option linter.all false
set_option maxRecDepth 100000
/-! k17: picks; what is heard. -/
namespace Lf
open PySem PySem.Spec PyProof.Rows L2
theorem add_tt {xs ys : List D} (h : xs.length + ys.length ≤ line) : dAdd [.tuple xs, .tuple ys] = some (.tuple (xs ++ ys)) := if_pos h
theorem add_ll {xs ys : List D} (h : xs.length + ys.length ≤ line) : dAdd [.list xs, .list ys] = some (.list (xs ++ ys)) := if_pos h
theorem cut_from {ds : List D} {lo : Nat} : cutD ds (some (lo : Int)) none = ds.drop lo := by
  unfold cutD
  rw [HT.sIx_nat, HT.sIx_none]
  by_cases hl : lo ≤ ds.length
  · rw [Nat.min_eq_left hl, List.take_of_length_le (by rw [List.length_drop]; omega)]
  · rw [Nat.min_eq_right (by omega), List.drop_length, List.drop_eq_nil_of_le (by omega)]
    simp
theorem cut_to {ds : List D} {hi : Nat} : cutD ds none (some (hi : Int)) = ds.take hi := by
  unfold cutD
  rw [HT.sIx_nat, HT.sIx_none, List.drop_zero, Nat.sub_zero]
  by_cases hl : hi ≤ ds.length
  · rw [Nat.min_eq_left hl]
  · rw [Nat.min_eq_right (by omega), List.take_length, List.take_of_length_le (by omega)]
theorem mSliceT_from {m lo : S0 → Lf.R D} {s s1 s2 : S0} {ds : List D} {l : Nat} (hm : m s = .ok (.tuple ds) s1) (hl : lo s1 = .ok (.int (l : Int)) s2) : mSlice m (some lo) none s = .ok (.tuple (ds.drop l)) s2 := by
  unfold mSlice
  rw [hm]
  show ((lo s1).bind _).bind _ = _
  rw [hl]
  show Lf.R.ok (PyData.tuple (cutD ds (some (l : Int)) none)) s2 = _
  rw [cut_from]
theorem mSliceT_to {m hi : S0 → Lf.R D} {s s1 s2 : S0} {ds : List D} {h : Nat} (hm : m s = .ok (.tuple ds) s1) (hh : hi s1 = .ok (.int (h : Int)) s2) : mSlice m none (some hi) s = .ok (.tuple (ds.take h)) s2 := by
  unfold mSlice
  rw [hm]
  show ((hi s1).bind _).bind _ = _
  rw [hh]
  show Lf.R.ok (PyData.tuple (cutD ds none (some (h : Int)))) s2 = _
  rw [cut_to]
theorem sTryT_exc {xs : List Str} {j : Nat} {mb : MS} {ms : Str → D → MS} {s s1 s2 : S0} {c : Str} {t d : D} (h : mb s = .exc c t s1) (hc : catchL xs c = some true) (hm : ms c t { s1 with ρ := s1.ρ.set j .unk } = .rt d s2) (hj : j < s1.ρ.length) : sTryT xs j mb ms s = .rt d s2 := by
  simp only [sTryT, h, hc, hm, hj, if_true]
theorem sTryT_rt {xs : List Str} {j : Nat} {mb : MS} {ms : Str → D → MS} {s s1 : S0} {d : D} (h : mb s = .rt d s1) : sTryT xs j mb ms s = .rt d s1 := by
  simp only [sTryT, h]
end Lf
namespace Lw
open PySem PySem.Spec PyProof.Rows L2 NdefX Lf
theorem q_pick {ds : List D} {k : Deck} {n : Nat} (g : Good n k) (hn : n < 1000000) (h0 : ds ≠ []) (hl : ds.length ≤ 1000000) :
    ∃ d k', d ∈ ds ∧ Good (n + 1) k' ∧ r__law_pick ⟨[.deck, .dat (.list ds)], some k⟩ = .ok d (some k') := by
  have hp : 0 < ds.length := List.length_pos_iff.mpr h0
  obtain ⟨v, k', e, hv0, hv1, g'⟩ := q_draw (many := (ds.length : Int)) g (by omega) (by omega) (by omega)
  have ev : ((v.toNat : Nat) : Int) = v := Int.toNat_of_nonneg hv0
  have hi : v.toNat < ds.length := by omega
  have e2 : PyData.int v = nD v.toNat := by
    show _ = PyData.int _
    rw [ev]
  rw [e2] at e
  refine ⟨ds[v.toNat], k', List.getElem_mem hi, g', ?_⟩
  have c1 : mF dLenA [.sl 1] ⟨[.deck, .dat (.list ds)], some k⟩ = .ok (.int (ds.length : Nat)) ⟨[.deck, .dat (.list ds)], some k⟩ := mF_ru (ev_sl rfl ev_nil rfl) rfl
  have c2 : mCall r__law_draw [.dk 0, .m (mF dLenA [.sl 1])] ⟨[.deck, .dat (.list ds)], some k⟩ = .ok (nD v.toNat) ⟨[.deck, .dat (.list ds)], some k'⟩ := mCall_ru (ga_dk rfl (ga_m c1 ga_nil)) e
  have c3 : mF dIx [.sl 1, .m (mCall r__law_draw [.dk 0, .m (mF dLenA [.sl 1])])] ⟨[.deck, .dat (.list ds)], some k⟩ = .ok ds[v.toNat] ⟨[.deck, .dat (.list ds)], some k'⟩ := mF_ru (ev_sl rfl (ev_m c2 ev_nil) rfl) (ix_l.trans (List.getElem?_eq_getElem hi))
  exact fnM_rt (mb := m__law_pick) (pad := 0) (s := ⟨[.deck, .dat (.list ds)], some k⟩) (sRet_ru c3)
def herT : MS := sRet (mTup [mC (.str "told"), mClo 0 [] LM1])
def herE (c : Str) (t : D) : MS := sRet (mTup [mIf (toB (mIsE "BadRows" c t)) (mC (.str "rows")) (mC (.str "tape")), mThingE c t, mIsE "HouseError" c t])
theorem mClo_0 {id : Nat} {cs : List D} {k : Option Deck} (ha : arL id = some 0) : mClo 0 [] LM1 ⟨[.clo id cs, .unk], k⟩ = (LM1 id cs ⟨[], k⟩).toR ⟨[.clo id cs, .unk], k⟩ := by
  simp [mClo, ha, evalAg, Lf.R.bind, allDat]
theorem her_ok {id : Nat} {cs : List D} {d : D} {k : Option Deck} (ha : arL id = some 0) (h : LM1 id cs ⟨[], k⟩ = .ok d k) : r__law_heard ⟨[.clo id cs], k⟩ = .ok (.tuple [.str "told", d]) k := by
  have c1 : mClo 0 [] LM1 ⟨[.clo id cs, .unk], k⟩ = .ok d ⟨[.clo id cs, .unk], k⟩ := by
    rw [mClo_0 ha, h] <;> rfl
  have c2 : herT ⟨[.clo id cs, .unk], k⟩ = .rt (.tuple [.str "told", d]) ⟨[.clo id cs, .unk], k⟩ := sRet_ru (mTup_ru (em_cons rfl (em_cons c1 em_nil)) line2)
  exact fnM_rt (mb := m__law_heard) (pad := 1) (s := ⟨[.clo id cs], k⟩) (sTryT_rt (mb := herT) (ms := herE) c2)
theorem her_exc {id : Nat} {cs : List D} {c : Str} {d : D} {w : Str} {k : Option Deck} (ha : arL id = some 0) (h : LM1 id cs ⟨[], k⟩ = .exc c d k) (hc : catchL ["BadRows", "BadTape"] c = some true) (h1 : lawSub c "HouseError" = some true) {b : Bool} (h2 : lawSub c "BadRows" = some b) (hw : w = if b then "rows" else "tape") : r__law_heard ⟨[.clo id cs], k⟩ = .ok (.tuple [.str w, d, .bool true]) k := by
  have c1 : mClo 0 [] LM1 ⟨[.clo id cs, .unk], k⟩ = .exc c d ⟨[.clo id cs, .unk], k⟩ := by
    rw [mClo_0 ha, h] <;> rfl
  have c2 : herT ⟨[.clo id cs, .unk], k⟩ = .exc c d ⟨[.clo id cs, .unk], k⟩ := by
    simp [herT, sRet, mTup, evalM, mC, Lf.R.bind, c1, R.toS]
  have c3 : mIsE "BadRows" c d ⟨[.clo id cs, .unk], k⟩ = .ok (.bool b) ⟨[.clo id cs, .unk], k⟩ := by
    unfold mIsE
    rw [h2]
  have c4 : mIf (toB (mIsE "BadRows" c d)) (mC (.str "rows")) (mC (.str "tape")) ⟨[.clo id cs, .unk], k⟩ = .ok (.str w) ⟨[.clo id cs, .unk], k⟩ := by
    subst hw
    cases b with
    | true => exact mIf_t (toB_ru c3) rfl
    | false => exact mIf_f (toB_ru c3) rfl
  have c5 : mThingE c d ⟨[.clo id cs, .unk], k⟩ = .ok d ⟨[.clo id cs, .unk], k⟩ := by
    unfold mThingE
    rw [h1] <;> rfl
  have c6 : mIsE "HouseError" c d ⟨[.clo id cs, .unk], k⟩ = .ok (.bool true) ⟨[.clo id cs, .unk], k⟩ := by
    unfold mIsE
    rw [h1]
  have c7 : herE c d ⟨[.clo id cs, .unk], k⟩ = .rt (.tuple [.str w, d, .bool true]) ⟨[.clo id cs, .unk], k⟩ := sRet_ru (mTup_ru (em_cons c4 (em_cons c5 (em_cons c6 em_nil))) line3)
  exact fnM_rt (mb := m__law_heard) (pad := 1) (s := ⟨[.clo id cs], k⟩) (sTryT_exc (mb := herT) (ms := herE) c2 hc c7 (by simp))
theorem lm2 {a b : D} {k : Option Deck} {c : Str} {d : D} (h : r_rolled ⟨[.dat a, .dat b], k⟩ = .exc c d k) : LM1 2 [a, b] ⟨[], k⟩ = .exc c d k := by
  have c1 : m_lam_2 ⟨[.dat a, .dat b], k⟩ = .exc c d ⟨[.dat a, .dat b], k⟩ := mCall_exc (ga_m rfl (ga_m rfl ga_nil)) h
  show (match m_lam_2 ⟨[.dat a, .dat b], k⟩ with
    | .ok d s' => RF.ok d s'.dk
    | .exc c d s' => .exc c d s'.dk
    | .bad => .bad) = _
  rw [c1]
theorem lm3 {a b : D} {k : Option Deck} {c : Str} {d : D} (h : r_rolled ⟨[.dat b, .dat a], k⟩ = .exc c d k) : LM1 3 [a, b] ⟨[], k⟩ = .exc c d k := by
  have c1 : m_lam_3 ⟨[.dat a, .dat b], k⟩ = .exc c d ⟨[.dat a, .dat b], k⟩ := mCallK_exc (ga_m rfl (ga_m rfl ga_nil)) h
  show (match m_lam_3 ⟨[.dat a, .dat b], k⟩ with
    | .ok d s' => RF.ok d s'.dk
    | .exc c d s' => .exc c d s'.dk
    | .bad => .bad) = _
  rw [c1]
theorem lm4 {a : D} {k : Option Deck} {d : D} (h : r_rolled ⟨[.dat a, .dat (.tuple [])], k⟩ = .ok d k) : LM1 4 [a] ⟨[], k⟩ = .ok d k := by
  have c1 : m_lam_4 ⟨[.dat a], k⟩ = .ok d ⟨[.dat a], k⟩ := mCall_ru (ga_m rfl (ga_m (mTup_ru em_nil (Nat.zero_le _)) ga_nil)) h
  show (match m_lam_4 ⟨[.dat a], k⟩ with
    | .ok d s' => RF.ok d s'.dk
    | .exc c d s' => .exc c d s'.dk
    | .bad => .bad) = _
  rw [c1]
theorem rolled_bad {b o : D} (h : Bd b) (ho : ok1 5 o = true) (hs : sz o ≤ 1000) (k : Option Deck) : r_rolled ⟨[.dat b, .dat o], k⟩ = .exc "BadRows" b k := by
  rw [q_rolled b o k (ok1_nice (by decide) h.ok) (short_sz (by have := h.sz; omega)) fun ds e => by
    subst e
    have h1 : 1 + szs ds ≤ 1000 := hs
    have := len_szs ds
    have := line_big
    omega]
  unfold rolledOf
  rw [h.no] <;> rfl
theorem rolled_odd {s : Nat} {rs : List (List St)} (h : RowsOk s rs) {o : D} (ho : isTape s o = false) (hs : sz o ≤ 1000) (k : Option Deck) : r_rolled ⟨[.dat (rowsD rs), .dat o], k⟩ = .exc "BadTape" o k := by
  rw [q_rolled (rowsD rs) o k (rowsD_nice rs) (rowsD_short h) fun ds e => by
    subst e
    have h1 : 1 + szs ds ≤ 1000 := hs
    have := len_szs ds
    have := line_big
    omega]
  unfold rolledOf
  have e : tapeFor (rowsD rs) o = false := by
    unfold tapeFor
    rw [sides_rows h]
    exact ho
  rw [if_pos (rows_dice h), e] <;> rfl
end Lw

set_option Elab.async false
set_option linter.all false
set_option maxRecDepth 100000
/-! k17: are_refused. -/
namespace Lw
open PySem PySem.Spec PyProof.Rows L2 NdefX Lf
abbrev rfS (rs : List (List St)) (s : Nat) (x3 x4 x5 x6 x7 : SV) (k : Deck) : S0 := ⟨[.deck, .dat (rowsD rs), .dat (nD s), x3, x4, x5, x6, x7], some k⟩
section
variable {s : Nat} {row : List St} {r : List (List St)} {x3 x4 x5 x6 x7 : SV} {k : Deck}
def m0 : S0 → Lf.R D := mF dIx [.sl 1, .m (mC (.int 0))]
theorem m0_ok : m0 (rfS (row :: r) s x3 x4 x5 x6 x7 k) = .ok (.tuple (row.map stD)) (rfS (row :: r) s x3 x4 x5 x6 x7 k) := mF_ru (ds := [rowsD (row :: r), nD 0]) rfl ix_t
theorem bads_ok (h : RowsOk s (row :: r)) : nLst [mC .none, mTup [], mF dListA [.sl 1], mF dAdd [.sl 1, .m (mTup [mTup []])], mF dAdd [.sl 1, .m (mTup [mSlice m0 (some (mC (.int 1))) none])], mTup [mSlice m0 none (some (mC (.int 1)))], m0, mF dAdd [.sl 1, .m (mTup [mF dListA [.m m0]])], mTup [mF dMulA [.m (mTup [mTup [mC (.str "on"), mC (.int 0)]]), .m (mC (.int 13))]]] (rfS (row :: r) s x3 x4 x5 x6 x7 k) = .ok (bads1 row r) (rfS (row :: r) s x3 x4 x5 x6 x7 k) := by
  have hbig := line_big
  have hf := h.few
  have hlen : ((row :: r).map rowD).length + 1 ≤ line := by
    rw [List.length_map]
    omega
  let S := rfS (row :: r) s x3 x4 x5 x6 x7 k
  have t0 : mTup [] S = .ok (.tuple []) S := mTup_ru em_nil (Nat.zero_le _)
  have a0 : mF dListA [.sl 1] S = .ok (.list ((row :: r).map rowD)) S := mF_ru (ds := [rowsD (row :: r)]) rfl rfl
  have a1 : mTup [mTup []] S = .ok (.tuple [.tuple []]) S := mTup_ru (em_cons t0 em_nil) line1
  have a2 : mF dAdd [.sl 1, .m (mTup [mTup []])] S = .ok (.tuple ((row :: r).map rowD ++ [.tuple []])) S := mF_ru (ev_sl rfl (ev_m a1 ev_nil) rfl) (add_tt hlen)
  have b0 : mSlice m0 (some (mC (.int 1))) none S = .ok (.tuple ((row.map stD).drop 1)) S := mSliceT_from (l := 1) m0_ok rfl
  have b1 : mTup [mSlice m0 (some (mC (.int 1))) none] S = .ok (.tuple [.tuple ((row.map stD).drop 1)]) S := mTup_ru (em_cons b0 em_nil) line1
  have b2 : mF dAdd [.sl 1, .m (mTup [mSlice m0 (some (mC (.int 1))) none])] S = .ok (.tuple ((row :: r).map rowD ++ [.tuple ((row.map stD).drop 1)])) S := mF_ru (ev_sl rfl (ev_m b1 ev_nil) rfl) (add_tt hlen)
  have c0 : mSlice m0 none (some (mC (.int 1))) S = .ok (.tuple ((row.map stD).take 1)) S := mSliceT_to (h := 1) m0_ok rfl
  have c1 : mTup [mSlice m0 none (some (mC (.int 1)))] S = .ok (.tuple [.tuple ((row.map stD).take 1)]) S := mTup_ru (em_cons c0 em_nil) line1
  have d0 : m0 S = .ok (rowD row) S := m0_ok
  have e0 : mF dListA [.m m0] S = .ok (.list (row.map stD)) S := mF_ru (ev_m m0_ok ev_nil) rfl
  have e1 : mTup [mF dListA [.m m0]] S = .ok (.tuple [.list (row.map stD)]) S := mTup_ru (em_cons e0 em_nil) line1
  have e2 : mF dAdd [.sl 1, .m (mTup [mF dListA [.m m0]])] S = .ok (.tuple ((row :: r).map rowD ++ [.list (row.map stD)])) S := mF_ru (ev_sl rfl (ev_m e1 ev_nil) rfl) (add_tt hlen)
  have f0 : mTup [mC (.str "on"), mC (.int 0)] S = .ok (.tuple [.str "on", .int 0]) S := mTup_ru (em_cons rfl (em_cons rfl em_nil)) line2
  have f1 : mTup [mTup [mC (.str "on"), mC (.int 0)]] S = .ok (.tuple [.tuple [.str "on", .int 0]]) S := mTup_ru (em_cons f0 em_nil) line1
  have f2 : dMulA [.tuple [.tuple [.str "on", .int 0]], .int 13] = some (.tuple (List.replicate 13 (.tuple [.str "on", .int 0]))) := by simp [dMulA] <;> rfl
  have f3 : mF dMulA [.m (mTup [mTup [mC (.str "on"), mC (.int 0)]]), .m (mC (.int 13))] S = .ok (.tuple (List.replicate 13 (.tuple [.str "on", .int 0]))) S := mF_ru (ev_m f1 (ev_m rfl ev_nil)) f2
  have f4 : mTup [mF dMulA [.m (mTup [mTup [mC (.str "on"), mC (.int 0)]]), .m (mC (.int 13))]] S = .ok (.tuple [.tuple (List.replicate 13 (.tuple [.str "on", .int 0]))]) S := mTup_ru (em_cons f3 em_nil) line1
  exact nLst_ru (em_cons rfl (em_cons t0 (em_cons a0 (em_cons a2 (em_cons b2 (em_cons c1 (em_cons d0 (em_cons e2 (em_cons f4 em_nil))))))))) (by
    show 9 ≤ line
    omega)
def itsM : S0 → Lf.R D := mTup [mTup [mC (.str "on"), mF dLenA [.sl 1]], mTup [mC (.str "on"), mF dNeg [.m (mC (.int 1))]], mTup [mC (.str "done"), mF dNeg [.m (mC (.int 1))]], mTup [mC (.str "done"), mC (.int 256)], mTup [mC (.str "done"), mC (.bool true)], mTup [mC (.str "done")], mTup [mC (.str "off"), mC (.int 0)], mFrz (nLst [mC (.str "done"), mC (.int 0)]), mC .none, mTup [mC (.int 0), mC (.str "done")], mTup [mC (.str "on"), mC (.str "0")]]
theorem two {a b : S0 → Lf.R D} {S : S0} {x y : D} (h1 : a S = .ok x S) (h2 : b S = .ok y S) : mTup [a, b] S = .ok (.tuple [x, y]) S := mTup_ru (em_cons h1 (em_cons h2 em_nil)) line2
theorem itsM_ok : itsM (rfS (row :: r) s x3 x4 x5 x6 x7 k) = .ok (.tuple (its row r)) (rfS (row :: r) s x3 x4 x5 x6 x7 k) := by
  have hbig := line_big
  let S := rfS (row :: r) s x3 x4 x5 x6 x7 k
  have n1 : mF dNeg [.m (mC (.int 1))] S = .ok (.int (-1)) S := mF_ru (ds := [.int 1]) rfl rfl
  have l1 : mF dLenA [.sl 1] S = .ok (.int (((row :: r).length : Nat) : Int)) S := by
    have : mF dLenA [.sl 1] S = .ok (.int ((((row :: r).map rowD).length : Nat) : Int)) S := mF_ru (ds := [rowsD (row :: r)]) rfl rfl
    rw [List.length_map] at this
    exact this
  have o1 : mTup [mC (.str "done")] S = .ok (.tuple [.str "done"]) S := mTup_ru (em_cons rfl em_nil) line1
  have o2 : mFrz (nLst [mC (.str "done"), mC (.int 0)]) S = .ok (.list [.str "done", .int 0]) S := mFrz_ru (nLst_ru (em_cons rfl (em_cons rfl em_nil)) line2)
  exact mTup_ru (em_cons (two rfl l1) (em_cons (two rfl n1) (em_cons (two rfl n1) (em_cons (two rfl rfl) (em_cons (two rfl rfl) (em_cons o1 (em_cons (two rfl rfl) (em_cons o2 (em_cons rfl (em_cons (two rfl rfl) (em_cons (two rfl rfl) em_nil))))))))))) (by
    show 11 ≤ line
    omega)
def fstD (row : List St) (r : List (List St)) (it : D) : D := .tuple (.tuple (it :: (row.map stD).drop 1) :: r.map rowD)
theorem more_ok (h : RowsOk s (row :: r)) : mLc (.nm 4) [4] (mItD itsM) (tYesM) (mF dAdd [.m (mTup [mF dAdd [.m (mTup [mVar 4]), .m (mSlice m0 (some (mC (.int 1))) none)]]), .m (mSlice (mVar 1) (some (mC (.int 1))) none)]) (rfS (row :: r) s x3 x4 x5 x6 x7 k) = .ok ((its row r).map (fstD row r)) (rfS (row :: r) s x3 x4 x5 x6 x7 k) := by
  have hbig := line_big
  have hf := h.few
  have hl := (h.row row List.mem_cons_self).1
  have h12 := h.s12
  have hit : mItD itsM (rfS (row :: r) s x3 x4 x5 x6 x7 k) = .ok ((its row r).map id) (rfS (row :: r) s x3 x4 x5 x6 x7 k) := by
    rw [List.map_id]
    exact mItD_ru itsM_ok rfl
  refine mLc_fn (e := id) (f := fstD row r) (xs := its row r) (ρ := (rfS (row :: r) s x3 x4 x5 x6 x7 k).ρ) hit (by simp) (by show 11 ≤ line; omega) fun it _ => ?_
  show mF dAdd [.m (mTup [mF dAdd [.m (mTup [mVar 4]), .m (mSlice m0 (some (mC (.int 1))) none)]]), .m (mSlice (mVar 1) (some (mC (.int 1))) none)] (rfS (row :: r) s x3 (.dat it) x5 x6 x7 k) = .ok (fstD row r it) (rfS (row :: r) s x3 (.dat it) x5 x6 x7 k)
  let S := rfS (row :: r) s x3 (.dat it) x5 x6 x7 k
  have c1 : mTup [mVar 4] S = .ok (.tuple [it]) S := mTup_ru (em_cons rfl em_nil) line1
  have c2 : mSlice m0 (some (mC (.int 1))) none S = .ok (.tuple ((row.map stD).drop 1)) S := mSliceT_from (l := 1) m0_ok rfl
  have c3 : mF dAdd [.m (mTup [mVar 4]), .m (mSlice m0 (some (mC (.int 1))) none)] S = .ok (.tuple ([it] ++ (row.map stD).drop 1)) S := mF_ru (ev_m c1 (ev_m c2 ev_nil)) (add_tt (by
    rw [List.length_drop, List.length_map]
    simp only [List.length_cons, List.length_nil]
    omega))
  have c4 : mTup [mF dAdd [.m (mTup [mVar 4]), .m (mSlice m0 (some (mC (.int 1))) none)]] S = .ok (.tuple [.tuple ([it] ++ (row.map stD).drop 1)]) S := mTup_ru (em_cons c3 em_nil) line1
  have c5 : mSlice (mVar 1) (some (mC (.int 1))) none S = .ok (.tuple (((row :: r).map rowD).drop 1)) S := mSliceT_from (l := 1) (m := mVar 1) (ds := (row :: r).map rowD) rfl rfl
  exact mF_ru (ev_m c4 (ev_m c5 ev_nil)) (add_tt (by
    rw [List.length_drop, List.length_map]
    simp only [List.length_cons, List.length_nil] at hf ⊢
    omega))
theorem q_are_refused (h : RowsOk s (row :: r)) {n : Nat} (g : Good n k) (hn : n < 90000) :
    ∃ k', r__law_are_refused ⟨[.deck, .dat (rowsD (row :: r)), .dat (nD s)], some k⟩ = .ok (.bool true) (some k') ∧ Good (n + 2) k' := by
  have hbig := line_big
  have h12 := h.s12
  have e1 : sSet 3 (mFrz (nLst [mC .none, mTup [], mF dListA [.sl 1], mF dAdd [.sl 1, .m (mTup [mTup []])], mF dAdd [.sl 1, .m (mTup [mSlice m0 (some (mC (.int 1))) none])], mTup [mSlice m0 none (some (mC (.int 1)))], m0, mF dAdd [.sl 1, .m (mTup [mF dListA [.m m0]])], mTup [mF dMulA [.m (mTup [mTup [mC (.str "on"), mC (.int 0)]]), .m (mC (.int 13))]]])) (rfS (row :: r) s .unk .unk .unk .unk .unk k) = .nx (rfS (row :: r) s (.dat (.list (bads1 row r))) .unk .unk .unk .unk k) := sSet_ru (mFrz_ru (bads_ok h)) (by simp)
  have c2 : mF dAdd [.sl 3, .m (mFrz (mLc (.nm 4) [4] (mItD itsM) (tYesM) (mF dAdd [.m (mTup [mF dAdd [.m (mTup [mVar 4]), .m (mSlice m0 (some (mC (.int 1))) none)]]), .m (mSlice (mVar 1) (some (mC (.int 1))) none)])))] (rfS (row :: r) s (.dat (.list (bads1 row r))) .unk .unk .unk .unk k) = .ok (.list (bads1 row r ++ (its row r).map (fstD row r))) (rfS (row :: r) s (.dat (.list (bads1 row r))) .unk .unk .unk .unk k) :=
    mF_ru (ev_sl rfl (ev_m (mFrz_ru (more_ok h)) ev_nil) rfl) (add_ll (by
      show 20 ≤ line
      omega))
  have e2 := sSet_ru (i := 3) c2 (by simp)
  have hbd : ∀ b ∈ bads1 row r ++ (its row r).map (fstD row r), Bd b := fun b hb => by
    rcases List.mem_append.mp hb with hb | hb
    · exact bads1_ok h b hb
    · obtain ⟨it, hit, rfl⟩ := List.mem_map.mp hb
      obtain ⟨i1, i2, i3⟩ := its_ok h it hit
      exact bd_first h i1 i2 i3
  obtain ⟨bad, k1, hbm, g1, ep⟩ := q_pick g (by omega) (ds := bads1 row r ++ (its row r).map (fstD row r)) (by simp [bads1]) (by
    show 20 ≤ 1000000
    omega)
  have hb := hbd bad hbm
  have c3 : mCall r__law_pick [.dk 0, .m (mVar 3)] (rfS (row :: r) s (.dat (.list (bads1 row r ++ (its row r).map (fstD row r)))) .unk .unk .unk .unk k) = .ok bad (rfS (row :: r) s (.dat (.list (bads1 row r ++ (its row r).map (fstD row r)))) .unk .unk .unk .unk k1) := mCall_ru (ga_dk rfl (ga_m rfl ga_nil)) ep
  have e3 := sSet_ru (i := 5) c3 (by simp)
  obtain ⟨odd, k2, hom, g2, eo⟩ := q_pick g1 (by omega) (ds := odds s) (by simp [odds]) (by
    show 9 ≤ 1000000
    omega)
  obtain ⟨o1, o2, o3⟩ := odds_ok h12 odd hom
  generalize hL : SV.dat (.list (bads1 row r ++ (its row r).map (fstD row r))) = L at *
  have c4 : mFrz (nLst [mC .none, mFrz (nLst [mC (.int 0)]), mTup [mVar 2], mTup [mC (.int 0), mF dNeg [.m (mC (.int 1))]], mTup [mC (.bool true)], mTup [mC (.str "0")], mTup [mTup [mC (.int 0)]], mC (.int 0), mC (.str "00")]) (rfS (row :: r) s L .unk (.dat bad) .unk .unk k1) = .ok (.list (odds s)) (rfS (row :: r) s L .unk (.dat bad) .unk .unk k1) := by
    let S := rfS (row :: r) s L .unk (.dat bad) .unk .unk k1
    have p0 : mFrz (nLst [mC (.int 0)]) S = .ok (.list [.int 0]) S := mFrz_ru (nLst_ru (em_cons rfl em_nil) line1)
    have p1 : mTup [mVar 2] S = .ok (.tuple [nD s]) S := mTup_ru (em_cons rfl em_nil) line1
    have n1 : mF dNeg [.m (mC (.int 1))] S = .ok (.int (-1)) S := mF_ru (ds := [.int 1]) rfl rfl
    have p2 : mTup [mC (.bool true)] S = .ok (.tuple [.bool true]) S := mTup_ru (em_cons rfl em_nil) line1
    have p3 : mTup [mC (.str "0")] S = .ok (.tuple [.str "0"]) S := mTup_ru (em_cons rfl em_nil) line1
    have p4 : mTup [mC (.int 0)] S = .ok (.tuple [.int 0]) S := mTup_ru (em_cons rfl em_nil) line1
    have p5 : mTup [mTup [mC (.int 0)]] S = .ok (.tuple [.tuple [.int 0]]) S := mTup_ru (em_cons p4 em_nil) line1
    exact mFrz_ru (nLst_ru (em_cons rfl (em_cons p0 (em_cons p1 (em_cons (two rfl n1) (em_cons p2 (em_cons p3 (em_cons p5 (em_cons rfl (em_cons rfl em_nil))))))))) (by
      show 9 ≤ line
      omega))
  have c5 : mCall r__law_pick [.dk 0, .m (mFrz (nLst [mC .none, mFrz (nLst [mC (.int 0)]), mTup [mVar 2], mTup [mC (.int 0), mF dNeg [.m (mC (.int 1))]], mTup [mC (.bool true)], mTup [mC (.str "0")], mTup [mTup [mC (.int 0)]], mC (.int 0), mC (.str "00")]))] (rfS (row :: r) s L .unk (.dat bad) .unk .unk k1) = .ok odd (rfS (row :: r) s L .unk (.dat bad) .unk .unk k2) := mCall_ru (ga_dk rfl (ga_m c4 ga_nil)) eo
  have e4 := sSet_ru (i := 6) c5 (by simp)
  have k1e : ∀ kk, r__law_heard ⟨[.clo 2 [bad, odd]], kk⟩ = .ok (.tuple [.str "rows", bad, .bool true]) kk := fun kk => her_exc (c := "BadRows") (b := true) rfl (lm2 (rolled_bad hb o2 o3 kk)) (by decide +kernel) (by decide +kernel) (by decide +kernel) rfl
  have k2e : ∀ kk, r__law_heard ⟨[.clo 3 [odd, rowsD (row :: r)]], kk⟩ = .ok (.tuple [.str "tape", odd, .bool true]) kk := fun kk => her_exc (c := "BadTape") (b := false) rfl (lm3 (rolled_odd h o1 o3 kk)) (by decide +kernel) (by decide +kernel) (by decide +kernel) rfl
  have k3e : ∀ kk, r__law_heard ⟨[.clo 4 [rowsD (row :: r)]], kk⟩ = .ok (.tuple [.str "told", .tuple [.str "on", .int 0]]) kk := fun kk => her_ok rfl (lm4 (q_rolled_ok h (t := []) (by simp) (Nat.zero_le _) kk))
  have c6 : mCallC r__law_heard [] 2 [5, 6] (rfS (row :: r) s L .unk (.dat bad) (.dat odd) .unk k2) = .ok (.tuple [.str "rows", bad, .bool true]) (rfS (row :: r) s L .unk (.dat bad) (.dat odd) .unk k2) := mCallC_ru ga_nil (cs := [bad, odd]) rfl (k1e _)
  have e5 : sSetN 7 (nLst [mCallC r__law_heard [] 2 [5, 6]]) (rfS (row :: r) s L .unk (.dat bad) (.dat odd) .unk k2) = .nx (rfS (row :: r) s L .unk (.dat bad) (.dat odd) (.lst [.tuple [.str "rows", bad, .bool true]]) k2) := sSetN_ru (nLst_ru (em_cons c6 em_nil) line1) (by simp)
  have c7 : mCallC r__law_heard [] 3 [6, 1] (rfS (row :: r) s L .unk (.dat bad) (.dat odd) (.lst [.tuple [.str "rows", bad, .bool true]]) k2) = .ok (.tuple [.str "tape", odd, .bool true]) (rfS (row :: r) s L .unk (.dat bad) (.dat odd) (.lst [.tuple [.str "rows", bad, .bool true]]) k2) := mCallC_ru ga_nil (cs := [odd, rowsD (row :: r)]) rfl (k2e _)
  have e6 := sDrop_ru (mApp_ru (i := 7) (ys := [.tuple [.str "rows", bad, .bool true]]) (xs := [.tuple [.str "rows", bad, .bool true]]) rfl c7 rfl (by
    show 1 < line
    omega))
  have c8 : mCallC r__law_heard [] 4 [1] (rfS (row :: r) s L .unk (.dat bad) (.dat odd) (.lst [.tuple [.str "rows", bad, .bool true], .tuple [.str "tape", odd, .bool true]]) k2) = .ok (.tuple [.str "told", .tuple [.str "on", .int 0]]) (rfS (row :: r) s L .unk (.dat bad) (.dat odd) (.lst [.tuple [.str "rows", bad, .bool true], .tuple [.str "tape", odd, .bool true]]) k2) := mCallC_ru ga_nil (cs := [rowsD (row :: r)]) rfl (k3e _)
  have e7 := sDrop_ru (mApp_ru (i := 7) (ys := [.tuple [.str "rows", bad, .bool true], .tuple [.str "tape", odd, .bool true]]) (xs := [.tuple [.str "rows", bad, .bool true], .tuple [.str "tape", odd, .bool true]]) rfl c8 rfl (by
    show 2 < line
    omega))
  let HD : List D := [.tuple [.str "rows", bad, .bool true], .tuple [.str "tape", odd, .bool true], .tuple [.str "told", .tuple [.str "on", .int 0]]]
  have hok : ok1 7 (.list HD) = true := (ok1_lst 6 _).mpr fun d hd => by
    simp only [HD, List.mem_cons, List.not_mem_nil, or_false] at hd
    rcases hd with rfl | rfl | rfl
    · refine (ok1_tup 5 _).mpr fun z hz => ?_
      simp only [List.mem_cons, List.not_mem_nil, or_false] at hz
      rcases hz with rfl | rfl | rfl
      · decide +kernel
      · exact hb.ok
      · decide +kernel
    · refine (ok1_tup 5 _).mpr fun z hz => ?_
      simp only [List.mem_cons, List.not_mem_nil, or_false] at hz
      rcases hz with rfl | rfl | rfl
      · decide +kernel
      · exact o2
      · decide +kernel
    · decide +kernel
  have hsz : sz (.list HD) < 1000000 := by
    have q1 := hb.sz
    simp only [HD, sz, szs]
    omega
  have c9 : mFrz (nLst [mTup [mC (.str "rows"), mVar 5, mC (.bool true)], mTup [mC (.str "tape"), mVar 6, mC (.bool true)], mTup [mC (.str "told"), mTup [mC (.str "on"), mC (.int 0)]]]) (rfS (row :: r) s L .unk (.dat bad) (.dat odd) (.dat (.list HD)) k2) = .ok (.list HD) (rfS (row :: r) s L .unk (.dat bad) (.dat odd) (.dat (.list HD)) k2) := by
    let S := rfS (row :: r) s L .unk (.dat bad) (.dat odd) (.dat (.list HD)) k2
    have p1 : mTup [mC (.str "rows"), mVar 5, mC (.bool true)] S = .ok (.tuple [.str "rows", bad, .bool true]) S := mTup_ru (em_cons rfl (em_cons rfl (em_cons rfl em_nil))) line3
    have p2 : mTup [mC (.str "tape"), mVar 6, mC (.bool true)] S = .ok (.tuple [.str "tape", odd, .bool true]) S := mTup_ru (em_cons rfl (em_cons rfl (em_cons rfl em_nil))) line3
    have p3 : mTup [mC (.str "told"), mTup [mC (.str "on"), mC (.int 0)]] S = .ok (.tuple [.str "told", .tuple [.str "on", .int 0]]) S := two rfl (two rfl rfl)
    exact mFrz_ru (nLst_ru (em_cons p1 (em_cons p2 (em_cons p3 em_nil))) line3)
  have c10 : mCall r__law_same [.m (mVar 7), .m (mFrz (nLst [mTup [mC (.str "rows"), mVar 5, mC (.bool true)], mTup [mC (.str "tape"), mVar 6, mC (.bool true)], mTup [mC (.str "told"), mTup [mC (.str "on"), mC (.int 0)]]]))] (rfS (row :: r) s L .unk (.dat bad) (.dat odd) (.lst HD) k2) = .ok (.bool true) (rfS (row :: r) s L .unk (.dat bad) (.dat odd) (.dat (.list HD)) k2) :=
    mCall_ru (ga_m (s1 := rfS (row :: r) s L .unk (.dat bad) (.dat odd) (.dat (.list HD)) k2) rfl (ga_m c9 ga_nil)) (q_same (ok1_mono (by decide) hok) hsz)
  refine ⟨k2, ?_, g2⟩
  subst hL
  exact fnM_rt (mb := m__law_are_refused) (pad := 5) (s := ⟨[.deck, .dat (rowsD (row :: r)), .dat (nD s)], some k⟩) ((sSeq_nx e1).trans ((sSeq_nx e2).trans ((sSeq_nx e3).trans ((sSeq_nx e4).trans ((sSeq_nx e5).trans ((sSeq_nx e6).trans ((sSeq_nx e7).trans (sRet_ru c10))))))))
end
end Lw

set_option Elab.async false
set_option linter.all false
set_option maxRecDepth 100000
/-! k17: the rows' texts. -/
namespace Lw
open PySem PySem.Spec PyProof.Rows L2 NdefX Lf
theorem sok_app {x y : Str} (hx : PyData.strOk x = true) (hy : PyData.strOk y = true) : PyData.strOk (x ++ y) = true := by
  unfold PyData.strOk at *
  rw [Array.all_eq_true_iff_forall_mem] at *
  intro c hc
  have hc : c ∈ x.cps ++ y.cps := hc
  rcases Array.mem_append.mp hc with hc | hc
  · exact hx c hc
  · exact hy c hc
theorem sok_of (s : String) : PyData.strOk (Str.ofString s) = true := by
  unfold PyData.strOk
  rw [Str.ofString_eq_toList, Array.all_eq_true_iff_forall_mem]
  intro c hc
  have hc : c ∈ s.toList.map Char.toNat := by simpa using hc
  obtain ⟨ch, _, rfl⟩ := List.mem_map.mp hc
  have h : ch.toNat < 0xd800 ∨ (0xdfff < ch.toNat ∧ ch.toNat < 0x110000) := ch.valid
  simp only [decide_eq_true_eq]
  omega
theorem sok_join {sep : Str} (hs : PyData.strOk sep = true) : ∀ ts : List Str, (∀ t ∈ ts, PyData.strOk t = true) → PyData.strOk (Str.join sep ts) = true
  | [], _ => by
    show PyData.strOk Str.empty = true
    decide +kernel
  | [x], h => h x (by simp)
  | x :: y :: r, h => sok_app (sok_app (h x (by simp)) hs) (sok_join hs (y :: r) fun t ht => h t (List.mem_cons_of_mem _ ht))
theorem sok_tup {ts : List Str} (h : ∀ t ∈ ts, PyData.strOk t = true) : PyData.strOk (tupleText ts) = true := by
  unfold tupleText
  exact sok_app (sok_app (sok_of _) (sok_join (sok_of _) ts h)) (sok_of _)
theorem sok_all : ∀ ds : List D, (∀ d ∈ ds, PyData.strOk d.shown = true) → ∀ t ∈ PyData.shownAll ds, PyData.strOk t = true
  | [], _, t, ht => by cases ht
  | d :: r, h, t, ht => by
    rw [PyData.shownAll] at ht
    rcases List.mem_cons.mp ht with rfl | ht
    · exact h d List.mem_cons_self
    · exact sok_all r (fun z hz => h z (List.mem_cons_of_mem _ hz)) t ht
theorem sok_tuple {ds : List D} (h : ∀ d ∈ ds, PyData.strOk d.shown = true) : PyData.strOk (PyData.shown (.tuple ds)) = true := by
  rw [PyData.shown]
  exact sok_tup (sok_all ds h)
/-- a text can be told: what dRepr asks -/
structure Sh (w : Nat) (d : D) : Prop where
  sok : PyData.strOk d.shown = true
  able : d.showable = true
  short : d.intsShort 13 = true
  wt : d.weight ≤ w
theorem sh_int (n : Nat) (h : n < 1000) : Sh 10 (nD n) := by
  refine ⟨by rw [nD, PyData.shown]; exact sok_of _, ?_, ?_, ?_⟩
  · show decide ((n : Int).natAbs.log2 < 1920) = true
    rw [Int.natAbs_natCast, decide_eq_true_eq]
    by_cases h0 : n = 0
    · subst h0
      decide
    · have : n.log2 < 10 := (Nat.log2_lt h0).mpr (by omega)
      omega
  · show decide ((PyData.shown (.int (n : Int))).length ≤ 13) = true
    rw [decide_eq_true_eq]
    exact PyData.shown_int_le (by omega)
  · show (if (n : Int) == 0 then 0 else (n : Int).natAbs.log2 + 1) ≤ 10
    rw [Int.natAbs_natCast]
    by_cases h0 : n = 0
    · subst h0
      decide
    · have : n.log2 < 10 := (Nat.log2_lt h0).mpr (by omega)
      split <;> omega
theorem sh_done : Sh 4 (.str "done") := ⟨by decide +kernel, rfl, rfl, by decide +kernel⟩
theorem sh_on : Sh 4 (.str "on") := ⟨by decide +kernel, rfl, rfl, by decide +kernel⟩
theorem sh_tup {w : Nat} {ds : List D} (h : ∀ d ∈ ds, Sh w d) : Sh (ds.length * (w + 1)) (.tuple ds) := by
  refine ⟨sok_tuple fun d hd => (h d hd).sok, ?_, ?_, ?_⟩
  · rw [PyData.showable]
    have : ∀ l : List D, (∀ d ∈ l, Sh w d) → PyData.showableAll l = true := by
      intro l
      induction l with
      | nil => intro _; rfl
      | cons d r ih =>
        intro h
        rw [PyData.showableAll, (h d List.mem_cons_self).able, ih fun z hz => h z (List.mem_cons_of_mem _ hz)] <;> rfl
    exact this ds h
  · rw [PyData.intsShort]
    have : ∀ l : List D, (∀ d ∈ l, Sh w d) → PyData.intsShortAll 13 l = true := by
      intro l
      induction l with
      | nil => intro _; rfl
      | cons d r ih =>
        intro h
        rw [PyData.intsShortAll, (h d List.mem_cons_self).short, ih fun z hz => h z (List.mem_cons_of_mem _ hz)] <;> rfl
    exact this ds h
  · rw [PyData.weight]
    have : ∀ l : List D, (∀ d ∈ l, Sh w d) → PyData.weightAll l ≤ l.length * (w + 1) := by
      intro l
      induction l with
      | nil => intro _; simp [PyData.weightAll]
      | cons d r ih =>
        intro h
        have h1 := (h d List.mem_cons_self).wt
        have h2 := ih fun z hz => h z (List.mem_cons_of_mem _ hz)
        rw [PyData.weightAll, List.length_cons, Nat.add_mul, Nat.one_mul]
        omega
    exact this ds h
theorem Sh.mono {v w : Nat} {d : D} (h : v ≤ w) (q : Sh v d) : Sh w d := ⟨q.sok, q.able, q.short, Nat.le_trans q.wt h⟩
/-- rows of few and small steps -/
structure RowsSm (rs : List (List St)) : Prop where
  few : rs.length ≤ 1000
  row : ∀ row ∈ rs, row.length ≤ 12 ∧ ∀ x ∈ row, stOk 1000 1000 x
theorem sh_st {x : St} (h : stOk 1000 1000 x) : Sh 22 (stD x) := by
  cases x with
  | dn k =>
    refine (sh_tup (w := 10) (ds := [.str "done", nD k]) fun d hd => ?_).mono (by simp)
    simp only [List.mem_cons, List.not_mem_nil, or_false] at hd
    rcases hd with rfl | rfl
    · exact sh_done.mono (by decide)
    · exact sh_int k h
  | on k =>
    refine (sh_tup (w := 10) (ds := [.str "on", nD k]) fun d hd => ?_).mono (by simp)
    simp only [List.mem_cons, List.not_mem_nil, or_false] at hd
    rcases hd with rfl | rfl
    · exact sh_on.mono (by decide)
    · exact sh_int k h
theorem sh_rows {rs : List (List St)} (h : RowsSm rs) : Sh 300000 (rowsD rs) := by
  have h1 : ∀ d ∈ rs.map rowD, Sh 276 d := fun d hd => by
    obtain ⟨row, hrow, rfl⟩ := List.mem_map.mp hd
    obtain ⟨q1, q2⟩ := h.row row hrow
    refine (sh_tup (w := 22) (ds := row.map stD) fun d hd => ?_).mono (by rw [List.length_map]; omega)
    obtain ⟨x, hx, rfl⟩ := List.mem_map.mp hd
    exact sh_st (q2 x hx)
  refine (sh_tup h1).mono ?_
  rw [List.length_map]
  have := h.few
  omega
theorem repr_ok {r1 r2 : List (List St)} (h1 : RowsSm r1) (h2 : RowsSm r2) : ∃ x, dRepr [.tuple [rowsD r1, rowsD r2]] = some (.str x) ∧ dNe [.str x, .str x] = some (.bool false) := by
  have hs : Sh 600002 (.tuple [rowsD r1, rowsD r2]) := (sh_tup (w := 300000) fun d hd => by
    simp only [List.mem_cons, List.not_mem_nil, or_false] at hd
    rcases hd with rfl | rfl
    · exact sh_rows h1
    · exact sh_rows h2).mono (by simp)
  have ho : ok1 4 (.tuple [rowsD r1, rowsD r2]) = true := (ok1_tup 3 _).mpr fun d hd => by
    simp only [List.mem_cons, List.not_mem_nil, or_false] at hd
    rcases hd with rfl | rfl
    · exact ok1_rows r1
    · exact ok1_rows r2
  generalize hd : PyData.tuple [rowsD r1, rowsD r2] = d at *
  have ho' := ho
  simp only [ok1, Bool.and_eq_true, decide_eq_true_eq] at ho'
  have hl : PyData.layable0 d = true := by
    show (d.canLay0 && decide (d.depth ≤ 64) && decide (d.weight ≤ 2 ^ 20)) = true
    simp only [Bool.and_eq_true, decide_eq_true_eq]
    exact ⟨⟨ho'.2.1, by omega⟩, by have := hs.wt; omega⟩
  have hlen := PyData.shown_le_of_layable0 hl hs.short
  refine ⟨d.shown, ?_, ?_⟩
  · have hi : (items d).isSome = true := by
      rw [← hd] <;> rfl
    have hc : ((items d).isSome && (d.showable && (noDict d && decide (d.depth ≤ 100 ∧ d.shown.length ≤ line)))) = true := by
      rw [hi, hs.able, ho'.1]
      simp only [Bool.true_and, decide_eq_true_eq]
      exact ⟨by omega, by unfold line; omega⟩
    show (if (items d).isSome && (d.showable && (noDict d && decide (d.depth ≤ 100 ∧ d.shown.length ≤ line))) then some (PyData.str d.shown) else none) = _
    rw [if_pos hc]
  · have hx : ok1 0 (.str d.shown) = true := by
      show (true && (PyData.strOk d.shown && decide (0 ≤ 0))) = true
      rw [hs.sok] <;> rfl
    rw [dNe_of (eqOk_of (by decide) (by decide) hx hx)]
    simp [PyData.eqv]
end Lw

set_option Elab.async false
set_option linter.all false
set_option maxRecDepth 100000
/-! k17: the whole law. -/
namespace Lf
open PySem PySem.Spec PyProof.Rows L2
/-- a comprehension whose elements may change the deck, place by place -/
theorem lcL_ix {v : Nat} {m : S0 → R D} {ρ : List SV} (hv : v < ρ.length) {G : Nat → Option Deck → Prop} {T : D → Prop} : ∀ (ds acc : List D) (n : Nat) (k : Option Deck), G n k →
    (∀ i k d, ds[i]? = some d → G (n + i) k → ∃ y k', m ⟨ρ.set v (.dat d), k⟩ = .ok y ⟨ρ.set v (.dat d), k'⟩ ∧ T y ∧ G (n + i + 1) k') → acc.length + ds.length ≤ line →
    ∃ ys k', lcL (.nm v) [v] tYesM m ds acc ⟨ρ.set v .unk, k⟩ = .ok (acc ++ ys) ⟨ρ.set v .unk, k'⟩ ∧ ys.length = ds.length ∧ (∀ y ∈ ys, T y) ∧ G (n + ds.length) k'
  | [], acc, n, k, hg, _, _ => ⟨[], k, by
      rw [List.append_nil] <;> rfl, rfl, (fun y e => nomatch e), hg⟩
  | d :: r, acc, n, k, hg, hm, hl => by
    have h1 : acc.length < line := by
      rw [List.length_cons] at hl
      omega
    obtain ⟨y, k1, e2, t1, g1⟩ := hm 0 k d rfl hg
    obtain ⟨ys, k2, e4, l4, t4, g4⟩ := lcL_ix (m := m) hv (G := G) (T := T) r (acc ++ [y]) (n + 1) k1 g1 (fun i k z hz hg => by
      have e : n + 1 + i = n + (i + 1) := by omega
      rw [e] at hg ⊢
      exact hm (i + 1) k z (by simpa using hz) hg) (by rw [List.length_append]; simp only [List.length_cons, List.length_nil] at hl ⊢; omega)
    refine ⟨y :: ys, k2, ?_, by rw [List.length_cons, List.length_cons, l4], fun z hz => ?_, by rw [List.length_cons, ← Nat.add_assoc, Nat.add_right_comm]; exact g4⟩
    · have e1 : asgP (.nm v) d (ρ.set v .unk) = some (ρ.set v (.dat d)) := by
        show (if v < (ρ.set v .unk).length then some ((ρ.set v .unk).set v (.dat d)) else none) = _
        rw [if_pos (by simpa using hv), List.set_set]
      unfold lcL
      show (match asgP (.nm v) d (ρ.set v .unk) with
        | none => R.bad
        | some ρ' => _) = _
      rw [e1]
      show (match m ⟨ρ.set v (.dat d), k⟩ with
        | .ok y s2 => if acc.length < line then lcL (.nm v) [v] tYesM m r (acc ++ [y]) (wipeS [v] s2) else .bad
        | _ => .bad) = _
      rw [e2]
      show (if acc.length < line then lcL (.nm v) [v] tYesM m r (acc ++ [y]) (wipeS [v] ⟨ρ.set v (.dat d), k1⟩) else .bad) = _
      have e3 : wipeS [v] ⟨ρ.set v (.dat d), k1⟩ = ⟨ρ.set v .unk, k1⟩ := by
        show (⟨(ρ.set v (.dat d)).set v .unk, k1⟩ : S0) = _
        rw [List.set_set]
      rw [if_pos h1, e3, e4, List.append_assoc] <;> rfl
    · rcases List.mem_cons.mp hz with rfl | hz
      · exact t1
      · exact t4 z hz
theorem mLc_ix {v : Nat} {m : S0 → R D} {mi : S0 → R (List D)} {s : S0} {ρ : List SV} {G : Nat → Option Deck → Prop} {T : D → Prop} {k : Option Deck} {ds : List D} (hmi : mi s = .ok ds ⟨ρ, k⟩) (hv : v < ρ.length) (hl : ds.length ≤ line) (hg : G 0 k)
    (hm : ∀ i k d, ds[i]? = some d → G i k → ∃ y k', m ⟨ρ.set v (.dat d), k⟩ = .ok y ⟨ρ.set v (.dat d), k'⟩ ∧ T y ∧ G (i + 1) k') :
    ∃ ys k', mLc (.nm v) [v] mi tYesM m s = .ok ys ⟨ρ, k'⟩ ∧ ys.length = ds.length ∧ (∀ y ∈ ys, T y) ∧ G ds.length k' := by
  obtain ⟨ys, k', h, h2, h3, h4⟩ := lcL_ix (m := m) hv (G := G) (T := T) ds [] 0 k hg (fun i k d hd hg => by
    rw [Nat.zero_add] at hg ⊢
    exact hm i k d hd hg) (by simpa using hl)
  rw [Nat.zero_add] at h4
  refine ⟨ys, k', ?_, h2, h3, h4⟩
  unfold mLc
  rw [hmi]
  show (match lcL (.nm v) [v] tYesM m ds [] ⟨ρ.set v .unk, k⟩ with
    | .ok acc s2 => R.ok acc { s2 with ρ := backR ρ s2.ρ [v] }
    | _ => .bad) = _
  rw [h]
  show R.ok _ (⟨(ρ.set v .unk).set v (ρ[v]?.getD .unk), k'⟩ : S0) = _
  rw [List.set_set, set_back hv] <;> rfl
end Lf
namespace Lw
open PySem PySem.Spec PyProof.Rows L2 NdefX Lf
theorem gcdL_dvd : ∀ (ws : List Nat) (g : Nat), gcdL g ws ∣ g ∧ ∀ w ∈ ws, gcdL g ws ∣ w
  | [], g => ⟨Nat.dvd_refl _, fun w h => by cases h⟩
  | x :: r, g => by
    obtain ⟨h1, h2⟩ := gcdL_dvd r (Nat.gcd x g)
    refine ⟨Nat.dvd_trans h1 (Nat.gcd_dvd_right x g), fun w hw => ?_⟩
    rcases List.mem_cons.mp hw with rfl | hw
    · exact Nat.dvd_trans h1 (Nat.gcd_dvd_left w g)
    · exact h2 w hw
theorem lowW_sum_le (ws : List Nat) : (lowW ws).sum ≤ ws.sum := by
  unfold lowW
  generalize gcdL 0 ws = g
  induction ws with
  | nil => exact Nat.le_refl _
  | cons w r ih =>
    simp only [List.map_cons, List.sum_cons]
    have := Nat.div_le_self w g
    omega
theorem lowW_pos {ws : List Nat} (h : ∃ w ∈ ws, 0 < w) : 0 < (lowW ws).sum := by
  obtain ⟨w, hw, hp⟩ := h
  have hg := gcdL_pos ws 0 (.inr ⟨w, hw, hp⟩)
  have hd := (gcdL_dvd ws 0).2 w hw
  have h1 : 1 ≤ w / gcdL 0 ws := (Nat.le_div_iff_mul_le hg).mpr (by rw [Nat.one_mul]; exact Nat.le_of_dvd hp hd)
  have h2 : w / gcdL 0 ws ∈ lowW ws := List.mem_map.mpr ⟨w, hw, rfl⟩
  have := le_sum _ _ h2
  omega
def twOf (s : Nat) (ws : List Nat) (hs : 0 < s) (h : ∃ w ∈ ws, 0 < w) : Tw := ⟨s, (lowW ws).sum, lowW ws, lowW_pos h, hs, rfl⟩
/-- the rows of a tosser are rows -/
theorem tw_rows (t : Tw) {N : Nat} {back : Option Nat} (hD : Deps t N back) (h2 : 2 ≤ t.s) (h12 : t.s ≤ 12) (hl : t.ws.length ≤ 4) (hN : 0 < N) : RowsOk t.s (t.rows N back) := by
  have hf := t.rows_few N back
  have hNf := hD.few
  have hfew : (t.rows N back).length ≤ 1000 := by
    have : N * t.ws.length ≤ 31 * 4 := Nat.mul_le_mul (by omega) hl
    omega
  refine ⟨fun he => ?_, h2, h12, hfew, fun row hrow => ?_⟩
  · have h0 : (t.rows N back).length = 0 := by rw [he] <;> rfl
    rw [t.rows_len] at h0
    have h1 := before_succ t.W (t.found N) 0 (t.R 0) (by simp [Tw.found, hN])
    have h3 := before_mono t.W (t.found N) 1 N hN
    have h4 := (hD.new 0 hN).1
    have h5 : 1 ≤ knots t.W (t.R 0) := by
      obtain ⟨m, hm⟩ := t.R_dvd 0
      unfold knots
      rw [hm, Nat.mul_div_cancel_left _ t.hW]
      cases m with
      | zero =>
        rw [Nat.mul_zero] at hm
        exact absurd hm h4
      | succ m => omega
    rw [Nat.zero_add] at h1
    omega
  · obtain ⟨q1, q2⟩ := t.rows_ok hD.ok hrow
    refine ⟨q1, fun x hx => ?_⟩
    have := q2 x hx
    cases x with
    | dn k =>
      have h : k < t.ws.length := this
      show k < 256
      omega
    | on i => exact this
theorem sm_of {s : Nat} {rs : List (List St)} (h : RowsOk s rs) : RowsSm rs := ⟨h.few, fun row hrow => by
  obtain ⟨q1, q2⟩ := h.row row hrow
  have := h.s12
  have hf := h.few
  refine ⟨by omega, fun x hx => ?_⟩
  have := q2 x hx
  cases x with
  | dn k =>
    have h : k < 256 := this
    show k < 1000
    omega
  | on i =>
    have h : i < rs.length := this
    show i < 1000
    omega⟩
theorem sm_nil : RowsSm [] := ⟨by decide, fun row h => by cases h⟩
theorem cnt_tw (t : Tw) {N : Nat} {back : Option Nat} (hD : Deps t N back) (hN : 0 < N) (r : Nat) : (List.range t.ws.length).map (fun c => cntOf c (outs (t.rows N back) t.s r)) = t.ws.map fun w => w * t.s ^ r / t.W := by
  have hl := lev_all hN (hD.new 0 hN).1 hD.ok r
  apply List.ext_getElem?
  intro i
  by_cases hi : i < t.ws.length
  · rw [List.getElem?_map, List.getElem?_map, List.getElem?_range hi, List.getElem?_eq_getElem hi]
    show some (cntOf i (outs (t.rows N back) t.s r)) = some (t.ws[i] * t.s ^ r / t.W)
    rw [hl.cn i, List.getD_eq_getElem?_getD, List.getElem?_eq_getElem hi] <;> rfl
  · rw [List.getElem?_eq_none (by simp; omega), List.getElem?_eq_none (by simp; omega)]
/-! draws inside of expressions -/
theorem draw_x {ρ : List SV} {k : Deck} {n many : Nat} {m : S0 → Lf.R D} (hm : m ⟨.deck :: ρ, some k⟩ = .ok (nD many) ⟨.deck :: ρ, some k⟩) (g : Good n k) (hn : n < 1000000) (h1 : 1 ≤ many) (h2 : many < 1000000) :
    ∃ v k', v < many ∧ Good (n + 1) k' ∧ mCall r__law_draw [.dk 0, .m m] ⟨.deck :: ρ, some k⟩ = .ok (nD v) ⟨.deck :: ρ, some k'⟩ := by
  obtain ⟨v, k', e, hv0, hv1, g'⟩ := q_draw (many := (many : Int)) g (by omega) (by omega) (by omega)
  have ev : ((v.toNat : Nat) : Int) = v := Int.toNat_of_nonneg hv0
  have e2 : PyData.int v = nD v.toNat := by
    show _ = PyData.int _
    rw [ev]
  rw [e2] at e
  exact ⟨v.toNat, k', by omega, g', mCall_ru (ga_dk rfl (ga_m hm ga_nil)) e⟩
theorem pick_x {ρ : List SV} {k k1 : Deck} {n : Nat} {ds : List D} {m : S0 → Lf.R D} (hm : m ⟨.deck :: ρ, some k⟩ = .ok (.list ds) ⟨.deck :: ρ, some k1⟩) (g : Good n k1) (hn : n < 1000000) (h0 : ds ≠ []) (hl : ds.length ≤ 1000000) :
    ∃ d k', d ∈ ds ∧ Good (n + 1) k' ∧ mCall r__law_pick [.dk 0, .m m] ⟨.deck :: ρ, some k⟩ = .ok d ⟨.deck :: ρ, some k'⟩ := by
  obtain ⟨d, k', hd, g', e⟩ := q_pick g hn h0 hl
  exact ⟨d, k', hd, g', mCall_ru (ga_dk rfl (ga_m hm ga_nil)) e⟩
theorem to_ns {P : Nat → Prop} : ∀ ys : List D, (∀ y ∈ ys, ∃ w, P w ∧ y = nD w) → ∃ ws : List Nat, ys = nsD ws ∧ ∀ w ∈ ws, P w
  | [], _ => ⟨[], rfl, fun w h => by cases h⟩
  | y :: r, h => by
    obtain ⟨ws, e, h1⟩ := to_ns r fun z hz => h z (List.mem_cons_of_mem _ hz)
    obtain ⟨w, hw, e2⟩ := h y List.mem_cons_self
    refine ⟨w :: ws, by rw [e, e2] <;> rfl, fun z hz => ?_⟩
    rcases List.mem_cons.mp hz with rfl | hz
    · exact hw
    · exact h1 z hz
theorem to_fn {α : Type} {f : α → D} {P : α → Prop} : ∀ ys : List D, (∀ y ∈ ys, ∃ w, P w ∧ y = f w) → ∃ ws : List α, ys = ws.map f ∧ ws.length = ys.length ∧ ∀ w ∈ ws, P w
  | [], _ => ⟨[], rfl, rfl, fun w h => by cases h⟩
  | y :: r, h => by
    obtain ⟨ws, e, hl, h1⟩ := to_fn r fun z hz => h z (List.mem_cons_of_mem _ hz)
    obtain ⟨w, hw, e2⟩ := h y List.mem_cons_self
    refine ⟨w :: ws, by rw [e, e2] <;> rfl, by rw [List.length_cons, List.length_cons, hl], fun z hz => ?_⟩
    rcases List.mem_cons.mp hz with rfl | hz
    · exact hw
    · exact h1 z hz
abbrev whS (x1 x2 x3 x4 x5 x6 x7 x8 x9 x10 : SV) (k : Deck) : S0 := ⟨[.deck, x1, x2, x3, x4, x5, x6, x7, x8, x9, x10], some k⟩
def wtM : S0 → Lf.R D := mF dAdd [.m (mF dTuple [.m (mFrz (mLc (.nm 10) [10] (mRange1 (.m (mF dAdd [.m (mC (.int 1)), .m (mCall r__law_draw [.dk 0, .m (mC (.int 3))])]))) (tYesM) (mCall r__law_draw [.dk 0, .m (mC (.int 6))])))]), .m (mTup [mF dAdd [.m (mC (.int 1)), .m (mCall r__law_draw [.dk 0, .m (mC (.int 9))])]])]
/-- the drawn weights -/
theorem wt_ok {x1 x2 x3 x4 x5 x6 x7 x8 x9 x10 : SV} {k : Deck} {n : Nat} (g : Good n k) (hn : n < 900000) :
    ∃ ws k', wtM (whS x1 x2 x3 x4 x5 x6 x7 x8 x9 x10 k) = .ok (.tuple (nsD ws)) (whS x1 x2 x3 x4 x5 x6 x7 x8 x9 x10 k') ∧ Good (n + 5) k' ∧ (∀ w ∈ ws, w ≤ 9) ∧ (∃ w ∈ ws, 0 < w) ∧ ws.length ≤ 4 ∧ ws.sum ≤ 24 := by
  have hbig := line_big
  obtain ⟨v, k1, hv, g1, e1⟩ := draw_x (ρ := [x1, x2, x3, x4, x5, x6, x7, x8, x9, x10]) (m := mC (.int 3)) (many := 3) rfl g (by omega) (by decide) (by decide)
  have e2 : mRange1 (.m (mF dAdd [.m (mC (.int 1)), .m (mCall r__law_draw [.dk 0, .m (mC (.int 3))])])) (whS x1 x2 x3 x4 x5 x6 x7 x8 x9 x10 k) = .ok (nsD (List.range (1 + v))) (whS x1 x2 x3 x4 x5 x6 x7 x8 x9 x10 k1) :=
    mR1_of (ev_m (mF_ru (ev_m rfl (ev_m e1 ev_nil)) (ad_nn (a := 1) (b := v))) ev_nil) (by omega)
  obtain ⟨ys, k2, e3, l3, t3, kk, rfl, g3⟩ := mLc_ix (v := 10) (m := mCall r__law_draw [.dk 0, .m (mC (.int 6))]) (ρ := (whS x1 x2 x3 x4 x5 x6 x7 x8 x9 x10 k1).ρ) (G := fun i o => ∃ kk, o = some kk ∧ Good (n + 1 + i) kk) (T := fun y => ∃ w, w < 6 ∧ y = nD w) e2 (by simp) (by simp [nsD]; omega) ⟨k1, rfl, g1⟩ (fun i o d hd hg => by
    obtain ⟨kk, rfl, g⟩ := hg
    have hi : i < 4 := by
      have := (List.getElem?_eq_some_iff.mp hd).1
      simp [nsD] at this
      omega
    obtain ⟨w, k', hw, g', e⟩ := draw_x (ρ := [x1, x2, x3, x4, x5, x6, x7, x8, x9, .dat d]) (m := mC (.int 6)) (many := 6) rfl g (by omega) (by decide) (by decide)
    exact ⟨nD w, some k', e, ⟨w, hw, rfl⟩, k', rfl, g'⟩)
  obtain ⟨ws1, rfl, hw1⟩ := to_ns (P := fun w => w < 6) ys t3
  have hl1 : ws1.length = 1 + v := by simpa [nsD] using l3
  have hdl : (nsD (List.range (1 + v))).length = 1 + v := by simp [nsD]
  rw [hdl] at g3
  obtain ⟨u, k3, hu, g4, e4⟩ := draw_x (ρ := [x1, x2, x3, x4, x5, x6, x7, x8, x9, x10]) (m := mC (.int 9)) (many := 9) rfl g3 (by omega) (by decide) (by decide)
  have c1 : mF dTuple [.m (mFrz (mLc (.nm 10) [10] (mRange1 (.m (mF dAdd [.m (mC (.int 1)), .m (mCall r__law_draw [.dk 0, .m (mC (.int 3))])]))) (tYesM) (mCall r__law_draw [.dk 0, .m (mC (.int 6))])))] (whS x1 x2 x3 x4 x5 x6 x7 x8 x9 x10 k) = .ok (.tuple (nsD ws1)) (whS x1 x2 x3 x4 x5 x6 x7 x8 x9 x10 kk) := mF_ru (ev_m (mFrz_ru e3) ev_nil) rfl
  have c2 : mTup [mF dAdd [.m (mC (.int 1)), .m (mCall r__law_draw [.dk 0, .m (mC (.int 9))])]] (whS x1 x2 x3 x4 x5 x6 x7 x8 x9 x10 kk) = .ok (.tuple [nD (1 + u)]) (whS x1 x2 x3 x4 x5 x6 x7 x8 x9 x10 k3) := mTup_ru (em_cons (mF_ru (ev_m rfl (ev_m e4 ev_nil)) (ad_nn (a := 1))) em_nil) line1
  have c3 : dAdd [.tuple (nsD ws1), .tuple [nD (1 + u)]] = some (.tuple (nsD (ws1 ++ [1 + u]))) := by
    rw [add_tt (by simp [nsD]; omega)]
    simp [nsD]
  refine ⟨ws1 ++ [1 + u], k3, mF_ru (ev_m c1 (ev_m c2 ev_nil)) c3, g4.mono (by omega), fun w hw => ?_, ⟨1 + u, by simp, by omega⟩, ?_, ?_⟩
  · rcases List.mem_append.mp hw with hw | hw
    · have := hw1 w hw
      omega
    · rw [List.mem_singleton.mp hw]
      omega
  · rw [List.length_append, hl1]
    simp only [List.length_cons, List.length_nil]
    omega
  · rw [List.sum_append]
    have : ∀ l : List Nat, (∀ w ∈ l, w < 6) → l.sum ≤ 5 * l.length := by
      intro l
      induction l with
      | nil => intro _; simp
      | cons a r ih =>
        intro h
        have h1 := h a List.mem_cons_self
        have h2 := ih fun z hz => h z (List.mem_cons_of_mem _ hz)
        simp only [List.sum_cons, List.length_cons]
        omega
    have := this ws1 hw1
    simp only [List.sum_cons, List.sum_nil]
    omega
end Lw

set_option Elab.async false
set_option linter.all false
set_option maxRecDepth 100000
/-! k17: the whole law, turn by turn. -/
namespace Lw
open PySem PySem.Spec PyProof.Rows L2 NdefX Lf
def stM : S0 → Lf.R D := mCall r__law_pick [.dk 0, .m (mFrz (nLst [mTup [mC (.str "done"), mF dAdd [.sl 6, .m (mCall r__law_draw [.dk 0, .m (mC (.int 5))])]], mTup [mC (.str "on"), mCall r__law_draw [.dk 0, .m (mVar 5)]]]))]
def rowM : S0 → Lf.R D := mF dTuple [.m (mFrz (mLc (.nm 10) [10] (mRange1 (.sl 2)) (tYesM) stM))]
def drM : S0 → Lf.R D := mF dTuple [.m (mFrz (mLc (.nm 9) [9] (mRange1 (.sl 5)) (tYesM) rowM))]
section
variable {x1 x2 x3 x4 x5 x6 x7 x8 x9 x10 : SV} {k : Deck} {n s m f : Nat}
theorem st_ok (g : Good n k) (hn : n < 900000) (hm : 1 ≤ m) (hm4 : m ≤ 4) (hf : f ≤ 251) : ∃ x k', stM (whS x1 x2 x3 x4 (.dat (nD m)) (.dat (nD f)) x7 x8 x9 x10 k) = .ok (stD x) (whS x1 x2 x3 x4 (.dat (nD m)) (.dat (nD f)) x7 x8 x9 x10 k') ∧ stOk 256 m x ∧ Good (n + 3) k' := by
  obtain ⟨v, k1, hv, g1, e1⟩ := draw_x (ρ := [x1, x2, x3, x4, .dat (nD m), .dat (nD f), x7, x8, x9, x10]) (m := mC (.int 5)) (many := 5) rfl g (by omega) (by decide) (by decide)
  obtain ⟨u, k2, hu, g2, e2⟩ := draw_x (ρ := [x1, x2, x3, x4, .dat (nD m), .dat (nD f), x7, x8, x9, x10]) (m := mVar 5) (many := m) rfl g1 (by omega) hm (by omega)
  have c1 : mTup [mC (.str "done"), mF dAdd [.sl 6, .m (mCall r__law_draw [.dk 0, .m (mC (.int 5))])]] (whS x1 x2 x3 x4 (.dat (nD m)) (.dat (nD f)) x7 x8 x9 x10 k) = .ok (stD (.dn (f + v))) (whS x1 x2 x3 x4 (.dat (nD m)) (.dat (nD f)) x7 x8 x9 x10 k1) := mTup_ru (em_cons rfl (em_cons (mF_ru (ev_sl rfl (ev_m e1 ev_nil) rfl) ad_nn) em_nil)) line2
  have c2 : mTup [mC (.str "on"), mCall r__law_draw [.dk 0, .m (mVar 5)]] (whS x1 x2 x3 x4 (.dat (nD m)) (.dat (nD f)) x7 x8 x9 x10 k1) = .ok (stD (.on u)) (whS x1 x2 x3 x4 (.dat (nD m)) (.dat (nD f)) x7 x8 x9 x10 k2) := mTup_ru (em_cons rfl (em_cons e2 em_nil)) line2
  obtain ⟨d, k3, hd, g3, e3⟩ := pick_x (ρ := [x1, x2, x3, x4, .dat (nD m), .dat (nD f), x7, x8, x9, x10]) (mFrz_ru (nLst_ru (em_cons c1 (em_cons c2 em_nil)) line2)) g2 (by omega) (by simp) (by simp)
  simp only [List.mem_cons, List.not_mem_nil, or_false] at hd
  rcases hd with rfl | rfl
  · refine ⟨.dn (f + v), k3, e3, ?_, g3⟩
    show f + v < 256
    omega
  · exact ⟨.on u, k3, e3, hu, g3⟩
theorem row_ok (g : Good n k) (hn : n < 800000) (hm : 1 ≤ m) (hm4 : m ≤ 4) (hf : f ≤ 251) (hs : s ≤ 12) : ∃ row k', rowM (whS x1 (.dat (nD s)) x3 x4 (.dat (nD m)) (.dat (nD f)) x7 x8 x9 x10 k) = .ok (rowD row) (whS x1 (.dat (nD s)) x3 x4 (.dat (nD m)) (.dat (nD f)) x7 x8 x9 x10 k') ∧ row.length = s ∧ (∀ x ∈ row, stOk 256 m x) ∧ Good (n + 36) k' := by
  have hbig := line_big
  have e2 : mRange1 (.sl 2) (whS x1 (.dat (nD s)) x3 x4 (.dat (nD m)) (.dat (nD f)) x7 x8 x9 x10 k) = .ok (nsD (List.range s)) (whS x1 (.dat (nD s)) x3 x4 (.dat (nD m)) (.dat (nD f)) x7 x8 x9 x10 k) := mR1_of rfl (by omega)
  obtain ⟨ys, k2, e3, l3, t3, kk, rfl, g3⟩ := mLc_ix (v := 10) (m := stM) (ρ := (whS x1 (.dat (nD s)) x3 x4 (.dat (nD m)) (.dat (nD f)) x7 x8 x9 x10 k).ρ) (G := fun i o => ∃ kk, o = some kk ∧ Good (n + 3 * i) kk) (T := fun y => ∃ x, stOk 256 m x ∧ y = stD x) e2 (by simp) (by simp [nsD]; omega) ⟨k, rfl, g⟩ (fun i o d hd hg => by
    obtain ⟨kk, rfl, g⟩ := hg
    have hi : i < 12 := by
      have := (List.getElem?_eq_some_iff.mp hd).1
      simp [nsD] at this
      omega
    obtain ⟨x, k', e, hx, g'⟩ := st_ok (x1 := x1) (x2 := .dat (nD s)) (x3 := x3) (x4 := x4) (x7 := x7) (x8 := x8) (x9 := x9) (x10 := .dat d) g (by omega) hm hm4 hf
    exact ⟨stD x, some k', e, ⟨x, hx, rfl⟩, k', rfl, g'.mono (by omega)⟩)
  obtain ⟨row, rfl, hl, hrow⟩ := to_fn (f := stD) (P := stOk 256 m) ys t3
  have hdl : (nsD (List.range s)).length = s := by simp [nsD]
  rw [hdl] at g3 l3
  exact ⟨row, kk, mF_ru (ev_m (mFrz_ru e3) ev_nil) rfl, by simpa using l3, hrow, g3.mono (by omega)⟩
theorem dr_ok (g : Good n k) (hn : n < 700000) (hm : 1 ≤ m) (hm4 : m ≤ 4) (hf : f ≤ 251) (hs2 : 2 ≤ s) (hs : s ≤ 12) : ∃ rs k', drM (whS x1 (.dat (nD s)) x3 x4 (.dat (nD m)) (.dat (nD f)) x7 x8 x9 x10 k) = .ok (rowsD rs) (whS x1 (.dat (nD s)) x3 x4 (.dat (nD m)) (.dat (nD f)) x7 x8 x9 x10 k') ∧ RowsOk s rs ∧ Good (n + 144) k' := by
  have hbig := line_big
  have e2 : mRange1 (.sl 5) (whS x1 (.dat (nD s)) x3 x4 (.dat (nD m)) (.dat (nD f)) x7 x8 x9 x10 k) = .ok (nsD (List.range m)) (whS x1 (.dat (nD s)) x3 x4 (.dat (nD m)) (.dat (nD f)) x7 x8 x9 x10 k) := mR1_of rfl (by omega)
  obtain ⟨ys, k2, e3, l3, t3, kk, rfl, g3⟩ := mLc_ix (v := 9) (m := rowM) (ρ := (whS x1 (.dat (nD s)) x3 x4 (.dat (nD m)) (.dat (nD f)) x7 x8 x9 x10 k).ρ) (G := fun i o => ∃ kk, o = some kk ∧ Good (n + 36 * i) kk) (T := fun y => ∃ row : List St, (row.length = s ∧ ∀ x ∈ row, stOk 256 m x) ∧ y = rowD row) e2 (by simp) (by simp [nsD]; omega) ⟨k, rfl, g⟩ (fun i o d hd hg => by
    obtain ⟨kk, rfl, g⟩ := hg
    have hi : i < 4 := by
      have := (List.getElem?_eq_some_iff.mp hd).1
      simp [nsD] at this
      omega
    obtain ⟨row, k', e, hl, hx, g'⟩ := row_ok (x1 := x1) (x3 := x3) (x4 := x4) (x7 := x7) (x8 := x8) (x9 := .dat d) (x10 := x10) g (by omega) hm hm4 hf hs
    exact ⟨rowD row, some k', e, ⟨row, ⟨hl, hx⟩, rfl⟩, k', rfl, g'.mono (by omega)⟩)
  obtain ⟨rs, rfl, hl, hrow⟩ := to_fn (f := rowD) (P := fun row => row.length = s ∧ ∀ x ∈ row, stOk 256 m x) ys t3
  have hdl : (nsD (List.range m)).length = m := by simp [nsD]
  rw [hdl] at g3 l3
  have hrl : rs.length = m := by simpa using l3
  refine ⟨rs, kk, mF_ru (ev_m (mFrz_ru e3) ev_nil) rfl, ⟨fun h => by rw [h] at hrl; simp at hrl; omega, hs2, hs, by omega, fun row hr => ?_⟩, g3.mono (by omega)⟩
  rw [hrl]
  exact hrow row hr
def sdM : S0 → Lf.R D := mCall r__law_pick [.dk 0, .m (mFrz (nLst [mC (.int 2), mC (.int 2), mC (.int 3), mC (.int 4), mC (.int 6), mC (.int 12)]))]
theorem sd_ok (g : Good n k) (hn : n < 900000) : ∃ s k', s ∈ [2, 3, 4, 6, 12] ∧ sdM (whS x1 x2 x3 x4 x5 x6 x7 x8 x9 x10 k) = .ok (nD s) (whS x1 x2 x3 x4 x5 x6 x7 x8 x9 x10 k') ∧ Good (n + 1) k' := by
  have hbig := line_big
  have c : mFrz (nLst [mC (.int 2), mC (.int 2), mC (.int 3), mC (.int 4), mC (.int 6), mC (.int 12)]) (whS x1 x2 x3 x4 x5 x6 x7 x8 x9 x10 k) = .ok (.list [nD 2, nD 2, nD 3, nD 4, nD 6, nD 12]) (whS x1 x2 x3 x4 x5 x6 x7 x8 x9 x10 k) := mFrz_ru (nLst_ru rfl (by
    show 6 ≤ line
    omega))
  obtain ⟨d, k', hd, g', e⟩ := pick_x (ρ := [x1, x2, x3, x4, x5, x6, x7, x8, x9, x10]) c g (by omega) (by simp) (by simp)
  simp only [List.mem_cons, List.not_mem_nil, or_false] at hd
  rcases hd with rfl | rfl | rfl | rfl | rfl | rfl
  · exact ⟨2, k', by decide, e, g'⟩
  · exact ⟨2, k', by decide, e, g'⟩
  · exact ⟨3, k', by decide, e, g'⟩
  · exact ⟨4, k', by decide, e, g'⟩
  · exact ⟨6, k', by decide, e, g'⟩
  · exact ⟨12, k', by decide, e, g'⟩
def faM : S0 → Lf.R D := mCall r__law_pick [.dk 0, .m (mFrz (nLst [mC (.int 0), mC (.int 0), mC (.int 251)]))]
theorem fa_ok (g : Good n k) (hn : n < 900000) : ∃ f k', f ≤ 251 ∧ faM (whS x1 x2 x3 x4 x5 x6 x7 x8 x9 x10 k) = .ok (nD f) (whS x1 x2 x3 x4 x5 x6 x7 x8 x9 x10 k') ∧ Good (n + 1) k' := by
  have hbig := line_big
  have c : mFrz (nLst [mC (.int 0), mC (.int 0), mC (.int 251)]) (whS x1 x2 x3 x4 x5 x6 x7 x8 x9 x10 k) = .ok (.list [nD 0, nD 0, nD 251]) (whS x1 x2 x3 x4 x5 x6 x7 x8 x9 x10 k) := mFrz_ru (nLst_ru rfl line3)
  obtain ⟨d, k', hd, g', e⟩ := pick_x (ρ := [x1, x2, x3, x4, x5, x6, x7, x8, x9, x10]) c g (by omega) (by simp) (by simp)
  simp only [List.mem_cons, List.not_mem_nil, or_false] at hd
  rcases hd with rfl | rfl | rfl
  · exact ⟨0, k', by decide, e, g'⟩
  · exact ⟨0, k', by decide, e, g'⟩
  · exact ⟨251, k', by decide, e, g'⟩
def whB : MS := (sSeq (sSet 2 sdM)
  (sSeq (sSet 3 wtM)
  (sSeq (sPat (.tup [(.nm 4), (.nm 5)]) (mTup [mCall r__law_tosser [.m (mVar 3), .m (mVar 2)], mF dAdd [.m (mC (.int 1)), .m (mCall r__law_draw [.dk 0, .m (mC (.int 4))])]]))
  (sSeq (sSet 6 faM)
  (sSeq (sSet 7 drM)
  (sSeq (sSet 8 (mF dRepr [.m (mTup [mVar 4, mVar 7])]))
  (sSeq (sIf (bOr (bAnd (toB (mF dNe [.sl 4, .m (mTup [])])) (bNot (toB (mCall r__law_is_right [.dk 0, .m (mVar 4), .m (mVar 2), .m (mVar 3)])))) (bNot (toB (mCall r__law_is_right [.dk 0, .m (mVar 7), .m (mVar 2), .m (mTup [])]))))
  (sRet (mC (.bool false)))
  (sNop))
  (sIf (bOr (bNot (toB (mCall r__law_are_refused [.dk 0, .m (mVar 7), .m (mVar 2)]))) (toB (mF dNe [.m (mF dRepr [.m (mTup [mVar 4, mVar 7])]), .sl 8])))
  (sRet (mC (.bool false)))
  (sNop)))))))))
theorem wh_turn (g : Good n k) (hn : n < 10000) (d : D) : ∃ y1 y2 y3 y4 y5 y6 y7 y8 k', turn (.nm 1) whB d (whS x1 x2 x3 x4 x5 x6 x7 x8 x9 x10 k) = .nx (whS y1 y2 y3 y4 y5 y6 y7 y8 x9 x10 k') ∧ Good (n + 1000) k' := by
  have hbig := line_big
  have e0 : turn (.nm 1) whB d (whS x1 x2 x3 x4 x5 x6 x7 x8 x9 x10 k) = whB (whS (.dat d) x2 x3 x4 x5 x6 x7 x8 x9 x10 k) := by
    rw [turn_nm (by simp)] <;> rfl
  obtain ⟨s, k1, hs, e1, g1⟩ := sd_ok (x1 := .dat d) (x2 := x2) (x3 := x3) (x4 := x4) (x5 := x5) (x6 := x6) (x7 := x7) (x8 := x8) (x9 := x9) (x10 := x10) g (by omega)
  have hs2 : 2 ≤ s ∧ s ≤ 12 := by
    simp only [List.mem_cons, List.not_mem_nil, or_false] at hs
    omega
  obtain ⟨ws, k2, e2, g2, w9, wp, wl, wsum⟩ := wt_ok (x1 := .dat d) (x2 := .dat (nD s)) (x3 := x3) (x4 := x4) (x5 := x5) (x6 := x6) (x7 := x7) (x8 := x8) (x9 := x9) (x10 := x10) g1 (by omega)
  have hlsum := lowW_sum_le ws
  have hlow : ∀ k, r__law_lowest ⟨[.dat (.tuple (nsD ws))], k⟩ = .ok (.tuple [.list (nsD (lowW ws)), nD (lowW ws).sum]) k := fun k => q_lowest ws (fun w h => by have := w9 w h; omega) wp (by omega) k
  let t := twOf s ws (by omega) wp
  have htl : t.ws.length ≤ 4 := by
    show (lowW ws).length ≤ 4
    unfold lowW
    rw [List.length_map]
    exact wl
  obtain ⟨N, back, hD, htos⟩ := q_tosser t ws (show (lowW ws).sum < 25 by omega) hs htl hlow
  have htos : ∀ k, r__law_tosser ⟨[.dat (.tuple (nsD ws)), .dat (nD s)], k⟩ = .ok (rowsD (t.rows N back)) k := htos
  obtain ⟨v, k3, hv, g3, e3⟩ := draw_x (ρ := [.dat d, .dat (nD s), .dat (.tuple (nsD ws)), x4, x5, x6, x7, x8, x9, x10]) (m := mC (.int 4)) (many := 4) rfl g2 (by omega) (by decide) (by decide)
  have q3 : sPat (.tup [(.nm 4), (.nm 5)]) (mTup [mCall r__law_tosser [.m (mVar 3), .m (mVar 2)], mF dAdd [.m (mC (.int 1)), .m (mCall r__law_draw [.dk 0, .m (mC (.int 4))])]]) (whS (.dat d) (.dat (nD s)) (.dat (.tuple (nsD ws))) x4 x5 x6 x7 x8 x9 x10 k2) = .nx (whS (.dat d) (.dat (nD s)) (.dat (.tuple (nsD ws))) (.dat (rowsD (t.rows N back))) (.dat (nD (1 + v))) x6 x7 x8 x9 x10 k3) := by
    have c1 : mCall r__law_tosser [.m (mVar 3), .m (mVar 2)] (whS (.dat d) (.dat (nD s)) (.dat (.tuple (nsD ws))) x4 x5 x6 x7 x8 x9 x10 k2) = .ok (rowsD (t.rows N back)) (whS (.dat d) (.dat (nD s)) (.dat (.tuple (nsD ws))) x4 x5 x6 x7 x8 x9 x10 k2) := mCall_ru (ga_m rfl (ga_m rfl ga_nil)) (htos _)
    have c2 : mTup [mCall r__law_tosser [.m (mVar 3), .m (mVar 2)], mF dAdd [.m (mC (.int 1)), .m (mCall r__law_draw [.dk 0, .m (mC (.int 4))])]] (whS (.dat d) (.dat (nD s)) (.dat (.tuple (nsD ws))) x4 x5 x6 x7 x8 x9 x10 k2) = .ok (.tuple [rowsD (t.rows N back), nD (1 + v)]) (whS (.dat d) (.dat (nD s)) (.dat (.tuple (nsD ws))) x4 x5 x6 x7 x8 x9 x10 k3) := mTup_ru (em_cons c1 (em_cons (mF_ru (ev_m rfl (ev_m e3 ev_nil)) (ad_nn (a := 1))) em_nil)) line2
    exact sPat_ru c2 (by simp [asgP, asgPs])
  obtain ⟨f, k4, hf, e4, g4⟩ := fa_ok (x1 := .dat d) (x2 := .dat (nD s)) (x3 := .dat (.tuple (nsD ws))) (x4 := .dat (rowsD (t.rows N back))) (x5 := .dat (nD (1 + v))) (x6 := x6) (x7 := x7) (x8 := x8) (x9 := x9) (x10 := x10) g3 (by omega)
  obtain ⟨rs, k5, e5, hrs, g5⟩ := dr_ok (x1 := .dat d) (s := s) (m := 1 + v) (f := f) (x3 := .dat (.tuple (nsD ws))) (x4 := .dat (rowsD (t.rows N back))) (x7 := x7) (x8 := x8) (x9 := x9) (x10 := x10) g4 (by omega) (by omega) (by omega) hf hs2.1 hs2.2
  have hsm1 : RowsSm (t.rows N back) := by
    by_cases hN : 0 < N
    · exact sm_of (tw_rows t hD hs2.1 hs2.2 htl hN)
    · have : t.rows N back = [] := by
        have hN0 : N = 0 := by omega
        subst hN0
        rfl
      rw [this]
      exact sm_nil
  obtain ⟨x, hx1, hx2⟩ := repr_ok hsm1 (sm_of hrs)
  have rep : ∀ y8 kk, mF dRepr [.m (mTup [mVar 4, mVar 7])] (whS (.dat d) (.dat (nD s)) (.dat (.tuple (nsD ws))) (.dat (rowsD (t.rows N back))) (.dat (nD (1 + v))) (.dat (nD f)) (.dat (rowsD rs)) y8 x9 x10 kk) = .ok (.str x) (whS (.dat d) (.dat (nD s)) (.dat (.tuple (nsD ws))) (.dat (rowsD (t.rows N back))) (.dat (nD (1 + v))) (.dat (nD f)) (.dat (rowsD rs)) y8 x9 x10 kk) := fun y8 kk => mF_ru (ev_m (mTup_ru (em_cons rfl (em_cons rfl em_nil)) line2) ev_nil) hx1
  have q6 := sSet_ru (i := 8) (rep x8 k5) (by simp)
  let T : Deck → S0 := fun kk => whS (.dat d) (.dat (nD s)) (.dat (.tuple (nsD ws))) (.dat (rowsD (t.rows N back))) (.dat (nD (1 + v))) (.dat (nD f)) (.dat (rowsD rs)) (.dat (.str x)) x9 x10 kk
  -- the tosser's rows
  have q7a : ∃ k6, Good (n + 152 + 300) k6 ∧ bAnd (toB (mF dNe [.sl 4, .m (mTup [])])) (bNot (toB (mCall r__law_is_right [.dk 0, .m (mVar 4), .m (mVar 2), .m (mVar 3)]))) (T k5) = .ok false (T k6) := by
    have hne := dNe_of (d := rowsD (t.rows N back)) (e := .tuple []) (eqOk_of (n := 3) (m := 1) (by decide) (by decide) (ok1_rows _) (by decide +kernel))
    by_cases hN : 0 < N
    · have hR := tw_rows t hD hs2.1 hs2.2 htl hN
      obtain ⟨k6, e6, g6⟩ := q_is_right1 hR hs (ws := ws) (fun w h => by have := w9 w h; omega) wp (by omega) (by omega) (lowW_pos wp) (fun r => by
        have := cnt_tw t hD hN r
        have hl2 : t.ws.length = ws.length := by
          show (lowW ws).length = _
          unfold lowW
          rw [List.length_map]
        rw [hl2] at this
        exact this) (g5.mono (show n + 1 + 5 + 1 + 1 + 144 ≤ n + 152 by omega)) (by omega)
      have hemp : (PyData.eqv (rowsD (t.rows N back)) (.tuple [])) = false := by
        cases hc : t.rows N back with
        | nil => exact absurd hc hR.ne
        | cons a b => rfl
      rw [hemp] at hne
      have c1 : mF dNe [.sl 4, .m (mTup [])] (T k5) = .ok (.bool true) (T k5) := mF_ru (ds := [rowsD (t.rows N back), .tuple []]) rfl hne
      have c2 : mCall r__law_is_right [.dk 0, .m (mVar 4), .m (mVar 2), .m (mVar 3)] (T k5) = .ok (.bool true) (T k6) := mCall_ru (ga_dk rfl (ga_m rfl (ga_m rfl (ga_m rfl ga_nil)))) e6
      exact ⟨k6, g6, bAnd_t (toB_ru c1) (bNot_t (toB_ru c2))⟩
    · have hN0 : N = 0 := by omega
      have hemp : (PyData.eqv (rowsD (t.rows N back)) (.tuple [])) = true := by
        subst hN0
        rfl
      rw [hemp] at hne
      have c1 : mF dNe [.sl 4, .m (mTup [])] (T k5) = .ok (.bool false) (T k5) := mF_ru (ds := [rowsD (t.rows N back), .tuple []]) rfl hne
      exact ⟨k5, g5.mono (by omega), bAnd_f (toB_ru c1)⟩
  obtain ⟨k6, g6, q7a⟩ := q7a
  obtain ⟨k7, e7, g7⟩ := q_is_right0 hrs hs g6 (by omega)
  have q7b : mCall r__law_is_right [.dk 0, .m (mVar 7), .m (mVar 2), .m (mTup [])] (T k6) = .ok (.bool true) (T k7) := mCall_ru (ga_dk rfl (ga_m rfl (ga_m rfl (ga_m (mTup_ru em_nil (Nat.zero_le _)) ga_nil)))) e7
  have q7 : sIf (bOr (bAnd (toB (mF dNe [.sl 4, .m (mTup [])])) (bNot (toB (mCall r__law_is_right [.dk 0, .m (mVar 4), .m (mVar 2), .m (mVar 3)])))) (bNot (toB (mCall r__law_is_right [.dk 0, .m (mVar 7), .m (mVar 2), .m (mTup [])])))) (sRet (mC (.bool false))) sNop (T k5) = .nx (T k7) := sIf_f (bOr_f q7a (bNot_t (toB_ru q7b))) rfl
  have e8 : ∃ k8, r__law_are_refused ⟨[.deck, .dat (rowsD rs), .dat (nD s)], some k7⟩ = .ok (.bool true) (some k8) ∧ Good (n + 152 + 300 + 300 + 2) k8 := by
    cases hc : rs with
    | nil => exact absurd hc hrs.ne
    | cons a b =>
      rw [hc] at hrs
      exact q_are_refused hrs g7 (by omega)
  obtain ⟨k8, e8, g8⟩ := e8
  have q8a : mCall r__law_are_refused [.dk 0, .m (mVar 7), .m (mVar 2)] (T k7) = .ok (.bool true) (T k8) := mCall_ru (ga_dk rfl (ga_m rfl (ga_m rfl ga_nil))) e8
  have q8b : mF dNe [.m (mF dRepr [.m (mTup [mVar 4, mVar 7])]), .sl 8] (T k8) = .ok (.bool false) (T k8) := mF_ru (ev_m (rep _ k8) (ev_sl rfl ev_nil rfl)) hx2
  have q8 : sIf (bOr (bNot (toB (mCall r__law_are_refused [.dk 0, .m (mVar 7), .m (mVar 2)]))) (toB (mF dNe [.m (mF dRepr [.m (mTup [mVar 4, mVar 7])]), .sl 8]))) (sRet (mC (.bool false))) sNop (T k7) = .nx (T k8) := sIf_f (bOr_f (bNot_t (toB_ru q8a)) (toB_ru q8b)) rfl
  exact ⟨_, _, _, _, _, _, _, _, k8, e0.trans ((sSeq_nx (sSet_ru e1 (by simp))).trans ((sSeq_nx (sSet_ru e2 (by simp))).trans ((sSeq_nx q3).trans ((sSeq_nx (sSet_ru e4 (by simp))).trans ((sSeq_nx (sSet_ru e5 (by simp))).trans ((sSeq_nx q6).trans ((sSeq_nx q7).trans q8))))))), g8.mono (by omega)⟩
end
theorem keeps (p : List Int → Prop) : Keeps p := by
  intro ns h63 _
  have hm := mixL_mid (c1 := 40014) (c2 := 2147483629) (c3 := 211) (c4 := 2147483563) (by decide) (by decide) ns 24130017 ⟨by decide, by decide⟩
  have g : Good 0 (theDeck ns) := ⟨hm.1, hm.2, Int.le_refl _, Int.le_refl _, by
    show ns.reverse.length ≤ 63
    rw [List.length_reverse]
    exact h63⟩
  obtain ⟨a1, a2, a3, a4, a5, a6, a7, a8, k1, e1, g1⟩ := wh_turn (x1 := .unk) (x2 := .unk) (x3 := .unk) (x4 := .unk) (x5 := .unk) (x6 := .unk) (x7 := .unk) (x8 := .unk) (x9 := .unk) (x10 := .unk) g (by decide) (.int 0)
  obtain ⟨b1, b2, b3, b4, b5, b6, b7, b8, k2, e2, g2⟩ := wh_turn (x1 := a1) (x2 := a2) (x3 := a3) (x4 := a4) (x5 := a5) (x6 := a6) (x7 := a7) (x8 := a8) (x9 := .unk) (x10 := .unk) g1 (by decide) (.int 1)
  obtain ⟨c1, c2, c3, c4, c5, c6, c7, c8, k3, e3, g3⟩ := wh_turn (x1 := b1) (x2 := b2) (x3 := b3) (x4 := b4) (x5 := b5) (x6 := b6) (x7 := b7) (x8 := b8) (x9 := .unk) (x10 := .unk) g2 (by decide) (.int 2)
  refine ⟨some k3, ?_⟩
  have q1 := sFor_of (mi := mRange1 (.m (mC (.int 3)))) (p := .nm 1) (body := whB) (mR1_of (n := 3) (s := whS .unk .unk .unk .unk .unk .unk .unk .unk .unk .unk (theDeck ns)) rfl (by decide))
  have q2 : forL (.nm 1) whB (nsD (List.range 3)) (whS .unk .unk .unk .unk .unk .unk .unk .unk .unk .unk (theDeck ns)) = .nx (whS c1 c2 c3 c4 c5 c6 c7 c8 .unk .unk k3) := (forL_cons e1).trans ((forL_cons e2).trans ((forL_cons e3).trans rfl))
  exact fnM_rt (mb := m__law_whole) (pad := 10) (s := ⟨[.deck], some (theDeck ns)⟩) ((sSeq_nx (q1.trans q2)).trans (sRet_ru rfl))
end Lw

set_option Elab.async false
set_option linter.all false
set_option maxRecDepth 100000
set_option maxHeartbeats 0
/-! the head: what it tells, and the law from it. -/
namespace Lw
open PySem PySem.Spec PyProof.Rows L2 NdefX Lf
def clsDef : Stmt → Stmt
  | .ClassDef _ _ _ b _ _ _ _ _ _ _ => b.getD 0 (.Pass ⟨0, 0, 0, 0⟩)
  | s => s
def dd_is_whole : He.DefD := ⟨("is_whole", none), "is_whole", "is_whole", defArgs s_is_whole, defBody s_is_whole, defScope s_is_whole, [], []⟩
def dd_is_whole_between : He.DefD := ⟨("is_whole_between", none), "is_whole_between", "is_whole_between", defArgs s_is_whole_between, defBody s_is_whole_between, defScope s_is_whole_between, [], []⟩
def dd_is_whole_from : He.DefD := ⟨("is_whole_from", none), "is_whole_from", "is_whole_from", defArgs s_is_whole_from, defBody s_is_whole_from, defScope s_is_whole_from, [], []⟩
def dd_is_tuple_of : He.DefD := ⟨("is_tuple_of", none), "is_tuple_of", "is_tuple_of", defArgs s_is_tuple_of, defBody s_is_tuple_of, defScope s_is_tuple_of, [], []⟩
def dd_is_tuple_by : He.DefD := ⟨("is_tuple_by", none), "is_tuple_by", "is_tuple_by", defArgs s_is_tuple_by, defBody s_is_tuple_by, defScope s_is_tuple_by, [], []⟩
def dd_is_one_word : He.DefD := ⟨("is_one_word", none), "is_one_word", "is_one_word", defArgs s_is_one_word, defBody s_is_one_word, defScope s_is_one_word, [], []⟩
def dd_lowest_weights : He.DefD := ⟨("lowest_weights", none), "lowest_weights", "lowest_weights", defArgs s_lowest_weights, defBody s_lowest_weights, defScope s_lowest_weights, [], []⟩
def dd_are_weights : He.DefD := ⟨("are_weights", none), "are_weights", "are_weights", defArgs s_are_weights, defBody s_are_weights, defScope s_are_weights, [], []⟩
def dd_need_weights : He.DefD := ⟨("need_weights", none), "need_weights", "need_weights", defArgs s_need_weights, defBody s_need_weights, defScope s_need_weights, [], []⟩
def dd_need_low : He.DefD := ⟨("need_low", none), "need_low", "need_low", defArgs s_need_low, defBody s_need_low, defScope s_need_low, [], []⟩
def dd_settled : He.DefD := ⟨("settled", none), "settled", "settled", defArgs s_settled, defBody s_settled, defScope s_settled, [], []⟩
def dd_is_step : He.DefD := ⟨("is_step", none), "is_step", "is_step", defArgs s_is_step, defBody s_is_step, defScope s_is_step, [], []⟩
def dd_are_rows_with : He.DefD := ⟨("are_rows_with", none), "are_rows_with", "are_rows_with", defArgs s_are_rows_with, defBody s_are_rows_with, defScope s_are_rows_with, [], []⟩
def dd_are_dice_rows : He.DefD := ⟨("are_dice_rows", none), "are_dice_rows", "are_dice_rows", defArgs s_are_dice_rows, defBody s_are_dice_rows, defScope s_are_dice_rows, [], []⟩
def dd_rolled : He.DefD := ⟨("rolled", none), "rolled", "rolled", defArgs s_rolled, defBody s_rolled, defScope s_rolled, [], []⟩
def dd__law_deck : He.DefD := ⟨("_law_deck", none), "_law_deck", "_law_deck", defArgs s__law_deck, defBody s__law_deck, defScope s__law_deck, [], []⟩
def dd__law_draw : He.DefD := ⟨("_law_draw", none), "_law_draw", "_law_draw", defArgs s__law_draw, defBody s__law_draw, defScope s__law_draw, [], []⟩
def dd__law_pick : He.DefD := ⟨("_law_pick", none), "_law_pick", "_law_pick", defArgs s__law_pick, defBody s__law_pick, defScope s__law_pick, [], []⟩
def dd__law_same : He.DefD := ⟨("_law_same", none), "_law_same", "_law_same", defArgs s__law_same, defBody s__law_same, defScope s__law_same, [], []⟩
def dd__law_divisor : He.DefD := ⟨("_law_divisor", none), "_law_divisor", "_law_divisor", defArgs s__law_divisor, defBody s__law_divisor, defScope s__law_divisor, [], []⟩
def dd__law_lowest : He.DefD := ⟨("_law_lowest", none), "_law_lowest", "_law_lowest", defArgs s__law_lowest, defBody s__law_lowest, defScope s__law_lowest, [], []⟩
def dd__law_depths : He.DefD := ⟨("_law_depths", none), "_law_depths", "_law_depths", defArgs s__law_depths, defBody s__law_depths, defScope s__law_depths, [], []⟩
def dd__law_tosser : He.DefD := ⟨("_law_tosser", none), "_law_tosser", "_law_tosser", defArgs s__law_tosser, defBody s__law_tosser, defScope s__law_tosser, [], []⟩
def dd__law_heard : He.DefD := ⟨("_law_heard", none), "_law_heard", "_law_heard", defArgs s__law_heard, defBody s__law_heard, defScope s__law_heard, [], []⟩
def dd__law_rolled : He.DefD := ⟨("_law_rolled", none), "_law_rolled", "_law_rolled", defArgs s__law_rolled, defBody s__law_rolled, defScope s__law_rolled, [], []⟩
def dd__law_all_tapes : He.DefD := ⟨("_law_all_tapes", none), "_law_all_tapes", "_law_all_tapes", defArgs s__law_all_tapes, defBody s__law_all_tapes, defScope s__law_all_tapes, [], []⟩
def dd__law_is_right : He.DefD := ⟨("_law_is_right", none), "_law_is_right", "_law_is_right", defArgs s__law_is_right, defBody s__law_is_right, defScope s__law_is_right, [], []⟩
def dd__law_are_refused : He.DefD := ⟨("_law_are_refused", none), "_law_are_refused", "_law_are_refused", defArgs s__law_are_refused, defBody s__law_are_refused, defScope s__law_are_refused, [], []⟩
def dd__law_whole : He.DefD := ⟨("_law_whole", none), "_law_whole", "_law_whole", defArgs s__law_whole, defBody s__law_whole, defScope s__law_whole, [], []⟩
def dd_law : He.DefD := ⟨("law", none), "law", "law", defArgs s_law, defBody s_law, defScope s_law, [], []⟩
def de_BadWeights : He.DefD := ⟨("BadWeights", some "__init__"), "__init__", "BadWeights.__init__", defArgs (clsDef (lTop 3)), defBody (clsDef (lTop 3)), defScope (clsDef (lTop 3)), [], []⟩
def de_BadMany : He.DefD := ⟨("BadMany", some "__init__"), "__init__", "BadMany.__init__", defArgs (clsDef (lTop 4)), defBody (clsDef (lTop 4)), defScope (clsDef (lTop 4)), [], []⟩
def de_BadTape : He.DefD := ⟨("BadTape", some "__init__"), "__init__", "BadTape.__init__", defArgs (clsDef (lTop 5)), defBody (clsDef (lTop 5)), defScope (clsDef (lTop 5)), [], []⟩
def de_BadRows : He.DefD := ⟨("BadRows", some "__init__"), "__init__", "BadRows.__init__", defArgs (clsDef (lTop 6)), defBody (clsDef (lTop 6)), defScope (clsDef (lTop 6)), [], []⟩
def de_TooMany : He.DefD := ⟨("TooMany", some "__init__"), "__init__", "TooMany.__init__", defArgs (clsDef (lTop 7)), defBody (clsDef (lTop 7)), defScope (clsDef (lTop 7)), [], []⟩
def hfn : List He.DefD := [dd_is_whole, dd_is_whole_between, dd_is_whole_from, dd_is_tuple_of, dd_is_tuple_by, dd_is_one_word, dd_lowest_weights, dd_are_weights, dd_need_weights, dd_need_low, dd_settled, dd_is_step, dd_are_rows_with, dd_are_dice_rows, dd_rolled, dd__law_deck, dd__law_draw, dd__law_pick, dd__law_same, dd__law_divisor, dd__law_lowest, dd__law_depths, dd__law_tosser, dd__law_heard, dd__law_rolled, dd__law_all_tapes, dd__law_is_right, dd__law_are_refused, dd__law_whole, dd_law, de_BadWeights, de_BadMany, de_BadTape, de_BadRows, de_TooMany]
def hfa : List He.Fa := [.glo "is_whole", .glo "is_whole_between", .glo "is_whole_from", .glo "is_tuple_of", .glo "is_tuple_by", .glo "is_one_word", .glo "lowest_weights", .glo "are_weights", .glo "need_weights", .glo "need_low", .glo "settled", .glo "is_step", .glo "are_rows_with", .glo "are_dice_rows", .glo "rolled", .glo "_law_deck", .glo "_law_draw", .glo "_law_pick", .glo "_law_same", .glo "_law_divisor", .glo "_law_lowest", .glo "_law_depths", .glo "_law_tosser", .glo "_law_heard", .glo "_law_rolled", .glo "_law_all_tapes", .glo "_law_is_right", .glo "_law_are_refused", .glo "_law_whole", .glo "law", .free "abs", .free "all", .free "any", .free "bool", .free "dict", .free "enumerate", .free "int", .free "isinstance", .free "len", .free "list", .free "max", .free "range", .free "repr", .free "str", .free "sum", .free "tuple", .free "zip", .glo "HouseError", .glo "BadWeights", .glo "BadMany", .glo "BadTape", .glo "BadRows", .glo "TooMany", .int "MOST_BITS" 20000, .int "MOST_OUTCOMES" 256, .int "LEAST_SIDES_digits" 2, .int "MOST_SIDES_digits" 12, .int "MOST_SUM" 1000, .int "MOST_ROLLS" 60, .str "DONE" "done", .str "ON" "on", .int "PAIR" 2, .int "LEAST_SIDES_coinways" 2, .int "MOST_SIDES_coinways" 12, .int "MOST_OUTCOME" 255]
def loose0 : List PySem.Str := ["HouseError", "BadWeights", "BadMany", "BadTape", "BadRows", "TooMany", "MOST_BITS", "is_whole", "is_whole_between", "is_whole_from", "is_tuple_of", "is_tuple_by", "is_one_word", "MOST_OUTCOMES", "LEAST_SIDES_digits", "MOST_SIDES_digits", "MOST_SUM", "MOST_ROLLS", "lowest_weights", "are_weights", "need_weights", "need_low", "settled", "DONE", "ON", "PAIR", "LEAST_SIDES_coinways", "MOST_SIDES_coinways", "MOST_OUTCOME", "is_step"]
def loose1 : List PySem.Str := ["are_rows_with", "are_dice_rows", "rolled", "_law_deck", "_law_draw", "_law_pick", "_law_same", "_law_divisor", "_law_lowest", "_law_depths", "_law_tosser", "_law_heard", "_law_rolled", "_law_all_tapes", "_law_is_right", "_law_are_refused", "_law_whole"]
def loose : List PySem.Str := loose0 ++ loose1
def hex (K : PySem.W.Frag) : Bool := errsB K && (tabInj K && (errCB K (He.ga K "BadWeights") && (errCB K (He.ga K "BadMany") && (errCB K (He.ga K "BadTape") && (errCB K (He.ga K "BadRows") && (errCB K (He.ga K "TooMany") && (He.eqO (PySem.W.nsIn K mainGlobals "gcd") (some (some (.builtin "math.gcd"))))))))))
abbrev R : PySem.W.OpenRow := PySem.W.OpenLaw.row PySem.Challenge.rw_noclaimwrong_k17_whole_all_tapes_of_a_le
abbrev hk : PySem.W.Hook := He.hookX 5 hfa hfn [] lawF hex
def ob (s : PySem.W.SharedT) : He.AlX := He.obsX 5 hfa hfn [] lawF hex (HandSHeadRun.getT s)
theorem ob_eq (s : PySem.W.SharedT) : ob s = hk.obs s.abs := He.obsX_eq (HandSHeadRun.getT_eq s)
theorem run (w : World) : HandSHeadRun.RunEqI R (PySem.W.view R.prog [0, 53]) hk ob 20000 loose w := by
  unfold HandSHeadRun.RunEqI
  kernel_rfl
theorem dfn_of {K : PySem.W.Frag} {mg : Str → Option Value} {x : Str} {st : Stmt} {fd0 d0 : FuncData} (F : FunD K x x (defArgs st) (defBody st) (defScope st) [] [] (He.ga K x) fd0) (g : mg x = some (.ref (He.ga K x))) : Dfn K mg x st ((fdOf K (He.ga K x)).getD d0) := by
  rw [fdOf_eq F]
  exact ⟨F, g⟩
theorem facts {w : World} {K : PySem.W.Frag} {h : Heap} {mg : Str → Option Value} (KX : K.In h) (G : h.Ns mainGlobals mg) (c : He.SaysX hfa hfn [] lawF hex w h K) :
    mg "law" = some (.ref (He.ga K "law")) ∧ ∃ fd : Str → FuncData, (∀ (s : Shared) (u : Value), BindsTo s (fd "law") ⟨[u], []⟩ [("script", u)]) ∧ ∀ base : Heap, (∀ p ∈ lawF, LamX.TabB base mg (He.cT K p).1 (He.cT K p).2) → Fx K mg base fd := by
  have cd := c.t.d
  have cm := c.more
  unfold hex at cm
  obtain ⟨m0, cm⟩ := He.ba cm
  obtain ⟨m1, cm⟩ := He.ba cm
  obtain ⟨m2, cm⟩ := He.ba cm
  obtain ⟨m3, cm⟩ := He.ba cm
  obtain ⟨m4, cm⟩ := He.ba cm
  obtain ⟨m5, cm⟩ := He.ba cm
  obtain ⟨m6, cm⟩ := He.ba cm
  obtain ⟨f_is_whole, F_is_whole⟩ := cd.def_ 0 (d := dd_is_whole) rfl
  obtain ⟨f_is_whole_between, F_is_whole_between⟩ := cd.def_ 1 (d := dd_is_whole_between) rfl
  obtain ⟨f_is_whole_from, F_is_whole_from⟩ := cd.def_ 2 (d := dd_is_whole_from) rfl
  obtain ⟨f_is_tuple_of, F_is_tuple_of⟩ := cd.def_ 3 (d := dd_is_tuple_of) rfl
  obtain ⟨f_is_tuple_by, F_is_tuple_by⟩ := cd.def_ 4 (d := dd_is_tuple_by) rfl
  obtain ⟨f_is_one_word, F_is_one_word⟩ := cd.def_ 5 (d := dd_is_one_word) rfl
  obtain ⟨f_lowest_weights, F_lowest_weights⟩ := cd.def_ 6 (d := dd_lowest_weights) rfl
  obtain ⟨f_are_weights, F_are_weights⟩ := cd.def_ 7 (d := dd_are_weights) rfl
  obtain ⟨f_need_weights, F_need_weights⟩ := cd.def_ 8 (d := dd_need_weights) rfl
  obtain ⟨f_need_low, F_need_low⟩ := cd.def_ 9 (d := dd_need_low) rfl
  obtain ⟨f_settled, F_settled⟩ := cd.def_ 10 (d := dd_settled) rfl
  obtain ⟨f_is_step, F_is_step⟩ := cd.def_ 11 (d := dd_is_step) rfl
  obtain ⟨f_are_rows_with, F_are_rows_with⟩ := cd.def_ 12 (d := dd_are_rows_with) rfl
  obtain ⟨f_are_dice_rows, F_are_dice_rows⟩ := cd.def_ 13 (d := dd_are_dice_rows) rfl
  obtain ⟨f_rolled, F_rolled⟩ := cd.def_ 14 (d := dd_rolled) rfl
  obtain ⟨f__law_deck, F__law_deck⟩ := cd.def_ 15 (d := dd__law_deck) rfl
  obtain ⟨f__law_draw, F__law_draw⟩ := cd.def_ 16 (d := dd__law_draw) rfl
  obtain ⟨f__law_pick, F__law_pick⟩ := cd.def_ 17 (d := dd__law_pick) rfl
  obtain ⟨f__law_same, F__law_same⟩ := cd.def_ 18 (d := dd__law_same) rfl
  obtain ⟨f__law_divisor, F__law_divisor⟩ := cd.def_ 19 (d := dd__law_divisor) rfl
  obtain ⟨f__law_lowest, F__law_lowest⟩ := cd.def_ 20 (d := dd__law_lowest) rfl
  obtain ⟨f__law_depths, F__law_depths⟩ := cd.def_ 21 (d := dd__law_depths) rfl
  obtain ⟨f__law_tosser, F__law_tosser⟩ := cd.def_ 22 (d := dd__law_tosser) rfl
  obtain ⟨f__law_heard, F__law_heard⟩ := cd.def_ 23 (d := dd__law_heard) rfl
  obtain ⟨f__law_rolled, F__law_rolled⟩ := cd.def_ 24 (d := dd__law_rolled) rfl
  obtain ⟨f__law_all_tapes, F__law_all_tapes⟩ := cd.def_ 25 (d := dd__law_all_tapes) rfl
  obtain ⟨f__law_is_right, F__law_is_right⟩ := cd.def_ 26 (d := dd__law_is_right) rfl
  obtain ⟨f__law_are_refused, F__law_are_refused⟩ := cd.def_ 27 (d := dd__law_are_refused) rfl
  obtain ⟨f__law_whole, F__law_whole⟩ := cd.def_ 28 (d := dd__law_whole) rfl
  obtain ⟨f_law, F_law⟩ := cd.def_ 29 (d := dd_law) rfl
  obtain ⟨fe_BadWeights, E_BadWeights⟩ := cd.def_ 30 (d := de_BadWeights) rfl
  obtain ⟨fe_BadMany, E_BadMany⟩ := cd.def_ 31 (d := de_BadMany) rfl
  obtain ⟨fe_BadTape, E_BadTape⟩ := cd.def_ 32 (d := de_BadTape) rfl
  obtain ⟨fe_BadRows, E_BadRows⟩ := cd.def_ 33 (d := de_BadRows) rfl
  obtain ⟨fe_TooMany, E_TooMany⟩ := cd.def_ 34 (d := de_TooMany) rfl
  refine ⟨He.glo_ok KX G (cd.fact 29 (f := .glo "law") rfl), fun x => (fdOf K (He.ga K x)).getD f_law, fun s u => ?_, fun base hT => ⟨dfn_of F_is_whole (He.glo_ok KX G (cd.fact 0 (f := .glo "is_whole") rfl)), dfn_of F_is_whole_between (He.glo_ok KX G (cd.fact 1 (f := .glo "is_whole_between") rfl)), dfn_of F_is_whole_from (He.glo_ok KX G (cd.fact 2 (f := .glo "is_whole_from") rfl)), dfn_of F_is_tuple_of (He.glo_ok KX G (cd.fact 3 (f := .glo "is_tuple_of") rfl)), dfn_of F_is_tuple_by (He.glo_ok KX G (cd.fact 4 (f := .glo "is_tuple_by") rfl)), dfn_of F_is_one_word (He.glo_ok KX G (cd.fact 5 (f := .glo "is_one_word") rfl)), dfn_of F_lowest_weights (He.glo_ok KX G (cd.fact 6 (f := .glo "lowest_weights") rfl)), dfn_of F_are_weights (He.glo_ok KX G (cd.fact 7 (f := .glo "are_weights") rfl)), dfn_of F_need_weights (He.glo_ok KX G (cd.fact 8 (f := .glo "need_weights") rfl)), dfn_of F_need_low (He.glo_ok KX G (cd.fact 9 (f := .glo "need_low") rfl)), dfn_of F_settled (He.glo_ok KX G (cd.fact 10 (f := .glo "settled") rfl)), dfn_of F_is_step (He.glo_ok KX G (cd.fact 11 (f := .glo "is_step") rfl)), dfn_of F_are_rows_with (He.glo_ok KX G (cd.fact 12 (f := .glo "are_rows_with") rfl)), dfn_of F_are_dice_rows (He.glo_ok KX G (cd.fact 13 (f := .glo "are_dice_rows") rfl)), dfn_of F_rolled (He.glo_ok KX G (cd.fact 14 (f := .glo "rolled") rfl)), dfn_of F__law_deck (He.glo_ok KX G (cd.fact 15 (f := .glo "_law_deck") rfl)), dfn_of F__law_draw (He.glo_ok KX G (cd.fact 16 (f := .glo "_law_draw") rfl)), dfn_of F__law_pick (He.glo_ok KX G (cd.fact 17 (f := .glo "_law_pick") rfl)), dfn_of F__law_same (He.glo_ok KX G (cd.fact 18 (f := .glo "_law_same") rfl)), dfn_of F__law_divisor (He.glo_ok KX G (cd.fact 19 (f := .glo "_law_divisor") rfl)), dfn_of F__law_lowest (He.glo_ok KX G (cd.fact 20 (f := .glo "_law_lowest") rfl)), dfn_of F__law_depths (He.glo_ok KX G (cd.fact 21 (f := .glo "_law_depths") rfl)), dfn_of F__law_tosser (He.glo_ok KX G (cd.fact 22 (f := .glo "_law_tosser") rfl)), dfn_of F__law_heard (He.glo_ok KX G (cd.fact 23 (f := .glo "_law_heard") rfl)), dfn_of F__law_rolled (He.glo_ok KX G (cd.fact 24 (f := .glo "_law_rolled") rfl)), dfn_of F__law_all_tapes (He.glo_ok KX G (cd.fact 25 (f := .glo "_law_all_tapes") rfl)), dfn_of F__law_is_right (He.glo_ok KX G (cd.fact 26 (f := .glo "_law_is_right") rfl)), dfn_of F__law_are_refused (He.glo_ok KX G (cd.fact 27 (f := .glo "_law_are_refused") rfl)), dfn_of F__law_whole (He.glo_ok KX G (cd.fact 28 (f := .glo "_law_whole") rfl)), dfn_of F_law (He.glo_ok KX G (cd.fact 29 (f := .glo "law") rfl)), He.free_ok KX G (cd.fact 30 (f := .free "abs") rfl), He.free_ok KX G (cd.fact 31 (f := .free "all") rfl), He.free_ok KX G (cd.fact 32 (f := .free "any") rfl), He.free_ok KX G (cd.fact 33 (f := .free "bool") rfl), He.free_ok KX G (cd.fact 34 (f := .free "dict") rfl), He.free_ok KX G (cd.fact 35 (f := .free "enumerate") rfl), He.free_ok KX G (cd.fact 36 (f := .free "int") rfl), He.free_ok KX G (cd.fact 37 (f := .free "isinstance") rfl), He.free_ok KX G (cd.fact 38 (f := .free "len") rfl), He.free_ok KX G (cd.fact 39 (f := .free "list") rfl), He.free_ok KX G (cd.fact 40 (f := .free "max") rfl), He.free_ok KX G (cd.fact 41 (f := .free "range") rfl), He.free_ok KX G (cd.fact 42 (f := .free "repr") rfl), He.free_ok KX G (cd.fact 43 (f := .free "str") rfl), He.free_ok KX G (cd.fact 44 (f := .free "sum") rfl), He.free_ok KX G (cd.fact 45 (f := .free "tuple") rfl), He.free_ok KX G (cd.fact 46 (f := .free "zip") rfl), con_int (He.int_ok KX G (cd.fact 53 (f := .int "MOST_BITS" 20000) rfl)), con_int (He.int_ok KX G (cd.fact 54 (f := .int "MOST_OUTCOMES" 256) rfl)), con_int (He.int_ok KX G (cd.fact 55 (f := .int "LEAST_SIDES_digits" 2) rfl)), con_int (He.int_ok KX G (cd.fact 56 (f := .int "MOST_SIDES_digits" 12) rfl)), con_int (He.int_ok KX G (cd.fact 57 (f := .int "MOST_SUM" 1000) rfl)), con_int (He.int_ok KX G (cd.fact 58 (f := .int "MOST_ROLLS" 60) rfl)), con_str (He.str_ok KX G (cd.fact 59 (f := .str "DONE" "done") rfl)), con_str (He.str_ok KX G (cd.fact 60 (f := .str "ON" "on") rfl)), con_int (He.int_ok KX G (cd.fact 61 (f := .int "PAIR" 2) rfl)), con_int (He.int_ok KX G (cd.fact 62 (f := .int "LEAST_SIDES_coinways" 2) rfl)), con_int (He.int_ok KX G (cd.fact 63 (f := .int "MOST_SIDES_coinways" 12) rfl)), con_int (He.int_ok KX G (cd.fact 64 (f := .int "MOST_OUTCOME" 255) rfl)), errC_ok m2 (He.glo_ok KX G (cd.fact 48 (f := .glo "BadWeights") rfl)) E_BadWeights, errC_ok m3 (He.glo_ok KX G (cd.fact 49 (f := .glo "BadMany") rfl)) E_BadMany, errC_ok m4 (He.glo_ok KX G (cd.fact 50 (f := .glo "BadTape") rfl)) E_BadTape, errC_ok m5 (He.glo_ok KX G (cd.fact 51 (f := .glo "BadRows") rfl)) E_BadRows, errC_ok m6 (He.glo_ok KX G (cd.fact 52 (f := .glo "TooMany") rfl)) E_TooMany, He.glo_ok KX G (cd.fact 47 (f := .glo "HouseError") rfl), He.glo_ok KX G (cd.fact 48 (f := .glo "BadWeights") rfl), He.glo_ok KX G (cd.fact 49 (f := .glo "BadMany") rfl), He.glo_ok KX G (cd.fact 50 (f := .glo "BadTape") rfl), He.glo_ok KX G (cd.fact 51 (f := .glo "BadRows") rfl), He.glo_ok KX G (cd.fact 52 (f := .glo "TooMany") rfl), errs_ok m0, PySem.W.mg_of KX G (He.eqO_ok cm), hT, m1⟩⟩
  have eb : (fdOf K (He.ga K "law")).getD f_law = f_law := by
    have t : fdOf K (He.ga K "law") = some f_law := fdOf_eq F_law
    rw [t] <;> rfl
  show BindsTo s ((fdOf K (He.ga K "law")).getD f_law) _ _
  rw [eb]
  exact FunD.bindsA (ps := ["script"]) F_law (fun _ _ _ _ _ _ us hl => match us, hl with | [_], _ => rfl) s [u] rfl
end Lw
open PySem PySem.W PySem.Calls PyProof.Rows
/-- the law, from what its mirror answers -/
theorem law_by (hp : Lw.Keeps fun ns => ∀ z ∈ ns, Builtin.Int.intBits z ≤ 1048576) : PySem.Challenge.rw_noclaimwrong_k17_whole_all_tapes_of_a_le.Holds := by
  w_on; o_law
  refine HandSHeadRun.head_imp (r := OpenLaw.row PySem.Challenge.rw_noclaimwrong_k17_whole_all_tapes_of_a_le) (q := view (OpenLaw.row PySem.Challenge.rw_noclaimwrong_k17_whole_all_tapes_of_a_le).prog [0, 53]) (H := Lw.hk) (ob := Lw.ob) (M := 20000) (loose := Lw.loose) (d := HandSHeadRun.topDef (OpenLaw.row PySem.Challenge.rw_noclaimwrong_k17_whole_all_tapes_of_a_le).prog 53) (kwd := []) Lw.ob_eq
    Lw.run (by kernel_rfl) (by kernel_rfl) (by kernel_rfl) (by rfl) (by first | assumption | decide +kernel) (by decide +kernel) ⟨rfl, rfl, rfl, rfl, rfl, by decide +kernel⟩ ?hw ?hc
  case hw => w_witness2
  case hc =>
    refine LamX.walk_ofTsG (l := PySem.Challenge.rw_noclaimwrong_k17_whole_all_tapes_of_a_le) (n := 63) (k := 11) (x := "script") (CX := fun w => L2.CX (PySem.Challenge.rw_noclaimwrong_k17_whole_all_tapes_of_a_le).prog w) rfl (by decide) (by kernel_rfl) ⟨rfl, by decide, by decide⟩ ?F (fun w H s e s' z => by
      obtain ⟨_, _, _, _, _, _, _, _, _, _, _, _, q⟩ := z
      exact q)
    intro w mg fa h Y G hmg0
    obtain ⟨K, KX, c⟩ := Y
    have hmg : mg ("law" : PySem.Str) = some (.ref fa) := by
      have e : (HandSHeadRun.topDef (OpenLaw.row PySem.Challenge.rw_noclaimwrong_k17_whole_all_tapes_of_a_le).prog 53).name = ("law" : PySem.Str) := by kernel_rfl
      rw [← e]
      exact hmg0
    obtain ⟨hl, fd, hB, hF⟩ := Lw.facts KX G c
    have ef := hmg.symm.trans hl
    cases ef
    refine ⟨K, KX, fd "law", Lf.lawF.map (He.cT K), Lf.spLaw K _, fun p hp => ?_, fun p hp => ?_, fun p hp => ?_, hB, fun H a ns hl hb hT hS => ⟨a, ns, rfl, hS, hl, hb, fun p hp => ?_, fun _ => rfl⟩, fun base hKb hns hTB => Lw.ok_law (hF base fun p hp => hTB _ (List.mem_map_of_mem hp)) hp⟩
    · obtain ⟨q, hq, rfl⟩ := List.mem_map.mp hp
      exact c.empty q hq
    · obtain ⟨q, hq, rfl⟩ := List.mem_map.mp hp
      exact c.out q hq
    · obtain ⟨q, hq, rfl⟩ := List.mem_map.mp hp
      exact PySem.W.codeHd_of_K KX (c.hd q hq)
    · obtain ⟨q, hq, rfl⟩ := List.mem_map.mp hp
      exact Lf.tabS0 (hT _ (List.mem_map_of_mem hq))


theorem PySem.Challenge.cw_noclaimwrong_k17_whole_all_tapes_of_a_le_holds : PySem.Challenge.rw_noclaimwrong_k17_whole_all_tapes_of_a_le.Holds :=
  law_by (Lw.keeps _)
