import PyProof.Rows.All
import Wide.All
import OpenK.AllK
import Wide.FinOn
import HandS.ForMost
import KE.KeyNested
import HandS.Lambda
import HandS.Style
import HandS.Defaults
import HandS.Property
import HandS.Zip
import HandS.Deep
import HandS.TupAny
import HandS.IsInst
import HandS.TupLen
import HandS.DictTup
import HandS.More
import KE.SortData
import KE.KDictPairs
import HandS.Text
import HandS.ListItems
import HandS.DictComp
import HandS.Strs
import HandS.SetKeys
import KE.KDictKeyed
import KE.GoesMore
import KE.GoesEnum
import HandS.Ends
import HandS.EndBits
import KE.KStateDown
import HandS.Head0
import HandS.Head1
import HandS.Head2
import HandS.HeadEnd
import HandS.HeadHook1
import HandS.HeadHook2
import KE.KSuperObj
import HandS.SetTxt0
import PyProof.EqAt
import PyProof.EqKinds
import PyProof.TupleCall
import HandS.TupSets
import HandS.OwnEq
import KE.KFmtOwn
import HandS.Star
import HandS.FStr
import KE.KExcSuper
import HandS.ExcInit
import HandS.ExcField
import HandS.ExcOwn
import HandS.HeadWalk
import HandS.ExcSuper
import KE.KExcIs
import PyProof.Rows.TupMore
import PyProof.ListMulAny
import KE.KNest
import HandS.ExcValue
import HandS.ExcBuiltin
import PySem.Challenge.RW_lotorder_k01_errors_told
set_option Elab.async false
set_option linter.all false
set_option maxRecDepth 100000
set_option maxHeartbeats 4000000
/-! D0: Python data as trees, the draw, what the heap holds of them. -/
namespace Dl
open PySem L2
inductive D where
  | non
  | bl (b : Bool)
  | int (i : Int)
  | str (x : Str)
  | tup (ds : List D)
  | ktp (ds : List D)
  | klt (ds : List D)
  | lst (ds : List D)
  | dic (kvs : List (D × D))
  | dit (kvs : List (D × D))
  | obj (c : Str) (fs : List (Str × D))
  | drt (ns : List Str)
  | din (ks : List D)
  | mu (d : D)
  | exc (c : Str) (fs : List (Str × D))
/-- the law's draw, in a law that makes no lambdas -/
abbrev D.drw : D := .drt []
/-- the state of the law's draw -/
structure Dr where
  large : List Int
  cells : List Int
  rest : Int
  turn : Int
  mix : Int
/-- where the draw stands: its dict, its list of large numbers, its list of cells; in an __init__: where the instance stands -/
structure Gd where
  dd : Addr
  dl : Addr
  dc : Addr
  sf : Addr
  tb : List (Addr × Str) := []
/-- p is not the list of large numbers -/
abbrev Gd.nl (G : Gd) (p : Addr) : Prop := p ≠ G.dl
def dKey : Key → D
  | .inl i => .int i
  | .inr x => .str x
def dKeys (ks : List Key) : D := .tup (ks.map dKey)
/-- a text of no more than the greatest length, of code points -/
def sB (x : Str) : Bool := decide (x.length ≤ sizeLine) && PySem.PyData.strOk x
def sOk (x : Str) : Prop := sB x = true
theorem sOk.len {x : Str} (h : sOk x) : x.length ≤ sizeLine := of_decide_eq_true (Bool.and_eq_true_iff.mp h).1
theorem sOk.cps {x : Str} (h : sOk x) : PySem.PyData.strOk x = true := (Bool.and_eq_true_iff.mp h).2
theorem sOk.mk {x : Str} (h : x.length ≤ sizeLine) (h' : PySem.PyData.strOk x = true) : sOk x := Bool.and_eq_true_iff.mpr ⟨decide_eq_true h, h'⟩
def kOk : Key → Prop
  | .inl _ => True
  | .inr x => sOk x
def ksOk (ks : List Key) : Prop := ks.length ≤ sizeLine ∧ ∀ k ∈ ks, kOk k
/-- the attribute that each class's __init__ stores last: from then on its instances never change -/
def lastF : List Str := ["s_told", "l_came", "r_schema", "n_before", "m_around"]
def doneF (fs : List (Str × V)) : Bool := fs.any fun p => lastF.any fun x => decide (p.1 = x)
/-- what never changes -/
def fz : HO → Bool
  | .tup _ => true
  | .frz _ _ => true
  | .ins _ _ fs => doneF fs
  | .own _ => true
  | .xd _ => true
  | _ => false
/-- a list that never changes -/
def FzL (K : PySem.W.Frag) (H : Hp) (a : Addr) (xs : List V) : Prop := ∃ o, H a = some (.frz o (.lst xs))
theorem FzL.sq {K : PySem.W.Frag} {H : Hp} {a : Addr} {xs : List V} (h : FzL K H a xs) : SqL K H a xs := .inl (.inr h)
/-- a tuple of which all is known: a constant of the module, or one made by tuple() -/
def PTu (K : PySem.W.Frag) (H : Hp) (a : Addr) (xs : List V) : Prop := (∃ (o : Obj) (its : Array Value) (n : Nat), K.lookup a = some o ∧ o.cls = .type "tuple" ∧ o.data = .seq its n ∧ its.size ≤ sizeLine ∧ Vals xs its.toList ∧ o.dict = none) ∨ ∃ o, H a = some (.frz o (.tup xs)) ∧ o.dict = none ∧ xs.length ≤ sizeLine
theorem PTu.sq {K : PySem.W.Frag} {H : Hp} {a : Addr} {xs : List V} (h : PTu K H a xs) : SqT K H a xs := by
  rcases h with ⟨o, its, n, h1, h2, h3, h4, h5, _⟩ | ⟨o, h, _⟩
  · exact .inr ⟨o, its, n, h1, h2, h3, h4, h5⟩
  · exact .inl (.inr ⟨o, h⟩)
theorem PTu.len {K : PySem.W.Frag} {H : Hp} {a : Addr} {xs : List V} (h : PTu K H a xs) : xs.length ≤ sizeLine := by
  rcases h with ⟨o, its, n, _, _, _, hz, rv, _⟩ | ⟨o, _, _, h⟩
  · rw [rv.length, Array.length_toList]; exact hz
  · exact h
structure Tx where
  K : PySem.W.Frag
  mg : Str → Option Value
  P : Program
  w : World
abbrev tx (X : Cx) : Tx := ⟨X.K, X.mg, X.prog, X.w⟩
/-- where the code objects of the lambdas of the def n are kept, and their name -/
def tabOf (T : Tx) (n : Str) : Addr × Str := (match T.mg n with
  | some (.ref f) => match T.K.lookup f with
    | some ⟨_, _, .func fd, _⟩ => match fd.code with
      | .ref c => match T.K.lookup c with
        | some ⟨_, _, .fields vs, _⟩ => match (vs[11]? : Option Value) with
          | some (.ref p) => p
          | _ => 0
        | _ => 0
      | _ => 0
    | _ => 0
  | _ => 0, n ++ ".<locals>." ++ "<lambda>")
mutual
inductive Rep (T : Tx) (G : Gd) (H : Hp) : V → D → Prop
  | non : Rep T G H .non .non
  | bl (b) : Rep T G H (.bl b) (.bl b)
  | int (i) : Rep T G H (.int i) (.int i)
  | str {x} : sOk x → Rep T G H (.str x) (.str x)
  | tup {a xs ds} : H a = some (.tup xs) → xs.length ≤ sizeLine → Reps T G H xs ds → Rep T G H (.ref a) (.tup ds)
  | ktp {a xs ds} : PTu T.K H a xs → Reps T G H xs ds → Rep T G H (.ref a) (.ktp ds)
  | klt {a xs ds} : (∃ (o : Obj) (its : Array Value) (n : Nat), T.K.lookup a = some o ∧ o.cls = .type "list" ∧ o.dict = none ∧ o.data = .seq its n ∧ its.size ≤ sizeLine ∧ Vals xs its.toList) → Reps T G H xs ds → Rep T G H (.ref a) (.klt ds)
  | lst {a xs ds} : FzL T.K H a xs → xs.length ≤ sizeLine → Reps T G H xs ds → Rep T G H (.ref a) (.lst ds)
  | dicK {a o ps kvs} : H a = some (.frz o (.dK ps)) → (ps.length ≤ sizeLine ∧ ∀ p ∈ ps, kOk p.1) → kvs.map (·.1) = ps.map (fun p => dKey p.1) → Reps T G H (ps.map (·.2)) (kvs.map (·.2)) → Rep T G H (.ref a) (.dic kvs)
  | dicT {a o ps kvs} : H a = some (.frz o (.dT ps)) → (ps.length ≤ sizeLine ∧ ∀ p ∈ ps, ksOk p.1) → kvs.map (·.1) = ps.map (fun p => dKeys p.1) → Reps T G H (ps.map (·.2)) (kvs.map (·.2)) → Rep T G H (.ref a) (.dit kvs)
  | obj {a C dx fs c gs} : T.mg c = some (.ref C) → H a = some (.ins C dx fs) → doneF fs = true → gs.map (·.1) = fs.map (·.1) → Reps T G H (fs.map (·.2)) (gs.map (·.2)) → Rep T G H (.ref a) (.obj c gs)
  | drw {ns} : (∀ n ∈ ns, tabOf T n ∈ G.tb ∧ ∀ p ∈ G.tb, p.1 = (tabOf T n).1 → p.2 = (tabOf T n).2) → Rep T G H (.ref G.dd) (.drt ns)
  | exc {a C oe u d c fs vs} : T.mg c = some (.ref C) → H a = some (.frz oe u) → oe.cls = .ref C → oe.dict = d → (∃ fv, oe.data = .fields fv) → ((d = none ∧ vs = []) ∨ ∃ dd, d = some dd ∧ H dd = some (.xd vs)) → fs.map (·.1) = vs.map (·.1) → Reps T G H (vs.map (·.2)) (fs.map (·.2)) → Rep T G H (.ref a) (.exc c fs)
inductive Reps (T : Tx) (G : Gd) (H : Hp) : List V → List D → Prop
  | nil : Reps T G H [] []
  | cons {v d vs ds} : Rep T G H v d → Reps T G H vs ds → Reps T G H (v :: vs) (d :: ds)
end
/-- the draw stands -/
structure DrawAt (G : Gd) (H : Hp) (w : Dr) : Prop where
  dd : H G.dd = some (.dK [(.inr "large", .ref G.dl), (.inr "cells", .ref G.dc), (.inr "rest", .int w.rest), (.inr "turn", .int w.turn), (.inr "mix", .int w.mix)])
  dl : H G.dl = some (.lst (w.large.map V.int))
  dc : ∃ o, H G.dc = some (.frz o (.lst (w.cells.map V.int)))
  tb : LamX.Tabs G.tb H
/-- a table of code objects -/
def isTbl : HO → Bool
  | .tbl _ => true
  | _ => false
/-- nothing stands at p, or a table -/
def Fre (H : Hp) (p : Addr) : Prop := ∀ o, H p = some o → isTbl o = true
theorem Fre.of {H : Hp} {p : Addr} (h : H p = none) : Fre H p := fun o e => by rw [h] at e; cases e
/-- said in either way -/
class FreOf (φ : Prop) (H : outParam Hp) (p : outParam Addr) : Prop where
  fre : φ → Fre H p
instance {H : Hp} {p : Addr} : FreOf (H p = none) H p := ⟨Fre.of⟩
instance {H : Hp} {p : Addr} : FreOf (Fre H p) H p := ⟨id⟩
theorem Fre.not {H : Hp} {p : Addr} {o : HO} {C : Prop} (h : Fre H p) (e : H p = some o) (n : isTbl o = false) : C := by rw [h o e] at n; cases n
theorem Fre.ne {H : Hp} {a p : Addr} {o : HO} (n : Fre H p) (q : H a = some o) (t : isTbl o = false) : a ≠ p := fun z => n.not (z ▸ q) t
theorem fz_tbl {o : HO} (h : fz o = true) : isTbl o = false := by cases o <;> first | rfl | cases h
/-- what stood stands, but for the draw and the tables -/
def SameD (G : Gd) (H H' : Hp) : Prop := ∀ a o, H a = some o → a ≠ G.dd → G.nl a → isTbl o = false → H' a = some o
/-- what never changes stands -/
def Keep (H H' : Hp) : Prop := ∀ a o, H a = some o → fz o = true → H' a = some o
theorem SameD.refl (G : Gd) (H : Hp) : SameD G H H := fun _ _ e _ _ _ => e
theorem SameD.trans {G : Gd} {H H1 H2 : Hp} (a : SameD G H H1) (b : SameD G H1 H2) : SameD G H H2 := fun c o e n m t => b c o (a c o e n m t) n m t
theorem Keep.refl (H : Hp) : Keep H H := fun _ _ e _ => e
theorem Keep.trans {H H1 H2 : Hp} (a : Keep H H1) (b : Keep H1 H2) : Keep H H2 := fun c o e n => b c o (a c o e n) n
theorem SameD.keep {G : Gd} {H H' : Hp} {w : Dr} (s : SameD G H H') (d : DrawAt G H w) : Keep H H' := fun a o e f => by
  refine s a o e (fun z => ?_) (fun z => ?_) (fz_tbl f)
  · subst z; rw [d.dd] at e; cases e; cases f
  · subst z; rw [d.dl] at e; cases e; cases f
/-- u is no table and no code object -/
def NoCode (p : Addr) (u : HO) : Prop := isTbl u = false ∧ ∀ q, u ≠ LamX.CodeO p q
theorem noCode_lst {p : Addr} {xs : List V} : NoCode p (.lst xs) := ⟨rfl, fun q z => by unfold LamX.CodeO at z; cases z⟩
theorem noCode_dK {p : Addr} {xs : List (Key × V)} : NoCode p (.dK xs) := ⟨rfl, fun q z => by unfold LamX.CodeO at z; cases z⟩
theorem noCode_dT {p : Addr} {xs : List (List Key × V)} : NoCode p (.dT xs) := ⟨rfl, fun q z => by unfold LamX.CodeO at z; cases z⟩
theorem noCode_ins {p C d : Addr} {xs : List (Str × V)} : NoCode p (.ins C d xs) := ⟨rfl, fun q z => by unfold LamX.CodeO at z; cases z⟩
theorem noCode_frz {p : Addr} {o : Obj} {u : HO} : NoCode p (.frz o u) := ⟨rfl, fun q z => by unfold LamX.CodeO at z; cases z⟩
theorem tabs_upd {t : List (Addr × Str)} {H : Hp} {p : Addr} {u : HO} (o : HO) (h : LamX.Tabs t H) (hu : H p = some u) (nc : NoCode p u) : LamX.Tabs t (upd H p o) := fun q hq => by
  obtain ⟨ps, h1, h2, h3⟩ := h q hq
  have n : q.1 ≠ p := fun z => by rw [z, hu] at h1; cases h1; cases nc.1
  refine ⟨ps, by rw [upd_ne n]; exact h1, h2, fun pos cv e => ?_⟩
  obtain ⟨c, e1, e2⟩ := h3 pos cv e
  refine ⟨c, e1, ?_⟩
  rw [upd_ne (fun z => by subst z; rw [hu] at e2; exact nc.2 _ (Option.some.inj e2))]
  exact e2
theorem SameD.new {G : Gd} {H : Hp} {p : Addr} (o : HO) (h : H p = none) : SameD G H (upd H p o) := fun a u e _ _ _ => by
  rw [upd_ne (ne_of_none e h)]; exact e
theorem Keep.new {H : Hp} {p : Addr} (o : HO) (h : H p = none) : Keep H (upd H p o) := fun a u e _ => by
  rw [upd_ne (ne_of_none e h)]; exact e
theorem Keep.mut {H : Hp} {p : Addr} {u : HO} (o : HO) (h : H p = some u) (f : fz u = false) : Keep H (upd H p o) := fun a u' e g => by
  rw [upd_ne (fun z => by subst z; rw [h] at e; cases e; rw [f] at g; cases g)]; exact e
theorem SqT.keep {K : PySem.W.Frag} {H H' : Hp} {a : Addr} {xs : List V} (k : Keep H H') (h : SqT K H a xs) : SqT K H' a xs := by
  rcases h with (h | ⟨o, h⟩) | h
  · exact .inl (.inl (k _ _ h rfl))
  · exact .inl (.inr ⟨o, k _ _ h rfl⟩)
  · exact .inr h
theorem PTu.keep {K : PySem.W.Frag} {H H' : Hp} {a : Addr} {xs : List V} (k : Keep H H') (h : PTu K H a xs) : PTu K H' a xs := by
  rcases h with h | ⟨o, h, r⟩
  · exact .inl h
  · exact .inr ⟨o, k _ _ h rfl, r⟩
theorem FzL.keep {K : PySem.W.Frag} {H H' : Hp} {a : Addr} {xs : List V} (k : Keep H H') (h : FzL K H a xs) : FzL K H' a xs := let ⟨o, h⟩ := h; ⟨o, k _ _ h rfl⟩
mutual
theorem Rep.keep {T : Tx} {G : Gd} {H H' : Hp} (k : Keep H H') : ∀ {v : V} {d : D}, Rep T G H v d → Rep T G H' v d
  | _, _, .non => .non
  | _, _, .bl b => .bl b
  | _, _, .int i => .int i
  | _, _, .str h => .str h
  | _, _, .tup h z r => .tup (k _ _ h rfl) z (Reps.keep k r)
  | _, _, .ktp h r => .ktp (h.keep k) (Reps.keep k r)
  | _, _, .klt h r => .klt h (Reps.keep k r)
  | _, _, .lst h z r => .lst (h.keep k) z (Reps.keep k r)
  | _, _, .dicK h z e r => .dicK (k _ _ h rfl) z e (Reps.keep k r)
  | _, _, .dicT h z e r => .dicT (k _ _ h rfl) z e (Reps.keep k r)
  | _, _, .obj m h f e r => .obj m (k _ _ h f) f e (Reps.keep k r)
  | _, _, .drw h => .drw h
  | _, _, .exc m h c q f o e r => .exc m (k _ _ h rfl) c q f (o.imp id fun ⟨dd, e1, e2⟩ => ⟨dd, e1, k _ _ e2 rfl⟩) e (Reps.keep k r)
theorem Reps.keep {T : Tx} {G : Gd} {H H' : Hp} (k : Keep H H') : ∀ {vs : List V} {ds : List D}, Reps T G H vs ds → Reps T G H' vs ds
  | _, _, .nil => .nil
  | _, _, .cons r t => .cons (Rep.keep k r) (Reps.keep k t)
end
section
variable {T : Tx} {G : Gd} {H : Hp}
theorem Reps.length : ∀ {vs : List V} {ds : List D}, Reps T G H vs ds → vs.length = ds.length
  | _, _, .nil => rfl
  | _, _, .cons _ t => by simp [Reps.length t]
theorem Reps.get : ∀ {vs : List V} {ds : List D} {i : Nat} {d : D}, Reps T G H vs ds → ds[i]? = some d → ∃ v, vs[i]? = some v ∧ Rep T G H v d
  | _, _, 0, _, .cons r _, e => by simp at e; subst e; exact ⟨_, rfl, r⟩
  | _, _, i + 1, _, .cons _ t, e => by
    obtain ⟨v, h1, h2⟩ := Reps.get (i := i) t (by simpa using e)
    exact ⟨v, by simpa using h1, h2⟩
theorem Reps.get' : ∀ {vs : List V} {ds : List D} {i : Nat} {v : V}, Reps T G H vs ds → vs[i]? = some v → ∃ d, ds[i]? = some d ∧ Rep T G H v d
  | _, _, 0, _, .cons r _, e => by simp at e; subst e; exact ⟨_, rfl, r⟩
  | _, _, i + 1, _, .cons _ t, e => by
    obtain ⟨d, h1, h2⟩ := Reps.get' (i := i) t (by simpa using e)
    exact ⟨d, by simpa using h1, h2⟩
theorem Reps.append : ∀ {vs ws : List V} {ds es : List D}, Reps T G H vs ds → Reps T G H ws es → Reps T G H (vs ++ ws) (ds ++ es)
  | _, _, _, _, .nil, s => s
  | _, _, _, _, .cons r t, s => .cons r (Reps.append t s)
theorem Reps.snoc {vs : List V} {ds : List D} {v : V} {d : D} (r : Reps T G H vs ds) (q : Rep T G H v d) : Reps T G H (vs ++ [v]) (ds ++ [d]) := r.append (.cons q .nil)
theorem Reps.take : ∀ {vs : List V} {ds : List D} (n : Nat), Reps T G H vs ds → Reps T G H (vs.take n) (ds.take n)
  | _, _, 0, _ => .nil
  | _, _, _ + 1, .nil => .nil
  | _, _, n + 1, .cons r t => .cons r (Reps.take n t)
theorem Reps.drop : ∀ {vs : List V} {ds : List D} (n : Nat), Reps T G H vs ds → Reps T G H (vs.drop n) (ds.drop n)
  | _, _, 0, r => r
  | _, _, _ + 1, .nil => .nil
  | _, _, n + 1, .cons _ t => Reps.drop n t
theorem Reps.reverse : ∀ {vs : List V} {ds : List D}, Reps T G H vs ds → Reps T G H vs.reverse ds.reverse
  | _, _, .nil => .nil
  | _, _, .cons r t => by simp only [List.reverse_cons]; exact (Reps.reverse t).snoc r
theorem Reps.set : ∀ {vs : List V} {ds : List D} {v : V} {d : D} (i : Nat), Rep T G H v d → Reps T G H vs ds → Reps T G H (vs.set i v) (ds.set i d)
  | _, _, _, _, _, _, .nil => .nil
  | _, _, _, _, 0, q, .cons _ t => .cons q t
  | _, _, _, _, i + 1, q, .cons r t => .cons r (Reps.set i q t)
theorem Reps.eraseIdx : ∀ {vs : List V} {ds : List D} (i : Nat), Reps T G H vs ds → Reps T G H (vs.eraseIdx i) (ds.eraseIdx i)
  | _, _, _, .nil => .nil
  | _, _, 0, .cons _ t => t
  | _, _, i + 1, .cons r t => .cons r (Reps.eraseIdx i t)
theorem Reps.ints : ∀ (ns : List Int), Reps T G H (ns.map V.int) (ns.map D.int)
  | [] => .nil
  | n :: r => .cons (.int n) (Reps.ints r)
end
/-- a dict from nested tuples to True: the keys xs -/
def nestO (P : Program) (w : World) (a : Addr) (xs : List (NestedKey × Addr)) : HO := .ext fun h => (a == sysModules) = false ∧ ∃ o es ep, h.get? a = some o ∧ o.ExactDict ∧ o.data = .dict es ep ∧ es.toList = (xs.map fun x => entryOfKey (nestedKind P w) (x.1, x.2, .bool true)) ∧ (xs.map (·.1)).Nodup ∧ xs.length ≤ sizeLine
def nkAll (f : D → Option NestedKey) : List D → Option (List NestedKey)
  | [] => some []
  | d :: ds => match f d, nkAll f ds with
    | some k, some ks => some (k :: ks)
    | _, _ => none
/-- data as a key -/
def nkD : Nat → D → Option NestedKey
  | _, .non => some .none
  | _, .bl b => some (.num (if b = true then 1 else 0))
  | _, .int i => some (.num i)
  | _, .str x => some (.text x)
  | n + 1, .tup ds => match nkAll (nkD n) ds with
    | some ks => some (.tup ks)
    | none => none
  | n + 1, .ktp ds => match nkAll (nkD n) ds with
    | some ks => some (.tup ks)
    | none => none
  | _, _ => none
inductive NKs (T : Tx) (G : Gd) (H : Hp) : List (NestedKey × Addr) → List D → Prop
  | nil : NKs T G H [] []
  | cons {k b d xs ds} : Rep T G H (.ref b) d → nkD 8 d = some k → NKs T G H xs ds → NKs T G H ((k, b) :: xs) (d :: ds)
theorem NKs.keep {T : Tx} {G : Gd} {H H' : Hp} (k : Keep H H') : ∀ {xs : List (NestedKey × Addr)} {ds : List D}, NKs T G H xs ds → NKs T G H' xs ds
  | _, _, .nil => .nil
  | _, _, .cons r e t => .cons (r.keep k) e (NKs.keep k t)
/-- a slot of a frame: nothing, shared data, or a thing of its own (list or dict, its items shared) -/
inductive Slot where
  | un
  | sh (d : D)
  | ow (d : D)
  | tr (d : D)
abbrev Env := List Slot
/-- a thing of its own at a -/
inductive Own (T : Tx) (G : Gd) (H : Hp) (a : Addr) : D → Prop
  | lst {xs ds} : H a = some (.lst xs) → xs.length ≤ sizeLine → Reps T G H xs ds → Own T G H a (.lst ds)
  | dicK {ps kvs} : H a = some (.dK ps) → (ps.length ≤ sizeLine ∧ ∀ p ∈ ps, kOk p.1) → kvs.map (·.1) = ps.map (fun p => dKey p.1) → Reps T G H (ps.map (·.2)) (kvs.map (·.2)) → Own T G H a (.dic kvs)
  | dicT {ps kvs} : H a = some (.dT ps) → (ps.length ≤ sizeLine ∧ ∀ p ∈ ps, ksOk p.1) → kvs.map (·.1) = ps.map (fun p => dKeys p.1) → Reps T G H (ps.map (·.2)) (kvs.map (·.2)) → Own T G H a (.dit kvs)
  | din {xs ks} : H a = some (nestO T.P T.w a xs) → NKs T G H xs ks → Own T G H a (.din ks)
  | obj {C dx fs c gs} : a = G.sf → T.mg c = some (.ref C) → H a = some (.ins C dx fs) → fs.length ≤ 100 → gs.map (·.1) = fs.map (·.1) → Reps T G H (fs.map (·.2)) (gs.map (·.2)) → Own T G H a (.obj c gs)
/-- a list or a dict -/
def cont : D → Bool
  | .lst _ => true
  | .dic _ => true
  | .dit _ => true
  | _ => false
theorem Own.there {T : Tx} {G : Gd} {H : Hp} {a : Addr} {d : D} (o : Own T G H a d) : ∃ u, H a = some u ∧ Mut (some u) := by
  cases o with
  | lst h _ _ => exact ⟨_, h, trivial⟩
  | obj _ _ h _ _ _ => exact ⟨_, h, trivial⟩
  | din h _ => exact ⟨_, h, trivial⟩
  | dicK h _ _ _ => exact ⟨_, h, trivial⟩
  | dicT h _ _ _ => exact ⟨_, h, trivial⟩
theorem code_ext (a : Addr) (q : Str) (φ : Heap → Prop) (h : ∀ h o, φ h → h.get? a = some o → ∃ es ep, o.data = .dict es ep) : HO.ext φ ≠ LamX.CodeO a q := fun z => by
  unfold LamX.CodeO at z
  have e : φ = _ := HO.ext.inj z
  obtain ⟨h0, hs⟩ : ∃ h0 : Heap, h0.objs.size = a := ⟨⟨Array.replicate a default, {}⟩, by simp⟩
  have hg : (h0.push { cls := .none, dict := none, data := .fields #[.none, .str q 0] }).get? a = some { cls := .none, dict := none, data := .fields #[.none, .str q 0] } := by
    subst hs; exact Heap.get?_push_size _ rfl
  have hp : φ (h0.push { cls := .none, dict := none, data := .fields #[.none, .str q 0] }) := by
    rw [e]; exact ⟨_, _, 0, hg, rfl, rfl⟩
  obtain ⟨es, ep, d⟩ := h _ _ hp hg
  cases d
theorem noCode_nest {P : Program} {w : World} {a : Addr} {xs : List (NestedKey × Addr)} : NoCode a (nestO P w a xs) := ⟨rfl, fun q => code_ext a q _ fun h o ⟨_, o', es, ep, e1, _, e2, _⟩ e => by
  rw [e] at e1; cases e1; exact ⟨es, ep, e2⟩⟩
theorem Own.noCode {T : Tx} {G : Gd} {H : Hp} {a : Addr} {d : D} {u : HO} (o : Own T G H a d) (hu : H a = some u) : NoCode a u := by
  cases o with
  | lst h _ _ => rw [hu] at h; cases h; exact noCode_lst
  | obj _ _ h _ _ _ => rw [hu] at h; cases h; exact noCode_ins
  | din h _ => rw [hu] at h; cases h; exact noCode_nest
  | dicK h _ _ _ => rw [hu] at h; cases h; exact noCode_dK
  | dicT h _ _ _ => rw [hu] at h; cases h; exact noCode_dT
theorem Own.nf {T : Tx} {G : Gd} {H : Hp} {a : Addr} {d : D} {u : HO} (o : Own T G H a d) (c : cont d = true) (h : H a = some u) : fz u = false := by
  cases o with
  | lst h' _ _ => rw [h] at h'; cases h'; rfl
  | dicK h' _ _ _ => rw [h] at h'; cases h'; rfl
  | dicT h' _ _ _ => rw [h] at h'; cases h'; rfl
  | obj _ _ _ _ _ _ => cases c
  | din _ _ => cases c
theorem Own.keep {T : Tx} {G : Gd} {H H' : Hp} {a : Addr} {d : D} (k : Keep H H') (e : ∀ u, H a = some u → H' a = some u) (o : Own T G H a d) : Own T G H' a d := by
  cases o with
  | lst h z r => exact .lst (e _ h) z (r.keep k)
  | obj y m h z q r => exact .obj y m (e _ h) z q (r.keep k)
  | din h r => exact .din (e _ h) (r.keep k)
  | dicK h z q r => exact .dicK (e _ h) z q (r.keep k)
  | dicT h z q r => exact .dicT (e _ h) z q (r.keep k)
/-! ### trees of one's own -/
mutual
/-- a tree: what is marked (mu) changes; F: where it stands -/
inductive Tree (T : Tx) (G : Gd) (H : Hp) : V → D → List Addr → Prop
  | sh {v d} : Rep T G H v d → Tree T G H v d []
  | lst {a xs ds F} : H a = some (.lst xs) → xs.length ≤ sizeLine → Trees T G H xs ds F → a ∉ F → Tree T G H (.ref a) (.mu (.lst ds)) (a :: F)
  | dicK {a ps kvs F} : H a = some (.dK ps) → (ps.length ≤ sizeLine ∧ ∀ p ∈ ps, kOk p.1) → kvs.map (·.1) = ps.map (fun p => dKey p.1) → Trees T G H (ps.map (·.2)) (kvs.map (·.2)) F → a ∉ F → Tree T G H (.ref a) (.mu (.dic kvs)) (a :: F)
  | dicT {a ps kvs F} : H a = some (.dT ps) → (ps.length ≤ sizeLine ∧ ∀ p ∈ ps, ksOk p.1) → kvs.map (·.1) = ps.map (fun p => dKeys p.1) → Trees T G H (ps.map (·.2)) (kvs.map (·.2)) F → a ∉ F → Tree T G H (.ref a) (.mu (.dit kvs)) (a :: F)
  | tup {a xs ds F} : H a = some (.tup xs) → xs.length ≤ sizeLine → Trees T G H xs ds F → Tree T G H (.ref a) (.mu (.tup ds)) F
  | obj {a C dx fs c gs F} : T.mg c = some (.ref C) → H a = some (.ins C dx fs) → doneF fs = false → fs.length ≤ 100 → gs.map (·.1) = fs.map (·.1) → Trees T G H (fs.map (·.2)) (gs.map (·.2)) F → a ∉ F → Tree T G H (.ref a) (.mu (.obj c gs)) (a :: F)
inductive Trees (T : Tx) (G : Gd) (H : Hp) : List V → List D → List Addr → Prop
  | nil : Trees T G H [] [] []
  | cons {v d vs ds F F'} : Tree T G H v d F → Trees T G H vs ds F' → (∀ x ∈ F, x ∉ F') → Trees T G H (v :: vs) (d :: ds) (F ++ F')
end
mutual
theorem Tree.keep {T : Tx} {G : Gd} {H H' : Hp} (k : Keep H H') : ∀ {v : V} {d : D} {F : List Addr}, (∀ x ∈ F, ∀ u, H x = some u → H' x = some u) → Tree T G H v d F → Tree T G H' v d F
  | _, _, _, _, .sh r => .sh (r.keep k)
  | _, _, _, e, .lst h z r n => .lst (e _ List.mem_cons_self _ h) z (Trees.keep k (fun x hx => e x (List.mem_cons_of_mem _ hx)) r) n
  | _, _, _, e, .dicK h z q r n => .dicK (e _ List.mem_cons_self _ h) z q (Trees.keep k (fun x hx => e x (List.mem_cons_of_mem _ hx)) r) n
  | _, _, _, e, .dicT h z q r n => .dicT (e _ List.mem_cons_self _ h) z q (Trees.keep k (fun x hx => e x (List.mem_cons_of_mem _ hx)) r) n
  | _, _, _, e, .tup h z r => .tup (k _ _ h rfl) z (Trees.keep k e r)
  | _, _, _, e, .obj m h f z q r n => .obj m (e _ List.mem_cons_self _ h) f z q (Trees.keep k (fun x hx => e x (List.mem_cons_of_mem _ hx)) r) n
theorem Trees.keep {T : Tx} {G : Gd} {H H' : Hp} (k : Keep H H') : ∀ {vs : List V} {ds : List D} {F : List Addr}, (∀ x ∈ F, ∀ u, H x = some u → H' x = some u) → Trees T G H vs ds F → Trees T G H' vs ds F
  | _, _, _, _, .nil => .nil
  | _, _, _, e, .cons r t n => .cons (Tree.keep k (fun x hx => e x (List.mem_append.mpr (.inl hx))) r) (Trees.keep k (fun x hx => e x (List.mem_append.mpr (.inr hx))) t) n
end
mutual
/-- all its places are things that change -/
theorem Tree.there {T : Tx} {G : Gd} {H : Hp} : ∀ {v : V} {d : D} {F : List Addr}, Tree T G H v d F → ∀ x ∈ F, ∃ u, H x = some u ∧ fz u = false
  | _, _, _, .sh _, x, hx => by cases hx
  | _, _, _, .lst h _ r _, x, hx => by
    rcases List.mem_cons.mp hx with rfl | hx
    · exact ⟨_, h, rfl⟩
    · exact Trees.there r x hx
  | _, _, _, .dicK h _ _ r _, x, hx => by
    rcases List.mem_cons.mp hx with rfl | hx
    · exact ⟨_, h, rfl⟩
    · exact Trees.there r x hx
  | _, _, _, .dicT h _ _ r _, x, hx => by
    rcases List.mem_cons.mp hx with rfl | hx
    · exact ⟨_, h, rfl⟩
    · exact Trees.there r x hx
  | _, _, _, .tup _ _ r, x, hx => Trees.there r x hx
  | _, _, _, .obj _ h f _ _ r _, x, hx => by
    rcases List.mem_cons.mp hx with rfl | hx
    · exact ⟨_, h, f⟩
    · exact Trees.there r x hx
theorem Trees.there {T : Tx} {G : Gd} {H : Hp} : ∀ {vs : List V} {ds : List D} {F : List Addr}, Trees T G H vs ds F → ∀ x ∈ F, ∃ u, H x = some u ∧ fz u = false
  | _, _, _, .nil, x, hx => by cases hx
  | _, _, _, .cons r t _, x, hx => by
    rcases List.mem_append.mp hx with hx | hx
    · exact Tree.there r x hx
    · exact Trees.there t x hx
end
mutual
theorem Tree.noCode {T : Tx} {G : Gd} {H : Hp} : ∀ {v : V} {d : D} {F : List Addr}, Tree T G H v d F → ∀ x ∈ F, ∀ u, H x = some u → NoCode x u
  | _, _, _, .sh _, x, hx, _, _ => by cases hx
  | _, _, _, .lst h _ r _, x, hx, u, hu => (List.mem_cons.mp hx).elim (fun e => by subst e; rw [h] at hu; cases hu; exact noCode_lst) fun hx => Trees.noCode r x hx u hu
  | _, _, _, .dicK h _ _ r _, x, hx, u, hu => (List.mem_cons.mp hx).elim (fun e => by subst e; rw [h] at hu; cases hu; exact noCode_dK) fun hx => Trees.noCode r x hx u hu
  | _, _, _, .dicT h _ _ r _, x, hx, u, hu => (List.mem_cons.mp hx).elim (fun e => by subst e; rw [h] at hu; cases hu; exact noCode_dT) fun hx => Trees.noCode r x hx u hu
  | _, _, _, .tup _ _ r, x, hx, u, hu => Trees.noCode r x hx u hu
  | _, _, _, .obj _ h _ _ _ r _, x, hx, u, hu => (List.mem_cons.mp hx).elim (fun e => by subst e; rw [h] at hu; cases hu; exact noCode_ins) fun hx => Trees.noCode r x hx u hu
theorem Trees.noCode {T : Tx} {G : Gd} {H : Hp} : ∀ {vs : List V} {ds : List D} {F : List Addr}, Trees T G H vs ds F → ∀ x ∈ F, ∀ u, H x = some u → NoCode x u
  | _, _, _, .nil, x, hx, _, _ => by cases hx
  | _, _, _, .cons r t _, x, hx, u, hu => (List.mem_append.mp hx).elim (fun hx => Tree.noCode r x hx u hu) fun hx => Trees.noCode t x hx u hu
end
mutual
/-- a tree's places are known by it -/
theorem Tree.uniq {T : Tx} {G : Gd} {H : Hp} : ∀ {v : V} {d : D} {F F' : List Addr}, Tree T G H v d F → Tree T G H v d F' → F = F'
  | _, _, _, _, .sh r, t => by
    cases t with
    | sh _ => rfl
    | _ => cases r
  | _, _, _, _, .lst h _ r _, t => by
    cases t with
    | sh r => cases r
    | lst h' _ r' _ => rw [h] at h'; cases h'; rw [Trees.uniq r r']
  | _, _, _, _, .dicK h _ _ r _, t => by
    cases t with
    | sh r => cases r
    | dicK h' _ _ r' _ => rw [h] at h'; cases h'; rw [Trees.uniq r r']
  | _, _, _, _, .dicT h _ _ r _, t => by
    cases t with
    | sh r => cases r
    | dicT h' _ _ r' _ => rw [h] at h'; cases h'; rw [Trees.uniq r r']
  | _, _, _, _, .tup h _ r, t => by
    cases t with
    | sh r => cases r
    | tup h' _ r' => rw [h] at h'; cases h'; rw [Trees.uniq r r']
  | _, _, _, _, .obj _ h _ _ _ r _, t => by
    cases t with
    | sh r => cases r
    | obj _ h' _ _ _ r' _ => rw [h] at h'; cases h'; rw [Trees.uniq r r']
theorem Trees.uniq {T : Tx} {G : Gd} {H : Hp} : ∀ {vs : List V} {ds : List D} {F F' : List Addr}, Trees T G H vs ds F → Trees T G H vs ds F' → F = F'
  | _, _, _, _, .nil, t => by cases t; rfl
  | _, _, _, _, .cons r t _, u => by
    cases u with
    | cons r' t' _ => rw [Tree.uniq r r', Trees.uniq t t']
end
/-- the trees of a frame stand apart from one another and from the other things of its own -/
def Trs (T : Tx) (G : Gd) (B : Hp) (σ : St) (H : Hp) (env : Env) : Prop :=
  (∀ (i : Nat) (d : D), env[i]? = some (.tr d) → ∃ v F, σ[i]? = some (some v) ∧ Tree T G H v d F ∧ ∀ x ∈ F, Fre B x ∧ x ≠ G.dd ∧ G.nl x) ∧
  (∀ (i j : Nat) (d e : D) (v u : V) (F F' : List Addr), env[i]? = some (.tr d) → env[j]? = some (.tr e) → i ≠ j → σ[i]? = some (some v) → σ[j]? = some (some u) → Tree T G H v d F → Tree T G H u e F' → ∀ x ∈ F, x ∉ F') ∧
  (∀ (i j : Nat) (d e : D) (v : V) (F : List Addr) (a : Addr), env[i]? = some (.tr d) → env[j]? = some (.ow e) → σ[i]? = some (some v) → Tree T G H v d F → σ[j]? = some (some (.ref a)) → a ∉ F)
/-- the frame's slots, the heap, the draw: as env and w say; B is the heap at the def's entry -/
structure Hold (T : Tx) (G : Gd) (B : Hp) (σ : St) (H : Hp) (env : Env) (w : Dr) : Prop where
  len : env.length = σ.length
  sh : ∀ (i : Nat) (d : D), env[i]? = some (.sh d) → ∃ v, σ[i]? = some (some v) ∧ Rep T G H v d
  ow : ∀ (i : Nat) (d : D), env[i]? = some (.ow d) → ∃ a, σ[i]? = some (some (.ref a)) ∧ Fre B a ∧ a ≠ G.dd ∧ G.nl a ∧ Own T G H a d
  ne : ∀ (i j : Nat) (d e : D) (a : Addr), env[i]? = some (.ow d) → env[j]? = some (.ow e) → σ[i]? = some (some (.ref a)) → σ[j]? = some (some (.ref a)) → i = j
  same : SameD G B H
  draw : DrawAt G H w
  tr : Trs T G B σ H env
section
variable {T : Tx} {G : Gd} {B : Hp} {σ : St} {H H' : Hp} {env : Env} {w w' : Dr}
theorem Trs.back (t : Trs T G B σ H env) (k : Keep H H') (s : ∀ (i : Nat) (d : D) (v : V) (F : List Addr), env[i]? = some (.tr d) → σ[i]? = some (some v) → Tree T G H v d F → ∀ x ∈ F, ∀ u, H x = some u → H' x = some u) {i : Nat} {d : D} {v : V} {F : List Addr} (e : env[i]? = some (.tr d)) (q : σ[i]? = some (some v)) (r : Tree T G H' v d F) : Tree T G H v d F := by
  obtain ⟨v0, F0, q0, r0, _⟩ := t.1 i d e
  rw [q] at q0
  cases q0
  have := (r0.keep k (s i d v F0 e q r0)).uniq r
  subst this
  exact r0
theorem Trs.move (t : Trs T G B σ H env) (k : Keep H H') (s : ∀ (i : Nat) (d : D) (v : V) (F : List Addr), env[i]? = some (.tr d) → σ[i]? = some (some v) → Tree T G H v d F → ∀ x ∈ F, ∀ u, H x = some u → H' x = some u) : Trs T G B σ H' env :=
  ⟨fun i d e => by
    obtain ⟨v, F, q, r, n⟩ := t.1 i d e
    exact ⟨v, F, q, r.keep k (s i d v F e q r), n⟩, fun i j d e v u F F' h1 h2 h3 h4 h5 h6 h7 => t.2.1 i j d e v u F F' h1 h2 h3 h4 h5 (t.back k s h1 h4 h6) (t.back k s h2 h5 h7), fun i j d e v F a h1 h2 h3 h4 h5 => t.2.2 i j d e v F a h1 h2 h3 (t.back k s h1 h3 h4) h5⟩
theorem Trs.go (t : Trs T G B σ H env) (k : Keep H H') (s : SameD G H H') : Trs T G B σ H' env := t.move k fun i d v F e q r x hx u hu => by
  obtain ⟨v0, F0, q0, r0, n⟩ := t.1 i d e
  rw [q] at q0
  cases q0
  have := r0.uniq r
  subst this
  exact s x u hu (n x hx).2.1 (n x hx).2.2 (r0.noCode x hx u hu).1
/-- p stands in no tree -/
def Hold.ApartT (T : Tx) (G : Gd) (H : Hp) (σ : St) (env : Env) (p : Addr) : Prop := ∀ (i : Nat) (d : D) (v : V) (F : List Addr), env[i]? = some (.tr d) → σ[i]? = some (some v) → Tree T G H v d F → p ∉ F
theorem Trs.sub {σ' : St} {env' : Env} (t : Trs T G B σ H env) (h1 : ∀ (j : Nat) (d : D), env'[j]? = some (.tr d) → env[j]? = some (.tr d) ∧ σ'[j]? = σ[j]?) (h2 : ∀ (j : Nat) (e : D) (a : Addr), env'[j]? = some (.ow e) → σ'[j]? = some (some (.ref a)) → (∃ e', env[j]? = some (.ow e') ∧ σ[j]? = some (some (.ref a))) ∨ Hold.ApartT T G H σ env a) : Trs T G B σ' H env' :=
  ⟨fun i d e => by
    obtain ⟨e1, q1⟩ := h1 i d e
    rw [q1]
    exact t.1 i d e1, fun i j d e v u F F' g1 g2 g3 g4 g5 g6 g7 => by
    obtain ⟨e1, q1⟩ := h1 i d g1
    obtain ⟨e2, q2⟩ := h1 j e g2
    rw [q1] at g4
    rw [q2] at g5
    exact t.2.1 i j d e v u F F' e1 e2 g3 g4 g5 g6 g7, fun i j d e v F a g1 g2 g3 g4 g5 => by
    obtain ⟨e1, q1⟩ := h1 i d g1
    rw [q1] at g3
    rcases h2 j e a g2 g5 with ⟨e', e2, q2⟩ | ap
    · exact t.2.2 i j d e' v F a e1 e2 g3 g4 q2
    · exact ap i d v F e1 g3 g4⟩
theorem Trs.none (h : ∀ (i : Nat) (d : D), env[i]? = some (.tr d) → False) : Trs T G B σ H env := ⟨fun i d e => (h i d e).elim, fun i j d e v u F F' g1 => (h i d g1).elim, fun i j d e v F a g1 => (h i d g1).elim⟩
theorem Hold.apartT {H1 : Hp} (h : Hold T G B σ H env w) (s : SameD G H H1) {p : Addr} {φ : Prop} [f : FreOf φ H p] (n0 : φ) : Hold.ApartT T G H1 σ env p := fun i d v F e q r hp => by
  have n := f.fre n0
  have r0 := h.tr.back (s.keep h.draw) (fun i d v F e q r x hx u hu => by
    obtain ⟨v0, F0, q0, r0, n⟩ := h.tr.1 i d e
    rw [q] at q0
    cases q0
    have := r0.uniq r
    subst this
    exact s x u hu (n x hx).2.1 (n x hx).2.2 (r0.noCode x hx u hu).1) e q r
  obtain ⟨u, hu, _⟩ := r0.there p hp
  exact n.not hu (r0.noCode p hp u hu).1
/-- behind an expression: nothing that stood is touched, but for the draw -/
theorem Hold.go (h : Hold T G B σ H env w) (s : SameD G H H') (d : DrawAt G H' w') : Hold T G B σ H' env w' where
  len := h.len
  sh := fun i e q => by
    obtain ⟨v, a, b⟩ := h.sh i e q
    exact ⟨v, a, b.keep (s.keep h.draw)⟩
  ow := fun i e q => by
    obtain ⟨a, h1, h2, h3, h4, h5⟩ := h.ow i e q
    exact ⟨a, h1, h2, h3, h4, h5.keep (s.keep h.draw) fun u z => s a u z h3 h4 (h5.noCode z).1⟩
  ne := h.ne
  same := h.same.trans s
  draw := d
  tr := h.tr.go (s.keep h.draw) s
theorem DrawAt.go (h : DrawAt G H w) (s : Same H H') : DrawAt G H' w :=
  ⟨s _ _ h.dd, s _ _ h.dl, let ⟨o, q⟩ := h.dc; ⟨o, s _ _ q⟩, h.tb.ext s⟩
theorem SameD.of {G : Gd} {H H' : Hp} (s : Same H H') : SameD G H H' := fun a o e _ _ _ => s a o e
theorem same_new {H : Hp} {p : Addr} (o : HO) (h : H p = none) : Same H (upd H p o) := fun a u e => by
  rw [upd_ne (ne_of_none e h)]; exact e
theorem Hold.new (h : Hold T G B σ H env w) {p : Addr} (o : HO) (n : H p = none) : Hold T G B σ (upd H p o) env w := h.go (.of (same_new o n)) (h.draw.go (same_new o n))
theorem Hold.get {i : Nat} {s : Slot} (h : Hold T G B σ H env w) (e : env[i]? = some s) : i < σ.length := by
  rw [← h.len]; exact (List.getElem?_eq_some_iff.mp e).1
/-- a slot is set to shared data -/
theorem Hold.setSh (h : Hold T G B σ H env w) {i : Nat} {v : V} {d : D} (r : Rep T G H v d) (hi : i < σ.length) : Hold T G B (σ.set i (some v)) H (env.set i (.sh d)) w := by
  have hl := h.len
  refine ⟨by simp [h.len], fun j e q => ?_, fun j e q => ?_, fun j k e f a q1 q2 q3 q4 => ?_, h.same, h.draw, ?_⟩
  · by_cases hj : i = j
    · subst hj
      rw [List.getElem?_set_self (by omega)] at q
      cases q
      exact ⟨v, by rw [List.getElem?_set_self hi], r⟩
    · rw [List.getElem?_set_ne hj] at q
      obtain ⟨u, a, b⟩ := h.sh j e q
      exact ⟨u, by rw [List.getElem?_set_ne hj]; exact a, b⟩
  · by_cases hj : i = j
    · subst hj
      rw [List.getElem?_set_self (by omega)] at q
      cases q
    · rw [List.getElem?_set_ne hj] at q
      obtain ⟨u, a, b⟩ := h.ow j e q
      exact ⟨u, by rw [List.getElem?_set_ne hj]; exact a, b⟩
  · have n1 : i ≠ j := fun z => by subst z; rw [List.getElem?_set_self (by omega)] at q1; cases q1
    have n2 : i ≠ k := fun z => by subst z; rw [List.getElem?_set_self (by omega)] at q2; cases q2
    rw [List.getElem?_set_ne n1] at q1 q3
    rw [List.getElem?_set_ne n2] at q2 q4
    exact h.ne j k e f a q1 q2 q3 q4
  · refine h.tr.sub (fun j d e => ?_) (fun j e a q z => ?_)
    · have hj : i ≠ j := fun z => by subst z; rw [List.getElem?_set_self (by omega)] at e; cases e
      rw [List.getElem?_set_ne hj] at e
      exact ⟨e, by rw [List.getElem?_set_ne hj]⟩
    · have hj : i ≠ j := fun z => by subst z; rw [List.getElem?_set_self (by omega)] at q; cases q
      rw [List.getElem?_set_ne hj] at q z
      exact .inl ⟨e, q, z⟩
theorem Hold.setUn (h : Hold T G B σ H env w) {i : Nat} {v : Option V} (hi : i < σ.length) : Hold T G B (σ.set i v) H (env.set i .un) w := by
  have hl := h.len
  refine ⟨by simp [h.len], fun j e q => ?_, fun j e q => ?_, fun j k e f a q1 q2 q3 q4 => ?_, h.same, h.draw, ?_⟩
  · by_cases hj : i = j
    · subst hj
      rw [List.getElem?_set_self (by omega)] at q
      cases q
    · rw [List.getElem?_set_ne hj] at q
      obtain ⟨u, a, b⟩ := h.sh j e q
      exact ⟨u, by rw [List.getElem?_set_ne hj]; exact a, b⟩
  · by_cases hj : i = j
    · subst hj
      rw [List.getElem?_set_self (by omega)] at q
      cases q
    · rw [List.getElem?_set_ne hj] at q
      obtain ⟨u, a, b⟩ := h.ow j e q
      exact ⟨u, by rw [List.getElem?_set_ne hj]; exact a, b⟩
  · have n1 : i ≠ j := fun z => by subst z; rw [List.getElem?_set_self (by omega)] at q1; cases q1
    have n2 : i ≠ k := fun z => by subst z; rw [List.getElem?_set_self (by omega)] at q2; cases q2
    rw [List.getElem?_set_ne n1] at q1 q3
    rw [List.getElem?_set_ne n2] at q2 q4
    exact h.ne j k e f a q1 q2 q3 q4
  · refine h.tr.sub (fun j d e => ?_) (fun j e a q z => ?_)
    · have hj : i ≠ j := fun z => by subst z; rw [List.getElem?_set_self (by omega)] at e; cases e
      rw [List.getElem?_set_ne hj] at e
      exact ⟨e, by rw [List.getElem?_set_ne hj]⟩
    · have hj : i ≠ j := fun z => by subst z; rw [List.getElem?_set_self (by omega)] at q; cases q
      rw [List.getElem?_set_ne hj] at q z
      exact .inl ⟨e, q, z⟩
/-- where an own slot stands -/
def Hold.Apart (σ : St) (env : Env) (p : Addr) : Prop := ∀ (i : Nat) (d : D), env[i]? = some (.ow d) → σ[i]? ≠ some (some (.ref p))
theorem Hold.apart (h : Hold T G B σ H env w) {p : Addr} {φ : Prop} [f : FreOf φ H p] (n0 : φ) : Hold.Apart σ env p := fun i d e q => by
  have n := f.fre n0
  obtain ⟨a, h1, _, _, _, h5⟩ := h.ow i d e
  rw [q] at h1
  cases h1
  obtain ⟨u, e, _⟩ := h5.there
  exact n.not e (h5.noCode e).1
/-- a slot is set to a new thing of its own -/
theorem Hold.setOw (h : Hold T G B σ H env w) {i : Nat} {p : Addr} {d : D} (ap : Hold.Apart σ env p) (nb : Fre B p) (n1 : p ≠ G.dd) (n2 : G.nl p) (apt : Hold.ApartT T G H σ env p) (r : Own T G H p d) (hi : i < σ.length) : Hold T G B (σ.set i (some (.ref p))) H (env.set i (.ow d)) w := by
  have hl := h.len
  refine ⟨by simp [h.len], fun j e q => ?_, fun j e q => ?_, fun j k e f a q1 q2 q3 q4 => ?_, h.same, h.draw, ?_⟩
  · by_cases hj : i = j
    · subst hj
      rw [List.getElem?_set_self (by omega)] at q
      cases q
    · rw [List.getElem?_set_ne hj] at q
      obtain ⟨u, a, b⟩ := h.sh j e q
      exact ⟨u, by rw [List.getElem?_set_ne hj]; exact a, b⟩
  · by_cases hj : i = j
    · subst hj
      rw [List.getElem?_set_self (by omega)] at q
      cases q
      exact ⟨p, by rw [List.getElem?_set_self hi], nb, n1, n2, r⟩
    · rw [List.getElem?_set_ne hj] at q
      obtain ⟨u, a, b⟩ := h.ow j e q
      exact ⟨u, by rw [List.getElem?_set_ne hj]; exact a, b⟩
  · by_cases hj : i = j
    · by_cases hk : i = k
      · exact hj.symm.trans hk
      · subst hj
        rw [List.getElem?_set_ne hk] at q2 q4
        rw [List.getElem?_set_self hi] at q3
        cases q3
        exact absurd q4 (ap k f q2)
    · by_cases hk : i = k
      · subst hk
        rw [List.getElem?_set_ne hj] at q1 q3
        rw [List.getElem?_set_self hi] at q4
        cases q4
        exact absurd q3 (ap j e q1)
      · rw [List.getElem?_set_ne hj] at q1 q3
        rw [List.getElem?_set_ne hk] at q2 q4
        exact h.ne j k e f a q1 q2 q3 q4
  · refine h.tr.sub (fun j d e => ?_) (fun j e a q z => ?_)
    · have hj : i ≠ j := fun z => by subst z; rw [List.getElem?_set_self (by omega)] at e; cases e
      rw [List.getElem?_set_ne hj] at e
      exact ⟨e, by rw [List.getElem?_set_ne hj]⟩
    · by_cases hj : i = j
      · subst hj
        rw [List.getElem?_set_self hi] at z
        cases z
        exact .inr apt
      · rw [List.getElem?_set_ne hj] at q z
        exact .inl ⟨e, q, z⟩
/-- an own thing of slot i is changed -/
theorem Hold.mutOw (h : Hold T G B σ H env w) {i : Nat} {a : Addr} {d d' : D} {o : HO} (e : env[i]? = some (.ow d)) (ea : σ[i]? = some (some (.ref a))) (nf : ∀ u, H a = some u → fz u = false) (r : Own T G (upd H a o) a d') : Hold T G B σ (upd H a o) (env.set i (.ow d')) w := by
  obtain ⟨a', h1, nb, n1, n2, h5⟩ := h.ow i d e
  rw [ea] at h1
  cases h1
  obtain ⟨u, hu, _⟩ := h5.there
  have fu := nf u hu
  have kp : Keep H (upd H a o) := Keep.mut o hu fu
  have hl := h.len
  have hi := h.get e
  refine ⟨by simp [h.len], fun j e' q => ?_, fun j e' q => ?_, fun j k e1 f b q1 q2 q3 q4 => ?_, fun b u' q m1 m2 m3 => ?_, ?_, ?_⟩
  · have hj : i ≠ j := fun z => by subst z; rw [List.getElem?_set_self (by omega)] at q; cases q
    rw [List.getElem?_set_ne hj] at q
    obtain ⟨v, x, y⟩ := h.sh j e' q
    exact ⟨v, x, y.keep kp⟩
  · by_cases hj : i = j
    · subst hj
      rw [List.getElem?_set_self (by omega)] at q
      cases q
      exact ⟨a, ea, nb, n1, n2, r⟩
    · rw [List.getElem?_set_ne hj] at q
      obtain ⟨b, x1, x2, x3, x4, x5⟩ := h.ow j e' q
      refine ⟨b, x1, x2, x3, x4, x5.keep kp fun u' z => ?_⟩
      have : b ≠ a := fun z => by subst z; exact hj (h.ne i j d e' b e q ea x1)
      rw [upd_ne this]; exact z
  · have f1 : ∃ d1, env[j]? = some (.ow d1) := by
      by_cases hj : i = j
      · subst hj; exact ⟨d, e⟩
      · rw [List.getElem?_set_ne hj] at q1; exact ⟨_, q1⟩
    have f2 : ∃ d1, env[k]? = some (.ow d1) := by
      by_cases hj : i = k
      · subst hj; exact ⟨d, e⟩
      · rw [List.getElem?_set_ne hj] at q2; exact ⟨_, q2⟩
    obtain ⟨d1, f1⟩ := f1
    obtain ⟨d2, f2⟩ := f2
    exact h.ne j k d1 d2 b f1 f2 q3 q4
  · have : b ≠ a := fun z => by subst z; exact nb.not q m3
    rw [upd_ne this]; exact h.same b u' q m1 m2 m3
  · have dd := h.draw
    have na : G.dc ≠ a := fun z => by obtain ⟨o', q⟩ := dd.dc; rw [z, hu] at q; cases q; cases fu
    exact ⟨by rw [upd_ne (Ne.symm n1)]; exact dd.dd, by rw [upd_ne (Ne.symm n2)]; exact dd.dl, let ⟨o', q⟩ := dd.dc; ⟨o', by rw [upd_ne na]; exact q⟩, tabs_upd _ dd.tb hu (h5.noCode hu)⟩
  · have t := h.tr.move kp fun j dj vj F ej qj rj x hx u' hu' => by
      have : x ≠ a := fun z => by subst z; exact h.tr.2.2 j i dj d vj F x ej e qj rj ea hx
      rw [upd_ne this]; exact hu'
    refine t.sub (fun j dj ej => ?_) (fun j ej b q z => ?_)
    · have hj : i ≠ j := fun z => by subst z; rw [List.getElem?_set_self (by omega)] at ej; cases ej
      rw [List.getElem?_set_ne hj] at ej
      exact ⟨ej, rfl⟩
    · by_cases hj : i = j
      · subst hj
        exact .inl ⟨d, e, z⟩
      · rw [List.getElem?_set_ne hj] at q
        exact .inl ⟨ej, q, z⟩
/-- an own thing of slot i never changes from now on -/
theorem Own.frz {a : Addr} {d : D} {od : Obj} {u : HO} (r : Own T G H a d) (c : cont d = true) (hu : H a = some u) : Rep T G (upd H a (.frz od u)) (.ref a) d := by
  have fu := r.nf c hu
  have kp : Keep H (upd H a (.frz od u)) := Keep.mut _ hu fu
  cases r with
  | lst h z r => rw [hu] at h; cases h; exact .lst ⟨od, upd_same⟩ z (r.keep kp)
  | dicK h z q r => rw [hu] at h; cases h; exact .dicK upd_same z q (r.keep kp)
  | dicT h z q r => rw [hu] at h; cases h; exact .dicT upd_same z q (r.keep kp)
  | obj _ _ _ _ _ _ => cases c
  | din _ _ => cases c
/-- a new thing that is in no slot is changed -/
theorem Hold.side (h : Hold T G B σ H env w) {p : Addr} {u : HO} (o : HO) (hu : H p = some u) (nc : NoCode p u) (fu : fz u = false) (ap : Hold.Apart σ env p) (nb : Fre B p) (n1 : p ≠ G.dd) (n2 : G.nl p) (apt : Hold.ApartT T G H σ env p) : Hold T G B σ (upd H p o) env w := by
  have kp : Keep H (upd H p o) := Keep.mut _ hu fu
  refine ⟨h.len, fun j e q => ?_, fun j e q => ?_, h.ne, fun b u' q m1 m2 m3 => ?_, ?_, h.tr.move kp fun j dj vj F ej qj rj x hx u' hu' => ?_⟩
  · obtain ⟨v, x, y⟩ := h.sh j e q
    exact ⟨v, x, y.keep kp⟩
  · obtain ⟨b, x1, x2, x3, x4, x5⟩ := h.ow j e q
    refine ⟨b, x1, x2, x3, x4, x5.keep kp fun u' z => ?_⟩
    have : b ≠ p := fun z => by subst z; exact ap j e q x1
    rw [upd_ne this]; exact z
  · have : b ≠ p := fun z => by subst z; exact nb.not q m3
    rw [upd_ne this]; exact h.same b u' q m1 m2 m3
  · have dd := h.draw
    have na : G.dc ≠ p := fun z => by obtain ⟨o', q⟩ := dd.dc; rw [z, hu] at q; cases q; cases fu
    exact ⟨by rw [upd_ne (Ne.symm n1)]; exact dd.dd, by rw [upd_ne (Ne.symm n2)]; exact dd.dl, let ⟨o', q⟩ := dd.dc; ⟨o', by rw [upd_ne na]; exact q⟩, tabs_upd _ dd.tb hu nc⟩
  · have : x ≠ p := fun z => by subst z; exact apt j dj vj F ej qj rj hx
    rw [upd_ne this]; exact hu'
/-- a fresh own thing, in no slot, never changes from now on -/
theorem Hold.lock (h : Hold T G B σ H env w) {p : Addr} {u : HO} (od : Obj) (hu : H p = some u) (nc : NoCode p u) (fu : fz u = false) (ap : Hold.Apart σ env p) (nb : Fre B p) (n1 : p ≠ G.dd) (n2 : G.nl p) (apt : Hold.ApartT T G H σ env p) : Hold T G B σ (upd H p (.frz od u)) env w := h.side _ hu nc fu ap nb n1 n2 apt
/-- an own thing of slot i never changes from now on -/
theorem Hold.frzOw (h : Hold T G B σ H env w) {i : Nat} {a : Addr} {d : D} {u : HO} (od : Obj) (e : env[i]? = some (.ow d)) (c : cont d = true) (ea : σ[i]? = some (some (.ref a))) (hu : H a = some u) : Hold T G B σ (upd H a (.frz od u)) (env.set i (.sh d)) w := by
  obtain ⟨a', h1, nb, n1, n2, h5⟩ := h.ow i d e
  rw [ea] at h1
  cases h1
  have hi := h.get e
  have h' := h.setUn (v := none) hi
  have fu := h5.nf c hu
  have ap : Hold.Apart (σ.set i none) (env.set i .un) a := fun j e' q z => by
    have hj : i ≠ j := fun z => by subst z; rw [List.getElem?_set_self (by rw [h.len]; exact hi)] at q; cases q
    rw [List.getElem?_set_ne hj] at q z
    exact hj (h.ne i j d e' a e q ea z)
  have apt : Hold.ApartT T G H (σ.set i none) (env.set i .un) a := fun j dj vj F ej qj rj hx => by
    have hj : i ≠ j := fun z => by subst z; rw [List.getElem?_set_self (by rw [h.len]; exact hi)] at ej; cases ej
    rw [List.getElem?_set_ne hj] at ej qj
    exact h.tr.2.2 j i dj d vj F a ej e qj rj ea hx
  have h2 := (h'.side (.frz od u) hu (h5.noCode hu) fu ap nb n1 n2 apt).setSh (i := i) (h5.frz (od := od) c hu) (by rw [List.length_set]; exact hi)
  rw [List.set_set, List.set_set] at h2
  have e3 : σ.set i (some (.ref a)) = σ := by
    apply List.ext_getElem?
    intro j
    by_cases hj : i = j
    · subst hj; rw [List.getElem?_set_self hi, ea]
    · rw [List.getElem?_set_ne hj]
  rw [e3] at h2
  exact h2
end
end Dl
set_option Elab.async false
set_option linter.all false
set_option maxRecDepth 100000
set_option maxHeartbeats 4000000
/-! D1: judgements over data, expressions, statements, loops, comprehensions, defs. -/
namespace Dl
open PySem PySem.Spec L2
abbrev E := Env → Dr → Option (D × Dr)
abbrev EA := Env → Dr → Option (List D × Dr)
inductive Fl where
  | nx (env : Env)
  | rt (d : D)
  | ro (d : D)
  | bk (env : Env)
  | ct (env : Env)
abbrev S := Env → Dr → Option (Fl × Dr)
/-- a def, by its arguments -/
abbrev Fn := List D → Dr → Option (D × Dr)
/-! ### readings -/
def tD (T : Tx) (f : E) : TE := fun σ H Q => ∃ G B env w d w', Hold T G B σ H env w ∧ f env w = some (d, w') ∧
  ∀ v H', SameD G H H' → Hold T G B σ H' env w' → Rep T G H' v d → Q v H'
def tDO (T : Tx) (f : E) : TE := fun σ H Q => ∃ G B env w d w', Hold T G B σ H env w ∧ f env w = some (d, w') ∧
  ∀ p H', Fre H p → SameD G H H' → Hold T G B σ H' env w' → Own T G H' p d → Q (.ref p) H'
def tDT (T : Tx) (f : E) : TT := fun σ H Q => ∃ G B env w b w', Hold T G B σ H env w ∧ f env w = some (.bl b, w') ∧
  ∀ H', SameD G H H' → Hold T G B σ H' env w' → Q b H'
def tDA (T : Tx) (f : EA) : TA := fun σ H Q => ∃ G B env w ds w', Hold T G B σ H env w ∧ f env w = some (ds, w') ∧
  ∀ vs H', SameD G H H' → Hold T G B σ H' env w' → Reps T G H' vs ds → Q vs H'
/-- what is walked: turn i gives the i-th datum, as long as what never changes stands -/
def ItOk (T : Tx) (G : Gd) (J : It) (H : Hp) (ds : List D) : Prop := ds.length ≤ sizeLine ∧ ∀ (i : Nat) (H2 : Hp), Keep H H2 →
  (∀ d, ds[i]? = some d → J.go i H2 ∧ ∀ x H3, J.yld i H2 x H3 → Same H2 H3 ∧ Rep T G H3 x d) ∧ (ds.length ≤ i → J.stop i H2)
def tDI (T : Tx) (f : EA) : TI := fun σ H R => ∃ G B env w ds w', Hold T G B σ H env w ∧ f env w = some (ds, w') ∧
  ∀ J H', SameD G H H' → Hold T G B σ H' env w' → ItOk T G J H' ds → R J H'
def endD (T : Tx) (G : Gd) (B H : Hp) (D : Ends) : Fl → Dr → Prop
  | .nx env', w' => ∀ σ' H', Keep H H' → Hold T G B σ' H' env' w' → D.nx σ' H'
  | .bk env', w' => ∀ σ' H', Keep H H' → Hold T G B σ' H' env' w' → D.bk σ' H'
  | .ct env', w' => ∀ σ' H', Keep H H' → Hold T G B σ' H' env' w' → D.ct σ' H'
  | .rt d, w' => ∀ v H', SameD G B H' → DrawAt G H' w' → Rep T G H' v d → D.rt v H'
  | .ro d, w' => ∀ p H', Fre B p → SameD G B H' → DrawAt G H' w' → Own T G H' p d → D.rt (.ref p) H'
def tDS (T : Tx) (f : S) : TS := fun D σ H => ∃ G B env w fl w', Hold T G B σ H env w ∧ f env w = some (fl, w') ∧ endD T G B H D fl w'
abbrev DE (X : Cx) (e : Expr) (f : E) : Prop := PE X e (tD (tx X) f)
abbrev DO (X : Cx) (e : Expr) (f : E) : Prop := PE X e (tDO (tx X) f)
abbrev DT (X : Cx) (e : Expr) (f : E) : Prop := PT X e (tDT (tx X) f)
abbrev DW (X : Cx) (e : Expr) (f : E) : Prop := PW X e (tDT (tx X) f)
abbrev DA (X : Cx) (es : List Expr) (f : EA) : Prop := PA X es (tDA (tx X) f)
abbrev DI (X : Cx) (tg e : Expr) (f : EA) : Prop := PI X tg e (tDI (tx X) f)
abbrev DS (X : Cx) (st : Stmt) (f : S) : Prop := PS X st (tDS (tx X) f)
abbrev DSs (X : Cx) (st : List Stmt) (f : S) : Prop := PSs X st (tDS (tx X) f)
theorem pe_imp {X : Cx} {e : Expr} {t t' : TE} (h : PE X e t) (k : ∀ σ H Q, t' σ H Q → t σ H Q) : PE X e t' := ⟨fun pins s σ H Q I q => h.run pins s σ H Q I (k σ H Q q)⟩
theorem pt_imp {X : Cx} {e : Expr} {t t' : TT} (h : PT X e t) (k : ∀ σ H Q, t' σ H Q → t σ H Q) : PT X e t' := ⟨fun pins s σ H Q I q => h.run pins s σ H Q I (k σ H Q q)⟩
theorem pw_imp {X : Cx} {e : Expr} {t t' : TT} (h : PW X e t) (k : ∀ σ H Q, t' σ H Q → t σ H Q) : PW X e t' := ⟨fun wh pins s σ H Q I q => h.run wh pins s σ H Q I (k σ H Q q)⟩
theorem pa_imp {X : Cx} {e : List Expr} {t t' : TA} (h : PA X e t) (k : ∀ σ H Q, t' σ H Q → t σ H Q) : PA X e t' := ⟨fun pos pins s σ H Q I q => h.run pos pins s σ H Q I (k σ H Q q)⟩
theorem pi_imp {X : Cx} {tg e : Expr} {t t' : TI} (h : PI X tg e t) (k : ∀ σ H Q, t' σ H Q → t σ H Q) : PI X tg e t' := ⟨fun pins s σ H Q I q => h.run pins s σ H Q I (k σ H Q q)⟩
theorem ps_imp {X : Cx} {e : Stmt} {t t' : TS} (h : PS X e t) (k : ∀ D σ H, t' D σ H → t D σ H) : PS X e t' := ⟨fun pins s σ H D I q => h.run pins s σ H D I (k D σ H q)⟩
theorem pss_imp {X : Cx} {e : List Stmt} {t t' : TS} (h : PSs X e t) (k : ∀ D σ H, t' D σ H → t D σ H) : PSs X e t' := ⟨fun pins s σ H D I q => h.run pins s σ H D I (k D σ H q)⟩
theorem pg_imp {X : Cx} {e : Expr} {t t' : TG} (h : PG X e t) (k : ∀ v σ H Q, t' v σ H Q → t v σ H Q) : PG X e t' := ⟨fun pins s σ H v u Q I r q => h.run pins s σ H v u Q I r (k v σ H Q q)⟩
section
variable {T : Tx} {G : Gd} {B : Hp} {σ : St} {H : Hp} {env : Env} {w : Dr}
theorem Hold.nb (h : Hold T G B σ H env w) {p : Addr} {φ : Prop} [f : FreOf φ H p] (n0 : φ) : Fre B p ∧ p ≠ G.dd ∧ G.nl p := by
  have n := f.fre n0
  have n1 : p ≠ G.dd := fun z => n.not (z ▸ h.draw.dd) rfl
  have n2 : p ≠ G.dl := fun z => n.not (z ▸ h.draw.dl) rfl
  refine ⟨fun o q => ?_, n1, n2⟩
  cases t : isTbl o with
  | true => rfl
  | false => exact n.not (h.same p o q n1 n2 t) t
/-- what is free now was free before -/
theorem Hold.back {H0 : Hp} (h : Hold T G B σ H env w) (s : SameD G H0 H) {p : Addr} {φ : Prop} [f : FreOf φ H p] (n0 : φ) : Fre H0 p := by
  have n := f.fre n0
  obtain ⟨_, n1, n2⟩ := h.nb n
  intro o q
  cases t : isTbl o with
  | true => rfl
  | false => exact n.not (s p o q n1 n2 t) t
end
/-! ### names and constants -/
def eC (d : D) : E := fun _ w => some (d, w)
def eVar (i : Nat) : E := fun env w => match env[i]? with
  | some (.sh d) => some (d, w)
  | _ => none
def e1 (g : D → Option D) (a : E) : E := fun env w => match a env w with
  | some (x, w1) => match g x with
    | some d => some (d, w1)
    | none => none
  | none => none
def e2 (g : D → D → Option D) (a b : E) : E := fun env w => match a env w with
  | some (x, w1) => match b env w1 with
    | some (y, w2) => match g x y with
      | some d => some (d, w2)
      | none => none
    | none => none
  | none => none
def eAnd (a b : E) : E := fun env w => match a env w with
  | some (.bl true, w1) => b env w1
  | some (.bl false, w1) => some (.bl false, w1)
  | _ => none
def eOr (a b : E) : E := fun env w => match a env w with
  | some (.bl true, w1) => some (.bl true, w1)
  | some (.bl false, w1) => b env w1
  | _ => none
def eNot (a : E) : E := fun env w => match a env w with
  | some (.bl b, w1) => some (.bl (!b), w1)
  | _ => none
def eIf (t a b : E) : E := fun env w => match t env w with
  | some (.bl true, w1) => a env w1
  | some (.bl false, w1) => b env w1
  | _ => none
def aNil : EA := fun _ w => some ([], w)
def aCons (a : E) (r : EA) : EA := fun env w => match a env w with
  | some (x, w1) => match r env w1 with
    | some (xs, w2) => some (x :: xs, w2)
    | none => none
  | none => none
/-- a call, by what it does with the arguments -/
def eApp (φ : Fn) (a : EA) : E := fun env w => match a env w with
  | some (xs, w1) => φ xs w1
  | none => none
/-- a built-in's call -/
def eBi (g : List D → Option D) (a : EA) : E := eApp (fun xs w => match g xs with
  | some d => some (d, w)
  | none => none) a
theorem e1_some {g : D → Option D} {a : E} {env : Env} {w w' : Dr} {d : D} (h : e1 g a env w = some (d, w')) : ∃ x, a env w = some (x, w') ∧ g x = some d := by
  unfold e1 at h
  split at h
  · split at h
    · cases h; exact ⟨_, ‹_›, ‹_›⟩
    · cases h
  · cases h
theorem e2_some {g : D → D → Option D} {a b : E} {env : Env} {w w' : Dr} {d : D} (h : e2 g a b env w = some (d, w')) : ∃ x w1 y, a env w = some (x, w1) ∧ b env w1 = some (y, w') ∧ g x y = some d := by
  unfold e2 at h
  split at h
  · split at h
    · split at h
      · cases h; exact ⟨_, _, _, ‹_›, ‹_›, ‹_›⟩
      · cases h
    · cases h
  · cases h
theorem aCons_some {a : E} {r : EA} {env : Env} {w w' : Dr} {ds : List D} (h : aCons a r env w = some (ds, w')) : ∃ x w1 xs, a env w = some (x, w1) ∧ r env w1 = some (xs, w') ∧ ds = x :: xs := by
  unfold aCons at h
  split at h
  · split at h
    · cases h; exact ⟨_, _, _, ‹_›, ‹_›, rfl⟩
    · cases h
  · cases h
theorem eApp_some {φ : Fn} {a : EA} {env : Env} {w w' : Dr} {d : D} (h : eApp φ a env w = some (d, w')) : ∃ xs w1, a env w = some (xs, w1) ∧ φ xs w1 = some (d, w') := by
  unfold eApp at h
  split at h
  · exact ⟨_, _, ‹_›, h⟩
  · cases h
theorem eBi_some {g : List D → Option D} {a : EA} {env : Env} {w w' : Dr} {d : D} (h : eBi g a env w = some (d, w')) : ∃ xs, a env w = some (xs, w') ∧ g xs = some d := by
  obtain ⟨xs, w1, e, q⟩ := eApp_some h
  split at q
  · cases q; exact ⟨_, e, ‹_›⟩
  · cases q
section
variable {X : Cx} {pos : Pos} {a b c : Expr} {fa fb fc : E}
theorem de_var (i : Nat) {x : Str} (h : PE X (.Name x pos) (tVar i)) : DE X (.Name x pos) (eVar i) := pe_imp h fun σ H Q ⟨G, B, env, w, d, w', hd, e, k⟩ => by
  unfold eVar at e
  split at e
  · cases e
    obtain ⟨v, e1, r⟩ := hd.sh i _ ‹_›
    exact ⟨v, e1, k v H (.refl _ _) hd r⟩
  · cases e
theorem de_c {e : Expr} {v : V} {d : D} (h : PE X e (tC v)) (r : ∀ G H, Rep (tx X) G H v d) : DE X e (eC d) := pe_imp h fun σ H Q ⟨G, B, env, w, d', w', hd, e, k⟩ => by
  cases e
  exact k v H (.refl _ _) hd (r G H)
theorem de_int {i j} : DE X (.Constant (.int i) j pos) (eC (.int i)) := de_c pe_int fun _ _ => .int _
theorem de_bl {i j} : DE X (.Constant (.bool i) j pos) (eC (.bl i)) := de_c pe_bl fun _ _ => .bl _
theorem de_str {i j} (h : sB i = true := by decide +kernel) : DE X (.Constant (.str i) j pos) (eC (.str i)) := de_c pe_str fun _ _ => .str h
theorem de_non {j} : DE X (.Constant .none j pos) (eC .non) := de_c pe_non fun _ _ => .non
/-! ### operators by values -/
/-- what an operator of the machine does with data -/
def Op2 (X : Cx) (f : Value → Value → Sem Value) (g : D → D → Option D) : Prop := ∃ r : R2, OpR X f r ∧
  ∀ (G : Gd) (H : Hp) (w : Dr) (x y : V) (dx dy d : D) (Q : VK), DrawAt G H w → Rep (tx X) G H x dx → Rep (tx X) G H y dy → g dx dy = some d → (∀ v H', Same H H' → Rep (tx X) G H' v d → Q v H') → r x y H Q
theorem tOp_of {r : R2} {g : D → D → Option D} (hr : ∀ (G : Gd) (H : Hp) (w : Dr) (x y : V) (dx dy d : D) (Q : VK), DrawAt G H w → Rep (tx X) G H x dx → Rep (tx X) G H y dy → g dx dy = some d → (∀ v H', Same H H' → Rep (tx X) G H' v d → Q v H') → r x y H Q) :
    ∀ σ H Q, tD (tx X) (e2 g fa fb) σ H Q → tOp r (tD (tx X) fa) (tD (tx X) fb) σ H Q := fun σ H Q ⟨G, B, env, w, d, w', hd, e, k⟩ => by
  obtain ⟨x, w1, y, ea, eb, eg⟩ := e2_some e
  refine ⟨G, B, env, w, x, w1, hd, ea, fun v1 H1 s1 h1 r1 => ⟨G, B, env, w1, y, w', h1, eb, fun v2 H2 s2 h2 r2 => ?_⟩⟩
  refine hr G H2 w' v1 v2 x y d Q h2.draw (r1.keep (s2.keep h1.draw)) r2 eg fun v H' s r => ?_
  exact k v H' ((s1.trans s2).trans (.of s)) (h2.go (.of s) (h2.draw.go s)) r
theorem de_bin {op : Operator} {g : D → D → Option D} (ho : Op2 X (binaryOp op) g) (ha : DE X a fa) (hb : DE X b fb) : DE X (.BinOp a op b pos) (e2 g fa fb) := by
  obtain ⟨r, h1, h2⟩ := ho
  exact pe_imp (pe_op h1 ha hb) (tOp_of h2)
theorem de_cmp {op : CmpOp} {g : D → D → Option D} (ho : Op2 X (compareOp op) g) (ha : DE X a fa) (hb : DE X b fb) (hm : behindInMarks op b = false) : DE X (.Compare a [op] [b] pos) (e2 g fa fb) := by
  obtain ⟨r, h1, h2⟩ := ho
  exact pe_imp (pe_cmpR h1 ha hb hm) (tOp_of h2)
theorem tTest_of {t : TE} {f : E} (h : ∀ σ H Q, tD (tx X) f σ H Q → t σ H Q) : ∀ σ H Q, tDT (tx X) f σ H Q → tTest t σ H Q := fun σ H Q ⟨G, B, env, w, b, w', hd, e, k⟩ => by
  refine h σ H _ ⟨G, B, env, w, _, w', hd, e, fun v H' s h' r => ?_⟩
  cases r
  exact ⟨b, rfl, k H' s h'⟩
theorem dt_cmp {op : CmpOp} {g : D → D → Option D} (ho : Op2 X (compareOp op) g) (ha : DE X a fa) (hb : DE X b fb) (hm : behindInMarks op b = false) : DT X (.Compare a [op] [b] pos) (e2 g fa fb) := by
  obtain ⟨r, h1, h2⟩ := ho
  exact pt_imp (pt_cmpR h1 ha hb hm) (tTest_of (tOp_of h2))
/-- a < b < c -/
def e3 (g g' : D → D → Option D) (a b c : E) : E := fun env w => match a env w with
  | some (x, w1) => match b env w1 with
    | some (y, w2) => match g x y with
      | some (.bl true) => match c env w2 with
        | some (z, w3) => match g' y z with
          | some d => some (d, w3)
          | none => none
        | none => none
      | some (.bl false) => some (.bl false, w2)
      | _ => none
    | none => none
  | none => none
theorem tChain_of {r r' : R2} {g g' : D → D → Option D} (hr : ∀ (G : Gd) (H : Hp) (w : Dr) (x y : V) (dx dy d : D) (Q : VK), DrawAt G H w → Rep (tx X) G H x dx → Rep (tx X) G H y dy → g dx dy = some d → (∀ v H', Same H H' → Rep (tx X) G H' v d → Q v H') → r x y H Q)
    (hr' : ∀ (G : Gd) (H : Hp) (w : Dr) (x y : V) (dx dy d : D) (Q : VK), DrawAt G H w → Rep (tx X) G H x dx → Rep (tx X) G H y dy → g' dx dy = some d → (∀ v H', Same H H' → Rep (tx X) G H' v d → Q v H') → r' x y H Q) :
    ∀ σ H Q, tD (tx X) (e3 g g' fa fb fc) σ H Q → tChain r r' (tD (tx X) fa) (tD (tx X) fb) (tD (tx X) fc) σ H Q := fun σ H Q ⟨G, B, env, w, d, w', hd, e, k⟩ => by
  unfold e3 at e
  split at e
  · rename_i x w1 ea
    split at e
    · rename_i y w2 eb
      refine ⟨G, B, env, w, x, w1, hd, ea, fun v1 H1 s1 h1 r1 => ⟨G, B, env, w1, y, w2, h1, eb, fun v2 H2 s2 h2 r2 => ?_⟩⟩
      split at e
      · rename_i eg
        split at e
        · rename_i z w3 ec
          split at e
          · rename_i dz eg'
            cases e
            refine hr G H2 w2 v1 v2 x y _ _ h2.draw (r1.keep (s2.keep h1.draw)) r2 eg fun v H' s r => ?_
            cases r
            refine ⟨true, rfl, ?_⟩
            show tD (tx X) fc σ H' _
            have h3 := h2.go (.of s) (h2.draw.go s)
            refine ⟨G, B, env, w2, z, _, h3, ec, fun v3 H3 s3 h4 r3 => ?_⟩
            refine hr' G H3 _ v2 v3 y z _ Q h4.draw ((r2.keep ((SameD.of (G := G) s).keep h2.draw)).keep (s3.keep h3.draw)) r3 eg' fun v4 H4 s4 r4 => ?_
            exact k v4 H4 ((((s1.trans s2).trans (.of s)).trans s3).trans (.of s4)) (h4.go (.of s4) (h4.draw.go s4)) r4
          · cases e
        · cases e
      · rename_i eg
        cases e
        refine hr G H2 _ v1 v2 x y _ _ h2.draw (r1.keep (s2.keep h1.draw)) r2 eg fun v H' s r => ?_
        cases r
        exact ⟨false, rfl, k _ H' ((s1.trans s2).trans (.of s)) (h2.go (.of s) (h2.draw.go s)) (.bl _)⟩
      · cases e
    · cases e
  · cases e
theorem de_chain {op op' : CmpOp} {g g' : D → D → Option D} (ho : Op2 X (compareOp op) g) (ho' : Op2 X (compareOp op') g') (ha : DE X a fa) (hb : DE X b fb) (hc : DE X c fc) (hm : lastMarks [op, op'] [b, c] = false) : DE X (.Compare a [op, op'] [b, c] pos) (e3 g g' fa fb fc) := by
  obtain ⟨r, h1, h2⟩ := ho
  obtain ⟨r', h1', h2'⟩ := ho'
  exact pe_imp (pe_chain h1 h1' ha hb hc hm) (tChain_of h2 h2')
theorem dt_chain {op op' : CmpOp} {g g' : D → D → Option D} (ho : Op2 X (compareOp op) g) (ho' : Op2 X (compareOp op') g') (ha : DE X a fa) (hb : DE X b fb) (hc : DE X c fc) (hm : lastMarks [op, op'] [b, c] = false) : DT X (.Compare a [op, op'] [b, c] pos) (e3 g g' fa fb fc) := by
  obtain ⟨r, h1, h2⟩ := ho
  obtain ⟨r', h1', h2'⟩ := ho'
  exact pt_imp (pt_chain h1 h1' ha hb hc hm) (tTest_of (tChain_of h2 h2'))
/-! ### tests -/
theorem dt_val (h : DE X a fa) (he : ∀ whole, isTrue a X.env whole = (do let v ← whole; standAt a.pos; holding [v] (truthy v)) := by intro _; rfl) : DT X a fa :=
  pt_imp (pt_val h he) fun σ H Q ⟨G, B, env, w, b, w', hd, e, k⟩ => ⟨G, B, env, w, _, w', hd, e, fun v H' s h' r => by cases r; exact ⟨b, rfl, k H' s h'⟩⟩
theorem dt_not (h : DT X a fa) : DT X (.UnaryOp .Not a pos) (eNot fa) := pt_imp (pt_not h) fun σ H Q ⟨G, B, env, w, b, w', hd, e, k⟩ => by
  unfold eNot at e
  split at e
  · rename_i b' w1 ea
    cases e
    exact ⟨G, B, env, w, b', _, hd, ea, k⟩
  · cases e
theorem de_not (h : DE X a fa) : DE X (.UnaryOp .Not a pos) (eNot fa) := pe_imp (pe_not h) fun σ H Q ⟨G, B, env, w, d, w', hd, e, k⟩ => by
  unfold eNot at e
  split at e
  · rename_i b' w1 ea
    cases e
    exact ⟨G, B, env, w, _, _, hd, ea, fun v H' s h' r => by cases r; exact ⟨b', rfl, k _ H' s h' (.bl _)⟩⟩
  · cases e
variable {rest : List Expr}
theorem dw_and1 (ha : DT X a fa) : DW X (.BoolOp .And [a] pos) fa := pw_and1 ha
theorem dw_or1 (ha : DT X a fa) : DW X (.BoolOp .Or [a] pos) fa := pw_or1 ha
theorem dw_and (ha : DT X a fa) (hb : DW X (.BoolOp .And (b :: rest) pos) fb) : DW X (.BoolOp .And (a :: b :: rest) pos) (eAnd fa fb) := pw_imp (pw_and ha hb) fun σ H Q ⟨G, B, env, w, c, w', hd, e, k⟩ => by
  unfold eAnd at e
  split at e
  · rename_i w1 ea
    refine ⟨G, B, env, w, true, w1, hd, ea, fun H1 s1 h1 => ?_⟩
    refine iteT ?_
    exact ⟨G, B, env, w1, c, w', h1, e, fun H2 s2 h2 => k H2 (s1.trans s2) h2⟩
  · rename_i w1 ea
    cases e
    refine ⟨G, B, env, w, false, _, hd, ea, fun H1 s1 h1 => ?_⟩
    refine iteF ?_
    exact k H1 s1 h1
  · cases e
theorem dw_or (ha : DT X a fa) (hb : DW X (.BoolOp .Or (b :: rest) pos) fb) : DW X (.BoolOp .Or (a :: b :: rest) pos) (eOr fa fb) := pw_imp (pw_or ha hb) fun σ H Q ⟨G, B, env, w, c, w', hd, e, k⟩ => by
  unfold eOr at e
  split at e
  · rename_i w1 ea
    cases e
    refine ⟨G, B, env, w, true, _, hd, ea, fun H1 s1 h1 => ?_⟩
    refine iteT ?_
    exact k H1 s1 h1
  · rename_i w1 ea
    refine ⟨G, B, env, w, false, w1, hd, ea, fun H1 s1 h1 => ?_⟩
    refine iteF ?_
    exact ⟨G, B, env, w1, c, w', h1, e, fun H2 s2 h2 => k H2 (s1.trans s2) h2⟩
  · cases e
theorem DW.pt (h : DW X a fa) : DT X a fa := PW.pt h
theorem de_one {op} (h : DE X a fa) : DE X (.BoolOp op [a] pos) fa := pe_one h
theorem de_and (ha : DE X a fa) (hb : DE X (.BoolOp .And (b :: rest) pos) fb) : DE X (.BoolOp .And (a :: b :: rest) pos) (eAnd fa fb) := pe_imp (pe_and ha hb) fun σ H Q ⟨G, B, env, w, c, w', hd, e, k⟩ => by
  unfold eAnd at e
  split at e
  · rename_i w1 ea
    refine ⟨G, B, env, w, _, w1, hd, ea, fun v H1 s1 h1 r => ?_⟩
    cases r
    refine ⟨true, rfl, ?_⟩
    refine iteT ?_
    exact ⟨G, B, env, w1, c, w', h1, e, fun v2 H2 s2 h2 r2 => k v2 H2 (s1.trans s2) h2 r2⟩
  · rename_i w1 ea
    cases e
    refine ⟨G, B, env, w, _, _, hd, ea, fun v H1 s1 h1 r => ?_⟩
    cases r
    refine ⟨false, rfl, ?_⟩
    refine iteF ?_
    exact k _ H1 s1 h1 (.bl _)
  · cases e
theorem de_or (ha : DE X a fa) (hb : DE X (.BoolOp .Or (b :: rest) pos) fb) : DE X (.BoolOp .Or (a :: b :: rest) pos) (eOr fa fb) := pe_imp (pe_or ha hb) fun σ H Q ⟨G, B, env, w, c, w', hd, e, k⟩ => by
  unfold eOr at e
  split at e
  · rename_i w1 ea
    cases e
    refine ⟨G, B, env, w, _, _, hd, ea, fun v H1 s1 h1 r => ?_⟩
    cases r
    refine ⟨true, rfl, ?_⟩
    refine iteT ?_
    exact k _ H1 s1 h1 (.bl _)
  · rename_i w1 ea
    refine ⟨G, B, env, w, _, w1, hd, ea, fun v H1 s1 h1 r => ?_⟩
    cases r
    refine ⟨false, rfl, ?_⟩
    refine iteF ?_
    exact ⟨G, B, env, w1, c, w', h1, e, fun v2 H2 s2 h2 r2 => k v2 H2 (s1.trans s2) h2 r2⟩
  · cases e
theorem de_if (ht : DT X c fc) (ha : DE X a fa) (hb : DE X b fb) : DE X (.IfExp c a b pos) (eIf fc fa fb) := pe_imp (pe_ifExp ht ha hb) fun σ H Q ⟨G, B, env, w, d, w', hd, e, k⟩ => by
  unfold eIf at e
  split at e
  · rename_i w1 ea
    refine ⟨G, B, env, w, true, w1, hd, ea, fun H1 s1 h1 => ?_⟩
    refine iteT ?_
    exact ⟨G, B, env, w1, d, w', h1, e, fun v2 H2 s2 h2 r2 => k v2 H2 (s1.trans s2) h2 r2⟩
  · rename_i w1 ea
    refine ⟨G, B, env, w, false, w1, hd, ea, fun H1 s1 h1 => ?_⟩
    refine iteF ?_
    exact ⟨G, B, env, w1, d, w', h1, e, fun v2 H2 s2 h2 r2 => k v2 H2 (s1.trans s2) h2 r2⟩
  · cases e
theorem do_if (ht : DT X c fc) (ha : DO X a fa) (hb : DO X b fb) : DO X (.IfExp c a b pos) (eIf fc fa fb) := pe_imp (pe_ifExp ht ha hb) fun σ H Q ⟨G, B, env, w, d, w', hd, e, k⟩ => by
  unfold eIf at e
  split at e
  · rename_i w1 ea
    refine ⟨G, B, env, w, true, w1, hd, ea, fun H1 s1 h1 => ?_⟩
    refine iteT ?_
    exact ⟨G, B, env, w1, d, w', h1, e, fun v2 H2 n2 s2 h2 r2 => k v2 H2 (h1.back s1 n2) (s1.trans s2) h2 r2⟩
  · rename_i w1 ea
    refine ⟨G, B, env, w, false, w1, hd, ea, fun H1 s1 h1 => ?_⟩
    refine iteF ?_
    exact ⟨G, B, env, w1, d, w', h1, e, fun v2 H2 n2 s2 h2 r2 => k v2 H2 (h1.back s1 n2) (s1.trans s2) h2 r2⟩
  · cases e
end
end Dl
set_option Elab.async false
set_option linter.all false
set_option maxRecDepth 100000
set_option maxHeartbeats 4000000
/-! D2: arguments, displays, calls, attributes, statements, loops, comprehensions, defs. -/
namespace Dl
open PySem PySem.Spec L2
def aL : List E → EA
  | [] => aNil
  | f :: fs => aCons f (aL fs)
theorem aL_len : ∀ {fs : List E} {env : Env} {w w' : Dr} {ds : List D}, aL fs env w = some (ds, w') → ds.length = fs.length
  | [], _, _, _, _, h => by cases h; rfl
  | f :: fs, env, w, w', ds, h => by
    obtain ⟨x, w1, xs, _, h2, rfl⟩ := aCons_some (a := f) (r := aL fs) h
    simp [aL_len h2]
def eTup (fs : List E) : E := fun env w => match aL fs env w with
  | some (ds, w') => some (.tup ds, w')
  | none => none
def eLst (fs : List E) : E := fun env w => match aL fs env w with
  | some (ds, w') => some (.lst ds, w')
  | none => none
section
variable {X : Cx} {pos : Pos} {e : Expr} {es : List Expr} {f : E} {fs : List E}
theorem da_nil : DA X [] (aL []) := pa_imp pa_nil fun σ H Q ⟨G, B, env, w, ds, w', hd, e, k⟩ => by
  cases e
  exact k [] H (.refl _ _) hd .nil
theorem da_cons (ha : DE X e f) (hr : DA X es (aL fs)) (hs : starEach (e :: es) X.env = (false, eval e X.env) :: starEach es X.env := by rfl) : DA X (e :: es) (aL (f :: fs)) :=
  pa_imp (pa_cons ha hr hs) fun σ H Q ⟨G, B, env, w, ds, w', hd, e, k⟩ => by
  obtain ⟨x, w1, xs, e1, e2, rfl⟩ := aCons_some (a := f) (r := aL fs) e
  refine ⟨G, B, env, w, x, w1, hd, e1, fun v H1 s1 h1 r1 => ⟨G, B, env, w1, xs, w', h1, e2, fun vs H2 s2 h2 r2 => ?_⟩⟩
  exact k (v :: vs) H2 (s1.trans s2) h2 (.cons (r1.keep (s2.keep h1.draw)) r2)
theorem line1000 {n : Nat} (h : Nat.ble n 1000 = true) : n ≤ sizeLine := by
  have h1 := Nat.le_of_ble_eq_true h
  rw [sizeLine_eq]; omega
theorem de_tup {x1} (h : DA X es (aL fs)) (hl : Nat.ble fs.length 1000 = true := by rfl) : DE X (.Tuple es x1 pos) (eTup fs) := pe_imp (pe_tup h) fun σ H Q ⟨G, B, env, w, d, w', hd, e, k⟩ => by
  unfold eTup at e
  split at e
  · rename_i ds w1 ea
    cases e
    refine ⟨G, B, env, w, ds, _, hd, ea, fun vs H1 s1 h1 r1 => ?_⟩
    have len : vs.length ≤ sizeLine := by rw [r1.length, aL_len ea]; exact line1000 hl
    exact ⟨len, fun p np => k _ _ (s1.trans (.new _ np)) (h1.new _ np) (.tup upd_same len (r1.keep (Keep.new _ np)))⟩
  · cases e
theorem do_lst (h : DA X es (aL fs)) (hl : Nat.ble fs.length 1000 = true := by rfl) : DO X (.List es pos) (eLst fs) := pe_imp (pe_lst h) fun σ H Q ⟨G, B, env, w, d, w', hd, e, k⟩ => by
  unfold eLst at e
  split at e
  · rename_i ds w1 ea
    cases e
    refine ⟨G, B, env, w, ds, _, hd, ea, fun vs H1 s1 h1 r1 => ?_⟩
    have len : vs.length ≤ sizeLine := by rw [r1.length, aL_len ea]; exact line1000 hl
    exact ⟨len, fun p np => k p _ (h1.back s1 np) (s1.trans (.new _ np)) (h1.new _ np) (.lst upd_same len (r1.keep (Keep.new _ np)))⟩
  · cases e
/-- a new list or dict that is not to be changed -/
theorem de_lock (h : DO X e f) (hc : ∀ env w d w', f env w = some (d, w') → cont d = true) : DE X e f := by
  refine ⟨fun pins s σ H Q I ⟨G, B, env, w, d, w', hd, e, k⟩ => ?_⟩
  refine thn (h.run pins s σ H (fun v H' => ∃ p u, v = .ref p ∧ H' p = some u ∧ Mut (some u) ∧ ∀ od, Q (.ref p) (upd H' p (.frz od u))) I ⟨G, B, env, w, d, w', hd, e, fun p H' np sm h1 ow => ?_⟩) fun u s1 ⟨x, H1, I1, r1, p, o, e1, e2, mu, q⟩ => ?_
  · obtain ⟨u, hu, mu⟩ := ow.there
    have c := hc _ _ _ _ e
    have fu := ow.nf c hu
    obtain ⟨nb, n1, n2⟩ := hd.nb np
    refine ⟨p, u, rfl, hu, mu, fun od => k _ _ (fun a o q m1 m2 m3 => ?_) (h1.lock od hu (ow.noCode hu) fu (hd.apart np) nb n1 n2 (hd.apartT sm np)) (ow.frz c hu)⟩
    rw [upd_ne (np.ne q m3)]
    exact sm a o q m1 m2 m3
  · subst e1
    obtain ⟨od, I2⟩ := I1.lock e2 mu
    exact ⟨_, _, I2, r1, q od⟩
/-- {} -/
theorem do_dictK : DO X (.Dict [] [] pos) (eC (.dic [])) := pe_imp pe_dnewK fun σ H Q ⟨G, B, env, w, d, w', hd, e, k⟩ => by
  cases e
  exact fun p np => k p _ (.of np) (.new _ np) (hd.new _ np) (.dicK upd_same ⟨Nat.zero_le _, fun p hp => nomatch hp⟩ rfl .nil)
theorem do_dictT : DO X (.Dict [] [] pos) (eC (.dit [])) := pe_imp pe_dnewT fun σ H Q ⟨G, B, env, w, d, w', hd, e, k⟩ => by
  cases e
  exact fun p np => k p _ (.of np) (.new _ np) (hd.new _ np) (.dicT upd_same ⟨Nat.zero_le _, fun p hp => nomatch hp⟩ rfl .nil)
end
/-! ### calls of defs -/
def spD (T : Tx) (n : Nat) (φ : Fn) : Sp := fun vs H Q _ => ∃ G ds w d w', Reps T G H vs ds ∧ DrawAt G H w ∧ ds.length = n ∧ φ ds w = some (d, w') ∧
  ∀ v H', SameD G H H' → DrawAt G H' w' → Rep T G H' v d → Q v H'
def spO (T : Tx) (n : Nat) (φ : Fn) : Sp := fun vs H Q _ => ∃ G ds w d w', Reps T G H vs ds ∧ DrawAt G H w ∧ ds.length = n ∧ φ ds w = some (d, w') ∧
  ∀ p H', Fre H p → SameD G H H' → DrawAt G H' w' → Own T G H' p d → Q (.ref p) H'
/-- an __init__: the instance is new -/
def spI (T : Tx) (c : Str) (n : Nat) (φ : Fn) : Sp := fun vs H Q _ => ∃ (x C dx : Addr) (vr : List V) (G : Gd) (ds : List D) (w : Dr) (gs : List (Str × D)) (w' : Dr), vs = .ref x :: vr ∧ T.mg c = some (.ref C) ∧ H x = some (.ins C dx []) ∧ x ≠ G.dd ∧ G.nl x ∧ Reps T G (fun a => if a = x then none else H a) vr ds ∧ DrawAt G H w ∧ ds.length = n ∧ φ ds w = some (.obj c gs, w') ∧
  ∀ fs dx' H', (∀ a o, H a = some o → a ≠ x → a ≠ G.dd → G.nl a → isTbl o = false → H' a = some o) → DrawAt G H' w' → H' x = some (.ins C dx' fs) → gs.map (·.1) = fs.map (·.1) → Reps T G H' (fs.map (·.2)) (gs.map (·.2)) → Q .non H'
section
variable {X : Cx} {k n : Nat} {f fi C : Addr} {fd : FuncData} {ps : List Str} {φ : Fn} {dvs : List V} {ds : List Value} {dds : List D} {x : Str} {p pos apos : Pos} {e o : Expr} {es : List Expr} {fs : List E} {fo : E}
/-- f(e, ..): dds are the defaults that fill up -/
def eCall (φ : Fn) (fs : List E) (dds : List D) : E := eApp (fun xs w => φ (xs ++ dds) w) (aL fs)
theorem tCall_of (hds : ∀ G H, Reps (tx X) G H dvs dds) (hn : fs.length + dds.length = n) : ∀ σ H Q, tD (tx X) (eCall φ fs dds) σ H Q → tCall (spD (tx X) n φ) dvs E0 (tDA (tx X) (aL fs)) σ H Q := fun σ H Q ⟨G, B, env, w, d, w', hd, e, k⟩ => by
  obtain ⟨xs, w1, e1, e2⟩ := eApp_some e
  refine ⟨G, B, env, w, xs, w1, hd, e1, fun vs H1 s1 h1 r1 => ⟨G, xs ++ dds, w1, d, w', r1.append (hds G H1), h1.draw, ?_, e2, fun v H' s dr r => ?_⟩⟩
  · rw [List.length_append, aL_len e1]; exact hn
  · exact k v H' (s1.trans s) (h1.go s dr) r
theorem tCallO_of (hds : ∀ G H, Reps (tx X) G H dvs dds) (hn : fs.length + dds.length = n) : ∀ σ H Q, tDO (tx X) (eCall φ fs dds) σ H Q → tCall (spO (tx X) n φ) dvs E0 (tDA (tx X) (aL fs)) σ H Q := fun σ H Q ⟨G, B, env, w, d, w', hd, e, k⟩ => by
  obtain ⟨xs, w1, e1, e2⟩ := eApp_some e
  refine ⟨G, B, env, w, xs, w1, hd, e1, fun vs H1 s1 h1 r1 => ⟨G, xs ++ dds, w1, d, w', r1.append (hds G H1), h1.draw, ?_, e2, fun p H' np s dr r => ?_⟩⟩
  · rw [List.length_append, aL_len e1]; exact hn
  · exact k p H' (h1.back s1 np) (s1.trans s) (h1.go s dr) r
/-- where a def stands -/
structure At (K : PySem.W.Frag) (mg : Str → Option Value) (x : Str) (f : Addr) : Prop where
  mg : mg x = some (.ref f)
  kp : PySem.W.keepIn K (.ref f) = true
theorem de_call (F : FnOk X.prog X.w X.K X.mg X.base CX0 k f fd ps (spD (tx X) n φ)) (A : At X.K X.mg x f) (hb : Binds X.K fd ps ds) (hd : Vals dvs ds) (hds : ∀ G H, Reps (tx X) G H dvs dds) (hr : Room k X.A) (hg : Gl X x)
    (ha : DA X (e :: es) (aL fs)) (hn : fs.length + dds.length = n := by rfl) (hdb : (x == ("__debug__" : Str)) = false := by decide) (he : starEach (e :: es) X.env = (false, eval e X.env) :: starEach es X.env := by rfl) (hpl : (backTo pos (starEach es X.env)).any (·.1) = false := by rfl) :
    DE X (.Call (.Name x p) (e :: es) [] pos) (eCall φ fs dds) := pe_imp (pe_call F hr hg A.mg A.kp hb hd pass0 ha hdb he hpl) (tCall_of hds hn)
theorem do_call (F : FnOk X.prog X.w X.K X.mg X.base CX0 k f fd ps (spO (tx X) n φ)) (A : At X.K X.mg x f) (hb : Binds X.K fd ps ds) (hd : Vals dvs ds) (hds : ∀ G H, Reps (tx X) G H dvs dds) (hr : Room k X.A) (hg : Gl X x)
    (ha : DA X (e :: es) (aL fs)) (hn : fs.length + dds.length = n := by rfl) (hdb : (x == ("__debug__" : Str)) = false := by decide) (he : starEach (e :: es) X.env = (false, eval e X.env) :: starEach es X.env := by rfl) (hpl : (backTo pos (starEach es X.env)).any (·.1) = false := by rfl) :
    DO X (.Call (.Name x p) (e :: es) [] pos) (eCall φ fs dds) := pe_imp (pe_call F hr hg A.mg A.kp hb hd pass0 ha hdb he hpl) (tCallO_of hds hn)
/-! ### attributes, methods, properties of an instance of the class named c -/
def eObj (c : Str) (g : List (Str × D) → Option D) (a : E) : E := e1 (fun x => match x with
  | .obj c' gs => if c' = c then g gs else none
  | _ => none) a
theorem Reps.look {T : Tx} {G : Gd} {H : Hp} {m : Str} {d : D} : ∀ {fs : List (Str × V)} {gs : List (Str × D)}, gs.map (·.1) = fs.map (·.1) → Reps T G H (fs.map (·.2)) (gs.map (·.2)) → gs.lookup m = some d → ∃ v, fs.lookup m = some v ∧ Rep T G H v d
  | [], [], _, _, h => by cases h
  | (a, v) :: fs, (b, x) :: gs, e, r, h => by
    simp only [List.map_cons, List.cons.injEq] at e
    obtain ⟨rfl, e⟩ := e
    cases r with
    | cons r rr =>
      rw [List.lookup_cons] at h ⊢
      cases q : (m == b) with
      | true => rw [q] at h; cases h; exact ⟨v, rfl, r⟩
      | false => rw [q] at h; exact Reps.look e rr h
theorem look_none {m : Str} : ∀ {fs : List (Str × V)} {gs : List (Str × D)}, gs.map (·.1) = fs.map (·.1) → gs.lookup m = none → fs.lookup m = none
  | [], _, _, _ => rfl
  | (a, v) :: fs, (b, x) :: gs, e, h => by
    simp only [List.map_cons, List.cons.injEq] at e
    obtain ⟨rfl, e⟩ := e
    rw [List.lookup_cons] at h ⊢
    cases q : (m == b) with
    | true => rw [q] at h; cases h
    | false => rw [q] at h; exact look_none e h
def eFld (c f : Str) (a : E) : E := eObj c (fun gs => gs.lookup f) a
theorem de_fld {c fl : Str} (hc : X.mg c = some (.ref C)) (cl : Cls X.K C) (na : NoAttr X.K C fl) (ho : DE X o fo) (hb : attributeBase o fl X.env (eval o X.env) = eval o X.env := by rfl) : DE X (.Attribute o fl pos) (eFld c fl fo) :=
  pe_imp (pe_fld ho hb) fun σ H Q ⟨G, B, env, w, d, w', hd, e, k⟩ => by
  obtain ⟨x, ea, eg⟩ := e1_some e
  cases x with
  | obj c' gs =>
    simp only at eg
    split at eg
    · rename_i hcc
      subst hcc
      refine ⟨G, B, env, w, _, w', hd, ea, fun v H1 s1 h1 r => ?_⟩
      cases r with
      | obj m h dn q rr =>
        have m' : X.mg c' = some (.ref _) := m
        rw [hc] at m'; cases m'
        obtain ⟨v, lv, rv⟩ := Reps.look q rr eg
        exact ⟨_, _, _, _, v, rfl, h, cl, na, lv, k v H1 s1 h1 rv⟩
    · cases eg
  | _ => cases eg
/-- o.m(e, ..) -/
def eMeth (c m : Str) (φ : Fn) (a : E) (fs : List E) (dds : List D) : E := fun env w => match a env w with
  | some (.obj c' gs, w1) => if c' = c ∧ gs.lookup m = none then match aL fs env w1 with
    | some (xs, w2) => φ (.obj c' gs :: (xs ++ dds)) w2
    | none => none else none
  | _ => none
theorem tMeth_of {c m : Str} (hc : X.mg c = some (.ref C)) (hds : ∀ G H, Reps (tx X) G H dvs dds) (hn : fs.length + dds.length + 1 = n) {ta : TA} (hta : ∀ σ H Q, tDA (tx X) (aL fs) σ H Q → ta σ H Q) : ∀ σ H Q, tD (tx X) (eMeth c m φ fo fs dds) σ H Q → tMeth C m (spD (tx X) n φ) dvs E0 (tD (tx X) fo) ta σ H Q := fun σ H Q ⟨G, B, env, w, d, w', hd, e, k⟩ => by
  unfold eMeth at e
  split at e
  · rename_i c' gs w1 ea
    split at e
    · rename_i hcc
      obtain ⟨rfl, hl⟩ := hcc
      split at e
      · rename_i xs w2 e2
        refine ⟨G, B, env, w, _, w1, hd, ea, fun v H1 s1 h1 r => ?_⟩
        cases r with
        | obj m' h dn q rr =>
          have m'' : X.mg c' = some (.ref _) := m'
          rw [hc] at m''; cases m''
          refine ⟨_, _, _, rfl, h, look_none q hl, hta σ H1 _ ⟨G, B, env, w1, xs, w2, h1, e2, fun vs H2 s2 h2 r2 => ?_⟩⟩
          refine ⟨G, _, w2, d, w', .cons ((Rep.obj m' h dn q rr).keep (s2.keep h1.draw)) (r2.append (hds G H2)), h2.draw, ?_, e, fun v H' s dr r => ?_⟩
          · simp only [List.length_cons, List.length_append, aL_len e2]; exact hn
          · exact k v H' ((s1.trans s2).trans s) (h2.go s dr) r
      · cases e
    · cases e
  · cases e
theorem de_meth {c m : Str} {pl : Sem Bool} (hc : X.mg c = some (.ref C)) (cl : Cls X.K C) (hm : Meth X.K C m f) (F : FnOk X.prog X.w X.K X.mg X.base CX0 k f fd ps (spD (tx X) n φ)) (hb : Binds X.K fd ps ds) (hd : Vals dvs ds) (hds : ∀ G H, Reps (tx X) G H dvs dds) (hr : Room k X.A)
    (ho : DE X o fo) (ha : DA X (e :: es) (aL fs)) (hn : fs.length + dds.length + 1 = n := by rfl)
    (hst : starEach (e :: es) X.env = (false, eval e X.env) :: starEach es X.env := by rfl) (hpl : (backTo pos (starEach es X.env)).any (·.1) = false := by rfl)
    (ht : eval (.Call (.Attribute o m apos) (e :: es) [] pos) X.env = (do
      let ov ← eval o X.env
      standAt apos.atName
      let (f, first) ← holding [ov] (getMethod ov m pl)
      callWith pos f first (backTo pos (starEach (e :: es) X.env)) (backToKw pos (keywordEach [] X.env))) := by rfl) :
    DE X (.Call (.Attribute o m apos) (e :: es) [] pos) (eMeth c m φ fo fs dds) :=
  pe_imp (pe_meth ho cl hm F hr hb hd pass0 ha hst hpl ht) (tMeth_of hc hds hn fun _ _ _ h => h)
theorem de_meth0 {c m : Str} {pl : Sem Bool} (hc : X.mg c = some (.ref C)) (cl : Cls X.K C) (hm : Meth X.K C m f) (F : FnOk X.prog X.w X.K X.mg X.base CX0 k f fd ps (spD (tx X) n φ)) (hb : Binds X.K fd ps ds) (hd : Vals dvs ds) (hds : ∀ G H, Reps (tx X) G H dvs dds) (hr : Room k X.A)
    (ho : DE X o fo) (hn : dds.length + 1 = n := by rfl)
    (ht : eval (.Call (.Attribute o m apos) [] [] pos) X.env = (do
      let ov ← eval o X.env
      standAt apos.atName
      let (f, first) ← holding [ov] (getMethod ov m pl)
      callWith pos f first (backTo pos (starEach [] X.env)) (backToKw pos (keywordEach [] X.env))) := by rfl) :
    DE X (.Call (.Attribute o m apos) [] [] pos) (eMeth c m φ fo [] dds) :=
  pe_imp (pe_meth0 ho cl hm F hr hb hd pass0 ht) (tMeth_of hc hds (by rw [List.length_nil, Nat.zero_add]; exact hn) fun σ H Q ⟨G, B, env, w, ds, w', hd, e, k⟩ => by cases e; exact k [] H (.refl _ _) hd .nil)
/-- a property -/
def eProp (c : Str) (φ : Fn) (a : E) : E := fun env w => match a env w with
  | some (.obj c' gs, w1) => if c' = c then φ [.obj c' gs] w1 else none
  | _ => none
theorem de_prop {c fl : Str} {pp : Addr} (hc : X.mg c = some (.ref C)) (cl : Cls X.K C) (hp : PropOf X.K C fl pp f) (F : FnOk X.prog X.w X.K X.mg X.base CX0 k f fd ps (spD (tx X) 1 φ)) (hb : Binds X.K fd ps []) (hr : Room (k + 1) X.A) (ho : DE X o fo)
    (hab : attributeBase o fl X.env (eval o X.env) = eval o X.env := by rfl) : DE X (.Attribute o fl pos) (eProp c φ fo) :=
  pe_imp (pe_prop ho cl hp F hr hb .nil pass0 hab) fun σ H Q ⟨G, B, env, w, d, w', hd, e, k⟩ => by
  unfold eProp at e
  split at e
  · rename_i c' gs w1 ea
    split at e
    · rename_i hcc
      subst hcc
      refine ⟨G, B, env, w, _, w1, hd, ea, fun v H1 s1 h1 r => ?_⟩
      cases r with
      | obj m' h dn q rr =>
        have m'' : X.mg c' = some (.ref _) := m'
        rw [hc] at m''; cases m''
        refine ⟨_, _, _, rfl, h, G, _, w1, d, w', .cons (.obj m' h dn q rr) .nil, h1.draw, rfl, e, fun v H' s dr r => ?_⟩
        exact k v H' (s1.trans s) (h1.go s dr) r
    · cases e
  · cases e
/-- c(e, ..): __init__ makes the instance -/
theorem de_make {c : Str} (hc : X.mg c = some (.ref C)) (M : Mk X.K C f) (F : FnOk X.prog X.w X.K X.mg X.base CX0 k f fd ps (spI (tx X) c n φ)) (hb : Binds X.K fd ps ds) (hd : Vals dvs ds) (hds : ∀ G H, Reps (tx X) G H dvs dds) (hr : Room (k + 1) X.A) (hg : Gl X c)
    (ha : DA X (e :: es) (aL fs)) (hdone : ∀ xs w gs w', φ xs w = some (.obj c gs, w') → ∃ p ∈ gs, p.1 ∈ lastF) (hres : ∀ xs w d w', φ xs w = some (d, w') → ∃ gs, d = .obj c gs) (hn : fs.length + dds.length = n := by rfl) (hdb : (c == ("__debug__" : Str)) = false := by decide) (he : starEach (e :: es) X.env = (false, eval e X.env) :: starEach es X.env := by rfl) (hpl : (backTo pos (starEach es X.env)).any (·.1) = false := by rfl) :
    DE X (.Call (.Name c p) (e :: es) [] pos) (eCall φ fs dds) := pe_imp (pe_make M F hr hg hc hb hd pass0 ha hdb he hpl) fun σ H Q ⟨G, B, env, w, d, w', hdd, e, kk⟩ => by
  obtain ⟨xs, w1, e1, e2⟩ := eApp_some e
  refine ⟨G, B, env, w, xs, w1, hdd, e1, fun vs H1 s1 h1 r1 => fun x dx nx ndx ne => ?_⟩
  obtain ⟨_, n1, n2⟩ := h1.nb nx
  obtain ⟨_, m1, m2⟩ := h1.nb ndx
  obtain ⟨gs, rfl⟩ := hres _ _ _ _ e2
  have sm : Same H1 (upd (upd H1 dx (.own x)) x (.ins C dx [])) := (same_new (.own x) ndx).trans (same_new _ (by rw [upd_ne (Ne.symm ne)]; exact nx))
  have sm' : Same H1 (fun a => if a = x then none else (upd (upd H1 dx (.own x)) x (.ins C dx [])) a) := fun a o q => by
    show (if a = x then none else _) = some o
    rw [if_neg (ne_of_none q nx)]
    exact sm a o q
  refine ⟨x, C, dx, _, G, xs ++ dds, w1, gs, w', rfl, hc, upd_same, n1, n2, (r1.keep ((SameD.of (G := G) sm').keep h1.draw)).append (hds G _), h1.draw.go sm, ?_, e2, fun fl dx' H' s dr hx q rr => ⟨rfl, ?_⟩⟩
  · rw [List.length_append, aL_len e1]; exact hn
  · have sd : SameD G H1 H' := fun a o q m1 m2 m3 => s a o (sm a o q) (ne_of_none q nx) m1 m2 m3
    refine kk _ H' (s1.trans sd) (h1.go sd dr) (.obj hc hx ?_ q rr)
    obtain ⟨pp, hp1, hp2⟩ := hdone _ _ _ _ e2
    unfold doneF
    rw [List.any_eq_true]
    have hm : pp.1 ∈ gs.map (·.1) := List.mem_map.mpr ⟨pp, hp1, rfl⟩
    rw [q] at hm
    obtain ⟨qq, hq1, hq2⟩ := List.mem_map.mp hm
    exact ⟨qq, hq1, List.any_eq_true.mpr ⟨pp.1, hp2, decide_eq_true hq2⟩⟩
end
end Dl
set_option Elab.async false
set_option linter.all false
set_option maxRecDepth 100000
set_option maxHeartbeats 4000000
/-! D3: statements, targets, loops, comprehensions, defs. -/
namespace Dl
open PySem PySem.Spec L2
/-! ### blocks -/
def sNx : S := fun env w => some (.nx env, w)
def sSeq (a b : S) : S := fun env w => match a env w with
  | some (.nx env1, w1) => b env1 w1
  | r => r
def sDrop (e : E) : S := fun env w => match e env w with
  | some (_, w1) => some (.nx env, w1)
  | none => none
def sRet (e : E) : S := fun env w => match e env w with
  | some (d, w1) => some (.rt d, w1)
  | none => none
def sRetO (e : E) : S := fun env w => match e env w with
  | some (d, w1) => some (.ro d, w1)
  | none => none
def sIf (t : E) (a b : S) : S := fun env w => match t env w with
  | some (.bl true, w1) => a env w1
  | some (.bl false, w1) => b env w1
  | _ => none
def sSet (i : Nat) (e : E) : S := fun env w => match e env w with
  | some (d, w1) => some (.nx (env.set i (.sh d)), w1)
  | none => none
def sSetO (i : Nat) (e : E) : S := fun env w => match e env w with
  | some (d, w1) => some (.nx (env.set i (.ow d)), w1)
  | none => none
/-- never come to -/
def sBad : S := fun _ _ => none
def sBrk : S := fun env w => some (.bk env, w)
def sCnt : S := fun env w => some (.ct env, w)
/-- from here on the thing of slot i never changes -/
def sFrz (i : Nat) (f : S) : S := fun env w => match env[i]? with
  | some (.ow d) => if cont d = true then f (env.set i (.sh d)) w else none
  | _ => f env w
theorem endD_mono {T : Tx} {G : Gd} {B H H1 : Hp} {D : Ends} {fl : Fl} {w : Dr} (k : Keep H H1) (h : endD T G B H D fl w) : endD T G B H1 D fl w := by
  cases fl with
  | nx env => exact fun σ' H' k' hd => h σ' H' (k.trans k') hd
  | bk env => exact fun σ' H' k' hd => h σ' H' (k.trans k') hd
  | ct env => exact fun σ' H' k' hd => h σ' H' (k.trans k') hd
  | rt d => exact h
  | ro d => exact h
theorem endD_seq {T : Tx} {G : Gd} {B H : Hp} {D D' : Ends} {fl : Fl} {w : Dr} (h : endD T G B H D fl w) (nn : ∀ env, fl ≠ .nx env) (h1 : D'.rt = D.rt) (h2 : D'.bk = D.bk) (h3 : D'.ct = D.ct) : endD T G B H D' fl w := by
  cases fl with
  | nx env => exact absurd rfl (nn env)
  | bk env => intro σ' H' k' hd; rw [h2]; exact h σ' H' k' hd
  | ct env => intro σ' H' k' hd; rw [h3]; exact h σ' H' k' hd
  | rt d => intro v H' s dr r; rw [h1]; exact h v H' s dr r
  | ro d => intro v H' nb s dr r; rw [h1]; exact h v H' nb s dr r
section
variable {X : Cx} {pos : Pos} {st : Stmt} {rest sa sb : List Stmt} {e c : Expr} {f fc : E} {fa fb : S}
theorem dss_nil : DSs X [] sNx := pss_imp pss_nil fun D σ H ⟨G, B, env, w, fl, w', hd, e, k⟩ => by
  cases e
  exact k σ H (.refl _) hd
theorem dss_cons (h1 : DS X st fa) (h2 : DSs X rest fb) : DSs X (st :: rest) (sSeq fa fb) := pss_imp (pss_cons h1 h2) fun D σ H ⟨G, B, env, w, fl, w', hd, e, k⟩ => by
  unfold sSeq at e
  split at e
  · rename_i env1 w1 ea
    refine ⟨G, B, env, w, .nx env1, w1, hd, ea, fun σ1 H1 k1 h1 => ?_⟩
    exact ⟨G, B, env1, w1, fl, w', h1, e, endD_mono k1 k⟩
  · rename_i hn
    refine ⟨G, B, env, w, fl, w', hd, e, endD_seq k (fun env' z => ?_) rfl rfl rfl⟩
    subst z
    exact hn env' w' e
theorem dss_one (h1 : DS X st fa) : DSs X [st] fa := pss_one h1
theorem ds_pass : DS X (.Pass pos) sNx := ps_imp ps_pass fun D σ H ⟨G, B, env, w, fl, w', hd, e, k⟩ => by
  cases e
  exact k σ H (.refl _) hd
theorem ds_break : DS X (.Break pos) sBrk := ps_imp ps_break fun D σ H ⟨G, B, env, w, fl, w', hd, e, k⟩ => by
  cases e
  exact k σ H (.refl _) hd
theorem ds_continue : DS X (.Continue pos) sCnt := ps_imp ps_continue fun D σ H ⟨G, B, env, w, fl, w', hd, e, k⟩ => by
  cases e
  exact k σ H (.refl _) hd
theorem ds_bad : DS X st sBad := ps_imp ps_never fun D σ H ⟨G, B, env, w, fl, w', hd, e, k⟩ => by cases e
theorem dss_bad : DSs X sa sBad := pss_imp pss_never fun D σ H ⟨G, B, env, w, fl, w', hd, e, k⟩ => by cases e
theorem ds_expr (he : DE X e f) (hs : swapsWith e none pos.line X.env = pure false := by rfl) : DS X (.Expr e pos) (sDrop f) := ps_imp (ps_expr he hs) fun D σ H ⟨G, B, env, w, fl, w', hd, e, k⟩ => by
  unfold sDrop at e
  split at e
  · rename_i d w1 ea
    cases e
    exact ⟨G, B, env, w, d, _, hd, ea, fun v H1 s1 h1 r => k σ H1 (s1.keep hd.draw) h1⟩
  · cases e
theorem ds_ret (he : DE X e f) : DS X (.Return (some e) pos) (sRet f) := ps_imp (ps_ret he) fun D σ H ⟨G, B, env, w, fl, w', hd, e, k⟩ => by
  unfold sRet at e
  split at e
  · rename_i d w1 ea
    cases e
    exact ⟨G, B, env, w, d, _, hd, ea, fun v H1 s1 h1 r => k v H1 h1.same h1.draw r⟩
  · cases e
theorem ds_retO (he : DO X e f) : DS X (.Return (some e) pos) (sRetO f) := ps_imp (ps_ret he) fun D σ H ⟨G, B, env, w, fl, w', hd, e, k⟩ => by
  unfold sRetO at e
  split at e
  · rename_i d w1 ea
    cases e
    exact ⟨G, B, env, w, d, _, hd, ea, fun p H1 np s1 h1 r => k p H1 (hd.nb np).1 h1.same h1.draw r⟩
  · cases e
/-- return x, x a thing of its own -/
def sRetV (i : Nat) : S := fun env w => match env[i]? with
  | some (.ow d) => some (.ro d, w)
  | _ => none
theorem ds_retV (i : Nat) (he : PE X e (tVar i)) : DS X (.Return (some e) pos) (sRetV i) := ps_imp (ps_ret he) fun D σ H ⟨G, B, env, w, fl, w', hd, e, k⟩ => by
  unfold sRetV at e
  split at e
  · rename_i d ea
    cases e
    obtain ⟨a, h1, nb, n1, n2, r⟩ := hd.ow i d ea
    exact ⟨_, h1, k a H nb hd.same hd.draw r⟩
  · cases e
theorem ds_if (hc : DT X c fc) (ha : DSs X sa fa) (hb : DSs X sb fb) : DS X (.If c sa sb pos) (sIf fc fa fb) := ps_imp (ps_if hc ha hb) fun D σ H ⟨G, B, env, w, fl, w', hd, e, k⟩ => by
  unfold sIf at e
  split at e
  · rename_i w1 ea
    refine ⟨G, B, env, w, true, w1, hd, ea, fun H1 s1 h1 => iteT ?_⟩
    exact ⟨G, B, env, w1, fl, w', h1, e, endD_mono (s1.keep hd.draw) k⟩
  · rename_i w1 ea
    refine ⟨G, B, env, w, false, w1, hd, ea, fun H1 s1 h1 => iteF ?_⟩
    exact ⟨G, B, env, w1, fl, w', h1, e, endD_mono (s1.keep hd.draw) k⟩
  · cases e
theorem ds_set {i : Nat} {x : Str} {pos' : Pos} (hN : X.N.Nodup) (hi : X.N[i]? = some x) (hx : Loc X.env.scope x) (he : DE X e f) (hs : swapsWith e (some (.Name x pos')) pos.line X.env = pure false := by rfl) (hf : X.fn x = true ∨ X.env.scope.names.lookup x = some .local := by first | exact .inl rfl | exact .inr rfl | assumption) :
    DS X (.Assign [.Name x pos'] e pos) (sSet i f) := by
  refine ⟨fun pins s σ H D I h => (ps_set hN hi hx he hs hf).run pins s σ H D I ?_⟩
  have hl : i < σ.length := by rw [I.len]; exact (List.getElem?_eq_some_iff.mp hi).1
  obtain ⟨G, B, env, w, fl, w', hd, e, k⟩ := h
  unfold sSet at e
  split at e
  · rename_i d w1 ea
    cases e
    exact ⟨G, B, env, w, d, _, hd, ea, fun v H1 s1 h1 r => k _ H1 (s1.keep hd.draw) (h1.setSh r hl)⟩
  · cases e
theorem setO_of {i : Nat} {te : TE} (ht : ∀ σ H Q, tDO (tx X) f σ H Q → te σ H Q) : ∀ D σ H, i < σ.length → tDS (tx X) (sSetO i f) D σ H → tAsg te (gName i) D σ H := fun D σ H hl ⟨G, B, env, w, fl, w', hd, e, k⟩ => by
  unfold sSetO at e
  split at e
  · rename_i d w1 ea
    cases e
    refine ht σ H _ ⟨G, B, env, w, d, _, hd, ea, fun p H1 np s1 h1 r => k _ H1 (s1.keep hd.draw) ?_⟩
    obtain ⟨nb, n1, n2⟩ := hd.nb np
    exact h1.setOw (hd.apart np) nb n1 n2 (hd.apartT s1 np) r hl
  · cases e
theorem ds_setO {i : Nat} {x : Str} {pos' : Pos} (hN : X.N.Nodup) (hi : X.N[i]? = some x) (hx : Loc X.env.scope x) (he : DO X e f) (hs : swapsWith e (some (.Name x pos')) pos.line X.env = pure false := by rfl) (hf : X.fn x = true ∨ X.env.scope.names.lookup x = some .local := by first | exact .inl rfl | exact .inr rfl | assumption) :
    DS X (.Assign [.Name x pos'] e pos) (sSetO i f) := by
  refine ⟨fun pins s σ H D I h => (ps_set hN hi hx he hs hf).run pins s σ H D I ?_⟩
  exact setO_of (fun _ _ _ h => h) D σ H (by rw [I.len]; exact (List.getElem?_eq_some_iff.mp hi).1) h
/-- the ghost: slot i is frozen ahead of the block -/
theorem dss_frz (i : Nat) (h : DSs X sa fa) : DSs X sa (sFrz i fa) := by
  refine ⟨fun pins s σ H D I ⟨G, B, env, w, fl, w', hd, e, k⟩ => ?_⟩
  unfold sFrz at e
  split at e
  · rename_i d ea
    split at e
    · rename_i hc
      obtain ⟨a, h1, nb, n1, n2, r⟩ := hd.ow i d ea
      obtain ⟨u, hu, mu⟩ := r.there
      obtain ⟨od, I2⟩ := I.lock hu mu
      exact h.run pins s σ _ D I2 ⟨G, B, _, w, fl, w', hd.frzOw od ea hc h1 hu, e, endD_mono (Keep.mut _ hu (r.nf hc hu)) k⟩
    · cases e
  · exact h.run pins s σ H D I ⟨G, B, env, w, fl, w', hd, e, k⟩
end
/-! ### targets -/
inductive Pat where
  | nm (i : Nat)
  | tp (ps : List Pat)
mutual
def Pat.slots : Pat → List Nat
  | .nm i => [i]
  | .tp ps => Pat.slotsAll ps
def Pat.slotsAll : List Pat → List Nat
  | [] => []
  | p :: ps => p.slots ++ Pat.slotsAll ps
end
mutual
def asgP : Pat → D → Env → Option Env
  | .nm i, d, env => some (env.set i (.sh d))
  | .tp ps, .tup ds, env => asgPs ps ds env
  | .tp ps, .ktp ds, env => asgPs ps ds env
  | .tp _, _, _ => none
def asgPs : List Pat → List D → Env → Option Env
  | [], [], env => some env
  | p :: ps, d :: ds, env => match asgP p d env with
    | some env1 => asgPs ps ds env1
    | none => none
  | _, _, _ => none
end
theorem asgPs_len : ∀ {ps : List Pat} {ds : List D} {env env' : Env}, asgPs ps ds env = some env' → ds.length = ps.length
  | [], [], _, _, _ => rfl
  | p :: ps, d :: ds, env, env', h => by
    unfold asgPs at h
    split at h
    · simp [asgPs_len h]
    · cases h
  | [], _ :: _, _, _, h => by simp [asgPs] at h
  | _ :: _, [], _, _, h => by simp [asgPs] at h
/-- only the slots js are other -/
def Agr (js : List Nat) (σ σ' : St) : Prop := σ'.length = σ.length ∧ ∀ (j : Nat), j ∉ js → σ'[j]? = σ[j]?
theorem Agr.trans {js ks : List Nat} {σ σ1 σ2 : St} (a : Agr js σ σ1) (b : Agr ks σ1 σ2) : Agr (js ++ ks) σ σ2 :=
  ⟨b.1.trans a.1, fun j h => by
    rw [List.mem_append, not_or] at h
    exact (b.2 j h.2).trans (a.2 j h.1)⟩
def tDG (T : Tx) (p : Pat) : TG := fun v σ H Q => ∃ G B env w d env', Hold T G B σ H env w ∧ Rep T G H v d ∧ asgP p d env = some env' ∧ ∀ σ', Agr p.slots σ σ' → Hold T G B σ' H env' w → Q σ' H
def tDGs (T : Tx) (ps : List Pat) : TGs := fun vs σ H Q => ∃ G B env w ds env', Hold T G B σ H env w ∧ Reps T G H vs ds ∧ asgPs ps ds env = some env' ∧ ∀ σ', Agr (Pat.slotsAll ps) σ σ' → Hold T G B σ' H env' w → Q σ' H
abbrev DG (X : Cx) (tg : Expr) (p : Pat) : Prop := PG X tg (tDG (tx X) p)
abbrev DGs (X : Cx) (tgs : List Expr) (p : List Pat) : Prop := PGs X tgs (tDGs (tx X) p)
section
variable {X : Cx} {pos : Pos} {e : Expr} {es : List Expr} {p : Pat} {ps : List Pat}
theorem dg_name {i : Nat} {x : Str} (hN : X.N.Nodup) (hi : X.N[i]? = some x) (hx : Loc X.env.scope x) (hf : X.fn x = true ∨ X.env.scope.names.lookup x = some .local := by first | exact .inl rfl | exact .inr rfl | assumption) : DG X (.Name x pos) (.nm i) := by
  refine ⟨fun pins s σ H v u Q I r h => (pg_name hN hi hx hf).run pins s σ H v u Q I r ?_⟩
  have hl : i < σ.length := by rw [I.len]; exact (List.getElem?_eq_some_iff.mp hi).1
  obtain ⟨G, B, env, w, d, env', hd, rr, e, k⟩ := h
  simp only [asgP, Option.some.injEq] at e
  subst e
  refine k _ ⟨List.length_set, fun j hj => ?_⟩ (hd.setSh rr hl)
  rw [List.getElem?_set_ne (fun z => hj (by subst z; exact List.mem_singleton.mpr rfl))]
theorem dgs_nil : DGs X [] [] := by
  refine ⟨fun pins s σ H vs us Q I r h => pgs_nil.run pins s σ H vs us Q I r ?_⟩
  obtain ⟨G, B, env, w, ds, env', hd, rr, e, k⟩ := h
  have hl := asgPs_len e
  cases ds with
  | nil =>
    cases rr
    simp only [asgPs, Option.some.injEq] at e
    subst e
    exact ⟨rfl, k σ ⟨rfl, fun _ _ => rfl⟩ hd⟩
  | cons d ds => simp at hl
theorem dgs_cons (h1 : DG X e p) (h2 : DGs X es ps) (hs : (assignEach (e :: es) X.env).map (·.2) = assign e X.env :: (assignEach es X.env).map (·.2) := by rfl) : DGs X (e :: es) (p :: ps) := by
  refine ⟨fun pins s σ H vs us Q I r h => (pgs_cons h1 h2 hs).run pins s σ H vs us Q I r ?_⟩
  obtain ⟨G, B, env, w, ds, env', hd, rr, e, k⟩ := h
  cases ds with
  | nil => simp [asgPs] at e
  | cons d ds =>
    cases rr with
    | cons r1 r2 =>
      unfold asgPs at e
      split at e
      · rename_i env1 ea
        refine ⟨_, _, rfl, G, B, env, w, d, env1, hd, r1, ea, fun σ1 a1 h1 => ⟨G, B, env1, w, ds, env', h1, r2, e, fun σ2 a2 h2 => ?_⟩⟩
        exact k σ2 (a1.trans a2) h2
      · cases e
theorem dg_tup {k : Nat} (hc : X.calm = true) (h : DGs X es ps) (hn : (assignEach es X.env).length = ps.length := by rfl) (hst : (assignEach es X.env).findIdx? (·.1) = none := by rfl) : DG X (.Tuple es k pos) (.tp ps) :=
  pg_imp (pg_tup (n := ps.length) hc h hn hst) fun v σ H Q ⟨G, B, env, w, d, env', hd, r, e, k⟩ => by
  cases r with
  | tup h z rr =>
    simp only [asgP] at e
    exact ⟨_, _, rfl, SqT.of h, by rw [rr.length]; exact asgPs_len e, G, B, env, w, _, env', hd, rr, e, k⟩
  | ktp h rr =>
    simp only [asgP] at e
    exact ⟨_, _, rfl, h.sq, by rw [rr.length]; exact asgPs_len e, G, B, env, w, _, env', hd, rr, e, k⟩
  | _ => simp [asgP] at e
/-- a, b = e -/
def sAsg (p : Pat) (e : E) : S := fun env w => match e env w with
  | some (d, w1) => match asgP p d env with
    | some env1 => some (.nx env1, w1)
    | none => none
  | none => none
theorem ds_asg {tg : Expr} {f : E} (he : DE X e f) (hg : DG X tg p) (hs : swapsWithSole [tg] e pos.line X.env = pure false := by rfl) (hw : swappedStores [tg] e X.env = pure none := by rfl)
    (h1 : (assignEach [tg] X.env).map (·.2) = [assign tg X.env] := by rfl) : DS X (.Assign [tg] e pos) (sAsg p f) := ps_imp (ps_asg he hg hs hw h1) fun D σ H ⟨G, B, env, w, fl, w', hd, e, k⟩ => by
  unfold sAsg at e
  split at e
  · rename_i d w1 ea
    split at e
    · rename_i env1 eb
      cases e
      exact ⟨G, B, env, w, d, _, hd, ea, fun v H1 s1 h1 r => ⟨G, B, env, _, d, env1, h1, r, eb, fun σ' _ h' => k σ' H1 (s1.keep hd.draw) h'⟩⟩
    · cases e
  · cases e
end
/-! ### for -/
def forD (p : Pat) (body : S) : List D → Env → Dr → Option (Fl × Dr)
  | [], env, w => some (.nx env, w)
  | d :: ds, env, w => match asgP p d env with
    | none => none
    | some env1 => match body env1 w with
      | some (.nx env2, w2) => forD p body ds env2 w2
      | some (.ct env2, w2) => forD p body ds env2 w2
      | some (.bk env2, w2) => some (.nx env2, w2)
      | some (.rt d, w2) => some (.rt d, w2)
      | some (.ro d, w2) => some (.ro d, w2)
      | none => none
def sFor (p : Pat) (it : EA) (body : S) : S := fun env w => match it env w with
  | some (ds, w1) => forD p body ds env w1
  | none => none
section
variable {X : Cx} {pos : Pos} {tg iter c : Expr} {body : List Stmt} {p : Pat} {fi : EA} {fb : S} {fc : E}
theorem ds_for (hp : PassesOwn (model X.prog X.w) X.A X.env X.xe) (hc : X.calm = true) (hi : DI X tg iter fi) (hg : DG X tg p) (hb : DSs X body fb) (hs : ∀ x, foldedSetIterable iter X.env x = pure x := by intro _; rfl) : DS X (.For tg iter body [] pos) (sFor p fi fb) :=
  ps_imp (ps_for hp hc hi hg hb hs) fun D σ H ⟨G, B, env, w, fl, w', hd, e, k⟩ => by
  unfold sFor at e
  split at e
  · rename_i ds w1 ea
    refine ⟨G, B, env, w, ds, w1, hd, ea, fun J H1 s1 h1 it => ?_⟩
    have k1 := endD_mono (s1.keep hd.draw) k
    clear k
    refine ⟨fun i m σ H => m = ds.length - i ∧ i ≤ ds.length ∧ Keep H1 H ∧ ∃ env w, Hold (tx X) G B σ H env w ∧ forD p fb (ds.drop i) env w = some (fl, w'), ⟨ds.length, by simp, Nat.zero_le _, .refl _, env, w1, h1, by simpa using e⟩, ?_⟩
    rintro i m σ2 H2 ⟨rfl, hi, k2, env2, w2, h2, e2⟩
    obtain ⟨hlen, it⟩ := it
    obtain ⟨it1, it2⟩ := it i H2 k2
    by_cases hlt : i < ds.length
    · refine .inr ?_
      obtain ⟨go, yl⟩ := it1 ds[i] (by simp [hlt])
      refine ⟨go, fun σ' H' => i + 1 ≤ ds.length ∧ Keep H1 H' ∧ ∃ env w, Hold (tx X) G B σ' H' env w ∧ forD p fb (ds.drop (i + 1)) env w = some (fl, w'), fun σ' H' ⟨n1, n2, n3⟩ => ⟨ds.length - (i + 1), by omega, rfl, n1, n2, n3⟩, fun x H3 hy => ?_⟩
      obtain ⟨sm, rp⟩ := yl x H3 hy
      rw [List.drop_eq_getElem_cons hlt] at e2
      unfold forD at e2
      have h3 := h2.go (.of sm) (h2.draw.go sm)
      have k3 : Keep H1 H3 := k2.trans ((SameD.of (G := G) sm).keep h2.draw)
      split at e2
      · cases e2
      · rename_i env3 ea3
        refine ⟨G, B, env2, w2, _, env3, h3, rp, ea3, fun σ4 _ h4 => ?_⟩
        split at e2
        · rename_i env5 w5 eb
          exact ⟨G, B, env3, w2, _, _, h4, eb, fun σ' H' k' h' => ⟨hlt, k3.trans k', env5, w5, h', e2⟩⟩
        · rename_i env5 w5 eb
          exact ⟨G, B, env3, w2, _, _, h4, eb, fun σ' H' k' h' => ⟨hlt, k3.trans k', env5, w5, h', e2⟩⟩
        · rename_i env5 w5 eb
          cases e2
          exact ⟨G, B, env3, w2, _, _, h4, eb, fun σ' H' k' h' => k1 σ' H' (k3.trans k') h'⟩
        · rename_i d5 w5 eb
          cases e2
          exact ⟨G, B, env3, w2, _, _, h4, eb, fun v H' s dr r => k1 v H' s dr r⟩
        · rename_i d5 w5 eb
          cases e2
          exact ⟨G, B, env3, w2, _, _, h4, eb, fun v H' nb s dr r => k1 v H' nb s dr r⟩
        · cases e2
    · have hi' : i = ds.length := by omega
      refine .inl ⟨it2 (by omega), ?_⟩
      rw [hi', List.drop_length] at e2
      simp only [forD, Option.some.injEq, Prod.mk.injEq] at e2
      obtain ⟨rfl, rfl⟩ := e2
      exact k1 σ2 H2 k2 h2
  · cases e
/-! ### while -/
def whileD (t : E) (body : S) : Nat → Env → Dr → Option (Fl × Dr)
  | 0, _, _ => none
  | n + 1, env, w => match t env w with
    | some (.bl true, w1) => match body env w1 with
      | some (.nx env2, w2) => whileD t body n env2 w2
      | some (.ct env2, w2) => whileD t body n env2 w2
      | some (.bk env2, w2) => some (.nx env2, w2)
      | some (.rt d, w2) => some (.rt d, w2)
      | some (.ro d, w2) => some (.ro d, w2)
      | none => none
    | some (.bl false, w1) => some (.nx env, w1)
    | _ => none
theorem ds_while (n : Nat) (hp : PassesOwn (model X.prog X.w) X.A X.env X.xe) (hc : DT X c fc) (hb : DSs X body fb) : DS X (.While c body [] pos) (whileD fc fb n) :=
  ps_imp (ps_while hp hc hb) fun D σ H ⟨G, B, env, w, fl, w', hd, e, k⟩ => by
  refine ⟨fun m σ1 H1 => Keep H H1 ∧ ∃ env w, Hold (tx X) G B σ1 H1 env w ∧ whileD fc fb m env w = some (fl, w'), ⟨n, .refl _, env, w, hd, e⟩, ?_⟩
  rintro m σ1 H1 ⟨k1, env1, w1, h1, e1⟩
  cases m with
  | zero => cases e1
  | succ m =>
    unfold whileD at e1
    split at e1
    · rename_i w2 ec
      refine ⟨G, B, env1, w1, true, w2, h1, ec, fun H2 s2 h2 => iteT ?_⟩
      have k2 : Keep H H2 := k1.trans (s2.keep h1.draw)
      refine ⟨fun σ' H' => Keep H H' ∧ ∃ env w, Hold (tx X) G B σ' H' env w ∧ whileD fc fb m env w = some (fl, w'), fun σ' H' q => ⟨m, Nat.lt_succ_self _, q⟩, ?_⟩
      split at e1
      · rename_i env5 w5 eb
        exact ⟨G, B, env1, w2, _, _, h2, eb, fun σ' H' k' h' => ⟨k2.trans k', env5, w5, h', e1⟩⟩
      · rename_i env5 w5 eb
        exact ⟨G, B, env1, w2, _, _, h2, eb, fun σ' H' k' h' => ⟨k2.trans k', env5, w5, h', e1⟩⟩
      · rename_i env5 w5 eb
        cases e1
        exact ⟨G, B, env1, w2, _, _, h2, eb, fun σ' H' k' h' => k σ' H' (k2.trans k') h'⟩
      · rename_i d5 w5 eb
        cases e1
        exact ⟨G, B, env1, w2, _, _, h2, eb, fun v H' s dr r => k v H' s dr r⟩
      · rename_i d5 w5 eb
        cases e1
        exact ⟨G, B, env1, w2, _, _, h2, eb, fun v H' nb s dr r => k v H' nb s dr r⟩
      · cases e1
    · rename_i w2 ec
      cases e1
      refine ⟨G, B, env1, w1, false, _, h1, ec, fun H2 s2 h2 => iteF ?_⟩
      exact k σ1 H2 (k1.trans (s2.keep h1.draw)) h2
    · cases e1
end
end Dl
set_option Elab.async false
set_option linter.all false
set_option maxRecDepth 100000
set_option maxHeartbeats 4000000
/-! D4: several targets at once, comprehensions, defs. -/
namespace Dl
open PySem PySem.Spec L2
/-! ### a, b = x, y -/
inductive RepM (T : Tx) (G : Gd) (H0 H : Hp) : List Bool → List V → List D → List Addr → Prop
  | nil : RepM T G H0 H [] [] [] []
  | sh {v d fl vs ds ps} : Rep T G H v d → RepM T G H0 H fl vs ds ps → RepM T G H0 H (false :: fl) (v :: vs) (d :: ds) ps
  | ow {p d fl vs ds ps} : Fre H0 p → Own T G H p d → p ∉ ps → RepM T G H0 H fl vs ds ps → RepM T G H0 H (true :: fl) (.ref p :: vs) (d :: ds) (p :: ps)
theorem RepM.length {T : Tx} {G : Gd} {H0 H : Hp} : ∀ {fl : List Bool} {vs : List V} {ds : List D} {ps : List Addr}, RepM T G H0 H fl vs ds ps → vs.length = fl.length ∧ ds.length = fl.length
  | _, _, _, _, .nil => ⟨rfl, rfl⟩
  | _, _, _, _, .sh _ t => by have h := RepM.length t; simp [h.1, h.2]
  | _, _, _, _, .ow _ _ _ t => by have h := RepM.length t; simp [h.1, h.2]
theorem RepM.free {T : Tx} {G : Gd} {H0 H : Hp} : ∀ {fl : List Bool} {vs : List V} {ds : List D} {ps : List Addr}, RepM T G H0 H fl vs ds ps → ∀ p ∈ ps, Fre H0 p
  | _, _, _, _, .nil => fun p h => nomatch h
  | _, _, _, _, .sh _ t => RepM.free t
  | _, _, _, _, .ow n _ _ t => fun p h => by
    rcases List.mem_cons.mp h with rfl | h
    · exact n
    · exact RepM.free t p h
theorem RepM.base {T : Tx} {G : Gd} {H0 H1 H : Hp} (k : ∀ p, Fre H1 p → Fre H0 p) : ∀ {fl : List Bool} {vs : List V} {ds : List D} {ps : List Addr}, RepM T G H1 H fl vs ds ps → RepM T G H0 H fl vs ds ps
  | _, _, _, _, .nil => .nil
  | _, _, _, _, .sh r t => .sh r (RepM.base k t)
  | _, _, _, _, .ow n o m t => .ow (k _ n) o m (RepM.base k t)
theorem RepM.new {T : Tx} {G : Gd} {H0 H : Hp} {q : Addr} (u : HO) (nq : H q = none) : ∀ {fl : List Bool} {vs : List V} {ds : List D} {ps : List Addr}, RepM T G H0 H fl vs ds ps → RepM T G H0 (upd H q u) fl vs ds ps
  | _, _, _, _, .nil => .nil
  | _, _, _, _, .sh r t => .sh (r.keep (Keep.new _ nq)) (RepM.new u nq t)
  | _, _, _, _, .ow n o m t => .ow n (o.keep (Keep.new _ nq) fun u' z => by rw [upd_ne (ne_of_none z nq)]; exact z) m (RepM.new u nq t)
def tDM (T : Tx) (fs : List (Bool × E)) : TA := fun σ H Q => ∃ G B env w ds w', Hold T G B σ H env w ∧ aL (fs.map (·.2)) env w = some (ds, w') ∧
  ∀ vs H' ps, SameD G H H' → Hold T G B σ H' env w' → RepM T G H H' (fs.map (·.1)) vs ds ps → Q vs H'
abbrev DM (X : Cx) (es : List Expr) (fs : List (Bool × E)) : Prop := PA X es (tDM (tx X) fs)
def setsS : List Nat → List V → St → St
  | i :: is, v :: vs, σ => setsS is vs (σ.set i (some v))
  | _, _, σ => σ
def setsE : List Nat → List Bool → List D → Env → Env
  | i :: is, b :: bs, d :: ds, env => setsE is bs ds (env.set i (if b then .ow d else .sh d))
  | _, _, _, env => env
theorem Hold.ApartT.set {T : Tx} {G : Gd} {H : Hp} {σ : St} {env : Env} {p : Addr} (ap : Hold.ApartT T G H σ env p) {i : Nat} {v : Option V} {s : Slot} (hs : ∀ d, s ≠ .tr d) (hl : i < env.length) : Hold.ApartT T G H (σ.set i v) (env.set i s) p := fun j d u F e q r => by
  have hj : i ≠ j := fun z => by subst z; rw [List.getElem?_set_self hl] at e; exact hs d (Option.some.inj e)
  rw [List.getElem?_set_ne hj] at e q
  exact ap j d u F e q r
theorem Hold.sets {T : Tx} {G : Gd} {B H0 H : Hp} {w : Dr} {fl : List Bool} {vs : List V} {ds : List D} {ps : List Addr} (r : RepM T G H0 H fl vs ds ps) : ∀ {is : List Nat} {σ : St} {env : Env}, Hold T G B σ H env w → is.length = fl.length → (∀ i ∈ is, i < σ.length) →
    (∀ p ∈ ps, Hold.Apart σ env p ∧ Fre B p ∧ p ≠ G.dd ∧ G.nl p) → (∀ p ∈ ps, Hold.ApartT T G H σ env p) → Hold T G B (setsS is vs σ) H (setsE is fl ds env) w := by
  induction r with
  | nil =>
    intro is σ env h hl hi hp ht
    cases is with
    | nil => exact h
    | cons i is => cases hl
  | sh r t ih =>
    intro is σ env h hl hi hp ht
    cases is with
    | nil => cases hl
    | cons i is =>
      refine ih (h.setSh r (hi i List.mem_cons_self)) (by simpa using hl) (fun j hj => by rw [List.length_set]; exact hi j (List.mem_cons_of_mem _ hj)) (fun p hm => ⟨fun j d e q => ?_, (hp p hm).2⟩) fun p hm => (ht p hm).set (fun d z => by cases z) (by rw [h.len]; exact hi i List.mem_cons_self)
      have hne : i ≠ j := fun z => by subst z; rw [List.getElem?_set_self (by rw [h.len]; exact hi i List.mem_cons_self)] at e; cases e
      rw [List.getElem?_set_ne hne] at e q
      exact (hp p hm).1 j d e q
  | @ow p0 d0 fl vs ds ps n o m t ih =>
    intro is σ env h hl hi hp ht
    cases is with
    | nil => cases hl
    | cons i is =>
      obtain ⟨ap, nb, n1, n2⟩ := hp p0 List.mem_cons_self
      refine ih (h.setOw ap nb n1 n2 (ht p0 List.mem_cons_self) o (hi i List.mem_cons_self)) (by simpa using hl) (fun j hj => by rw [List.length_set]; exact hi j (List.mem_cons_of_mem _ hj)) (fun p hm => ⟨fun j d e q => ?_, (hp p (List.mem_cons_of_mem _ hm)).2⟩) fun p hm => (ht p (List.mem_cons_of_mem _ hm)).set (fun d z => by cases z) (by rw [h.len]; exact hi i List.mem_cons_self)
      by_cases hne : i = j
      · subst hne
        rw [List.getElem?_set_self (hi i List.mem_cons_self)] at q
        cases q
        exact m hm
      · rw [List.getElem?_set_ne hne] at e q
        exact (hp p (List.mem_cons_of_mem _ hm)).1 j d e q
section
variable {X : Cx} {pos : Pos} {e : Expr} {es : List Expr} {f : E} {fs : List (Bool × E)}
theorem dm_nil : DM X [] [] := pa_imp pa_nil fun σ H Q ⟨G, B, env, w, ds, w', hd, e, k⟩ => by
  cases e
  exact k [] H [] (.refl _ _) hd .nil
theorem dm_sh (ha : DE X e f) (hr : DM X es fs) (hs : starEach (e :: es) X.env = (false, eval e X.env) :: starEach es X.env := by rfl) : DM X (e :: es) ((false, f) :: fs) :=
  pa_imp (pa_cons ha hr hs) fun σ H Q ⟨G, B, env, w, ds, w', hd, e, k⟩ => by
  have e' : aCons f (aL (fs.map (·.2))) env w = some (ds, w') := e
  obtain ⟨x, w1, xs, e1, e2, rfl⟩ := aCons_some e'
  refine ⟨G, B, env, w, x, w1, hd, e1, fun v H1 s1 h1 r1 => ⟨G, B, env, w1, xs, w', h1, e2, fun vs H2 ps s2 h2 r2 => ?_⟩⟩
  exact k (v :: vs) H2 ps (s1.trans s2) h2 (.sh (r1.keep (s2.keep h1.draw)) (r2.base fun p n => h1.back s1 n))
theorem dm_ow (ha : DO X e f) (hr : DM X es fs) (hs : starEach (e :: es) X.env = (false, eval e X.env) :: starEach es X.env := by rfl) : DM X (e :: es) ((true, f) :: fs) :=
  pa_imp (pa_cons ha hr hs) fun σ H Q ⟨G, B, env, w, ds, w', hd, e, k⟩ => by
  have e' : aCons f (aL (fs.map (·.2))) env w = some (ds, w') := e
  obtain ⟨x, w1, xs, e1, e2, rfl⟩ := aCons_some e'
  refine ⟨G, B, env, w, x, w1, hd, e1, fun p H1 np s1 h1 r1 => ⟨G, B, env, w1, xs, w', h1, e2, fun vs H2 ps s2 h2 r2 => ?_⟩⟩
  obtain ⟨nb, n1, n2⟩ := hd.nb np
  refine k (.ref p :: vs) H2 (p :: ps) (s1.trans s2) h2 (.ow np (r1.keep (s2.keep h1.draw) fun u z => s2 p u z n1 n2 (r1.noCode z).1) (fun hm => ?_) (r2.base fun p n => h1.back s1 n))
  obtain ⟨u, hu, _⟩ := r1.there
  exact (r2.free p hm).not hu (r1.noCode hu).1
/-- the values one by one into the slots -/
def sPar (is : List Nat) (fs : List (Bool × E)) : S := fun env w => match aL (fs.map (·.2)) env w with
  | some (ds, w1) => some (.nx (setsE is (fs.map (·.1)) ds env), w1)
  | none => none
theorem par_end {is : List Nat} {T : Tx} {G : Gd} {B : Hp} {σ : St} {H H1 : Hp} {env : Env} {w w1 : Dr} {fl : List Bool} {vs : List V} {ds : List D} {ps : List Addr} (hd : Hold T G B σ H env w) (sm : SameD G H H1) (h1 : Hold T G B σ H1 env w1) (r : RepM T G H H1 fl vs ds ps) (hl : is.length = fl.length) (hi : ∀ i ∈ is, i < σ.length) :
    Hold T G B (setsS is vs σ) H1 (setsE is fl ds env) w1 := Hold.sets r h1 hl hi (fun p hm => ⟨hd.apart (r.free p hm), hd.nb (r.free p hm)⟩) fun p hm => hd.apartT sm (r.free p hm)
theorem ds_par2 {i j : Nat} {x y : Str} {a b : Expr} {px py pt : Pos} {kt k2 pt2} (hc : X.calm = true) (hN : X.N.Nodup) (hi : X.N[i]? = some x) (hj : X.N[j]? = some y) (hij : i ≠ j)
    (hx : X.env.scope.names.lookup x = some .local) (hy : X.env.scope.names.lookup y = some .local) (ha : DM X [a, b] fs)
    (hw : swappedStores [.Tuple [.Name x px, .Name y py] kt pt] (.Tuple [a, b] k2 pt2) X.env = pure (some [x, y])) (hl : fs.length = 2 := by rfl)
    (hs : swapsWithSole [.Tuple [.Name x px, .Name y py] kt pt] (.Tuple [a, b] k2 pt2) pos.line X.env = pure false := by rfl) :
    DS X (.Assign [.Tuple [.Name x px, .Name y py] kt pt] (.Tuple [a, b] k2 pt2) pos) (sPar [i, j] fs) := by
  refine ⟨fun pins s σ H D I h => (ps_par hc hN hi hj hij hx hy ha hw hs).run pins s σ H D I ?_⟩
  have h1 : i < σ.length := by rw [I.len]; exact (List.getElem?_eq_some_iff.mp hi).1
  have h2 : j < σ.length := by rw [I.len]; exact (List.getElem?_eq_some_iff.mp hj).1
  obtain ⟨G, B, env, w, fl, w', hd, e, k⟩ := h
  unfold sPar at e
  split at e
  · rename_i ds w1 ea
    cases e
    refine ⟨G, B, env, w, ds, _, hd, ea, fun vs H1 ps s1 h3 r => ?_⟩
    have q := par_end (is := [i, j]) hd s1 h3 r (by rw [List.length_map, hl]; rfl) (by simp [h1, h2])
    have hlen := r.length.1
    rw [List.length_map, hl] at hlen
    match vs, hlen with
    | [v1, v2], _ => exact ⟨v1, v2, rfl, k _ H1 (s1.keep hd.draw) q⟩
  · cases e
theorem ds_par3 {i j l : Nat} {x y z : Str} {a b c : Expr} {px py pz pt : Pos} {kt k2 pt2} (hc : X.calm = true) (hN : X.N.Nodup) (hi : X.N[i]? = some x) (hj : X.N[j]? = some y) (hl : X.N[l]? = some z) (hij : i ≠ j) (hil : i ≠ l) (hjl : j ≠ l)
    (hx : X.env.scope.names.lookup x = some .local) (hy : X.env.scope.names.lookup y = some .local) (hz : X.env.scope.names.lookup z = some .local) (ha : DM X [a, b, c] fs)
    (hw : swappedStores [.Tuple [.Name x px, .Name y py, .Name z pz] kt pt] (.Tuple [a, b, c] k2 pt2) X.env = pure (some [x, y, z])) (hlf : fs.length = 3 := by rfl)
    (hs : swapsWithSole [.Tuple [.Name x px, .Name y py, .Name z pz] kt pt] (.Tuple [a, b, c] k2 pt2) pos.line X.env = pure false := by rfl) :
    DS X (.Assign [.Tuple [.Name x px, .Name y py, .Name z pz] kt pt] (.Tuple [a, b, c] k2 pt2) pos) (sPar [i, j, l] fs) := by
  refine ⟨fun pins s σ H D I h => (ps_par3 hc hN hi hj hl hij hil hjl hx hy hz ha hw hs).run pins s σ H D I ?_⟩
  have h1 : i < σ.length := by rw [I.len]; exact (List.getElem?_eq_some_iff.mp hi).1
  have h2 : j < σ.length := by rw [I.len]; exact (List.getElem?_eq_some_iff.mp hj).1
  have h3 : l < σ.length := by rw [I.len]; exact (List.getElem?_eq_some_iff.mp hl).1
  obtain ⟨G, B, env, w, fl, w', hd, e, k⟩ := h
  unfold sPar at e
  split at e
  · rename_i ds w1 ea
    cases e
    refine ⟨G, B, env, w, ds, _, hd, ea, fun vs H1 ps s1 h4 r => ?_⟩
    have q := par_end (is := [i, j, l]) hd s1 h4 r (by rw [List.length_map, hlf]; rfl) (by simp [h1, h2, h3])
    have hlen := r.length.1
    rw [List.length_map, hlf] at hlen
    match vs, hlen with
    | [v1, v2, v3], _ => exact ⟨v1, v2, v3, rfl, k _ H1 (s1.keep hd.draw) q⟩
  · cases e
/-- the targets are names, the tuple is built and taken apart (a name is captured, or there are four or more) -/
inductive PNames (X : Cx) : List Expr → List Nat → Prop
  | nil : PNames X [] []
  | cons {x : Str} {i : Nat} {es : List Expr} {is : List Nat} (pos : Pos) (hi : X.N[i]? = some x) (hx : Loc X.env.scope x) (hf : X.fn x = true ∨ X.env.scope.names.lookup x = some .local) (r : PNames X es is) (hs : (assignEach (.Name x pos :: es) X.env).map (·.2) = assign (.Name x pos) X.env :: (assignEach es X.env).map (·.2)) : PNames X (.Name x pos :: es) (i :: is)
def gSets (is : List Nat) : TGs := fun vs σ H Q => vs.length = is.length ∧ Q (setsS is vs σ) H
theorem PNames.pgs (hN : X.N.Nodup) : ∀ {es : List Expr} {is : List Nat}, PNames X es is → PGs X es (gSets is)
  | _, _, .nil => ⟨fun pins s σ H vs us Q I r h => pgs_nil.run pins s σ H vs us Q I r (by
      obtain ⟨h1, h2⟩ := h
      cases vs with
      | nil => exact ⟨rfl, h2⟩
      | cons _ _ => simp at h1)⟩
  | _, _, .cons pos hi hx hf r hs => ⟨fun pins s σ H vs us Q I rv h => (pgs_cons (pg_name hN hi hx hf) (PNames.pgs hN r) hs).run pins s σ H vs us Q I rv (by
      obtain ⟨h1, h2⟩ := h
      cases vs with
      | nil => simp at h1
      | cons v vs => exact ⟨v, vs, rfl, by simpa using h1, h2⟩)⟩
theorem PNames.lt : ∀ {es : List Expr} {is : List Nat}, PNames X es is → ∀ i ∈ is, i < X.N.length
  | _, _, .nil => fun i h => nomatch h
  | _, _, .cons pos hi hx hf r hs => fun i h => by
    rcases List.mem_cons.mp h with rfl | h
    · exact (List.getElem?_eq_some_iff.mp hi).1
    · exact PNames.lt r i h
theorem ds_parT {ts : List Expr} {is : List Nat} {kt k2 : Nat} {pt pt2 : Pos} (hc : X.calm = true) (hN : X.N.Nodup) (hp : PNames X ts is) (ha : DM X es fs) (hl : fs.length = is.length := by rfl) (hl2 : Nat.ble fs.length 1000 = true := by rfl)
    (hw : swappedStores [.Tuple ts kt pt] (.Tuple es k2 pt2) X.env = pure none := by rfl) (hs : swapsWithSole [.Tuple ts kt pt] (.Tuple es k2 pt2) pos.line X.env = pure false := by rfl)
    (hn : (assignEach ts X.env).length = is.length := by rfl) (hst : (assignEach ts X.env).findIdx? (·.1) = none := by rfl) (h1 : (assignEach [.Tuple ts kt pt] X.env).map (·.2) = [assign (.Tuple ts kt pt) X.env] := by rfl) :
    DS X (.Assign [.Tuple ts kt pt] (.Tuple es k2 pt2) pos) (sPar is fs) := by
  refine ⟨fun pins s σ H D I h => (ps_asg (pe_tup ha) (pg_tup (n := is.length) hc (hp.pgs hN) hn hst) hs hw h1).run pins s σ H D I ?_⟩
  have hi : ∀ i ∈ is, i < σ.length := fun i hm => by rw [I.len]; exact hp.lt i hm
  obtain ⟨G, B, env, w, fl, w', hd, e, k⟩ := h
  unfold sPar at e
  split at e
  · rename_i ds w1 ea
    cases e
    refine ⟨G, B, env, w, ds, _, hd, ea, fun vs H1 ps s1 h3 r => ?_⟩
    have hlen : vs.length = is.length := by rw [r.length.1, List.length_map]; exact hl
    refine ⟨by rw [hlen, ← hl]; exact line1000 hl2, fun p np => ⟨p, vs, rfl, SqT.of upd_same, hlen, hlen, ?_⟩⟩
    refine k _ _ ((s1.keep hd.draw).trans (Keep.new _ np)) (par_end hd (s1.trans (.new _ np)) (h3.new _ np) (r.new _ np) (by rw [List.length_map]; exact hl.symm) hi)
  · cases e
end
/-! ### comprehensions -/
def wipeE (env : Env) : List Nat → Env
  | [] => env
  | v :: vs => (wipeE env vs).set v .un
theorem Hold.wipe {T : Tx} {G : Gd} {B : Hp} {σ : St} {H : Hp} {env : Env} {w : Dr} (h : Hold T G B σ H env w) : ∀ vs : List Nat, Hold T G B (L2.wipe σ vs) H (wipeE env vs) w
  | [] => h
  | v :: vs => by
    have h1 := Hold.wipe h vs
    unfold L2.wipe wipeE
    by_cases hv : v < (L2.wipe σ vs).length
    · exact h1.setUn hv
    · rw [List.set_eq_of_length_le (by omega), List.set_eq_of_length_le (by rw [h1.len]; omega)]
      exact h1
theorem wipe_get {σ : St} {i : Nat} : ∀ {vs : List Nat}, i ∉ vs → (L2.wipe σ vs)[i]? = σ[i]?
  | [], _ => rfl
  | v :: vs, h => by
    rw [List.mem_cons, not_or] at h
    unfold L2.wipe
    rw [List.getElem?_set_ne (Ne.symm h.1)]
    exact wipe_get h.2
theorem wipe_none {σ : St} {i : Nat} (hi : i < σ.length) : ∀ {vs : List Nat}, i ∈ vs → (L2.wipe σ vs)[i]? = some none
  | v :: vs, h => by
    unfold L2.wipe
    by_cases hv : v = i
    · subst hv
      rw [List.getElem?_set_self (by rw [wipe_length]; exact hi)]
    · rw [List.getElem?_set_ne hv]
      rcases List.mem_cons.mp h with z | z
      · exact absurd z.symm hv
      · exact wipe_none hi z
theorem wipe_agr {σ σ2 : St} {js vs : List Nat} (a : Agr js (L2.wipe σ vs) σ2) (hs : ∀ j ∈ js, j ∈ vs) : L2.wipe σ2 vs = L2.wipe σ vs := by
  have hl : σ2.length = σ.length := by rw [a.1, wipe_length]
  apply List.ext_getElem?
  intro i
  by_cases hi : i < σ.length
  · by_cases hm : i ∈ vs
    · rw [wipe_none (by omega) hm, wipe_none hi hm]
    · rw [wipe_get hm, a.2 i (fun z => hm (hs i z))]
  · rw [List.getElem?_eq_none (by rw [wipe_length]; omega), List.getElem?_eq_none (by rw [wipe_length]; omega)]
def compD (vs : List Nat) (p : Pat) (cond elt : E) : List D → Env → Dr → Option (List D × Dr)
  | [], _, w => some ([], w)
  | d :: ds, env, w => match asgP p d (wipeE env vs) with
    | none => none
    | some env1 => match cond env1 w with
      | some (.bl true, w1) => match elt env1 w1 with
        | none => none
        | some (x, w2) => match compD vs p cond elt ds env w2 with
          | some (xs, w3) => some (x :: xs, w3)
          | none => none
      | some (.bl false, w1) => compD vs p cond elt ds env w1
      | _ => none
def eComp (vs : List Nat) (p : Pat) (cond elt : E) (it : EA) : E := fun env w => match it env w with
  | none => none
  | some (ds, w1) => match compD vs p cond elt ds env w1 with
    | some (xs, w2) => some (.lst xs, w2)
    | none => none
theorem compD_len {vs : List Nat} {p : Pat} {cond elt : E} {env : Env} : ∀ {ds : List D} {w w' : Dr} {xs : List D}, compD vs p cond elt ds env w = some (xs, w') → xs.length ≤ ds.length
  | [], _, _, _, h => by cases h; exact Nat.le_refl _
  | d :: ds, w, w', xs, h => by
    unfold compD at h
    split at h
    · cases h
    · split at h
      · split at h
        · cases h
        · split at h
          · rename_i eq
            cases h
            simp only [List.length_cons]
            exact Nat.succ_le_succ (compD_len eq)
          · cases h
      · exact Nat.le_succ_of_le (compD_len h)
      · cases h
abbrev tDT' (T : Tx) (f : E) : TT := tDT T f
section
variable {X : Cx} {pos : Pos}
theorem dts_nil : PTs X [] (tDT (tx X) (eC (.bl true))) := by
  refine ⟨fun pins s σ H Q I h => pts_nil.run pins s σ H Q I ?_⟩
  obtain ⟨G, B, env, w, b, w', hd, e, k⟩ := h
  cases e
  exact k H (.refl _ _) hd
theorem dts_one {c : Expr} {f : E} (h : DT X c f) : PTs X [c] (tDT (tx X) f) := pts_one h
/-- a comprehension's reading -/
theorem tLc_of {vs : List Nat} {p : Pat} {cond elt : E} {fi : EA} (hp : (p.slots.all fun j => vs.contains j) = true) : ∀ σ H Q, tDO (tx X) (eComp vs p cond elt fi) σ H Q → tLc (tDI (tx X) fi) (tDG (tx X) p) (tDT (tx X) cond) (tD (tx X) elt) vs σ H Q := fun σ H Q ⟨G, B, env, w, d, w', hd, e, k⟩ => by
  have hps : ∀ j ∈ p.slots, j ∈ vs := fun j hj => by simpa using List.all_eq_true.mp hp j hj
  unfold eComp at e
  split at e
  · cases e
  · rename_i ds w1 ea
    split at e
    · rename_i xs w2 ec
      cases e
      refine ⟨G, B, env, w, ds, w1, hd, ea, fun J H1 s1 h1 it Dd nD => ?_⟩
      obtain ⟨hlen, it⟩ := it
      obtain ⟨nb, n1, n2⟩ := h1.nb nD
      have apD := h1.apart nD
      refine ⟨fun i m H => m = ds.length - i ∧ i ≤ ds.length ∧ ∃ acc xa rest wi, H Dd = some (.lst acc) ∧ acc.length ≤ i ∧ Reps (tx X) G H acc xa ∧ Hold (tx X) G B σ H env wi ∧ compD vs p cond elt (ds.drop i) env wi = some (rest, w') ∧ xa ++ rest = xs ∧ SameD G H1 H, ⟨ds.length, by simp, Nat.zero_le _, [], [], xs, w1, upd_same, Nat.le_refl _, .nil, h1.new _ nD, by simpa using ec, rfl, .new _ nD⟩, ?_⟩
      rintro i m H2 ⟨rfl, hi, acc, xa, rest, wi, hD, hacc, ra, h2, e2, ex, s2⟩
      obtain ⟨it1, it2⟩ := it i H2 (s2.keep h1.draw)
      by_cases hlt : i < ds.length
      · refine .inr ?_
        obtain ⟨go, yl⟩ := it1 ds[i] (by simp [hlt])
        refine ⟨go, fun H' => i + 1 ≤ ds.length ∧ ∃ acc xa rest wi, H' Dd = some (.lst acc) ∧ acc.length ≤ i + 1 ∧ Reps (tx X) G H' acc xa ∧ Hold (tx X) G B σ H' env wi ∧ compD vs p cond elt (ds.drop (i + 1)) env wi = some (rest, w') ∧ xa ++ rest = xs ∧ SameD G H1 H', fun H' ⟨q1, q2⟩ => ⟨ds.length - (i + 1), by omega, rfl, q1, q2⟩, fun x H3 hy => ?_⟩
        obtain ⟨sm, rp⟩ := yl x H3 hy
        rw [List.drop_eq_getElem_cons hlt] at e2
        unfold compD at e2
        have h3 := h2.go (.of sm) (h2.draw.go sm)
        have hD3 : H3 Dd = some (.lst acc) := sm _ _ hD
        have ra3 := ra.keep ((SameD.of (G := G) sm).keep h2.draw)
        have s3 : SameD G H1 H3 := s2.trans (.of sm)
        split at e2
        · cases e2
        · rename_i env3 ea3
          refine ⟨G, B, wipeE env vs, wi, _, env3, h3.wipe vs, rp, ea3, fun σ4 ag h4 => ⟨wipe_agr ag hps, ?_⟩⟩
          split at e2
          · rename_i w4 ec4
            refine ⟨G, B, env3, wi, true, w4, h4, ec4, fun H5 s5 h5 => iteT ?_⟩
            split at e2
            · cases e2
            · rename_i y w5 ee
              refine ⟨G, B, env3, w4, y, w5, h5, ee, fun v H6 s6 h6 r6 => ?_⟩
              split at e2
              · rename_i ys w6 er
                cases e2
                have s36 : SameD G H3 H6 := s5.trans s6
                have hD6 : H6 Dd = some (.lst acc) := s36 Dd _ hD3 n1 n2 rfl
                have hs6 : Hold (tx X) G B σ H6 env w5 := h3.go s36 h6.draw
                refine ⟨acc, hD6, by omega, hlt, acc ++ [v], xa ++ [y], ys, w5, upd_same, by simp; omega, ?_, hs6.side _ hD6 noCode_lst rfl apD nb n1 n2 (h1.apartT (s3.trans s36) nD), er, by simpa using ex, ?_⟩
                · exact ((ra3.keep (s36.keep h3.draw)).snoc r6).keep (Keep.mut _ hD6 rfl)
                · intro a o q m1 m2 m3
                  rw [upd_ne (ne_of_none q nD)]
                  exact s36 a o (s3 a o q m1 m2 m3) m1 m2 m3
              · cases e2
          · rename_i w4 ec4
            refine ⟨G, B, env3, wi, false, w4, h4, ec4, fun H5 s5 h5 => iteF ?_⟩
            exact ⟨hlt, acc, xa, rest, w4, s5 Dd _ hD3 n1 n2 rfl, by omega, ra3.keep (s5.keep h3.draw), h3.go s5 h5.draw, e2, ex, s3.trans s5⟩
          · cases e2
      · have hi' : i = ds.length := by omega
        refine .inl ⟨it2 (by omega), ?_⟩
        rw [hi', List.drop_length] at e2
        simp only [compD, Option.some.injEq, Prod.mk.injEq] at e2
        obtain ⟨rfl, rfl⟩ := e2
        rw [List.append_nil] at ex
        subst ex
        exact k Dd H2 (h1.back s1 nD) (s1.trans s2) h2 (.lst hD (by omega) ra)
    · cases e
theorem do_comp {elt tg iter : Expr} {ifs : List Expr} {scope : Scope} {own : List (Str × Nat)} {p : Pat} {fc fe : E} {fi : EA} (hc : X.calm = true) (hN : X.N.Nodup) (hi : DI X tg iter fi) (ok : BlkOk X.N X.env.scope scope own)
    (hp : (p.slots.all fun j => (own.map (·.2)).contains j) = true)
    (hg : ∀ (s : Shared) (H : Hp) (C : Addr) (cl : List (Str × Addr)) (fp : List Addr), DG (X.blk s H scope (compEnvC scope cl C X.env) fp) tg p) (ht : ∀ (s : Shared) (H : Hp) (C : Addr) (cl : List (Str × Addr)) (fp : List Addr), PTs (X.blk s H scope (compEnvC scope cl C X.env) fp) ifs (tDT (tx X) fc))
    (he : ∀ (s : Shared) (H : Hp) (C : Addr) (cl : List (Str × Addr)) (fp : List Addr), DE (X.blk s H scope (compEnvC scope cl C X.env) fp) elt fe) (hs : ∀ x, foldedSetIterable iter X.env x = pure x := by intro _; rfl) :
    DO X (.ListComp elt [⟨tg, iter, ifs, 0⟩] scope pos) (eComp (own.map (·.2)) p fc fe fi) :=
  pe_imp (pe_lc (own := own) (g := tDG (tx X) p) (te := tD (tx X) fe) hc hN hi ok hg ht he hs) (tLc_of hp)
theorem ds_setComp {i : Nat} {y : Str} {py spos : Pos} {elt tg iter : Expr} {ifs : List Expr} {scope : Scope} {own : List (Str × Nat)} {p : Pat} {fc fe : E} {fi : EA} (hc : X.calm = true) (hN : X.N.Nodup) (hy : X.N[i]? = some y) (hyl : X.env.scope.names.lookup y = some .local)
    (hsw : swapsWith (.ListComp elt [⟨tg, iter, ifs, 0⟩] scope pos) (some (.Name y py)) spos.line X.env = pure true) (hi : DI X tg iter fi) (ok : BlkOk X.N X.env.scope scope own)
    (hp : (p.slots.all fun j => (own.map (·.2)).contains j) = true)
    (hg : ∀ (s : Shared) (H : Hp) (C : Addr) (cl : List (Str × Addr)) (fp : List Addr), DG (X.blk s H scope (compEnvC scope cl C X.env) fp) tg p) (ht : ∀ (s : Shared) (H : Hp) (C : Addr) (cl : List (Str × Addr)) (fp : List Addr), PTs (X.blk s H scope (compEnvC scope cl C X.env) fp) ifs (tDT (tx X) fc))
    (he : ∀ (s : Shared) (H : Hp) (C : Addr) (cl : List (Str × Addr)) (fp : List Addr), DE (X.blk s H scope (compEnvC scope cl C X.env) fp) elt fe) (hs : ∀ x, foldedSetIterable iter X.env x = pure x := by intro _; rfl) :
    DS X (.Assign [.Name y py] (.ListComp elt [⟨tg, iter, ifs, 0⟩] scope pos) spos) (sSetO i (eComp (own.map (·.2)) p fc fe fi)) := by
  refine ⟨fun pins s σ H D I h => (ps_setLc (own := own) (g := tDG (tx X) p) (te := tD (tx X) fe) hc hN hy hyl hsw hi ok hg ht he hs).run pins s σ H D I ?_⟩
  exact setO_of (tLc_of hp) D σ H (by rw [I.len]; exact (List.getElem?_eq_some_iff.mp hy).1) h
end
/-! ### defs -/
def env0 (n : Nat) (ds : List D) : Env := ds.map .sh ++ List.replicate (n - ds.length) .un
def bodyD (n : Nat) (f : S) : Fn := fun ds w => match f (env0 n ds) w with
  | some (.rt d, w') => some (d, w')
  | some (.nx _, w') => some (.non, w')
  | _ => none
def bodyO (n : Nat) (f : S) : Fn := fun ds w => match f (env0 n ds) w with
  | some (.ro d, w') => some (d, w')
  | _ => none
theorem hold_start {T : Tx} {G : Gd} {H : Hp} {w : Dr} {N : List Str} {vs : List V} {ds : List D} (r : Reps T G H vs ds) (dr : DrawAt G H w) : Hold T G H (L2.start N vs) H (env0 N.length ds) w := by
  have hl := r.length
  refine ⟨by simp [env0, L2.start, hl], fun i d e => ?_, fun i d e => ?_, fun i j d e a q => ?_, .refl _ _, dr, .none fun i d e => ?_⟩
  · unfold env0 at e
    by_cases hi : i < ds.length
    · rw [List.getElem?_append_left (by simpa using hi), List.getElem?_map] at e
      cases q : ds[i]? with
      | none => rw [q] at e; cases e
      | some d' =>
        rw [q] at e
        simp only [Option.map_some, Option.some.injEq, Slot.sh.injEq] at e
        subst e
        obtain ⟨v, hv, rv⟩ := r.get q
        refine ⟨v, ?_, rv⟩
        unfold L2.start
        rw [List.getElem?_append_left (by simp; omega), List.getElem?_map, hv]
        rfl
    · rw [List.getElem?_append_right (by simpa using Nat.le_of_not_lt hi)] at e
      have := List.mem_of_getElem? e
      rw [List.mem_replicate] at this
      cases this.2
  · have hm := List.mem_of_getElem? e
    unfold env0 at hm
    rcases List.mem_append.mp hm with h | h
    · obtain ⟨_, _, z⟩ := List.mem_map.mp h; cases z
    · cases (List.mem_replicate.mp h).2
  · have hm := List.mem_of_getElem? q
    unfold env0 at hm
    rcases List.mem_append.mp hm with h | h
    · obtain ⟨_, _, z⟩ := List.mem_map.mp h; cases z
    · cases (List.mem_replicate.mp h).2
  · have hm := List.mem_of_getElem? e
    unfold env0 at hm
    rcases List.mem_append.mp hm with h | h
    · obtain ⟨_, _, z⟩ := List.mem_map.mp h; cases z
    · cases (List.mem_replicate.mp h).2
section
variable {P : Program} {w : World} {K : PySem.W.Frag} {mg : Str → Option Value} {base : Heap} {x qual : Str} {params : Arguments} {body : List Stmt} {scope : Scope} {dvs : List V} {kws : List (Str × V)} {f : Addr} {fd : FuncData} {N ps : List Str} {k : Nat} {fb : S}
theorem fn_D (F : FunD K x qual params body scope dvs kws f fd) (S : FnScope N ps scope)
    (hb : ∀ (cdv : Value) (A : Around) (outer : List PySem.Env) (s : Shared) (H : Hp) (E : XK), Room k (A.deeper (PyProof.Rows.envOfC qual scope s.heap.objs.size f cdv)) → DSs (cxOf CX0 P w K mg base N qual scope f cdv A outer s H E).nox body fb) :
    FnOk P w K mg base CX0 (k + 1) f fd ps (spD ⟨K, mg, P, w⟩ ps.length (bodyD N.length fb)) := by
  refine F.ok S (fun vs H Q E h => ?_) (fun cdv A outer s H vs Q E hr h => ⟨_, PSs.nox (hb cdv A outer s H E hr), ?_⟩)
  · obtain ⟨G, ds, w, d, w', r, _, hl, _⟩ := h
    rw [r.length]; exact hl
  · obtain ⟨G, ds, w0, d, w', r, dr, hl, e, k⟩ := h
    unfold bodyD at e
    split at e
    · rename_i d' w1 eb
      cases e
      exact ⟨G, H, _, w0, _, _, hold_start r dr, eb, fun v H' s dr r => k v H' s dr r⟩
    · rename_i env' w1 eb
      cases e
      exact ⟨G, H, _, w0, _, _, hold_start r dr, eb, fun σ' H' _ h' => k _ H' h'.same h'.draw .non⟩
    · cases e
theorem fn_O (F : FunD K x qual params body scope dvs kws f fd) (S : FnScope N ps scope)
    (hb : ∀ (cdv : Value) (A : Around) (outer : List PySem.Env) (s : Shared) (H : Hp) (E : XK), Room k (A.deeper (PyProof.Rows.envOfC qual scope s.heap.objs.size f cdv)) → DSs (cxOf CX0 P w K mg base N qual scope f cdv A outer s H E).nox body fb) :
    FnOk P w K mg base CX0 (k + 1) f fd ps (spO ⟨K, mg, P, w⟩ ps.length (bodyO N.length fb)) := by
  refine F.ok S (fun vs H Q E h => ?_) (fun cdv A outer s H vs Q E hr h => ⟨_, PSs.nox (hb cdv A outer s H E hr), ?_⟩)
  · obtain ⟨G, ds, w, d, w', r, _, hl, _⟩ := h
    rw [r.length]; exact hl
  · obtain ⟨G, ds, w0, d, w', r, dr, hl, e, k⟩ := h
    unfold bodyO at e
    split at e
    · rename_i d' w1 eb
      cases e
      exact ⟨G, H, _, w0, _, _, hold_start r dr, eb, fun p H' nb s dr r => k p H' nb s dr r⟩
    · cases e
end
end Dl
set_option Elab.async false
set_option linter.all false
set_option maxRecDepth 100000
set_option maxHeartbeats 4000000
/-! D5: what is walked; two fors in a comprehension; __init__. -/
namespace Dl
open PySem PySem.Spec L2
theorem pi_or {X : Cx} {tg e : Expr} {t t' : TI} (h : PI X tg e t) (h' : PI X tg e t') : PI X tg e (fun σ H R => t σ H R ∨ t' σ H R) := ⟨fun pins s σ H R I q => by
  rcases q with q | q
  · exact h.run pins s σ H R I q
  · exact h'.run pins s σ H R I q⟩
def chars (x : Str) : List D := x.cps.toList.map fun c => .str ⟨#[c]⟩
/-- what a value is walked by -/
def walkD : D → Option (List D)
  | .lst ds => some ds
  | .tup ds => some ds
  | .ktp ds => some ds
  | .str x => some (chars x)
  | .dic kvs => some (kvs.map (·.1))
  | .dit kvs => some (kvs.map (·.1))
  | _ => none
def iVal (f : E) : EA := fun env w => match f env w with
  | some (d, w1) => match walkD d with
    | some ds => some (ds, w1)
    | none => none
  | none => none
def itemsD : D → Option (List D)
  | .dic kvs => some (kvs.map fun p => .tup [p.1, p.2])
  | _ => none
def valuesD : D → Option (List D)
  | .dic kvs => some (kvs.map (·.2))
  | _ => none
def i1 (g : D → Option (List D)) (f : E) : EA := fun env w => match f env w with
  | some (d, w1) => match g d with
    | some ds => some (ds, w1)
    | none => none
  | none => none
theorem i1_some {g : D → Option (List D)} {f : E} {env : Env} {w w' : Dr} {ds : List D} (h : i1 g f env w = some (ds, w')) : ∃ d, f env w = some (d, w') ∧ g d = some ds := by
  unfold i1 at h
  split at h
  · split at h
    · cases h; exact ⟨_, ‹_›, ‹_›⟩
    · cases h
  · cases h
theorem ktp_len {K : PySem.W.Frag} {H : Hp} {a : Addr} {xs : List V} (h : PTu K H a xs) : xs.length ≤ sizeLine := h.len
section
variable {T : Tx} {G : Gd} {H : Hp}
theorem itOk_list {a : Addr} {xs : List V} {ds : List D} (h : FzL T.K H a xs) (z : xs.length ≤ sizeLine) (r : Reps T G H xs ds) : ItOk T G (Itl T.K a) H ds := by
  refine ⟨by rw [← r.length]; exact z, fun i H2 k => ⟨fun d e => ?_, fun hi => ⟨xs, (h.keep k).sq, by rw [r.length]; exact hi⟩⟩⟩
  obtain ⟨v, hv, rv⟩ := r.get e
  refine ⟨⟨xs, v, (h.keep k).sq, hv⟩, fun x H3 ⟨e3, hx⟩ => ?_⟩
  subst e3
  have := hx xs (h.keep k).sq
  rw [hv] at this; cases this
  exact ⟨.refl _, rv.keep k⟩
theorem itOk_tup {a : Addr} {xs : List V} {ds : List D} (h : ∀ H2, Keep H H2 → SqT T.K H2 a xs) (z : xs.length ≤ sizeLine) (r : Reps T G H xs ds) : ItOk T G (Itt T.K a) H ds := by
  refine ⟨by rw [← r.length]; exact z, fun i H2 k => ⟨fun d e => ?_, fun hi => ⟨xs, h H2 k, by rw [r.length]; exact hi⟩⟩⟩
  obtain ⟨v, hv, rv⟩ := r.get e
  refine ⟨⟨xs, v, h H2 k, hv⟩, fun x H3 ⟨e3, hx⟩ => ?_⟩
  subst e3
  have := hx xs (h _ k)
  rw [hv] at this; cases this
  exact ⟨.refl _, rv.keep k⟩
theorem itOk_str {x : Str} (z' : sOk x) : ItOk T G (Its x) H (chars x) := by
  have z := z'.len
  have hl : (chars x).length = x.cps.size := by simp [chars]
  refine ⟨by rw [hl]; exact z, fun i H2 k => ⟨fun d e => ?_, fun hi => by rw [hl] at hi; exact hi⟩⟩
  have hi : i < x.cps.size := by rw [← hl]; exact (List.getElem?_eq_some_iff.mp e).1
  refine ⟨hi, fun v H3 ⟨e3, c, hc, hv⟩ => ?_⟩
  subst e3 hv
  refine ⟨.refl _, ?_⟩
  unfold chars at e
  rw [List.getElem?_map, Array.getElem?_toList, hc] at e
  cases e
  refine .str (sOk.mk (by show 1 ≤ sizeLine; decide) ?_)
  have hs := z'.cps
  unfold PySem.PyData.strOk at hs ⊢
  have hm : c ∈ x.cps := Array.mem_of_getElem? hc
  have := Array.all_eq_true'.mp hs c hm
  simpa using this
theorem keyRep {k : Key} (h : kOk k) : Rep T G H (kV k) (dKey k) := by
  cases k with
  | inl i => exact .int i
  | inr x => exact .str h
theorem keysReps : ∀ {ks : List Key}, (∀ k ∈ ks, kOk k) → Reps T G H (ks.map kV) (ks.map dKey)
  | [], _ => .nil
  | k :: ks, h => .cons (keyRep (h k List.mem_cons_self)) (keysReps fun j hj => h j (List.mem_cons_of_mem _ hj))
theorem itOk_keys {a : Addr} {o : Obj} {ps : List (Key × V)} {kvs : List (D × D)} (h : H a = some (.frz o (.dK ps))) (z : ps.length ≤ sizeLine ∧ ∀ p ∈ ps, kOk p.1) (e : kvs.map (·.1) = ps.map (fun p => dKey p.1)) : ItOk T G (Itk a o ps) H (kvs.map (·.1)) := by
  have hl : (kvs.map (·.1)).length = ps.length := by rw [e, List.length_map]
  refine ⟨by rw [hl]; exact z.1, fun i H2 k => ⟨fun d ed => ?_, fun hi => ⟨k _ _ h rfl, by rw [hl] at hi; exact hi⟩⟩⟩
  have hi : i < ps.length := by rw [← hl]; exact (List.getElem?_eq_some_iff.mp ed).1
  refine ⟨⟨k _ _ h rfl, hi⟩, fun v H3 ⟨e3, kk, vv, hk, hv⟩ => ?_⟩
  subst e3 hv
  rw [e, List.getElem?_map, hk] at ed
  cases ed
  exact ⟨.refl _, keyRep (z.2 _ (List.mem_of_getElem? hk))⟩
theorem itOk_keysT {a : Addr} {o : Obj} {ps : List (List Key × V)} {kvs : List (D × D)} (h : H a = some (.frz o (.dT ps))) (z : ps.length ≤ sizeLine ∧ ∀ p ∈ ps, ksOk p.1) (e : kvs.map (·.1) = ps.map (fun p => dKeys p.1)) : ItOk T G (Itkt a o ps) H (kvs.map (·.1)) := by
  have hl : (kvs.map (·.1)).length = ps.length := by rw [e, List.length_map]
  refine ⟨by rw [hl]; exact z.1, fun i H2 k => ⟨fun d ed => ?_, fun hi => ⟨k _ _ h rfl, by rw [hl] at hi; exact hi⟩⟩⟩
  have hi : i < ps.length := by rw [← hl]; exact (List.getElem?_eq_some_iff.mp ed).1
  refine ⟨⟨k _ _ h rfl, hi⟩, fun v H3 ⟨e3, kk, vv, q, hk, hv, hq⟩ => ?_⟩
  subst e3 hv
  rw [e, List.getElem?_map, hk] at ed
  cases ed
  have zz := z.2 _ (List.mem_of_getElem? hk)
  exact ⟨.refl _, .tup hq (by rw [List.length_map]; exact zz.1) (keysReps zz.2)⟩
theorem itOk_vals {a : Addr} {o : Obj} {ps : List (Key × V)} {kvs : List (D × D)} (h : H a = some (.frz o (.dK ps))) (z : ps.length ≤ sizeLine ∧ ∀ p ∈ ps, kOk p.1) (r : Reps T G H (ps.map (·.2)) (kvs.map (·.2))) : ItOk T G (Itd a o ps) H (kvs.map (·.2)) := by
  have hl : (kvs.map (·.2)).length = ps.length := by rw [← r.length, List.length_map]
  refine ⟨by rw [hl]; exact z.1, fun i H2 k => ⟨fun d ed => ?_, fun hi => ⟨k _ _ h rfl, by rw [hl] at hi; exact hi⟩⟩⟩
  have hi : i < ps.length := by rw [← hl]; exact (List.getElem?_eq_some_iff.mp ed).1
  refine ⟨⟨k _ _ h rfl, hi⟩, fun v H3 ⟨e3, kk, hk⟩ => ?_⟩
  subst e3
  obtain ⟨v', hv', rv⟩ := r.get ed
  rw [List.getElem?_map, hk] at hv'
  cases hv'
  exact ⟨.refl _, rv.keep k⟩
theorem itOk_items {a : Addr} {o : Obj} {ps : List (Key × V)} {kvs : List (D × D)} (h : H a = some (.frz o (.dK ps))) (z : ps.length ≤ sizeLine ∧ ∀ p ∈ ps, kOk p.1) (e : kvs.map (·.1) = ps.map (fun p => dKey p.1)) (r : Reps T G H (ps.map (·.2)) (kvs.map (·.2))) : ItOk T G (Iti a o ps) H (kvs.map fun p => .tup [p.1, p.2]) := by
  have hl : kvs.length = ps.length := by have := r.length; simpa using this.symm
  refine ⟨by rw [List.length_map, hl]; exact z.1, fun i H2 k => ⟨fun d ed => ?_, fun hi => ⟨k _ _ h rfl, by rw [List.length_map, hl] at hi; exact hi⟩⟩⟩
  have hi : i < ps.length := by rw [← hl]; simpa using (List.getElem?_eq_some_iff.mp ed).1
  refine ⟨⟨k _ _ h rfl, hi⟩, fun v H3 ⟨T', kk, vv, hk, hv, nT, e3⟩ => ?_⟩
  subst e3 hv
  rw [List.getElem?_map] at ed
  cases hkv : kvs[i]? with
  | none => rw [hkv] at ed; cases ed
  | some kv =>
    rw [hkv] at ed
    cases ed
    have e1 : (kvs.map (·.1))[i]? = some kv.1 := by rw [List.getElem?_map, hkv]; rfl
    rw [e, List.getElem?_map, hk] at e1
    have e1' : dKey kk = kv.1 := by simpa using e1
    obtain ⟨v', hv', rv⟩ := r.get (i := i) (d := kv.2) (by rw [List.getElem?_map, hkv]; rfl)
    rw [List.getElem?_map, hk] at hv'
    have hv'' : vv = v' := by simpa using hv'
    subst hv''
    refine ⟨same_new _ nT, .tup upd_same (by show 2 ≤ sizeLine; decide) (.cons ?_ (.cons ?_ .nil))⟩
    · rw [← e1']; exact keyRep (z.2 _ (List.mem_of_getElem? hk))
    · exact (rv.keep k).keep (Keep.new _ nT)
def rangeD (lo : Int) (n : Nat) : List D := (List.range n).map fun (i : Nat) => .int (lo + i)
theorem itOk_range {lo : Int} {n : Nat} (hn : n ≤ sizeLine) : ItOk T G (Itr lo n) H (rangeD lo n) := by
  have hl : (rangeD lo n).length = n := by simp [rangeD]
  refine ⟨by rw [hl]; exact hn, fun i H2 k => ⟨fun d ed => ?_, fun hi => by rw [hl] at hi; exact hi⟩⟩
  have hi : i < n := by rw [← hl]; exact (List.getElem?_eq_some_iff.mp ed).1
  refine ⟨hi, fun v H3 ⟨e3, hv⟩ => ?_⟩
  subst e3 hv
  unfold rangeD at ed
  rw [List.getElem?_map, List.getElem?_range hi] at ed
  cases ed
  exact ⟨.refl _, .int _⟩
def enumD (ds : List D) : List D := ds.mapIdx fun (i : Nat) d => .tup [.int (i : Nat), d]
theorem itOk_enum {a : Addr} {xs : List V} {ds : List D} (h : FzL T.K H a xs) (z : xs.length ≤ sizeLine) (r : Reps T G H xs ds) : ItOk T G (Ite T.K a) H (enumD ds) := by
  have hl : (enumD ds).length = xs.length := by simp [enumD, r.length]
  refine ⟨by rw [hl]; exact z, fun i H2 k => ⟨fun d ed => ?_, fun hi => ⟨xs, (h.keep k).sq, by rw [hl] at hi; exact hi⟩⟩⟩
  unfold enumD at ed
  rw [List.getElem?_mapIdx] at ed
  cases hd : ds[i]? with
  | none => rw [hd] at ed; cases ed
  | some d' =>
    rw [hd] at ed
    cases ed
    obtain ⟨v, hv, rv⟩ := r.get hd
    refine ⟨⟨xs, v, (h.keep k).sq, hv⟩, fun x H3 ⟨T', y, ex, nT, e3, hy⟩ => ?_⟩
    subst ex e3
    have := hy xs (h.keep k).sq
    rw [hv] at this; cases this
    exact ⟨same_new _ nT, .tup upd_same (by show 2 ≤ sizeLine; decide) (.cons (.int _) (.cons ((rv.keep k).keep (Keep.new _ nT)) .nil))⟩
end
section
variable {X : Cx} {tg e : Expr} {f : E} {pos p : Pos}
theorem di_val (h : DE X e f) : DI X tg e (i1 walkD f) := pi_imp (pi_or (pi_list h) (pi_or (pi_tup h) (pi_or (pi_str h) (pi_keys h)))) fun σ H R ⟨G, B, env, w, ds, w', hd, e, k⟩ => by
  obtain ⟨d, ea, eg⟩ := i1_some e
  cases d with
  | lst ds' =>
    cases eg
    refine .inl ⟨G, B, env, w, _, w', hd, ea, fun v H1 s1 h1 r => ?_⟩
    cases r with
    | lst h z rr => exact ⟨_, rfl, ⟨_, h.sq⟩, k _ H1 s1 h1 (itOk_list (T := tx X) h z rr)⟩
  | tup ds' =>
    cases eg
    refine .inr (.inl ⟨G, B, env, w, _, w', hd, ea, fun v H1 s1 h1 r => ?_⟩)
    cases r with
    | tup h z rr => exact ⟨_, rfl, ⟨_, SqT.of h⟩, k _ H1 s1 h1 (itOk_tup (T := tx X) (fun H2 kk => SqT.of (kk _ _ h rfl)) z rr)⟩
  | ktp ds' =>
    cases eg
    refine .inr (.inl ⟨G, B, env, w, _, w', hd, ea, fun v H1 s1 h1 r => ?_⟩)
    cases r with
    | ktp h rr =>
      have z := ktp_len h
      exact ⟨_, rfl, ⟨_, h.sq⟩, k _ H1 s1 h1 (itOk_tup (T := tx X) (fun H2 kk => (h.keep kk).sq) z rr)⟩
  | str x =>
    cases eg
    refine .inr (.inr (.inl ⟨G, B, env, w, _, w', hd, ea, fun v H1 s1 h1 r => ?_⟩))
    cases r with
    | str h => exact ⟨_, rfl, k _ H1 s1 h1 (itOk_str h)⟩
  | dic kvs =>
    cases eg
    refine .inr (.inr (.inr ⟨G, B, env, w, _, w', hd, ea, fun v H1 s1 h1 r => ?_⟩))
    cases r with
    | dicK h z q rr => exact ⟨_, _, rfl, .inl ⟨_, h, k _ H1 s1 h1 (itOk_keys h z q)⟩⟩
  | dit kvs =>
    cases eg
    refine .inr (.inr (.inr ⟨G, B, env, w, _, w', hd, ea, fun v H1 s1 h1 r => ?_⟩))
    cases r with
    | dicT h z q rr => exact ⟨_, _, rfl, .inr ⟨_, h, k _ H1 s1 h1 (itOk_keysT h z q)⟩⟩
  | _ => cases eg
theorem di_items {apos cpos tpos : Pos} {elts : List Expr} {kk : Nat} (h : DE X e f) (hbase : attributeBase e "items" X.env (eval e X.env) = eval e X.env := by rfl) (hline : (apos.endLine == cpos.line) = true := by rfl) : DI X (.Tuple elts kk tpos) (.Call (.Attribute e "items" apos) [] [] cpos) (i1 itemsD f) := pi_imp (pi_items h hbase hline) fun σ H R ⟨G, B, env, w, ds, w', hd, e, k⟩ => by
  obtain ⟨d, ea, eg⟩ := i1_some e
  cases d with
  | dic kvs =>
    cases eg
    refine ⟨G, B, env, w, _, w', hd, ea, fun v H1 s1 h1 r => ?_⟩
    cases r with
    | dicK h z q rr => exact ⟨_, _, _, rfl, h, k _ H1 s1 h1 (itOk_items h z q rr)⟩
  | _ => cases eg
theorem di_values {apos cpos : Pos} (h : DE X e f) (hbase : attributeBase e "values" X.env (eval e X.env) = eval e X.env := by rfl) (hline : (apos.endLine == cpos.line) = true := by rfl) : DI X tg (.Call (.Attribute e "values" apos) [] [] cpos) (i1 valuesD f) := pi_imp (pi_values h hbase hline) fun σ H R ⟨G, B, env, w, ds, w', hd, e, k⟩ => by
  obtain ⟨d, ea, eg⟩ := i1_some e
  cases d with
  | dic kvs =>
    cases eg
    refine ⟨G, B, env, w, _, w', hd, ea, fun v H1 s1 h1 r => ?_⟩
    cases r with
    | dicK h z q rr => exact ⟨_, _, _, rfl, h, k _ H1 s1 h1 (itOk_vals h z rr)⟩
  | _ => cases eg
/-- range(n), range(a, b): fewer turns than the longest list -/
def iRange1 (f : E) : EA := i1 (fun d => match d with
  | .int j => if -1000000 ≤ j ∧ j ≤ 1000000 then some (rangeD 0 j.toNat) else none
  | _ => none) f
def iRange2 (f g : E) : EA := fun env w => match f env w with
  | some (.int i, w1) => match g env w1 with
    | some (.int j, w2) => if -1000000 ≤ i ∧ i ≤ 1000000 ∧ -1000000 ≤ j ∧ j ≤ 1000000 then some (rangeD i (j - i).toNat, w2) else none
    | _ => none
  | _ => none
theorem di_range1 (hg : Gl X "range") (hm : X.mg "range" = none) (h : DE X e f) (hs : starEach [e] X.env = [(false, eval e X.env)] := by rfl) (hs1 : starEach (e :: []) X.env = (false, eval e X.env) :: starEach [] X.env := by rfl) : DI X tg (.Call (.Name "range" p) [e] [] pos) (iRange1 f) :=
  pi_imp (pi_range1 hg hm (da_cons (fs := []) h da_nil hs1) hs) fun σ H R ⟨G, B, env, w, ds, w', hd, e, k⟩ => by
  obtain ⟨d, ea, eg⟩ := i1_some e
  cases d with
  | int j =>
    simp only at eg
    split at eg
    · rename_i hj
      cases eg
      refine ⟨G, B, env, w, [.int j], w', hd, ?_, fun vs H1 s1 h1 r => ?_⟩
      · show aCons f aNil env w = _
        unfold aCons aNil
        rw [ea]
      · cases r with
        | cons r rr =>
          cases rr
          cases r
          exact ⟨j, rfl, by omega, by omega, k _ H1 s1 h1 (itOk_range (by rw [sizeLine_eq]; omega))⟩
    · cases eg
  | _ => cases eg
theorem di_range2 {e' : Expr} {g : E} (hg : Gl X "range") (hm : X.mg "range" = none) (h : DE X e f) (h' : DE X e' g) (hs : starEach [e, e'] X.env = [(false, eval e X.env), (false, eval e' X.env)] := by rfl) (hs2 : starEach [e'] X.env = [(false, eval e' X.env)] := by rfl)
    (hs3 : starEach (e :: [e']) X.env = (false, eval e X.env) :: starEach [e'] X.env := by rfl) (hs4 : starEach (e' :: []) X.env = (false, eval e' X.env) :: starEach [] X.env := by rfl) : DI X tg (.Call (.Name "range" p) [e, e'] [] pos) (iRange2 f g) :=
  pi_imp (pi_range2 hg hm (da_cons (fs := [g]) h (da_cons (fs := []) h' da_nil hs4) hs3) hs hs2) fun σ H R ⟨G, B, env, w, ds, w', hd, e, k⟩ => by
  unfold iRange2 at e
  split at e
  · rename_i i w1 ea
    split at e
    · rename_i j w2 eb
      split at e
      · rename_i hj
        cases e
        refine ⟨G, B, env, w, [.int i, .int j], w', hd, ?_, fun vs H1 s1 h1 r => ?_⟩
        · show aCons f (aCons g aNil) env w = _
          unfold aCons aNil
          rw [ea]
          simp only [eb]
        · cases r with
          | cons r rr =>
            cases rr with
            | cons r' rr =>
              cases rr
              cases r
              cases r'
              by_cases hij : i < 2 ^ 62
              · by_cases hj2 : -(2 ^ 62) ≤ j
                · exact ⟨i, j, rfl, ⟨by omega, hij, hj2, by omega⟩, k _ H1 s1 h1 (itOk_range (by rw [sizeLine_eq]; omega))⟩
                · exact absurd hj.1 (by omega)
              · exact absurd hj.1 (by omega)
      · cases e
    · cases e
  · cases e
theorem di_enum {tpos : Pos} {elts : List Expr} {kk : Nat} (hg : Gl X "enumerate") (hm : X.mg "enumerate" = none) (h : DE X e f) (hs : starEach [e] X.env = [(false, eval e X.env)] := by rfl) (hs1 : starEach (e :: []) X.env = (false, eval e X.env) :: starEach [] X.env := by rfl) :
    DI X (.Tuple elts kk tpos) (.Call (.Name "enumerate" p) [e] [] pos) (i1 (fun d => match d with
      | .lst ds => some (enumD ds)
      | _ => none) f) :=
  pi_imp (pi_enum hg hm (da_cons (fs := []) h da_nil hs1) hs) fun σ H R ⟨G, B, env, w, ds, w', hd, e, k⟩ => by
  obtain ⟨d, ea, eg⟩ := i1_some e
  cases d with
  | lst ds' =>
    cases eg
    refine ⟨G, B, env, w, [.lst ds'], w', hd, ?_, fun vs H1 s1 h1 r => ?_⟩
    · show aCons f aNil env w = _
      unfold aCons aNil
      rw [ea]
    · cases r with
      | cons r rr =>
        cases rr
        cases r with
        | lst h z rr => exact ⟨_, _, rfl, h.sq, k _ H1 s1 h1 (itOk_enum (T := tx X) h z rr)⟩
  | _ => cases eg
end
end Dl
set_option Elab.async false
set_option linter.all false
set_option maxRecDepth 100000
set_option maxHeartbeats 4000000
/-! D6: operators, comparisons, subscripts, slices over data. -/
namespace Dl
open PySem PySem.Spec L2
theorem op2_or {X : Cx} {f : Value → Value → Sem Value} {g g' : D → D → Option D} (h : Op2 X f g) (h' : Op2 X f g') : Op2 X f (fun x y => match g x y with
    | some d => some d
    | none => g' x y) := by
  obtain ⟨r, h1, h2⟩ := h
  obtain ⟨r', h1', h2'⟩ := h'
  refine ⟨_, h1.or h1', fun G H w x y dx dy d Q dr rx ry e k => ?_⟩
  cases q : g dx dy with
  | some d' =>
    simp only [q, Option.some.injEq] at e
    subst e
    exact .inl (h2 G H w x y dx dy _ Q dr rx ry q k)
  | none =>
    simp only [q] at e
    exact .inr (h2' G H w x y dx dy _ Q dr rx ry e k)
theorem op2_imp {X : Cx} {f : Value → Value → Sem Value} {g g' : D → D → Option D} (h : Op2 X f g) (k : ∀ x y d, g' x y = some d → g x y = some d) : Op2 X f g' := by
  obtain ⟨r, h1, h2⟩ := h
  exact ⟨r, h1, fun G H w x y dx dy d Q dr rx ry e kk => h2 G H w x y dx dy d Q dr rx ry (k _ _ _ e) kk⟩
/-- two ints -/
def gI (p : Int → Int → Bool) (g : Int → Int → D) : D → D → Option D
  | .int i, .int j => if p i j = true then some (g i j) else none
  | _, _ => none
theorem gI_some {p : Int → Int → Bool} {g : Int → Int → D} {x y d : D} (h : gI p g x y = some d) : ∃ i j, x = .int i ∧ y = .int j ∧ p i j = true ∧ d = g i j := by
  cases x with
  | int i =>
    cases y with
    | int j =>
      simp only [gI] at h
      split at h
      · cases h; exact ⟨i, j, rfl, rfl, ‹_›, rfl⟩
      · cases h
    | _ => cases h
  | _ => cases h
section
variable {X : Cx}
theorem op2_I {f : Value → Value → Sem Value} {C : Int → Int → Prop} {gv : Int → Int → V} {p : Int → Int → Bool} {g : Int → Int → D} (ho : OpR X f (rI C gv)) (hp : ∀ i j, p i j = true → C i j) (hg : ∀ T G H i j, Rep T G H (gv i j) (g i j)) : Op2 X f (gI p g) :=
  ⟨_, ho, fun G H w x y dx dy d Q dr rx ry e k => by
    obtain ⟨i, j, rfl, rfl, hpp, rfl⟩ := gI_some e
    cases rx
    cases ry
    exact ⟨i, j, rfl, rfl, hp i j hpp, k _ H (.refl _) (hg _ G H i j)⟩⟩
theorem op2_I0 {f : Value → Value → Sem Value} {gv : Int → Int → V} {g : Int → Int → D} (ho : OpR X f (rI0 gv)) (hg : ∀ T G H i j, Rep T G H (gv i j) (g i j)) : Op2 X f (gI (fun _ _ => true) g) :=
  ⟨_, ho, fun G H w x y dx dy d Q dr rx ry e k => by
    obtain ⟨i, j, rfl, rfl, hpp, rfl⟩ := gI_some e
    cases rx
    cases ry
    exact ⟨i, j, rfl, rfl, k _ H (.refl _) (hg _ G H i j)⟩⟩
/-! ### + -/
theorem strOk_append {x y : Str} (hx : PySem.PyData.strOk x = true) (hy : PySem.PyData.strOk y = true) : PySem.PyData.strOk (x ++ y) = true := by
  unfold PySem.PyData.strOk at *
  show (x.cps ++ y.cps).all _ = true
  rw [Array.all_append, hx, hy]; rfl
theorem str_append_len (x y : Str) : (x ++ y).length = x.length + y.length := by
  show (x.cps ++ y.cps).size = _
  rw [Array.size_append]; rfl
def addS : D → D → Option D
  | .str x, .str y => if x.length + y.length ≤ sizeLine then some (.str (x ++ y)) else none
  | _, _ => none
theorem op2_addS : Op2 X (binaryOp .Add) addS := ⟨_, op_add_str, fun G H w x y dx dy d Q dr rx ry e k => by
  cases rx with
  | str hx =>
    cases ry with
    | str hy =>
      simp only [addS] at e
      split at e
      · rename_i hl
        cases e
        exact ⟨_, _, rfl, rfl, hl, k _ H (.refl _) (.str (sOk.mk (by rw [str_append_len]; exact hl) (strOk_append hx.cps hy.cps)))⟩
      · cases e
    | _ => cases e
  | _ => cases e⟩
def addT : D → D → Option D
  | .tup xs, .tup ys => if xs.length + ys.length ≤ sizeLine then some (.tup (xs ++ ys)) else none
  | _, _ => none
theorem op2_addT : Op2 X (binaryOp .Add) addT := ⟨_, op_catA, fun G H w x y dx dy d Q dr rx ry e k => by
  cases rx with
  | tup hx zx r1 =>
    cases ry with
    | tup hy zy r2 =>
      simp only [addT] at e
      split at e
      · rename_i hl
        cases e
        refine ⟨_, _, _, _, rfl, rfl, SqT.of hx, SqT.of hy, by rw [r1.length, r2.length]; exact hl, fun z => ?_, fun z1 z2 => ?_, fun z1 z2 p np => ?_⟩
        · subst z; cases r1; exact k _ H (.refl _) (.tup hy zy (by simpa using r2))
        · subst z2; cases r2; exact k _ H (.refl _) (.tup hx zx (by simpa using r1))
        · exact k _ _ (same_new _ np) (.tup upd_same (by rw [List.length_append, r1.length, r2.length]; exact hl) ((r1.append r2).keep (Keep.new _ np)))
      · cases e
    | _ => cases e
  | _ => cases e⟩
def addD : D → D → Option D
  | .int i, .int j => some (.int (i + j))
  | .str x, .str y => if x.length + y.length ≤ sizeLine then some (.str (x ++ y)) else none
  | .tup xs, .tup ys => if xs.length + ys.length ≤ sizeLine then some (.tup (xs ++ ys)) else none
  | _, _ => none
theorem op2_add : Op2 X (binaryOp .Add) addD := op2_imp (op2_or (op2_I0 op_add (g := fun i j => .int (i + j)) fun _ _ _ _ _ => .int _) (op2_or op2_addS op2_addT)) fun x y d e => by
  cases x <;> cases y <;> first | (simp only [addD] at e; cases e; rfl) | (simp only [addD] at e; simp only [gI, addS, addT]; split at e <;> (first | (cases e; simp only [*, if_true, if_pos]) | cases e)) | (simp only [addD] at e; cases e)
/-- list + list: a new list -/
def addL : D → D → Option D
  | .lst xs, .lst ys => if xs.length + ys.length ≤ sizeLine then some (.lst (xs ++ ys)) else none
  | _, _ => none
def FzL' (H : Hp) (a : Addr) (xs : List V) : Prop := Rd H a (.lst xs)
theorem rdL {H : Hp} {P : Program} {w : World} {h : Heap} {a : Addr} {xs : List V} (ok : HOk P w H h) (r : Rd H a (.lst xs)) : xs.length ≤ sizeLine ∧ ∃ (its : List Value) (n : Nat), Vals xs its ∧ h.get? a = some { cls := .type "list", data := .seq its.toArray n } := r.ok ok
def rCatF : R2 := fun x y H Q => ∃ l b xs zs, x = .ref l ∧ y = .ref b ∧ Rd H l (.lst xs) ∧ Rd H b (.lst zs) ∧ xs.length + zs.length ≤ sizeLine ∧ ∀ p, H p = none → Q (.ref p) (upd H p (.lst (xs ++ zs)))
theorem op_catF : OpR X (binaryOp .Add) rCatF := by
  intro pins s σ H x y v u Q I rx ry ⟨l, b, xs, zs, ex, ey, hH, hB, hz, q⟩
  subst ex ey
  cases rx
  cases ry
  obtain ⟨z, its, n, r, e⟩ := rdL I.hok hH
  obtain ⟨z2, its2, n2, r2, e2⟩ := rdL I.hok hB
  have hl := r.length
  have hl2 := r2.length
  refine PySem.P.add_list e e2 ?_ (by simp only [List.size_toArray]; omega)
  rw [show its.toArray ++ its2.toArray = (its ++ its2).toArray by simp]
  exact ⟨.ref _, _, I.lnew (t' := s.toks) (r.append r2) (by simp only [List.length_append]; omega), rfl, q _ I.fresh⟩
variable {pos : Pos} {a b : Expr} {fa fb : E}
theorem do_add (ha : DE X a fa) (hb : DE X b fb) : DO X (.BinOp a .Add b pos) (e2 addL fa fb) := pe_imp (pe_op op_catF ha hb) fun σ H Q ⟨G, B, env, w, d, w', hd, e, k⟩ => by
  obtain ⟨x, w1, y, ea, eb, eg⟩ := e2_some e
  refine ⟨G, B, env, w, x, w1, hd, ea, fun v1 H1 s1 h1 r1 => ⟨G, B, env, w1, y, w', h1, eb, fun v2 H2 s2 h2 r2 => ?_⟩⟩
  cases x with
  | lst xs =>
    cases y with
    | lst ys =>
      simp only [addL] at eg
      split at eg
      · rename_i hl
        cases eg
        have r1' := r1.keep (s2.keep h1.draw)
        cases r1' with
        | lst f1 z1 q1 =>
          cases r2 with
          | lst f2 z2 q2 =>
            have hl' := hl
            rw [← q1.length, ← q2.length] at hl'
            refine ⟨_, _, _, _, rfl, rfl, .inr f1, .inr f2, hl', fun p np => k p _ (h1.back s1 (h2.back s2 np)) ((s1.trans s2).trans (.new _ np)) (h2.new _ np) (.lst upd_same (by rw [List.length_append]; exact hl') ((q1.append q2).keep (Keep.new _ np)))⟩
      · cases eg
    | _ => cases eg
  | _ => cases eg
end
/-! ### data without dicts and objects -/
mutual
def toPy : D → PyData
  | .bl b => .bool b
  | .int i => .int i
  | .str x => .str x
  | .tup ds => .tuple (toPys ds)
  | .ktp ds => .tuple (toPys ds)
  | .lst ds => .list (toPys ds)
  | .klt ds => .list (toPys ds)
  | _ => .none
def toPys : List D → List PyData
  | [] => []
  | d :: ds => toPy d :: toPys ds
end
def okD : Nat → D → Bool
  | _, .non => true
  | _, .bl _ => true
  | _, .int _ => true
  | _, .str _ => true
  | n + 1, .tup ds => ds.all (okD n)
  | n + 1, .ktp ds => ds.all (okD n)
  | n + 1, .lst ds => ds.all (okD n)
  | n + 1, .klt ds => ds.all (okD n)
  | _, _ => false
def eqD (x y : D) : Bool := PyData.eqv (toPy x) (toPy y)
theorem toPys_map : ∀ ds : List D, toPys ds = ds.map toPy
  | [] => rfl
  | d :: ds => by rw [toPys, toPys_map ds]; rfl
structure Pure (K : PySem.W.Frag) (H : Hp) (v : V) (d : D) (n : Nat) : Prop where
  dp : Dp K H v (toPy d)
  lay : PyData.canLay0 (toPy d) = true
  dep : PyData.depth (toPy d) ≤ n
theorem pures {T : Tx} {G : Gd} {H : Hp} {n : Nat} (ih : ∀ (v : V) (d : D), Rep T G H v d → okD n d = true → Pure T.K H v d n) : ∀ {vs : List V} {ds : List D}, Reps T G H vs ds → ds.all (okD n) = true → DpAll T.K H vs (toPys ds) ∧ PyData.canLayAll0 (toPys ds) = true ∧ PyData.depthAll (toPys ds) ≤ n
  | _, _, .nil, _ => ⟨.nil, rfl, Nat.zero_le _⟩
  | _, _, .cons r t, h => by
    rw [List.all_cons, Bool.and_eq_true] at h
    have h1 := ih _ _ r h.1
    obtain ⟨h2, h3, h4⟩ := pures ih t h.2
    refine ⟨.cons h1.dp h2, ?_, ?_⟩
    · show (PyData.canLay0 _ && PyData.canLayAll0 _) = true
      rw [h1.lay, h3]; rfl
    · show max _ _ ≤ n
      exact Nat.max_le.mpr ⟨h1.dep, h4⟩
theorem pure_of {T : Tx} {G : Gd} {H : Hp} : ∀ (n : Nat) (v : V) (d : D), Rep T G H v d → okD n d = true → Pure T.K H v d n
  | n, _, _, .non, _ => ⟨.non, rfl, Nat.zero_le _⟩
  | n, _, _, .bl b, _ => ⟨.bl b, rfl, Nat.zero_le _⟩
  | n, _, _, .int i, _ => ⟨.int i, rfl, Nat.zero_le _⟩
  | n, _, _, .str h, _ => ⟨.str _, h.cps, Nat.zero_le _⟩
  | n + 1, _, _, .tup h z r, o => by
    obtain ⟨h2, h3, h4⟩ := pures (pure_of n) r o
    exact ⟨.tup (SqT.of h) h2, h3, Nat.succ_le_succ h4⟩
  | n + 1, _, _, .ktp h r, o => by
    obtain ⟨h2, h3, h4⟩ := pures (pure_of n) r o
    exact ⟨.tup h.sq h2, h3, Nat.succ_le_succ h4⟩
  | n + 1, _, _, .lst h z r, o => by
    obtain ⟨h2, h3, h4⟩ := pures (pure_of n) r o
    exact ⟨.lst h.sq h2, h3, Nat.succ_le_succ h4⟩
  | n + 1, _, _, .klt h r, o => by
    obtain ⟨h2, h3, h4⟩ := pures (pure_of n) r o
    exact ⟨.lst (.inr h) h2, h3, Nat.succ_le_succ h4⟩
  | 0, _, _, .tup _ _ _, o => by cases o
  | 0, _, _, .ktp _ _, o => by cases o
  | 0, _, _, .lst _ _ _, o => by cases o
  | 0, _, _, .klt _ _, o => by cases o
  | 0, _, _, .dicK _ _ _ _, o => by cases o
  | 0, _, _, .dicT _ _ _ _, o => by cases o
  | 0, _, _, .obj _ _ _ _ _, o => by cases o
  | 0, _, _, .drw _, o => by cases o
  | 0, _, _, .exc _ _ _ _ _ _ _ _, o => by cases o
  | n + 1, _, _, .dicK _ _ _ _, o => by cases o
  | n + 1, _, _, .dicT _ _ _ _, o => by cases o
  | n + 1, _, _, .obj _ _ _ _ _, o => by cases o
  | n + 1, _, _, .drw _, o => by cases o
  | n + 1, _, _, .exc _ _ _ _ _ _ _ _, o => by cases o
theorem Pure.shaped {K : PySem.W.Frag} {H : Hp} {v : V} {d : D} (p : Pure K H v d 8) : SeqAt.shaped (toPy d) = true := by
  unfold SeqAt.shaped
  rw [p.lay, Bool.true_and]
  exact decide_eq_true (Nat.le_trans p.dep (by decide))
def cEq (x y : D) : Option D := if (okD 8 x && okD 8 y) = true then some (.bl (eqD x y)) else none
def cNe (x y : D) : Option D := if (okD 8 x && okD 8 y) = true then some (.bl (!eqD x y)) else none
section
variable {X : Cx}
theorem op2_eq (hu : X.A.units + 64 < cLine) : Op2 X (compareOp .Eq) cEq := ⟨_, op_eqD hu, fun G H w x y dx dy d Q dr rx ry e k => by
  unfold cEq at e
  split at e
  · rename_i h
    rw [Bool.and_eq_true] at h
    cases e
    have p1 := pure_of 8 x dx rx h.1
    have p2 := pure_of 8 y dy ry h.2
    exact ⟨_, _, p1.dp, p2.dp, p1.shaped, p2.shaped, k _ H (.refl _) (.bl _)⟩
  · cases e⟩
theorem op2_ne (hu : X.A.units + 64 < cLine) : Op2 X (compareOp .NotEq) cNe := ⟨_, op_neD hu, fun G H w x y dx dy d Q dr rx ry e k => by
  unfold cNe at e
  split at e
  · rename_i h
    rw [Bool.and_eq_true] at h
    cases e
    have p1 := pure_of 8 x dx rx h.1
    have p2 := pure_of 8 y dy ry h.2
    exact ⟨_, _, p1.dp, p2.dp, p1.shaped, p2.shaped, k _ H (.refl _) (.bl _)⟩
  · cases e⟩
/-! ### order -/
def cLt : D → D → Option D
  | .int i, .int j => some (.bl (decide (i < j)))
  | .str x, .str y => some (.bl (decide (x.cps.toList < y.cps.toList)))
  | _, _ => none
def cLtS : D → D → Option D
  | .str x, .str y => some (.bl (decide (x.cps.toList < y.cps.toList)))
  | _, _ => none
theorem op2_ltS : Op2 X (compareOp .Lt) cLtS := ⟨_, op_lt_str, fun G H w x y dx dy d Q dr rx ry e k => by
  cases rx with
  | str hx =>
    cases ry with
    | str hy => cases e; exact ⟨_, _, rfl, rfl, k _ H (.refl _) (.bl _)⟩
    | _ => cases e
  | _ => cases e⟩
theorem op2_lt : Op2 X (compareOp .Lt) cLt := op2_imp (op2_or (op2_I0 op_lt (g := fun i j => .bl (decide (i < j))) fun _ _ _ _ _ => .bl _) op2_ltS) fun x y d e => by
  cases x <;> cases y <;> first | (simp only [cLt] at e; cases e; rfl) | (simp only [cLt] at e; cases e)
def cLe : D → D → Option D := gI (fun _ _ => true) fun i j => .bl (decide (i ≤ j))
def cGt : D → D → Option D := gI (fun _ _ => true) fun i j => .bl (decide (j < i))
def cGe : D → D → Option D := gI (fun _ _ => true) fun i j => .bl (decide (j ≤ i))
theorem op2_le : Op2 X (compareOp .LtE) cLe := op2_I0 op_le fun _ _ _ _ _ => .bl _
theorem op2_gt : Op2 X (compareOp .Gt) cGt := op2_I0 op_gt fun _ _ _ _ _ => .bl _
theorem op2_ge : Op2 X (compareOp .GtE) cGe := op2_I0 op_ge fun _ _ _ _ _ => .bl _
def gSub : D → D → Option D := gI (fun _ _ => true) fun i j => .int (i - j)
theorem op2_sub : Op2 X (binaryOp .Sub) gSub := op2_I0 op_sub fun _ _ _ _ _ => .int _
def gMul : D → D → Option D := gI (fun i j => (decide (-(2 ^ 64) < i) && decide (i < 2 ^ 64)) || (decide (-(2 ^ 64) < j) && decide (j < 2 ^ 64))) fun i j => .int (i * j)
theorem op2_mul : Op2 X (binaryOp .Mult) gMul := op2_I op_mul (fun i j h => by
  simp only [Bool.or_eq_true, Bool.and_eq_true, decide_eq_true_eq] at h
  exact h) fun _ _ _ _ _ => .int _
def gMod : D → D → Option D := gI (fun _ j => decide (0 < j)) fun i j => .int (i % j)
theorem op2_mod : Op2 X (binaryOp .Mod) gMod := op2_I op_mod (fun i j h => of_decide_eq_true h) fun _ _ _ _ _ => .int _
def gPow : D → D → Option D := gI (fun i j => decide (0 ≤ j) && decide (j ≤ 1000000) && decide (i.natAbs < 2 ^ 64)) fun i j => .int (i ^ j.toNat)
theorem op2_pow : Op2 X (binaryOp .Pow) gPow := op2_I op_pow (fun i j h => by
  simp only [Bool.and_eq_true, decide_eq_true_eq] at h
  exact ⟨h.1.1, h.1.2, h.2⟩) fun _ _ _ _ _ => .int _
end
end Dl
set_option Elab.async false
set_option linter.all false
set_option maxRecDepth 100000
set_option maxHeartbeats 4000000
/-! D7: in, is None, subscripts, slices, len, isinstance, all, any, list, tuple; changes of things of one's own. -/
namespace Dl
open PySem PySem.Spec L2
/-! ### keys -/
def keyOf : D → Option Key
  | .int i => some (.inl i)
  | .str x => some (.inr x)
  | _ => none
def keysOf : List D → Option (List Key)
  | [] => some []
  | d :: ds => match keyOf d with
    | some k => match keysOf ds with
      | some ks => some (k :: ks)
      | none => none
    | none => none
theorem keyOf_dKey (k : Key) : keyOf (dKey k) = some k := by cases k <;> rfl
theorem keysOf_map : ∀ ks : List Key, keysOf (ks.map dKey) = some ks
  | [] => rfl
  | k :: ks => by simp only [List.map_cons, keysOf, keyOf_dKey, keysOf_map ks]
def valD (kvs : List (D × D)) (k : Key) : Option D := (kvs.find? fun p => decide (keyOf p.1 = some k)).map (·.2)
def tupKey : D → Option (List Key)
  | .tup ds => keysOf ds
  | _ => none
def valT (kvs : List (D × D)) (k : List Key) : Option D := (kvs.find? fun p => decide (tupKey p.1 = some k)).map (·.2)
section
variable {T : Tx} {G : Gd} {H : Hp}
theorem Rep.key {v : V} {d : D} {k : Key} (r : Rep T G H v d) (h : keyOf d = some k) : v = kV k ∧ kOk k := by
  cases r with
  | int i => cases h; exact ⟨rfl, trivial⟩
  | str hx => cases h; exact ⟨rfl, hx⟩
  | _ => cases h
theorem Reps.keys : ∀ {vs : List V} {ds : List D} {ks : List Key}, Reps T G H vs ds → keysOf ds = some ks → vs = ks.map kV ∧ ∀ k ∈ ks, kOk k
  | _, _, _, .nil, h => by cases h; exact ⟨rfl, fun k hk => nomatch hk⟩
  | _, _, ks, .cons r t, h => by
    unfold keysOf at h
    split at h
    · rename_i k hk
      split at h
      · rename_i ks' hks
        cases h
        obtain ⟨e1, o1⟩ := r.key hk
        obtain ⟨e2, o2⟩ := Reps.keys t hks
        refine ⟨by rw [e1, e2]; rfl, fun j hj => ?_⟩
        rcases List.mem_cons.mp hj with rfl | hj
        · exact o1
        · exact o2 j hj
      · cases h
    · cases h
theorem valD_rel : ∀ {ps : List (Key × V)} {kvs : List (D × D)} (k : Key), kvs.map (·.1) = ps.map (fun p => dKey p.1) → Reps T G H (ps.map (·.2)) (kvs.map (·.2)) →
    (∀ d, valD kvs k = some d → ∃ v, valV ps k = some v ∧ Rep T G H v d) ∧ (valD kvs k = none → valV ps k = none)
  | [], [], _, _, _ => ⟨fun d h => (by cases h), fun _ => rfl⟩
  | (k', v) :: ps, (a, b) :: kvs, k, e, r => by
    simp only [List.map_cons, List.cons.injEq] at e r
    obtain ⟨rfl, e⟩ := e
    cases r with
    | cons r rr =>
      have ih := valD_rel k e rr
      unfold valD valV at ih ⊢
      by_cases hk : k' = k
      · subst hk
        simp only [List.find?_cons, keyOf_dKey, decide_true, Option.map_some]
        exact ⟨fun d h => (by cases h; exact ⟨v, rfl, r⟩), fun h => (by cases h)⟩
      · have h1 : decide (keyOf (dKey k') = some k) = false := decide_eq_false (by rw [keyOf_dKey]; exact fun z => hk (Option.some.inj z))
        have h2 : decide (k' = k) = false := decide_eq_false hk
        simp only [List.find?_cons, h1, h2]
        exact ih
theorem valT_rel : ∀ {ps : List (List Key × V)} {kvs : List (D × D)} (k : List Key), kvs.map (·.1) = ps.map (fun p => dKeys p.1) → Reps T G H (ps.map (·.2)) (kvs.map (·.2)) →
    (∀ d, valT kvs k = some d → ∃ v, valV ps k = some v ∧ Rep T G H v d) ∧ (valT kvs k = none → valV ps k = none)
  | [], [], _, _, _ => ⟨fun d h => (by cases h), fun _ => rfl⟩
  | (k', v) :: ps, (a, b) :: kvs, k, e, r => by
    simp only [List.map_cons, List.cons.injEq] at e r
    obtain ⟨rfl, e⟩ := e
    cases r with
    | cons r rr =>
      have ih := valT_rel k e rr
      unfold valT valV at ih ⊢
      have hd : tupKey (dKeys k') = some k' := keysOf_map k'
      by_cases hk : k' = k
      · subst hk
        simp only [List.find?_cons, hd, decide_true, Option.map_some]
        exact ⟨fun d h => (by cases h; exact ⟨v, rfl, r⟩), fun h => (by cases h)⟩
      · have h1 : decide (tupKey (dKeys k') = some k) = false := decide_eq_false (by rw [hd]; exact fun z => hk (Option.some.inj z))
        have h2 : decide (k' = k) = false := decide_eq_false hk
        simp only [List.find?_cons, h1, h2]
        exact ih
/-- what the dict holds at a key -/
def getD : D → D → Option (Option D)
  | .dic kvs, x => match keyOf x with
    | some k => some (valD kvs k)
    | none => none
  | .dit kvs, x => match tupKey x with
    | some k => some (valT kvs k)
    | none => none
  | _, _ => none
theorem Rep.tupKey {v : V} {d : D} {k : List Key} (r : Rep T G H v d) (h : Dl.tupKey d = some k) : ∃ b, v = .ref b ∧ H b = some (.tup (k.map kV)) ∧ ksOk k := by
  cases r with
  | tup hb z rr =>
    obtain ⟨e, o⟩ := rr.keys h
    subst e
    exact ⟨_, rfl, hb, by rw [List.length_map] at z; exact z, o⟩
  | _ => cases h
theorem getD_rel {a : Addr} {y : V} {c x : D} {o : Option D} (rc : Rep T G H (.ref a) c) (rx : Rep T G H y x) (h : getD c x = some o) : ∃ r, DGet H a y r ∧ (∀ d, o = some d → ∃ v, r = some v ∧ Rep T G H v d) ∧ (o = none → r = none) := by
  cases rc with
  | dicK h1 z e rr =>
    simp only [getD] at h
    split at h
    · rename_i k hk
      cases h
      obtain ⟨ey, _⟩ := rx.key hk
      obtain ⟨v1, v2⟩ := valD_rel k e rr
      exact ⟨_, .inl ⟨_, k, .inr ⟨_, h1⟩, ey, rfl⟩, fun d hd => v1 d hd, v2⟩
    · cases h
  | dicT h1 z e rr =>
    simp only [getD] at h
    split at h
    · rename_i k hk
      cases h
      obtain ⟨b, ey, hb, _⟩ := rx.tupKey hk
      obtain ⟨v1, v2⟩ := valT_rel k e rr
      exact ⟨_, .inr ⟨_, k, b, .inr ⟨_, h1⟩, ey, hb, rfl⟩, fun d hd => v1 d hd, v2⟩
    · cases h
  | _ => cases h
theorem getD_ref {v : V} {c x : D} {o : Option D} (rc : Rep T G H v c) (h : getD c x = some o) : ∃ a, v = .ref a := by
  cases rc with
  | dicK h1 z e rr => exact ⟨_, rfl⟩
  | dicT h1 z e rr => exact ⟨_, rfl⟩
  | _ => cases h
end
/-! ### in -/
section
variable {X : Cx}
def rDIn (neg : Bool) : R2 := fun x y H Q => ∃ a o, y = .ref a ∧ DGet H a x o ∧ Q (.bl (if neg then !o.isSome else o.isSome)) H
theorem op_dIn (hu : X.A.units + 1 < cLine) : OpR X (compareOp .In) (rDIn false) := by
  intro pins s σ H x y v u Q I rx ry ⟨a, o, ey, g, q⟩
  subst ey
  cases ry
  exact d_in hu I g rx fun s' I' => ⟨.bl _, H, I', rfl, q⟩
theorem op_dNotIn (hu : X.A.units + 1 < cLine) : OpR X (compareOp .NotIn) (rDIn true) := by
  intro pins s σ H x y v u Q I rx ry ⟨a, o, ey, g, q⟩
  subst ey
  cases ry
  exact d_notIn hu I g rx fun s' I' => ⟨.bl _, H, I', rfl, q⟩
def cInD (neg : Bool) (x c : D) : Option D := match getD c x with
  | some o => some (.bl (if neg then !o.isSome else o.isSome))
  | none => none
theorem op2_dIn_ {f : Value → Value → Sem Value} {neg : Bool} (ho : OpR X f (rDIn neg)) : Op2 X f (cInD neg) := ⟨_, ho, fun G H w x y dx dy d Q dr rx ry e k => by
  unfold cInD at e
  split at e
  · rename_i o ho
    cases e
    obtain ⟨a, rfl⟩ := getD_ref ry ho
    obtain ⟨r, g, h1, h2⟩ := getD_rel ry rx ho
    refine ⟨a, r, rfl, g, ?_⟩
    have e : r.isSome = o.isSome := by
      cases o with
      | none => rw [h2 rfl]; rfl
      | some d => obtain ⟨v, e, _⟩ := h1 d rfl; rw [e]; rfl
    rw [e]
    exact k _ H (.refl _) (.bl _)
  · cases e⟩
def seqD : D → Option (List D)
  | .lst ds => some ds
  | .klt ds => some ds
  | .tup ds => some ds
  | .ktp ds => some ds
  | _ => none
def rSeqIn (K : PySem.W.Frag) (neg : Bool) : R2 := fun x y H Q => ∃ d c ds, Dp K H x d ∧ Dp K H y c ∧ (c = .list ds ∨ c = .tuple ds) ∧ SeqAt.shaped d = true ∧ PyData.canLayAll0 ds = true ∧ Q (.bl (if neg then !(ds.any fun z => PyData.eqv z d) else ds.any fun z => PyData.eqv z d)) H
theorem room_in {A : Around} {d : PyData} {n : Nat} (sd : SeqAt.shaped d = true) (hu : A.units + 65 < cLine) : A.units + 1 + min n d.depth < cLine := by
  have := SeqAt.depth_of_shaped sd
  omega
theorem op_seqIn (hu : X.A.units + 65 < cLine) : OpR X (compareOp .In) (rSeqIn X.K false) := by
  intro pins s σ H x y v u Q I rx ry ⟨d, c, ds, hd, hc, hcc, sd, lay, q⟩
  obtain ⟨as, r1⟩ := Dp.reads I d x v hd rx
  obtain ⟨bs, r2⟩ := Dp.reads I c y u hc ry
  rcases hcc with z | z
  · subst z
    exact SeqAt.in_list_reads r2 r1 lay (SeqAt.canLay_of_shaped sd) (room_in sd hu) ⟨.bl _, H, I, rfl, q⟩
  · subst z
    exact SeqAt.in_tuple_reads r2 r1 lay (SeqAt.canLay_of_shaped sd) (room_in sd hu) ⟨.bl _, H, I, rfl, q⟩
theorem op_seqNotIn (hu : X.A.units + 65 < cLine) : OpR X (compareOp .NotIn) (rSeqIn X.K true) := by
  intro pins s σ H x y v u Q I rx ry ⟨d, c, ds, hd, hc, hcc, sd, lay, q⟩
  obtain ⟨as, r1⟩ := Dp.reads I d x v hd rx
  obtain ⟨bs, r2⟩ := Dp.reads I c y u hc ry
  rcases hcc with z | z
  · subst z
    exact SeqAt.notIn_list_reads r2 r1 lay (SeqAt.canLay_of_shaped sd) (room_in sd hu) ⟨.bl _, H, I, rfl, q⟩
  · subst z
    exact SeqAt.notIn_tuple_reads r2 r1 lay (SeqAt.canLay_of_shaped sd) (room_in sd hu) ⟨.bl _, H, I, rfl, q⟩
def hasD (ds : List D) (x : D) : Bool := ds.any fun z => eqD z x
def cInS (neg : Bool) (x c : D) : Option D := match seqD c with
  | some ds => if (okD 8 x && okD 8 c) = true then some (.bl (if neg then !hasD ds x else hasD ds x)) else none
  | none => none
theorem any_toPys (x : PyData) : ∀ ds : List D, ((toPys ds).any fun z => PyData.eqv z x) = ds.any fun z => PyData.eqv (toPy z) x
  | [] => rfl
  | d :: ds => by rw [toPys, List.any_cons, List.any_cons, any_toPys x ds]
theorem seqD_py {c : D} {ds : List D} (h : seqD c = some ds) : toPy c = .list (toPys ds) ∨ toPy c = .tuple (toPys ds) := by
  cases c with
  | lst _ => cases h; exact .inl rfl
  | klt _ => cases h; exact .inl rfl
  | tup _ => cases h; exact .inr rfl
  | ktp _ => cases h; exact .inr rfl
  | _ => cases h
theorem lay_seq {c : PyData} {ds : List PyData} (h : c = .list ds ∨ c = .tuple ds) (l : PyData.canLay0 c = true) : PyData.canLayAll0 ds = true := by
  rcases h with z | z <;> (subst z; exact l)
theorem op2_seqIn_ {f : Value → Value → Sem Value} {neg : Bool} (ho : OpR X f (rSeqIn X.K neg)) : Op2 X f (cInS neg) := ⟨_, ho, fun G H w x y dx dy d Q dr rx ry e k => by
  unfold cInS at e
  split at e
  · rename_i ds hs
    split at e
    · rename_i h
      rw [Bool.and_eq_true] at h
      cases e
      have p1 := pure_of 8 x dx rx h.1
      have p2 := pure_of 8 y dy ry h.2
      refine ⟨_, _, _, p1.dp, p2.dp, seqD_py hs, p1.shaped, lay_seq (seqD_py hs) p2.lay, ?_⟩
      rw [any_toPys]
      exact k _ H (.refl _) (.bl _)
    · cases e
  · cases e⟩
def cInT (neg : Bool) : D → D → Option D
  | .str x, .str y => match x.cps.toList with
    | [c] => some (.bl (if neg then !decide (c ∈ y.cps.toList) else decide (c ∈ y.cps.toList)))
    | _ => none
  | _, _ => none
theorem str_one {x : Str} {c : Nat} (h : x.cps.toList = [c]) : x = ⟨#[c]⟩ := by
  obtain ⟨a⟩ := x
  obtain ⟨l⟩ := a
  simp only at h
  rw [h]
theorem op2_inT : Op2 X (compareOp .In) (cInT false) := ⟨_, op_in_sign, fun G H w x y dx dy d Q dr rx ry e k => by
  cases rx with
  | str hx =>
    cases ry with
    | str hy =>
      simp only [cInT] at e
      split at e
      · rename_i c hc
        cases e
        exact ⟨c, _, by rw [str_one hc], rfl, k _ H (.refl _) (.bl _)⟩
      · cases e
    | _ => cases e
  | _ => cases e⟩
theorem op2_notInT : Op2 X (compareOp .NotIn) (cInT true) := ⟨_, op_notIn_sign, fun G H w x y dx dy d Q dr rx ry e k => by
  cases rx with
  | str hx =>
    cases ry with
    | str hy =>
      simp only [cInT] at e
      split at e
      · rename_i c hc
        cases e
        exact ⟨c, _, by rw [str_one hc], rfl, k _ H (.refl _) (.bl _)⟩
      · cases e
    | _ => cases e
  | _ => cases e⟩
/-- x in c -/
def inR (x c : D) : Option Bool := match c with
  | .lst ds => if (okD 8 x && okD 8 c) = true then some (hasD ds x) else none
  | .klt ds => if (okD 8 x && okD 8 c) = true then some (hasD ds x) else none
  | .tup ds => if (okD 8 x && okD 8 c) = true then some (hasD ds x) else none
  | .ktp ds => if (okD 8 x && okD 8 c) = true then some (hasD ds x) else none
  | .dic kvs => (keyOf x).map fun k => (valD kvs k).isSome
  | .dit kvs => (tupKey x).map fun k => (valT kvs k).isSome
  | .str y => match x with
    | .str x => match x.cps.toList with
      | [c] => some (decide (c ∈ y.cps.toList))
      | _ => none
    | _ => none
  | _ => none
def cIn (x c : D) : Option D := (inR x c).map .bl
def cNotIn (x c : D) : Option D := (inR x c).map fun b => .bl (!b)
theorem cIn_cases {neg : Bool} {x c d : D} (e : ((inR x c).map fun b => D.bl (if neg then !b else b)) = some d) : (match cInD neg x c with
    | some d => some d
    | none => match cInS neg x c with
      | some d => some d
      | none => cInT neg x c) = some d := by
  obtain ⟨b, hb, rfl⟩ := Option.map_eq_some_iff.mp e
  unfold inR at hb
  cases c with
  | lst ds =>
    have hb' : (if (okD 8 x && okD 8 (.lst ds)) = true then some (hasD ds x) else none) = some b := hb
    by_cases h : (okD 8 x && okD 8 (.lst ds)) = true
    · rw [if_pos h] at hb'; cases hb'; simp only [cInD, getD, cInS, seqD, h, if_true]
    · rw [if_neg h] at hb'; cases hb'
  | klt ds =>
    have hb' : (if (okD 8 x && okD 8 (.klt ds)) = true then some (hasD ds x) else none) = some b := hb
    by_cases h : (okD 8 x && okD 8 (.klt ds)) = true
    · rw [if_pos h] at hb'; cases hb'; simp only [cInD, getD, cInS, seqD, h, if_true]
    · rw [if_neg h] at hb'; cases hb'
  | tup ds =>
    have hb' : (if (okD 8 x && okD 8 (.tup ds)) = true then some (hasD ds x) else none) = some b := hb
    by_cases h : (okD 8 x && okD 8 (.tup ds)) = true
    · rw [if_pos h] at hb'; cases hb'; simp only [cInD, getD, cInS, seqD, h, if_true]
    · rw [if_neg h] at hb'; cases hb'
  | ktp ds =>
    have hb' : (if (okD 8 x && okD 8 (.ktp ds)) = true then some (hasD ds x) else none) = some b := hb
    by_cases h : (okD 8 x && okD 8 (.ktp ds)) = true
    · rw [if_pos h] at hb'; cases hb'; simp only [cInD, getD, cInS, seqD, h, if_true]
    · rw [if_neg h] at hb'; cases hb'
  | dic kvs =>
    obtain ⟨k, hk, rfl⟩ := Option.map_eq_some_iff.mp hb
    simp only [cInD, getD, hk]
  | dit kvs =>
    obtain ⟨k, hk, rfl⟩ := Option.map_eq_some_iff.mp hb
    simp only [cInD, getD, hk]
  | str y =>
    cases x with
    | str x =>
      simp only at hb
      split at hb
      · rename_i c hc
        cases hb
        simp only [cInD, getD, cInS, seqD, cInT, hc]
      · cases hb
    | _ => cases hb
  | _ => cases hb
theorem op2_in (hu : X.A.units + 65 < cLine) : Op2 X (compareOp .In) cIn := op2_imp (op2_or (op2_dIn_ (op_dIn (by omega))) (op2_or (op2_seqIn_ (op_seqIn hu)) op2_inT)) fun x y d e => cIn_cases (neg := false) e
theorem op2_notIn (hu : X.A.units + 65 < cLine) : Op2 X (compareOp .NotIn) cNotIn := op2_imp (op2_or (op2_dIn_ (op_dNotIn (by omega))) (op2_or (op2_seqIn_ (op_seqNotIn hu)) op2_notInT)) fun x y d e => cIn_cases (neg := true) e
/-! ### is None -/
def isN : D → D
  | .non => .bl true
  | _ => .bl false
theorem Rep.isN {T : Tx} {G : Gd} {H : Hp} {v : V} {d : D} (r : Rep T G H v d) : Rep T G H (.bl (decide (v = .non))) (Dl.isN d) := by
  cases r <;> exact .bl _
theorem Rep.notN {T : Tx} {G : Gd} {H : Hp} {v : V} {d : D} (r : Rep T G H v d) : ∃ b, Dl.isN d = .bl b ∧ decide (v = .non) = b := by
  cases r <;> exact ⟨_, rfl, rfl⟩
def cIs (x y : D) : Option D := match y with
  | .non => some (isN x)
  | _ => none
def cIsNot (x y : D) : Option D := match y with
  | .non => match isN x with
    | .bl b => some (.bl (!b))
    | _ => none
  | _ => none
theorem op2_is : Op2 X (compareOp .Is) cIs := ⟨_, op_isN, fun G H w x y dx dy d Q dr rx ry e k => by
  cases ry with
  | non => cases e; exact ⟨rfl, k _ H (.refl _) rx.isN⟩
  | _ => cases e⟩
theorem op2_isNot : Op2 X (compareOp .IsNot) cIsNot := ⟨_, op_notN, fun G H w x y dx dy d Q dr rx ry e k => by
  cases ry with
  | non =>
    obtain ⟨b, h1, h2⟩ := rx.notN
    simp only [cIsNot, h1] at e
    cases e
    refine ⟨rfl, k _ H (.refl _) ?_⟩
    rw [h2]
    exact .bl _
  | _ => cases e⟩
end
end Dl
set_option Elab.async false
set_option linter.all false
set_option maxRecDepth 100000
set_option maxHeartbeats 4000000
/-! D8: subscripts, slices, len, isinstance, all, any, list, tuple; changes of things of one's own. -/
namespace Dl
open PySem PySem.Spec L2
/-- a new list or dict in the answer never changes from now on -/
theorem pe_lockOr {X : Cx} {e : Expr} {t : TE} (h : PE X e t) : PE X e (fun σ H Q => t σ H fun v H' => Q v H' ∨ ∃ p u, v = .ref p ∧ H' p = some u ∧ Mut (some u) ∧ ∀ od, Q (.ref p) (upd H' p (.frz od u))) := by
  refine ⟨fun pins s σ H Q I hh => thn (h.run pins s σ H _ I hh) fun u s1 ⟨x, H1, I1, r1, q⟩ => ?_⟩
  rcases q with q | ⟨p, o, e1, e2, mu, q⟩
  · exact ⟨x, H1, I1, r1, q⟩
  · subst e1
    obtain ⟨od, I2⟩ := I1.lock e2 mu
    exact ⟨_, _, I2, r1, q od⟩
section
variable {T : Tx} {G : Gd} {H : Hp}
theorem Reps.atI {vs : List V} {ds : List D} {i : Int} {d : D} (r : Reps T G H vs ds) (h : L2.atI ds i = some d) : ∃ v, L2.atI vs i = some v ∧ Rep T G H v d := by
  unfold L2.atI at h ⊢
  rw [r.length]
  cases q : ixN ds.length i with
  | none => rw [q] at h; cases h
  | some j =>
    rw [q] at h
    exact r.get h
def cutD (ds : List D) (lo hi : Option Int) : List D := (ds.drop (HT.sIx ds.length 0 lo)).take (HT.sIx ds.length ds.length hi - HT.sIx ds.length 0 lo)
theorem Reps.cut {vs : List V} {ds : List D} (r : Reps T G H vs ds) (lo hi : Option Int) : Reps T G H (cutV vs lo hi) (cutD ds lo hi) := by
  unfold cutV cutD
  rw [r.length]
  exact (r.drop _).take _
theorem strOk_of_mem {x : Str} {l : List Nat} (h : PySem.PyData.strOk x = true) (hl : ∀ c ∈ l, c ∈ x.cps.toList) : PySem.PyData.strOk ⟨l.toArray⟩ = true := by
  unfold PySem.PyData.strOk at h ⊢
  rw [Array.all_eq_true'] at h ⊢
  intro c hc
  exact h c (Array.mem_toList_iff.mp (hl c (by simpa using hc)))
theorem strOk_one {x : Str} {c : Nat} (h : sOk x) (hc : c ∈ x.cps.toList) : sOk ⟨#[c]⟩ := sOk.mk (by show 1 ≤ sizeLine; decide) (strOk_of_mem (l := [c]) h.cps (by simpa using hc))
theorem sOk_cut {x : Str} (h : sOk x) (lo hi : Option Int) : sOk (cutS x lo hi) := sOk.mk (Nat.le_trans (cutS_length x lo hi) h.len) (strOk_of_mem h.cps fun c hc => List.mem_of_mem_drop (List.mem_of_mem_take hc))
end
/-! ### x[i] -/
def ixD : D → D → Option D
  | .lst ds, .int i => L2.atI ds i
  | .klt ds, .int i => L2.atI ds i
  | .tup ds, .int i => L2.atI ds i
  | .ktp ds, .int i => L2.atI ds i
  | .str x, .int i => (L2.atI x.cps.toList i).map fun c => .str ⟨#[c]⟩
  | .dic kvs, x => match getD (.dic kvs) x with
    | some (some d) => some d
    | _ => none
  | .dit kvs, x => match getD (.dit kvs) x with
    | some (some d) => some d
    | _ => none
  | _, _ => none
section
variable {X : Cx} {pos : Pos} {a b e : Expr} {fa fb f : E}
theorem ix_dict (hu : X.A.units + 1 < cLine) : IxR X (fun x y H Q => ∃ a v, x = .ref a ∧ DGet H a y (some v) ∧ Q v H) := by
  intro value slice pins s σ H x y v u Q I rx ry ⟨a, w, ex, g, q⟩ hs
  subst ex
  cases rx
  exact PyProof.Rows.tail_any (dict_typeIs I g) PySem.F.slot_dict_getitem.lookup (d_getItem hu I g ry fun w' s3 I3 rw' => ⟨w, H, I3, rw', q⟩) hs
theorem atI_mem {α : Type} {xs : List α} {i : Int} {v : α} (h : L2.atI xs i = some v) : v ∈ xs := by
  unfold L2.atI at h
  cases q : ixN xs.length i with
  | none => rw [q] at h; cases h
  | some j => rw [q] at h; exact List.mem_of_getElem? h
theorem de_ix (hu : X.A.units + 1 < cLine) (ha : DE X a fa) (hb : DE X b fb) (hs : PlainIx b) : DE X (.Subscript a b pos) (e2 ixD fa fb) := pe_imp (pe_ix (ix_seq.or (ix_dict hu)) ha hb hs) fun σ H Q ⟨G, B, env, w, d, w', hd, e, k⟩ => by
  obtain ⟨x, w1, y, ea, eb, eg⟩ := e2_some e
  refine ⟨G, B, env, w, x, w1, hd, ea, fun v1 H1 s1 h1 r1 => ⟨G, B, env, w1, y, w', h1, eb, fun v2 H2 s2 h2 r2 => ?_⟩⟩
  have r1' := r1.keep (s2.keep h1.draw)
  have fin : ∀ v, Rep (tx X) G H2 v d → Q v H2 := fun v r => k v H2 (s1.trans s2) h2 r
  cases x with
  | lst ds =>
    cases y with
    | int i =>
      cases r1' with
      | lst h z rr =>
        cases r2
        obtain ⟨v, e1, rv⟩ := rr.atI eg
        exact .inl (.inl ⟨_, _, _, v, rfl, rfl, h.sq, e1, fin v rv⟩)
    | _ => cases eg
  | klt ds =>
    cases y with
    | int i =>
      cases r1' with
      | klt h rr =>
        cases r2
        obtain ⟨v, e1, rv⟩ := rr.atI eg
        exact .inl (.inl ⟨_, _, _, v, rfl, rfl, .inr h, e1, fin v rv⟩)
    | _ => cases eg
  | tup ds =>
    cases y with
    | int i =>
      cases r1' with
      | tup h z rr =>
        cases r2
        obtain ⟨v, e1, rv⟩ := rr.atI eg
        exact .inl (.inr (.inl ⟨_, _, _, v, rfl, rfl, SqT.of h, e1, fin v rv⟩))
    | _ => cases eg
  | ktp ds =>
    cases y with
    | int i =>
      cases r1' with
      | ktp h rr =>
        cases r2
        obtain ⟨v, e1, rv⟩ := rr.atI eg
        exact .inl (.inr (.inl ⟨_, _, _, v, rfl, rfl, h.sq, e1, fin v rv⟩))
    | _ => cases eg
  | str x =>
    cases y with
    | int i =>
      cases r1' with
      | str h =>
        cases r2
        obtain ⟨c, hc, rfl⟩ := Option.map_eq_some_iff.mp eg
        exact .inl (.inr (.inr ⟨_, _, c, rfl, rfl, h.len, hc, fin _ (.str (strOk_one h (atI_mem hc)))⟩))
    | _ => cases eg
  | dic kvs =>
    simp only [ixD] at eg
    split at eg
    · rename_i d' hg
      cases eg
      obtain ⟨a', rfl⟩ := getD_ref r1' hg
      obtain ⟨r, g, q1, _⟩ := getD_rel r1' r2 hg
      obtain ⟨v, e1, rv⟩ := q1 _ rfl
      subst e1
      exact .inr ⟨a', v, rfl, g, fin v rv⟩
    · cases eg
  | dit kvs =>
    simp only [ixD] at eg
    split at eg
    · rename_i d' hg
      cases eg
      obtain ⟨a', rfl⟩ := getD_ref r1' hg
      obtain ⟨r, g, q1, _⟩ := getD_rel r1' r2 hg
      obtain ⟨v, e1, rv⟩ := q1 _ rfl
      subst e1
      exact .inr ⟨a', v, rfl, g, fin v rv⟩
    · cases eg
  | _ => cases eg
/-! ### x[lo:hi] -/
def eP (p : Option E) : Env → Dr → Option (Option Int × Dr) := fun env w => match p with
  | none => some (none, w)
  | some f => match f env w with
    | some (.int n, w1) => some (some n, w1)
    | _ => none
def tDP (T : Tx) (p : Option E) : TO := fun σ H Q => ∃ G B env w i w', Hold T G B σ H env w ∧ eP p env w = some (i, w') ∧ ∀ H', SameD G H H' → Hold T G B σ H' env w' → Q i H'
theorem dp_none : PO X none (tDP (tx X) none) := ⟨fun pins s σ H Q I ⟨G, B, env, w, i, w', hd, e, k⟩ => po_none.run pins s σ H Q I (by cases e; exact k H (.refl _ _) hd)⟩
theorem dp_some (h : DE X e f) : PO X (some e) (tDP (tx X) (some f)) := ⟨fun pins s σ H Q I ⟨G, B, env, w, i, w', hd, e, k⟩ => (po_some h).run pins s σ H Q I (by
  simp only [eP] at e
  split at e
  · rename_i n w1 ef
    cases e
    exact ⟨G, B, env, w, _, _, hd, ef, fun v H' s' h' r => by cases r; exact ⟨n, rfl, k H' s' h'⟩⟩
  · cases e)⟩
def slD (x : D) (lo hi : Option Int) : Option D := match x with
  | .lst ds => some (.lst (cutD ds lo hi))
  | .tup ds => some (.tup (cutD ds lo hi))
  | .ktp ds => if HT.sIx ds.length 0 lo = 0 ∧ HT.sIx ds.length ds.length hi = ds.length then none else some (.tup (cutD ds lo hi))
  | .str x => some (.str (cutS x lo hi))
  | _ => none
def eSl (a : E) (lo hi : Option E) : E := fun env w => match a env w with
  | none => none
  | some (x, w1) => match eP lo env w1 with
    | none => none
    | some (l, w2) => match eP hi env w2 with
      | none => none
      | some (h, w3) => match slD x l h with
        | some d => some (d, w3)
        | none => none
theorem eSl_some {lo hi : Option E} {env : Env} {w w' : Dr} {d : D} (h : eSl fa lo hi env w = some (d, w')) : ∃ x w1 l w2 u, fa env w = some (x, w1) ∧ eP lo env w1 = some (l, w2) ∧ eP hi env w2 = some (u, w') ∧ slD x l u = some d := by
  unfold eSl at h
  split at h
  · cases h
  · split at h
    · cases h
    · split at h
      · cases h
      · split at h
        · cases h; exact ⟨_, _, _, _, _, ‹_›, ‹_›, ‹_›, ‹_›⟩
        · cases h
theorem cut_whole {xs : List V} {lo hi : Option Int} (h : HT.sIx xs.length 0 lo = 0 ∧ HT.sIx xs.length xs.length hi = xs.length) : cutV xs lo hi = xs := by
  unfold cutV
  rw [h.1, h.2]
  simp
theorem de_slice {lo hi : Option Expr} {flo fhi : Option E} {p2 : Pos} (ha : DE X a fa) (hl : PO X lo (tDP (tx X) flo)) (hh : PO X hi (tDP (tx X) fhi)) : DE X (.Subscript a (.Slice lo hi none p2) pos) (eSl fa flo fhi) :=
  pe_imp (pe_lockOr (pe_slice (sl_list.or (sl_tupA.or sl_str)) ha hl hh)) fun σ H Q ⟨G, B, env, w, d, w', hd, e, k⟩ => by
  obtain ⟨x, w1, l, w2, u, ea, el, eu, eg⟩ := eSl_some e
  refine ⟨G, B, env, w, x, w1, hd, ea, fun v1 H1 s1 h1 r1 => ⟨G, B, env, w1, l, w2, h1, el, fun H2 s2 h2 => ⟨G, B, env, w2, u, w', h2, eu, fun H3 s3 h3 => ?_⟩⟩⟩
  have r1' := (r1.keep (s2.keep h1.draw)).keep (s3.keep h2.draw)
  have s13 : SameD G H H3 := (s1.trans s2).trans s3
  cases x with
  | lst ds =>
    cases eg
    cases r1' with
    | @lst _ xs _ h z rr =>
      refine .inl ⟨_, _, rfl, h.sq, fun p np => .inr ⟨p, _, rfl, upd_same, trivial, fun od => ?_⟩⟩
      have hn := h3.new (.lst (cutV xs l u)) np
      obtain ⟨nb, n1, n2⟩ := h3.nb np
      have ow : Own (tx X) G (upd H3 p (.lst (cutV xs l u))) p (.lst (cutD ds l u)) := .lst upd_same (Nat.le_trans (cutV_length _ l u) z) ((rr.cut l u).keep (Keep.new _ np))
      refine k _ _ (fun a o q m1 m2 m3 => ?_) (hn.lock od upd_same noCode_lst rfl (h3.apart np) nb n1 n2 (h3.apartT (.new _ np) np)) (ow.frz rfl upd_same)
      rw [upd_ne (ne_of_none (s13 a o q m1 m2 m3) np), upd_ne (ne_of_none (s13 a o q m1 m2 m3) np)]
      exact s13 a o q m1 m2 m3
  | tup ds =>
    cases eg
    cases r1' with
    | tup h z rr =>
      refine .inr (.inl ⟨_, _, rfl, SqT.of h, fun hw => .inl ?_, fun hw p np => .inl ?_⟩)
      · have r := rr.cut l u
        rw [cut_whole hw] at r
        exact k _ H3 s13 h3 (.tup h z r)
      · exact k _ _ (s13.trans (.new _ np)) (h3.new _ np) (.tup upd_same (Nat.le_trans (cutV_length _ l u) z) ((rr.cut l u).keep (Keep.new _ np)))
  | ktp ds =>
    simp only [slD] at eg
    split at eg
    · cases eg
    · rename_i nw
      cases eg
      cases r1' with
      | ktp h rr =>
        refine .inr (.inl ⟨_, _, rfl, h.sq, fun hw => absurd hw (by rw [rr.length]; exact nw), fun hw p np => .inl ?_⟩)
        exact k _ _ (s13.trans (.new _ np)) (h3.new _ np) (.tup upd_same (Nat.le_trans (cutV_length _ l u) h.len) ((rr.cut l u).keep (Keep.new _ np)))
  | str x =>
    cases eg
    cases r1' with
    | str h => exact .inr (.inr ⟨_, rfl, h.len, .inl (k _ H3 s13 h3 (.str (sOk_cut h l u)))⟩)
  | _ => cases eg
/-- xs[::-1] of a list: a new list -/
def revL : D → Option D
  | .lst ds => some (.lst ds.reverse)
  | _ => none
theorem do_rev {k0 : Nat} {p1 p2 p3 : Pos} (ha : DE X a fa) : DO X (.Subscript a (.Slice none none (some (.UnaryOp .USub (.Constant (.int 1) k0 p1) p2)) p3) pos) (e1 revL fa) := pe_imp (pe_revL ha) fun σ H Q ⟨G, B, env, w, d, w', hd, e, k⟩ => by
  obtain ⟨x, ea, eg⟩ := e1_some e
  refine ⟨G, B, env, w, x, w', hd, ea, fun v1 H1 s1 h1 r1 => ?_⟩
  cases x with
  | lst ds =>
    cases eg
    cases r1 with
    | lst h z rr =>
      refine ⟨_, _, rfl, h.sq, fun p np => ?_⟩
      exact k p _ (h1.back s1 np) (s1.trans (.new _ np)) (h1.new _ np) (.lst upd_same (by rw [List.length_reverse]; exact z) (rr.reverse.keep (Keep.new _ np)))
  | _ => cases eg
/-! ### calls of built-ins -/
theorem callR_or {f : Value} {r r' : List V → Hp → VK → Prop} (h : CallR X f r) (h' : CallR X f r') : CallR X f (fun xs H Q => r xs H Q ∨ r' xs H Q) := by
  intro pins s σ H xs us Q I rv q
  rcases q with q | q
  · exact h pins s σ H xs us Q I rv q
  · exact h' pins s σ H xs us Q I rv q
/-- a built-in by what it does with data -/
def Call1 (X : Cx) (f : Value) (g : List D → Option D) : Prop := ∃ r : List V → Hp → VK → Prop, CallR X f r ∧
  ∀ (G : Gd) (H : Hp) (w : Dr) (vs : List V) (ds : List D) (d : D) (Q : VK), DrawAt G H w → Reps (tx X) G H vs ds → g ds = some d → (∀ v H', Same H H' → Rep (tx X) G H' v d → Q v H') → r vs H Q
/-- .. that gives a new list or dict -/
def CallN (X : Cx) (f : Value) (g : List D → Option D) : Prop := ∃ r : List V → Hp → VK → Prop, CallR X f r ∧
  ∀ (G : Gd) (H : Hp) (w : Dr) (vs : List V) (ds : List D) (d : D) (Q : VK), DrawAt G H w → Reps (tx X) G H vs ds → g ds = some d → (∀ p H', H p = none → Same H H' → Own (tx X) G H' p d → Q (.ref p) H') → r vs H Q
variable {es : List Expr} {fs : List E} {x : Str} {p : Pos} {g : List D → Option D}
theorem tCB_of {r : List V → Hp → VK → Prop} (hr : ∀ (G : Gd) (H : Hp) (w : Dr) (vs : List V) (ds : List D) (d : D) (Q : VK), DrawAt G H w → Reps (tx X) G H vs ds → g ds = some d → (∀ v H', Same H H' → Rep (tx X) G H' v d → Q v H') → r vs H Q) :
    ∀ σ H Q, tD (tx X) (eBi g (aL fs)) σ H Q → tCB r (tDA (tx X) (aL fs)) σ H Q := fun σ H Q ⟨G, B, env, w, d, w', hd, e, k⟩ => by
  obtain ⟨xs, e1, e2⟩ := eBi_some e
  refine ⟨G, B, env, w, xs, w', hd, e1, fun vs H1 s1 h1 r1 => ?_⟩
  exact hr G H1 w' vs xs d Q h1.draw r1 e2 fun v H' s r => k v H' (s1.trans (.of s)) (h1.go (.of s) (h1.draw.go s)) r
theorem tCBN_of {r : List V → Hp → VK → Prop} (hr : ∀ (G : Gd) (H : Hp) (w : Dr) (vs : List V) (ds : List D) (d : D) (Q : VK), DrawAt G H w → Reps (tx X) G H vs ds → g ds = some d → (∀ p H', H p = none → Same H H' → Own (tx X) G H' p d → Q (.ref p) H') → r vs H Q) :
    ∀ σ H Q, tDO (tx X) (eBi g (aL fs)) σ H Q → tCB r (tDA (tx X) (aL fs)) σ H Q := fun σ H Q ⟨G, B, env, w, d, w', hd, e, k⟩ => by
  obtain ⟨xs, e1, e2⟩ := eBi_some e
  refine ⟨G, B, env, w, xs, w', hd, e1, fun vs H1 s1 h1 r1 => ?_⟩
  exact hr G H1 w' vs xs d Q h1.draw r1 e2 fun p H' np s r => k p H' (h1.back s1 np) (s1.trans (.of s)) (h1.go (.of s) (h1.draw.go s)) r
theorem de_bi {id : String} (hc : Call1 X (.builtin id) g) (hg : Gl X x) (hm : X.mg x = none) (hv : bootBuiltins x = some (.builtin id)) (ha : DA X (e :: es) (aL fs)) (hn : x ≠ "__name__" := by decide) (hdb : (x == ("__debug__" : Str)) = false := by decide)
    (he : starEach (e :: es) X.env = (false, eval e X.env) :: starEach es X.env := by rfl) (hpl : (backTo pos (starEach es X.env)).any (·.1) = false := by rfl) : DE X (.Call (.Name x p) (e :: es) [] pos) (eBi g (aL fs)) := by
  obtain ⟨r, h1, h2⟩ := hc
  exact pe_imp (pe_callB h1 hg hm hv ha hn hdb he hpl) (tCB_of h2)
theorem de_ty {id : String} (hc : Call1 X (.type id) g) (hg : Gl X x) (hm : X.mg x = none) (hv : bootBuiltins x = some (.type id)) (ha : DA X (e :: es) (aL fs)) (hn : x ≠ "__name__" := by decide) (hdb : (x == ("__debug__" : Str)) = false := by decide)
    (he : starEach (e :: es) X.env = (false, eval e X.env) :: starEach es X.env := by rfl) (hpl : (backTo pos (starEach es X.env)).any (·.1) = false := by rfl) : DE X (.Call (.Name x p) (e :: es) [] pos) (eBi g (aL fs)) := by
  obtain ⟨r, h1, h2⟩ := hc
  exact pe_imp (pe_callTy h1 hg hm hv ha hn hdb he hpl) (tCB_of h2)
theorem do_bi {id : String} (hc : CallN X (.builtin id) g) (hg : Gl X x) (hm : X.mg x = none) (hv : bootBuiltins x = some (.builtin id)) (ha : DA X (e :: es) (aL fs)) (hn : x ≠ "__name__" := by decide) (hdb : (x == ("__debug__" : Str)) = false := by decide)
    (he : starEach (e :: es) X.env = (false, eval e X.env) :: starEach es X.env := by rfl) (hpl : (backTo pos (starEach es X.env)).any (·.1) = false := by rfl) : DO X (.Call (.Name x p) (e :: es) [] pos) (eBi g (aL fs)) := by
  obtain ⟨r, h1, h2⟩ := hc
  exact pe_imp (pe_callB h1 hg hm hv ha hn hdb he hpl) (tCBN_of h2)
theorem do_ty {id : String} (hc : CallN X (.type id) g) (hg : Gl X x) (hm : X.mg x = none) (hv : bootBuiltins x = some (.type id)) (ha : DA X (e :: es) (aL fs)) (hn : x ≠ "__name__" := by decide) (hdb : (x == ("__debug__" : Str)) = false := by decide)
    (he : starEach (e :: es) X.env = (false, eval e X.env) :: starEach es X.env := by rfl) (hpl : (backTo pos (starEach es X.env)).any (·.1) = false := by rfl) : DO X (.Call (.Name x p) (e :: es) [] pos) (eBi g (aL fs)) := by
  obtain ⟨r, h1, h2⟩ := hc
  exact pe_imp (pe_callTy h1 hg hm hv ha hn hdb he hpl) (tCBN_of h2)
/-! ### len -/
def lenD : List D → Option D
  | [.lst ds] => some (.int ds.length)
  | [.klt ds] => some (.int ds.length)
  | [.tup ds] => some (.int ds.length)
  | [.ktp ds] => some (.int ds.length)
  | [.str x] => some (.int x.length)
  | [.dic kvs] => some (.int kvs.length)
  | [.dit kvs] => some (.int kvs.length)
  | _ => none
theorem call_lenKF : CallR X (.builtin "len") (fun xs H Q => ∃ a kvs, xs = [V.ref a] ∧ Rd H a (.dK kvs) ∧ Q (.int kvs.length) H) := by
  intro pins s σ H xs us Q I r ⟨a, kvs, ex, ha, q⟩
  subst ex
  obtain ⟨u, rfl, ru⟩ := vals1 r
  cases ru
  exact d_len I ha fun t s' I' => ⟨.int kvs.length, H, I', ⟨t, rfl⟩, q⟩
theorem call_lenTF : CallR X (.builtin "len") (fun xs H Q => ∃ a, ∃ kvs : List (List Key × V), xs = [V.ref a] ∧ Rd H a (.dT kvs) ∧ Q (.int kvs.length) H) := by
  intro pins s σ H xs us Q I r ⟨a, kvs, ex, ha, q⟩
  subst ex
  obtain ⟨u, rfl, ru⟩ := vals1 r
  cases ru
  obtain ⟨z, hd, ys, rel, dd⟩ := dt_rd I.hok ha
  have hl : kvs.length = ys.length := Paired.length rel
  refine call_len_dictH hd dd (by rw [sizeLine_eq] at z; omega) ?_
  rw [← hl]
  exact ⟨.int kvs.length, H, I.tok _, ⟨_, rfl⟩, q⟩
theorem c1_len : Call1 X (.builtin "len") lenD := ⟨_, callR_or call_len (callR_or call_lenKF call_lenTF), fun G H w vs ds d Q dr r e k => by
  cases r with
  | nil => cases e
  | cons r rr =>
    cases rr with
    | cons _ _ => cases r <;> cases e
    | nil =>
      cases r with
      | lst h z q => cases e; exact .inl ⟨_, _, rfl, .inl ⟨_, h.sq, rfl⟩, k _ H (.refl _) (by rw [q.length]; exact .int _)⟩
      | klt h q => cases e; exact .inl ⟨_, _, rfl, .inl ⟨_, .inr h, rfl⟩, k _ H (.refl _) (by rw [q.length]; exact .int _)⟩
      | tup h z q => cases e; exact .inl ⟨_, _, rfl, .inr ⟨_, SqT.of h, rfl⟩, k _ H (.refl _) (by rw [q.length]; exact .int _)⟩
      | ktp h q => cases e; exact .inl ⟨_, _, rfl, .inr ⟨_, h.sq, rfl⟩, k _ H (.refl _) (by rw [q.length]; exact .int _)⟩
      | str h => cases e; exact .inl ⟨_, _, rfl, ⟨h.len, rfl⟩, k _ H (.refl _) (.int _)⟩
      | dicK h z q rr =>
        cases e
        have hl := rr.length
        simp only [List.length_map] at hl
        exact .inr (.inl ⟨_, _, rfl, .inr ⟨_, h⟩, k _ H (.refl _) (by rw [hl]; exact .int _)⟩)
      | dicT h z q rr =>
        cases e
        have hl := rr.length
        simp only [List.length_map] at hl
        exact .inr (.inr ⟨_, _, rfl, .inr ⟨_, h⟩, k _ H (.refl _) (by rw [hl]; exact .int _)⟩)
      | _ => cases e⟩
/-! ### all, any, list, tuple, abs, min, int -/
def bools : List D → Option (List Bool)
  | [] => some []
  | .bl b :: ds => match bools ds with
    | some bs => some (b :: bs)
    | none => none
  | _ => none
theorem Reps.bools {T : Tx} {G : Gd} {H : Hp} : ∀ {vs : List V} {ds : List D} {bs : List Bool}, Reps T G H vs ds → Dl.bools ds = some bs → vs = bs.map V.bl
  | _, _, _, .nil, h => by cases h; rfl
  | _, _, _, .cons r t, h => by
    cases r with
    | bl b =>
      simp only [Dl.bools] at h
      split at h
      · rename_i bs hb
        cases h
        rw [Reps.bools t hb]; rfl
      · cases h
    | _ => cases h
def allD : List D → Option D
  | [.lst ds] => (bools ds).map fun bs => .bl (bs.all id)
  | _ => none
def anyD : List D → Option D
  | [.lst ds] => (bools ds).map fun bs => .bl (bs.any id)
  | _ => none
theorem c1_all (hc : X.calm = true) : Call1 X (.builtin "all") allD := ⟨_, cr_all hc, fun G H w vs ds d Q dr r e k => by
  cases r with
  | nil => cases e
  | cons r rr =>
    cases rr with
    | cons _ _ => cases r <;> cases e
    | nil =>
      cases r with
      | lst h z q =>
        obtain ⟨bs, hb, rfl⟩ := Option.map_eq_some_iff.mp e
        have := q.bools hb
        subst this
        exact ⟨_, bs, rfl, h.sq, k _ H (.refl _) (.bl _)⟩
      | _ => cases e⟩
theorem c1_any (hc : X.calm = true) : Call1 X (.builtin "any") anyD := ⟨_, cr_any hc, fun G H w vs ds d Q dr r e k => by
  cases r with
  | nil => cases e
  | cons r rr =>
    cases rr with
    | cons _ _ => cases r <;> cases e
    | nil =>
      cases r with
      | lst h z q =>
        obtain ⟨bs, hb, rfl⟩ := Option.map_eq_some_iff.mp e
        have := q.bools hb
        subst this
        exact ⟨_, bs, rfl, h.sq, k _ H (.refl _) (.bl _)⟩
      | _ => cases e⟩
theorem klt_len {K : PySem.W.Frag} {a : Addr} {xs : List V} (h : ∃ (o : Obj) (its : Array Value) (n : Nat), K.lookup a = some o ∧ o.cls = .type "list" ∧ o.dict = none ∧ o.data = .seq its n ∧ its.size ≤ sizeLine ∧ Vals xs its.toList) : xs.length ≤ sizeLine := by
  obtain ⟨o, its, n, _, _, _, _, hz, rv⟩ := h
  rw [rv.length, Array.length_toList]; exact hz
def listD : List D → Option D
  | [.lst ds] => some (.lst ds)
  | [.klt ds] => some (.lst ds)
  | [.tup ds] => some (.lst ds)
  | [.ktp ds] => some (.lst ds)
  | _ => none
theorem cn_list : CallN X (.type "list") listD := ⟨_, call_list_of, fun G H w vs ds d Q dr r e k => by
  cases r with
  | nil => cases e
  | cons r rr =>
    cases rr with
    | cons _ _ => cases r <;> cases e
    | nil =>
      cases r with
      | lst h z q => cases e; exact ⟨_, _, rfl, .inl h.sq, fun l hl => k l _ hl (same_new _ hl) (.lst upd_same z (q.keep (Keep.new _ hl)))⟩
      | klt h q =>
        cases e
        have z := klt_len h
        exact ⟨_, _, rfl, .inl (.inr h), fun l hl => k l _ hl (same_new _ hl) (.lst upd_same z (q.keep (Keep.new _ hl)))⟩
      | tup h z q => cases e; exact ⟨_, _, rfl, .inr (SqT.of h), fun l hl => k l _ hl (same_new _ hl) (.lst upd_same z (q.keep (Keep.new _ hl)))⟩
      | ktp h q => cases e; exact ⟨_, _, rfl, .inr h.sq, fun l hl => k l _ hl (same_new _ hl) (.lst upd_same (ktp_len h) (q.keep (Keep.new _ hl)))⟩
      | _ => cases e⟩
def tupleD : List D → Option D
  | [.lst ds] => some (.tup ds)
  | [.tup ds] => some (.tup ds)
  | _ => none
theorem c1_tuple : Call1 X (.type "tuple") tupleD := ⟨_, call_tuple_of, fun G H w vs ds d Q dr r e k => by
  cases r with
  | nil => cases e
  | cons r rr =>
    cases rr with
    | cons _ _ => cases r <;> cases e
    | nil =>
      cases r with
      | lst h z q => cases e; exact ⟨_, _, rfl, .inl ⟨h.sq, fun l hl => k _ _ (same_new _ hl) (.tup upd_same z (q.keep (Keep.new _ hl)))⟩⟩
      | tup h z q => cases e; exact ⟨_, _, rfl, .inr ⟨SqT.of h, k _ H (.refl _) (.tup h z q)⟩⟩
      | _ => cases e⟩
end
end Dl
set_option Elab.async false
set_option linter.all false
set_option maxRecDepth 100000
set_option maxHeartbeats 4000000
/-! D9: isinstance, numbers, join; changes of things of one's own; __init__; two fors. -/
namespace Dl
open PySem PySem.Spec L2
/-! ### isinstance -/
inductive Ty where
  | str | int | bool | list | tuple | dict
  deriving DecidableEq
def Ty.nm : Ty → String
  | .str => "str"
  | .int => "int"
  | .bool => "bool"
  | .list => "list"
  | .tuple => "tuple"
  | .dict => "dict"
/-- a datum's type -/
def tyN : D → Option String
  | .non => some "NoneType"
  | .bl _ => some "bool"
  | .int _ => some "int"
  | .str _ => some "str"
  | .lst _ => some "list"
  | .klt _ => some "list"
  | .tup _ => some "tuple"
  | .ktp _ => some "tuple"
  | .dic _ => some "dict"
  | _ => none
def isTy (n : Ty) : D → Bool
  | .bl _ => decide (n = .bool) || decide (n = .int)
  | .int _ => decide (n = .int)
  | .str _ => decide (n = .str)
  | .lst _ => decide (n = .list)
  | .klt _ => decide (n = .list)
  | .tup _ => decide (n = .tuple)
  | .ktp _ => decide (n = .tuple)
  | .dic _ => decide (n = .dict)
  | _ => false
def typed : D → Bool
  | .obj _ _ => false
  | .drt _ => false
  | .dit _ => false
  | .exc _ _ => false
  | _ => true
theorem kitB_all : ∀ n : Ty, kitB "NoneType" n.nm = some false ∧ kitB "bool" n.nm = some (decide (n = .bool) || decide (n = .int)) ∧ kitB "int" n.nm = some (decide (n = .int)) ∧ kitB "str" n.nm = some (decide (n = .str)) ∧ kitB "list" n.nm = some (decide (n = .list)) ∧ kitB "tuple" n.nm = some (decide (n = .tuple)) ∧ kitB "dict" n.nm = some (decide (n = .dict)) := by
  intro n
  cases n <;> decide +kernel
theorem ty_of {T : Tx} {G : Gd} {H : Hp} {v : V} {d : D} (r : Rep T G H v d) (h : typed d = true) : ∃ t : String, TyX T.K H v (.type t) ∧ ∀ n : Ty, kitB t n.nm = some (isTy n d) := by
  cases r with
  | non => exact ⟨_, .base .non, fun n => (kitB_all n).1⟩
  | bl b => exact ⟨_, .base (.bl b), fun n => (kitB_all n).2.1⟩
  | int i => exact ⟨_, .base (.int i), fun n => (kitB_all n).2.2.1⟩
  | str _ => exact ⟨_, .base (.str _), fun n => (kitB_all n).2.2.2.1⟩
  | lst hl z q => obtain ⟨o, hl⟩ := hl; exact ⟨_, .base (.frz hl), fun n => (kitB_all n).2.2.2.2.1⟩
  | klt hk q => obtain ⟨o, its, n, h1, h2, _⟩ := hk; exact ⟨_, .kList h1 h2, fun n => (kitB_all n).2.2.2.2.1⟩
  | tup ht z q => exact ⟨_, .base (.tup ht), fun n => (kitB_all n).2.2.2.2.2.1⟩
  | ktp hk q =>
    rcases hk with ⟨o, its, n, h1, h2, _⟩ | ⟨o, h1, _⟩
    · exact ⟨_, .kTuple h1 h2, fun n => (kitB_all n).2.2.2.2.2.1⟩
    · exact ⟨_, .fTuple h1, fun n => (kitB_all n).2.2.2.2.2.1⟩
  | dicK hd z q rr => exact ⟨_, .fDict hd, fun n => (kitB_all n).2.2.2.2.2.2⟩
  | dicT _ _ _ _ => cases h
  | obj _ _ _ _ _ => cases h
  | drw _ => cases h
  | exc _ _ _ _ _ _ _ _ => cases h
def isG (ns : List Ty) (d : D) : Option D := if typed d = true then some (.bl (ns.any fun n => isTy n d)) else none
section
variable {X : Cx} {pos : Pos} {a : Expr} {fa : E}
theorem de_isi (n : Ty) {x : Str} {p p2 : Pos} (hg : Gl X "isinstance") (hm : X.mg "isinstance" = none) (hg2 : Gl X x) (hm2 : X.mg x = none) (hv2 : bootBuiltins x = some (.type n.nm)) (ha : DE X a fa) (hx : x ≠ "__name__" := by decide) (hx2 : (x == ("__debug__" : Str)) = false := by decide)
    (hs1 : starEach (a :: [.Name x p2]) X.env = (false, eval a X.env) :: starEach [.Name x p2] X.env := by rfl) (hs2 : starEach (.Name x p2 :: []) X.env = (false, eval (.Name x p2) X.env) :: starEach [] X.env := by rfl) (hpl : (backTo pos (starEach [.Name x p2] X.env)).any (·.1) = false := by rfl) :
    DE X (.Call (.Name "isinstance" p) [a, .Name x p2] [] pos) (e1 (isG [n]) fa) :=
  pe_imp (pe_callB call_isi hg hm PyProof.Rows.boot_isinstance (pa_cons ha (pa_cons (pe_bltn (v := .ty n.nm) hg2 hm2 hv2 rfl hx hx2) pa_nil hs2) hs1) (by decide) (by decide) hs1 hpl) fun σ H Q ⟨G, B, env, w, d, w', hd, e, k⟩ => by
  obtain ⟨x, ea, eg⟩ := e1_some e
  unfold isG at eg
  split at eg
  · rename_i ht
    cases eg
    refine ⟨G, B, env, w, x, w', hd, ea, fun v H1 s1 h1 r => ?_⟩
    obtain ⟨t, ty, kb⟩ := ty_of r ht
    refine ⟨v, .ty n.nm, .type t, .type n.nm, isTy n x, rfl, .ty _, ty, kit_ty (kb n), ?_⟩
    have e : ([n].any fun n => isTy n x) = isTy n x := by simp
    rw [e] at k
    exact k _ H1 s1 h1 (.bl _)
  · cases eg
/-- names of built-in types in a tuple -/
inductive PTys (X : Cx) : List Expr → List Ty → Prop
  | nil : PTys X [] []
  | cons (n : Ty) {x : Str} {p : Pos} {es : List Expr} {ns : List Ty} (hg : Gl X x) (hm : X.mg x = none) (hv : bootBuiltins x = some (.type n.nm)) (hx : x ≠ "__name__") (hx2 : (x == ("__debug__" : Str)) = false) (hs : starEach (.Name x p :: es) X.env = (false, eval (.Name x p) X.env) :: starEach es X.env) (r : PTys X es ns) : PTys X (.Name x p :: es) (n :: ns)
def tTys (ns : List Ty) : TA := fun _ H Q => Q (ns.map fun n => V.ty n.nm) H
theorem PTys.pa : ∀ {es : List Expr} {ns : List Ty}, PTys X es ns → PA X es (tTys ns)
  | _, _, .nil => pa_nil
  | _, _, .cons n hg hm hv hx hx2 hs r => pa_cons (pe_bltn (v := .ty n.nm) hg hm hv rfl hx hx2) r.pa hs
theorem kitAny_tys {K : PySem.W.Frag} {t : String} {d : D} (kb : ∀ n : Ty, kitB t n.nm = some (isTy n d)) : ∀ ns : List Ty, PySem.W.kitAny K (.type t) (ns.map fun n => Value.type n.nm) = some (ns.any fun n => isTy n d)
  | [] => kitAny_nil
  | n :: ns => kitAny_cons (kit_ty (kb n)) (fun h => by rw [List.any_cons, h, Bool.false_or]; exact kitAny_tys kb ns) (fun h => by rw [List.any_cons, h, Bool.true_or])
theorem clsV_tys : ∀ ns : List Ty, Paired ClsV (ns.map fun n => V.ty n.nm) (ns.map fun n => Value.type n.nm)
  | [] => .nil
  | n :: ns => .cons (.ty _) (clsV_tys ns)
theorem de_isiT {ns : List Ty} {es : List Expr} {p p2 : Pos} {k0 : Nat} (hg : Gl X "isinstance") (hm : X.mg "isinstance" = none) (ht : PTys X es ns) (ha : DE X a fa) (hl : Nat.ble ns.length 1000 = true := by rfl)
    (hs1 : starEach (a :: [.Tuple es k0 p2]) X.env = (false, eval a X.env) :: starEach [.Tuple es k0 p2] X.env := by rfl) (hs2 : starEach (.Tuple es k0 p2 :: []) X.env = (false, eval (.Tuple es k0 p2) X.env) :: starEach [] X.env := by rfl) (hpl : (backTo pos (starEach [.Tuple es k0 p2] X.env)).any (·.1) = false := by rfl) :
    DE X (.Call (.Name "isinstance" p) [a, .Tuple es k0 p2] [] pos) (e1 (isG ns) fa) :=
  pe_imp (pe_callB call_isiT hg hm PyProof.Rows.boot_isinstance (pa_cons ha (pa_cons (pe_tup ht.pa) pa_nil hs2) hs1) (by decide) (by decide) hs1 hpl) fun σ H Q ⟨G, B, env, w, d, w', hd, e, k⟩ => by
  obtain ⟨x, ea, eg⟩ := e1_some e
  unfold isG at eg
  split at eg
  · rename_i hty
    cases eg
    refine ⟨G, B, env, w, x, w', hd, ea, fun v H1 s1 h1 r => ⟨by rw [List.length_map]; exact line1000 hl, fun q nq => ?_⟩⟩
    obtain ⟨t, ty, kb⟩ := ty_of (r.keep (Keep.new (.tup (ns.map fun n => V.ty n.nm)) nq)) hty
    exact ⟨v, q, _, .type t, _, _, rfl, upd_same, clsV_tys ns, ty, kitAny_tys kb ns, k _ _ (s1.trans (.new _ nq)) (h1.new _ nq) (.bl _)⟩
  · cases eg
/-! ### numbers -/
def absD : List D → Option D
  | [.int i] => some (.int (if i < 0 then -i else i))
  | _ => none
theorem c1_abs : Call1 X (.builtin "abs") absD := ⟨_, call_abs, fun G H w vs ds d Q dr r e k => by
  cases r with
  | nil => cases e
  | cons r rr =>
    cases rr with
    | cons _ _ => cases r <;> cases e
    | nil =>
      cases r with
      | int i => cases e; exact ⟨_, rfl, k _ H (.refl _) (.int _)⟩
      | _ => cases e⟩
def intD : List D → Option D
  | [.int i] => some (.int i)
  | [.bl b] => some (.int (if b then 1 else 0))
  | _ => none
theorem c1_int : Call1 X (.type "int") intD := ⟨_, call_int1, fun G H w vs ds d Q dr r e k => by
  cases r with
  | nil => cases e
  | cons r rr =>
    cases rr with
    | cons _ _ => cases r <;> cases e
    | nil =>
      cases r with
      | int i => cases e; exact .inl ⟨_, rfl, k _ H (.refl _) (.int _)⟩
      | bl b => cases e; exact .inr ⟨_, rfl, k _ H (.refl _) (.int _)⟩
      | _ => cases e⟩
def minD : List D → Option D
  | [.int i, .int j] => some (.int (if j < i then j else i))
  | _ => none
def maxD : List D → Option D
  | [.int i, .int j] => some (.int (if j > i then j else i))
  | _ => none
theorem c1_min (hc : X.calm = true) : Call1 X (.builtin "min") minD := ⟨_, call_min2 hc, fun G H w vs ds d Q dr r e k => by
  match r with
  | .nil => cases e
  | .cons r .nil => cases r <;> cases e
  | .cons r (.cons r' (.cons _ _)) => cases r <;> cases r' <;> cases e
  | .cons r (.cons r' .nil) =>
    cases r with
    | int i =>
      cases r' with
      | int j => cases e; exact ⟨_, _, rfl, k _ H (.refl _) (.int _)⟩
      | _ => cases e
    | _ => cases e⟩
theorem c1_max (hc : X.calm = true) : Call1 X (.builtin "max") maxD := ⟨_, call_max2 hc, fun G H w vs ds d Q dr r e k => by
  match r with
  | .nil => cases e
  | .cons r .nil => cases r <;> cases e
  | .cons r (.cons r' (.cons _ _)) => cases r <;> cases r' <;> cases e
  | .cons r (.cons r' .nil) =>
    cases r with
    | int i =>
      cases r' with
      | int j => cases e; exact ⟨_, _, rfl, k _ H (.refl _) (.int _)⟩
      | _ => cases e
    | _ => cases e⟩
theorem de_neg {op : UnaryOp} (h : op = .USub) (ha : DE X a fa) : DE X (.UnaryOp op a pos) (e1 (fun d => match d with
    | .int i => some (.int (-i))
    | _ => none) fa) := by
  subst h
  refine pe_imp (pe_un un_neg ha) fun σ H Q ⟨G, B, env, w, d, w', hd, e, k⟩ => ?_
  obtain ⟨x, ea, eg⟩ := e1_some e
  cases x with
  | int i =>
    cases eg
    exact ⟨G, B, env, w, _, w', hd, ea, fun v H1 s1 h1 r => by cases r; exact ⟨i, rfl, k _ H1 s1 h1 (.int _)⟩⟩
  | _ => cases eg
/-! ### changes of lists and dicts of one's own -/
variable {e : Expr} {f : E} {x : Str} {p apos cpos : Pos}
/-- x.append(e) -/
def sApp (i : Nat) (e : E) : S := fun env w => match e env w with
  | none => none
  | some (d, w1) => match env[i]? with
    | some (.ow (.lst ds)) => if ds.length < sizeLine then some (.nx (env.set i (.ow (.lst (ds ++ [d])))), w1) else none
    | _ => none
theorem ds_append (i : Nat) (hi : PE X (.Name x p) (tVar i)) (he : DE X e f)
    (hbase : attributeBase (.Name x p) "append" X.env (eval (.Name x p) X.env) = eval (.Name x p) X.env := by rfl)
    (hfew : ((backTo cpos (starEach (e :: []) X.env)).all (fun x => !x.1) && (backToKw cpos (keywordEach [] X.env)).all (fun x => x.1.isSome)
      && decide ((e :: []).length + ([] : List Keyword).length + (if ([] : List Keyword).isEmpty then 0 else 1) < 30)) = true := by rfl)
    (hline : (apos.endLine == cpos.line) = true := by rfl) (hs : starEach (e :: []) X.env = (false, eval e X.env) :: starEach [] X.env := by rfl) (hplain : (backTo cpos (starEach [] X.env)).any (·.1) = false := by rfl)
    (hsw : swapsWith (.Call (.Attribute (.Name x p) "append" apos) [e] [] cpos) none pos.line X.env = pure false := by rfl) :
    DS X (.Expr (.Call (.Attribute (.Name x p) "append" apos) [e] [] cpos) pos) (sApp i f) :=
  ps_imp (ps_expr (pe_bm PySem.F.plainAttrs_list PySem.F.slot_list_append PySem.F.type_list_append mt_append hi (pa_cons he pa_nil hs) hbase hfew hline hs hplain) hsw) fun D σ H ⟨G, B, env, w, fl, w', hd, e, k⟩ => by
  unfold sApp at e
  split at e
  · cases e
  · rename_i d w1 ea
    split at e
    · rename_i ds hs
      split at e
      · rename_i hlt
        cases e
        obtain ⟨a, h1, nb, n1, n2, ow⟩ := hd.ow i _ hs
        refine ⟨_, h1, ?_, ?_⟩
        · cases ow with
          | lst h z r => exact .inl ⟨rfl, _, SqL.of h⟩
        · refine ⟨G, B, env, w, d, _, hd, ea, fun v H1 s1 h2 rv => ?_⟩
          obtain ⟨a', h1', _, _, _, ow'⟩ := h2.ow i _ hs
          rw [h1] at h1'
          cases h1'
          cases ow' with
          | lst h z r =>
            have hl := r.length
            refine ⟨_, _, _, rfl, rfl, h, by omega, k σ _ ((s1.keep hd.draw).trans (Keep.mut _ h rfl)) (h2.mutOw hs h1 (fun u hu => by rw [h] at hu; cases hu; rfl) (.lst upd_same (by simp; omega) ((r.snoc rv).keep (Keep.mut _ h rfl))))⟩
      · cases e
    · cases e
/-- x.extend(e), e a new list -/
def sExt (i : Nat) (e : E) : S := fun env w => match e env w with
  | some (.lst es, w1) => match env[i]? with
    | some (.ow (.lst ds)) => if ds.length + es.length ≤ sizeLine then some (.nx (env.set i (.ow (.lst (ds ++ es)))), w1) else none
    | _ => none
  | _ => none
theorem ds_extend (i : Nat) (hi : PE X (.Name x p) (tVar i)) (he : DO X e f)
    (hbase : attributeBase (.Name x p) "extend" X.env (eval (.Name x p) X.env) = eval (.Name x p) X.env := by rfl)
    (hfew : ((backTo cpos (starEach (e :: []) X.env)).all (fun x => !x.1) && (backToKw cpos (keywordEach [] X.env)).all (fun x => x.1.isSome)
      && decide ((e :: []).length + ([] : List Keyword).length + (if ([] : List Keyword).isEmpty then 0 else 1) < 30)) = true := by rfl)
    (hline : (apos.endLine == cpos.line) = true := by rfl) (hs : starEach (e :: []) X.env = (false, eval e X.env) :: starEach [] X.env := by rfl) (hplain : (backTo cpos (starEach [] X.env)).any (·.1) = false := by rfl)
    (hsw : swapsWith (.Call (.Attribute (.Name x p) "extend" apos) [e] [] cpos) none pos.line X.env = pure false := by rfl) :
    DS X (.Expr (.Call (.Attribute (.Name x p) "extend" apos) [e] [] cpos) pos) (sExt i f) :=
  ps_imp (ps_expr (pe_bm PySem.F.plainAttrs_list PySem.F.slot_list_extend PySem.F.type_list_extend mt_extend hi (pa_cons he pa_nil hs) hbase hfew hline hs hplain) hsw) fun D σ H ⟨G, B, env, w, fl, w', hd, e, k⟩ => by
  unfold sExt at e
  split at e
  · rename_i es w1 ea
    split at e
    · rename_i ds hs
      split at e
      · rename_i hlt
        cases e
        obtain ⟨a, h1, nb, n1, n2, ow⟩ := hd.ow i _ hs
        refine ⟨_, h1, ?_, ?_⟩
        · cases ow with
          | lst h z r => exact .inl ⟨rfl, _, SqL.of h⟩
        · refine ⟨G, B, env, w, _, _, hd, ea, fun q H1 nq s1 h2 rv => ?_⟩
          obtain ⟨a', h1', _, _, _, ow'⟩ := h2.ow i _ hs
          rw [h1] at h1'
          cases h1'
          cases ow' with
          | lst h z r =>
            cases rv with
            | lst hq zq rq =>
              have hl := r.length
              have hl2 := rq.length
              refine ⟨_, _, _, _, rfl, rfl, h, hq, by omega, k σ _ ((s1.keep hd.draw).trans (Keep.mut _ h rfl)) (h2.mutOw hs h1 (fun u hu => by rw [h] at hu; cases hu; rfl) (.lst upd_same (by simp; omega) ((r.append rq).keep (Keep.mut _ h rfl))))⟩
      · cases e
    · cases e
  · cases e
/-- kvs with k at d, in its place or at the end -/
def putD (kvs : List (D × D)) (kd : D) (k : Key) (d : D) : List (D × D) :=
  if (kvs.any fun q => decide (keyOf q.1 = some k)) = true then kvs.map (fun q => if keyOf q.1 = some k then (q.1, d) else q) else kvs ++ [(kd, d)]
def putT (kvs : List (D × D)) (kd : D) (k : List Key) (d : D) : List (D × D) :=
  if (kvs.any fun q => decide (tupKey q.1 = some k)) = true then kvs.map (fun q => if tupKey q.1 = some k then (q.1, d) else q) else kvs ++ [(kd, d)]
section
variable {T : Tx} {G : Gd} {H : Hp}
theorem any_keys {k : Key} : ∀ {ps : List (Key × V)} {kvs : List (D × D)}, kvs.map (·.1) = ps.map (fun p => dKey p.1) → (kvs.any fun q => decide (keyOf q.1 = some k)) = ps.any fun q => decide (q.1 = k)
  | [], [], _ => rfl
  | (a, v) :: ps, (b, d) :: kvs, e => by
    simp only [List.map_cons, List.cons.injEq] at e
    obtain ⟨rfl, e⟩ := e
    rw [List.any_cons, List.any_cons, any_keys e]
    congr 1
    rw [keyOf_dKey]
    by_cases h : a = k
    · subst h; simp
    · rw [decide_eq_false h, decide_eq_false fun z => h (Option.some.inj z)]
theorem map_put {k : Key} {v : V} {d : D} (rv : Rep T G H v d) : ∀ {ps : List (Key × V)} {kvs : List (D × D)}, kvs.map (·.1) = ps.map (fun p => dKey p.1) → Reps T G H (ps.map (·.2)) (kvs.map (·.2)) →
    (kvs.map fun q => if keyOf q.1 = some k then (q.1, d) else q).map (·.1) = (ps.map fun q => if q.1 = k then (q.1, v) else q).map (fun p => dKey p.1) ∧ Reps T G H ((ps.map fun q => if q.1 = k then (q.1, v) else q).map (·.2)) ((kvs.map fun q => if keyOf q.1 = some k then (q.1, d) else q).map (·.2))
  | [], [], _, _ => ⟨rfl, .nil⟩
  | (a, u) :: ps, (b, d') :: kvs, e, r => by
    simp only [List.map_cons, List.cons.injEq] at e r
    obtain ⟨rfl, e⟩ := e
    cases r with
    | cons r rr =>
      obtain ⟨h1, h2⟩ := map_put (k := k) rv e rr
      by_cases h : a = k
      · subst h
        simp only [List.map_cons, keyOf_dKey, if_true]
        exact ⟨by rw [h1], .cons rv h2⟩
      · have h' : ¬ keyOf (dKey a) = some k := by rw [keyOf_dKey]; exact fun z => h (Option.some.inj z)
        simp only [List.map_cons, if_neg h, if_neg h']
        exact ⟨by rw [h1], .cons r h2⟩
theorem dKey_of {kd : D} {k : Key} (h : keyOf kd = some k) : kd = dKey k := by
  cases kd with
  | int i => cases h; rfl
  | str x => cases h; rfl
  | _ => cases h
theorem putD_rel {ps : List (Key × V)} {kvs : List (D × D)} {kd : D} {k : Key} {v : V} {d : D} (hk : keyOf kd = some k) (ok : kOk k) (rv : Rep T G H v d) (z : ps.length < sizeLine ∧ ∀ p ∈ ps, kOk p.1) (e : kvs.map (·.1) = ps.map (fun p => dKey p.1)) (r : Reps T G H (ps.map (·.2)) (kvs.map (·.2))) :
    ((putK ps k v).length ≤ sizeLine ∧ ∀ p ∈ putK ps k v, kOk p.1) ∧ (putD kvs kd k d).map (·.1) = (putK ps k v).map (fun p => dKey p.1) ∧ Reps T G H ((putK ps k v).map (·.2)) ((putD kvs kd k d).map (·.2)) := by
  refine ⟨⟨Nat.le_trans (length_putK ps k v) z.1, fun p hp => ?_⟩, ?_⟩
  · unfold putK at hp
    split at hp
    · obtain ⟨q, hq, rfl⟩ := List.mem_map.mp hp
      split
      · exact z.2 q hq
      · exact z.2 q hq
    · rcases List.mem_append.mp hp with h | h
      · exact z.2 p h
      · cases List.mem_singleton.mp h; exact ok
  · unfold putK putD
    rw [any_keys e]
    split
    · exact map_put rv e r
    · simp only [List.map_append, e, dKey_of hk]
      exact ⟨rfl, r.append (.cons rv .nil)⟩
end
/-- x[k] = v, x a dict of one's own -/
def sPut (i : Nat) (ek ev : E) : S := fun env w => match ev env w with
  | none => none
  | some (d, w1) => match ek env w1 with
    | none => none
    | some (kd, w2) => match env[i]?, keyOf kd with
      | some (.ow (.dic kvs)), some k => if kvs.length < sizeLine then some (.nx (env.set i (.ow (.dic (putD kvs kd k d)))), w2) else none
      | _, _ => none
theorem ds_put (i : Nat) {ke ve : Expr} {pos' : Pos} {fk fv : E} (hu : X.A.units + 1 < cLine) (hi : PE X (.Name x p) (tVar i)) (hk : DE X ke fk) (hv : DE X ve fv) (hs : swapsWith ve (some (.Subscript (.Name x p) ke pos')) pos.line X.env = pure false := by rfl) :
    DS X (.Assign [.Subscript (.Name x p) ke pos'] ve pos) (sPut i fk fv) := ps_imp (ps_dput hu hi hk hv hs) fun D σ H ⟨G, B, env, w, fl, w', hd, e, kk⟩ => by
  unfold sPut at e
  split at e
  · cases e
  · rename_i d w1 ev
    split at e
    · cases e
    · rename_i kd w2 ek
      split at e
      · rename_i kvs k hs hkey
        split at e
        · rename_i hlt
          cases e
          refine ⟨G, B, env, w, d, w1, hd, ev, fun v H1 s1 h1 rv => ?_⟩
          obtain ⟨a, ha, nb, n1, n2, ow⟩ := h1.ow i _ hs
          refine ⟨_, ha, G, B, env, w1, kd, _, h1, ek, fun y H2 s2 h2 ry => ?_⟩
          obtain ⟨a', ha', _, _, _, ow'⟩ := h2.ow i _ hs
          rw [ha] at ha'
          cases ha'
          obtain ⟨ey, ok⟩ := ry.key hkey
          cases ow' with
          | @dicK ps _ h z q r =>
            have hl := r.length
            simp only [List.length_map] at hl
            have hp : ps.length < sizeLine := by omega
            refine ⟨_, _, rfl, .inl ⟨_, k, h, ey, hp, rfl⟩, kk σ _ (((s1.trans s2).keep hd.draw).trans (Keep.mut _ h rfl)) (h2.mutOw hs ha (fun u hu => by rw [h] at hu; cases hu; rfl) ?_)⟩
            have km : Keep H2 (upd H2 a (.dK (putK ps k v))) := Keep.mut _ h rfl
            obtain ⟨p1, p2, p3⟩ := putD_rel hkey ok ((rv.keep (s2.keep h1.draw)).keep km) ⟨hp, z.2⟩ q (r.keep km)
            exact .dicK upd_same p1 p2 p3
        · cases e
      · cases e
end
end Dl
set_option Elab.async false
set_option linter.all false
set_option maxRecDepth 100000
set_option maxHeartbeats 4000000
/-! D10: what the printed derivations name. -/
namespace Dl
open PySem PySem.Spec L2
def Cal (P : Program) (w : World) (K : PySem.W.Frag) (mg : Str → Option Value) (base : Heap) (x : Str) (k : Nat) (ps : List Str) (φ : Fn) : Prop :=
  ∃ f fd, At K mg x f ∧ FnOk P w K mg base CX0 k f fd ps (spD ⟨K, mg, P, w⟩ ps.length φ) ∧ Binds K fd ps []
def CalO (P : Program) (w : World) (K : PySem.W.Frag) (mg : Str → Option Value) (base : Heap) (x : Str) (k : Nat) (ps : List Str) (φ : Fn) : Prop :=
  ∃ f fd, At K mg x f ∧ FnOk P w K mg base CX0 k f fd ps (spO ⟨K, mg, P, w⟩ ps.length φ) ∧ Binds K fd ps []
theorem u1 {A : Around} {k : Nat} (hr : Room k A) : A.units + 1 < cLine := by have := hr.un; omega
theorem u64 {A : Around} {k : Nat} (hr : Room k A) : A.units + 64 < cLine := by have := hr.un; omega
theorem u65 {A : Around} {k : Nat} (hr : Room k A) : A.units + 65 < cLine := by have := hr.un; omega
section
variable {X : Cx} {pos p : Pos} {x : Str} {k : Nat} {ps : List Str} {φ : Fn} {e : Expr} {es : List Expr} {fs : List E}
theorem de_cal (C : Cal X.prog X.w X.K X.mg X.base x k ps φ) (hr : Room k X.A) (hg : Gl X x) (ha : DA X (e :: es) (aL fs)) (hn : fs.length = ps.length := by rfl) (hdb : (x == ("__debug__" : Str)) = false := by decide) (he : starEach (e :: es) X.env = (false, eval e X.env) :: starEach es X.env := by rfl) (hpl : (backTo pos (starEach es X.env)).any (·.1) = false := by rfl) :
    DE X (.Call (.Name x p) (e :: es) [] pos) (eCall φ fs []) := by
  obtain ⟨f, fd, A, F, hb⟩ := C
  exact de_call F A hb .nil (fun _ _ => .nil) hr hg ha hn hdb he hpl
theorem do_cal (C : CalO X.prog X.w X.K X.mg X.base x k ps φ) (hr : Room k X.A) (hg : Gl X x) (ha : DA X (e :: es) (aL fs)) (hn : fs.length = ps.length := by rfl) (hdb : (x == ("__debug__" : Str)) = false := by decide) (he : starEach (e :: es) X.env = (false, eval e X.env) :: starEach es X.env := by rfl) (hpl : (backTo pos (starEach es X.env)).any (·.1) = false := by rfl) :
    DO X (.Call (.Name x p) (e :: es) [] pos) (eCall φ fs []) := by
  obtain ⟨f, fd, A, F, hb⟩ := C
  exact do_call F A hb .nil (fun _ _ => .nil) hr hg ha hn hdb he hpl
theorem de_gs {z : Str} (hg : Gl X x) (hm : ∃ t, X.mg x = some (.str z t)) (h : sB z = true := by decide +kernel) (hd : (x == ("__debug__" : Str)) = false := by decide) : DE X (.Name x pos) (eC (.str z)) := by
  obtain ⟨t, hm⟩ := hm
  exact de_c (v := .str z) (pe_glob hg hm ⟨t, rfl⟩ hd) fun _ _ => .str h
theorem de_gi {z : Int} (hg : Gl X x) (hm : ∃ t, X.mg x = some (.int z t)) (hd : (x == ("__debug__" : Str)) = false := by decide) : DE X (.Name x pos) (eC (.int z)) := by
  obtain ⟨t, hm⟩ := hm
  exact de_c (v := .int z) (pe_glob hg hm ⟨t, rfl⟩ hd) fun _ _ => .int z
theorem de_gk {d : D} (hg : Gl X x) (hm : ∃ a, X.mg x = some (.ref a) ∧ ∀ G H, Rep (tx X) G H (.ref a) d) (hd : (x == ("__debug__" : Str)) = false := by decide) : DE X (.Name x pos) (eC d) := by
  obtain ⟨a, hm, hr⟩ := hm
  exact de_c (v := .ref a) (pe_glob hg hm rfl hd) hr
end
def eNeg (f : E) : E := e1 (fun d => match d with
    | .int i => some (.int (-i))
    | _ => none) f
def iEnum (f : E) : EA := i1 (fun d => match d with
      | .lst ds => some (enumD ds)
      | _ => none) f
theorem bt_len : bootBuiltins "len" = some (.builtin "len") := by decide +kernel
theorem bt_all : bootBuiltins "all" = some (.builtin "all") := by decide +kernel
theorem bt_any : bootBuiltins "any" = some (.builtin "any") := by decide +kernel
theorem bt_abs : bootBuiltins "abs" = some (.builtin "abs") := by decide +kernel
theorem bt_min : bootBuiltins "min" = some (.builtin "min") := by decide +kernel
theorem bt_max : bootBuiltins "max" = some (.builtin "max") := by decide +kernel
theorem bt_sorted : bootBuiltins "sorted" = some (.builtin "sorted") := by decide +kernel
theorem bt_repr : bootBuiltins "repr" = some (.builtin "repr") := by decide +kernel
theorem bt_isinstance : bootBuiltins "isinstance" = some (.builtin "isinstance") := by decide +kernel
theorem bt_divmod : bootBuiltins "divmod" = some (.builtin "divmod") := by decide +kernel
theorem bt_str : bootBuiltins "str" = some (.type "str") := by decide +kernel
theorem bt_int : bootBuiltins "int" = some (.type "int") := by decide +kernel
theorem bt_bool : bootBuiltins "bool" = some (.type "bool") := by decide +kernel
theorem bt_list : bootBuiltins "list" = some (.type "list") := by decide +kernel
theorem bt_tuple : bootBuiltins "tuple" = some (.type "tuple") := by decide +kernel
theorem bt_dict : bootBuiltins "dict" = some (.type "dict") := by decide +kernel
theorem bt_set : bootBuiltins "set" = some (.type "set") := by decide +kernel
theorem bt_range : bootBuiltins "range" = some (.type "range") := by decide +kernel
theorem bt_enumerate : bootBuiltins "enumerate" = some (.type "enumerate") := by decide +kernel
theorem bt_zip : bootBuiltins "zip" = some (.type "zip") := by decide +kernel
/-! ### what is a list or a dict -/
theorem cf_lst {fs : List E} : ∀ env w d w', eLst fs env w = some (d, w') → cont d = true := fun env w d w' h => by
  unfold eLst at h
  split at h
  · cases h; rfl
  · cases h
theorem cf_comp {vs : List Nat} {p : Pat} {c e : E} {it : EA} : ∀ env w d w', eComp vs p c e it env w = some (d, w') → cont d = true := fun env w d w' h => by
  unfold eComp at h
  split at h
  · cases h
  · split at h
    · cases h; rfl
    · cases h
theorem cf_add {a b : E} : ∀ env w d w', e2 addL a b env w = some (d, w') → cont d = true := fun env w d w' h => by
  obtain ⟨x, w1, y, _, _, h⟩ := e2_some h
  unfold addL at h
  split at h
  · split at h
    · cases h; rfl
    · cases h
  · cases h
theorem cf_c {d0 : D} (hc : cont d0 = true := by rfl) : ∀ env w d w', eC d0 env w = some (d, w') → cont d = true := fun env w d w' h => by cases h; exact hc
theorem cf_if {t a b : E} (ha : ∀ env w d w', a env w = some (d, w') → cont d = true) (hb : ∀ env w d w', b env w = some (d, w') → cont d = true) : ∀ env w d w', eIf t a b env w = some (d, w') → cont d = true := fun env w d w' h => by
  unfold eIf at h
  split at h
  · exact ha _ _ _ _ h
  · exact hb _ _ _ _ h
  · cases h
theorem cf_rev {a : E} : ∀ env w d w', e1 revL a env w = some (d, w') → cont d = true := fun env w d w' h => by
  obtain ⟨x, _, h⟩ := e1_some h
  unfold revL at h
  split at h
  · cases h; rfl
  · cases h
theorem cf_list {fs : List E} : ∀ env w d w', eBi listD (aL fs) env w = some (d, w') → cont d = true := fun env w d w' h => by
  obtain ⟨xs, _, h⟩ := eBi_some h
  unfold listD at h
  split at h <;> first | (cases h; rfl) | cases h
theorem cf_call {φ : Fn} {fs : List E} {dds : List D} (hc : ∀ xs w d w', φ xs w = some (d, w') → cont d = true) : ∀ env w d w', eCall φ fs dds env w = some (d, w') → cont d = true := fun env w d w' h => by
  obtain ⟨xs, w1, _, h⟩ := eApp_some h
  exact hc _ _ _ _ h
end Dl
set_option Elab.async false
set_option linter.all false
set_option maxRecDepth 100000
set_option maxHeartbeats 4000000
/-! D11: two fors in a comprehension; __init__; x.append(y.pop(i)); join. -/
namespace Dl
open PySem PySem.Spec L2
def comp2D (vs : List Nat) (p : Pat) (c : E) (it1 : EA) (vs1 : List Nat) (p1 : Pat) (c1 e : E) : List D → Env → Dr → Option (List D × Dr)
  | [], _, w => some ([], w)
  | d :: ds, env, w => match asgP p d (wipeE env vs) with
    | none => none
    | some env1 => match c env1 w with
      | some (.bl true, w1) => match it1 env1 w1 with
        | none => none
        | some (ds1, w2) => match compD vs1 p1 c1 e ds1 env1 w2 with
          | none => none
          | some (xs, w3) => match comp2D vs p c it1 vs1 p1 c1 e ds env w3 with
            | some (ys, w4) => some (xs ++ ys, w4)
            | none => none
      | some (.bl false, w1) => comp2D vs p c it1 vs1 p1 c1 e ds env w1
      | _ => none
def eComp2 (vs : List Nat) (p : Pat) (c : E) (it1 : EA) (vs1 : List Nat) (p1 : Pat) (c1 e : E) (it : EA) : E := fun env w => match it env w with
  | none => none
  | some (ds, w1) => match comp2D vs p c it1 vs1 p1 c1 e ds env w1 with
    | some (xs, w2) => if xs.length ≤ sizeLine then some (.lst xs, w2) else none
    | none => none
theorem cf_comp2 {vs vs1 : List Nat} {p p1 : Pat} {c c1 e : E} {it it1 : EA} : ∀ env w d w', eComp2 vs p c it1 vs1 p1 c1 e it env w = some (d, w') → cont d = true := fun env w d w' h => by
  unfold eComp2 at h
  split at h
  · cases h
  · split at h
    · split at h
      · cases h; rfl
      · cases h
    · cases h
mutual
theorem asgP_ow : ∀ (p : Pat) (d : D) (env env' : Env), asgP p d env = some env' → ∀ (j : Nat) (x : D), env'[j]? = some (.ow x) → env[j]? = some (.ow x) ∧ j ∉ p.slots
  | .nm i, d, env, env', h, j, x, e => by
    simp only [asgP, Option.some.injEq] at h
    subst h
    have hne : i ≠ j := fun z => by
      subst z
      have hl := (List.getElem?_eq_some_iff.mp e).1
      rw [List.getElem?_set_self (by simpa using hl)] at e
      cases e
    rw [List.getElem?_set_ne hne] at e
    exact ⟨e, fun z => hne (by simp only [Pat.slots, List.mem_singleton] at z; exact z.symm)⟩
  | .tp ps, d, env, env', h, j, x, e => by
    cases d with
    | tup ds => simp only [asgP] at h; simp only [Pat.slots]; exact asgPs_ow ps ds env env' h j x e
    | ktp ds => simp only [asgP] at h; simp only [Pat.slots]; exact asgPs_ow ps ds env env' h j x e
    | _ => simp [asgP] at h
theorem asgPs_ow : ∀ (ps : List Pat) (ds : List D) (env env' : Env), asgPs ps ds env = some env' → ∀ (j : Nat) (x : D), env'[j]? = some (.ow x) → env[j]? = some (.ow x) ∧ j ∉ Pat.slotsAll ps
  | [], [], env, env', h, j, x, e => by
    simp only [asgPs, Option.some.injEq] at h
    subst h
    exact ⟨e, by simp [Pat.slotsAll]⟩
  | p :: ps, d :: ds, env, env', h, j, x, e => by
    unfold asgPs at h
    split at h
    · rename_i env1 h1
      obtain ⟨a, b⟩ := asgPs_ow ps ds env1 env' h j x e
      obtain ⟨c, f⟩ := asgP_ow p d env env1 h1 j x a
      exact ⟨c, by simp [Pat.slotsAll, b, f]⟩
    · cases h
  | [], _ :: _, _, _, h, _, _, _ => by simp [asgPs] at h
  | _ :: _, [], _, _, h, _, _, _ => by simp [asgPs] at h
end
theorem wipeE_ow {env : Env} {j : Nat} {x : D} : ∀ {vs : List Nat}, (wipeE env vs)[j]? = some (.ow x) → env[j]? = some (.ow x) ∧ j ∉ vs
  | [], e => ⟨e, by simp⟩
  | v :: vs, e => by
    unfold wipeE at e
    have hne : v ≠ j := fun z => by
      subst z
      have hl := (List.getElem?_eq_some_iff.mp e).1
      rw [List.getElem?_set_self (by simpa using hl)] at e
      cases e
    rw [List.getElem?_set_ne hne] at e
    obtain ⟨a, b⟩ := wipeE_ow e
    exact ⟨a, by simp [b, Ne.symm hne]⟩
mutual
theorem asgP_tr : ∀ (p : Pat) (d : D) (env env' : Env), asgP p d env = some env' → ∀ (j : Nat) (x : D), env'[j]? = some (.tr x) → env[j]? = some (.tr x) ∧ j ∉ p.slots
  | .nm i, d, env, env', h, j, x, e => by
    simp only [asgP, Option.some.injEq] at h
    subst h
    have hne : i ≠ j := fun z => by
      subst z
      have hl := (List.getElem?_eq_some_iff.mp e).1
      rw [List.getElem?_set_self (by simpa using hl)] at e
      cases e
    rw [List.getElem?_set_ne hne] at e
    exact ⟨e, fun z => hne (by simp only [Pat.slots, List.mem_singleton] at z; exact z.symm)⟩
  | .tp ps, d, env, env', h, j, x, e => by
    cases d with
    | tup ds => simp only [asgP] at h; simp only [Pat.slots]; exact asgPs_tr ps ds env env' h j x e
    | ktp ds => simp only [asgP] at h; simp only [Pat.slots]; exact asgPs_tr ps ds env env' h j x e
    | _ => simp [asgP] at h
theorem asgPs_tr : ∀ (ps : List Pat) (ds : List D) (env env' : Env), asgPs ps ds env = some env' → ∀ (j : Nat) (x : D), env'[j]? = some (.tr x) → env[j]? = some (.tr x) ∧ j ∉ Pat.slotsAll ps
  | [], [], env, env', h, j, x, e => by
    simp only [asgPs, Option.some.injEq] at h
    subst h
    exact ⟨e, by simp [Pat.slotsAll]⟩
  | p :: ps, d :: ds, env, env', h, j, x, e => by
    unfold asgPs at h
    split at h
    · rename_i env1 h1
      obtain ⟨a, b⟩ := asgPs_tr ps ds env1 env' h j x e
      obtain ⟨c, f⟩ := asgP_tr p d env env1 h1 j x a
      exact ⟨c, by simp [Pat.slotsAll, b, f]⟩
    · cases h
  | [], _ :: _, _, _, h, _, _, _ => by simp [asgPs] at h
  | _ :: _, [], _, _, h, _, _, _ => by simp [asgPs] at h
end
theorem wipeE_tr {env : Env} {j : Nat} {x : D} : ∀ {vs : List Nat}, (wipeE env vs)[j]? = some (.tr x) → env[j]? = some (.tr x) ∧ j ∉ vs
  | [], e => ⟨e, by simp⟩
  | v :: vs, e => by
    unfold wipeE at e
    have hne : v ≠ j := fun z => by
      subst z
      have hl := (List.getElem?_eq_some_iff.mp e).1
      rw [List.getElem?_set_self (by simpa using hl)] at e
      cases e
    rw [List.getElem?_set_ne hne] at e
    obtain ⟨a, b⟩ := wipeE_tr e
    exact ⟨a, by simp [b, Ne.symm hne]⟩
section
variable {X : Cx} {pos : Pos}
theorem tLc2_of {vs vs1 : List Nat} {p p1 : Pat} {c c1 elt : E} {fi fi1 : EA} (hp : (p.slots.all fun j => vs.contains j) = true) (hp1 : (p1.slots.all fun j => vs1.contains j) = true) : ∀ σ H Q, tDO (tx X) (eComp2 vs p c fi1 vs1 p1 c1 elt fi) σ H Q →
    tLc2 (tDI (tx X) fi) (tDG (tx X) p) (tDT (tx X) c) (tDI (tx X) fi1) (tDG (tx X) p1) (tDT (tx X) c1) (tD (tx X) elt) vs vs1 σ H Q := fun σ H Q ⟨G, B, env, w, d, w', hd, e, k⟩ => by
  have hps : ∀ j ∈ p.slots, j ∈ vs := fun j hj => by simpa using List.all_eq_true.mp hp j hj
  have hps1 : ∀ j ∈ p1.slots, j ∈ vs1 := fun j hj => by simpa using List.all_eq_true.mp hp1 j hj
  unfold eComp2 at e
  split at e
  · cases e
  · rename_i ds w1 ea
    split at e
    · rename_i xs w2 ec
      split at e
      · rename_i hlen2
        cases e
        refine ⟨G, B, env, w, ds, w1, hd, ea, fun J H1 s1 h1 it Dd nD => ?_⟩
        obtain ⟨hlen, it⟩ := it
        obtain ⟨nb, n1, n2⟩ := h1.nb nD
        have apD := h1.apart nD
        refine ⟨fun i m H => m = ds.length - i ∧ i ≤ ds.length ∧ ∃ acc xa rest wi, H Dd = some (.lst acc) ∧ Reps (tx X) G H acc xa ∧ Hold (tx X) G B σ H env wi ∧ comp2D vs p c fi1 vs1 p1 c1 elt (ds.drop i) env wi = some (rest, w') ∧ xa ++ rest = xs ∧ SameD G H1 H, ⟨ds.length, by simp, Nat.zero_le _, [], [], xs, w1, upd_same, .nil, h1.new _ nD, by simpa using ec, rfl, .new _ nD⟩, ?_⟩
        rintro i m H2 ⟨rfl, hi, acc, xa, rest, wi, hD, ra, h2, e2, ex, s2⟩
        obtain ⟨it1, it2⟩ := it i H2 (s2.keep h1.draw)
        by_cases hlt : i < ds.length
        · refine .inr ?_
          obtain ⟨go, yl⟩ := it1 ds[i] (by simp [hlt])
          refine ⟨go, fun H' => i + 1 ≤ ds.length ∧ ∃ acc xa rest wi, H' Dd = some (.lst acc) ∧ Reps (tx X) G H' acc xa ∧ Hold (tx X) G B σ H' env wi ∧ comp2D vs p c fi1 vs1 p1 c1 elt (ds.drop (i + 1)) env wi = some (rest, w') ∧ xa ++ rest = xs ∧ SameD G H1 H', fun H' ⟨q1, q2⟩ => ⟨ds.length - (i + 1), by omega, rfl, q1, q2⟩, fun x H3 hy => ?_⟩
          obtain ⟨sm, rp⟩ := yl x H3 hy
          rw [List.drop_eq_getElem_cons hlt] at e2
          unfold comp2D at e2
          have h3 := h2.go (.of sm) (h2.draw.go sm)
          have hD3 : H3 Dd = some (.lst acc) := sm _ _ hD
          have ra3 := ra.keep ((SameD.of (G := G) sm).keep h2.draw)
          have s3 : SameD G H1 H3 := s2.trans (.of sm)
          split at e2
          · cases e2
          · rename_i env3 ea3
            refine ⟨G, B, wipeE env vs, wi, _, env3, h3.wipe vs, rp, ea3, fun σ4 ag h4 => ⟨wipe_agr ag hps, ?_⟩⟩
            have apD4 : Hold.Apart σ4 env3 Dd := fun j dj ej qj => by
              obtain ⟨e1, nj⟩ := asgP_ow _ _ _ _ ea3 j dj ej
              obtain ⟨e2, nv⟩ := wipeE_ow e1
              rw [ag.2 j nj, wipe_get nv] at qj
              exact apD j dj e2 qj
            have aptS : ∀ Hx, Hold.ApartT (tx X) G Hx σ env Dd → Hold.ApartT (tx X) G Hx σ4 env3 Dd := fun Hx ap j dj v F ej qj r => by
              obtain ⟨e1, nj⟩ := asgP_tr _ _ _ _ ea3 j dj ej
              obtain ⟨e2, nv⟩ := wipeE_tr e1
              rw [ag.2 j nj, wipe_get nv] at qj
              exact ap j dj v F e2 qj r
            split at e2
            · rename_i w4 ec4
              refine ⟨G, B, env3, wi, true, w4, h4, ec4, fun H5 s5 h5 => iteT ?_⟩
              split at e2
              · cases e2
              · rename_i ds1 w5 ei1
                split at e2
                · cases e2
                · rename_i xs1 w6 ecc
                  split at e2
                  · rename_i ys w7 er
                    cases e2
                    refine ⟨G, B, env3, w4, ds1, w5, h5, ei1, fun J1 H6 s6 h6 itb => ?_⟩
                    obtain ⟨hlen1, itb⟩ := itb
                    have s36 : SameD G H3 H6 := s5.trans s6
                    refine ⟨fun j k H => k = ds1.length - j ∧ j ≤ ds1.length ∧ ∃ acc xa rest1 wj, H Dd = some (.lst acc) ∧ Reps (tx X) G H acc xa ∧ Hold (tx X) G B σ H env wj ∧ Hold (tx X) G B σ4 H env3 wj ∧ compD vs1 p1 c1 elt (ds1.drop j) env3 wj = some (rest1, w6) ∧ xa ++ (rest1 ++ ys) = xs ∧ SameD G H1 H ∧ Keep H6 H, ⟨ds1.length, by simp, Nat.zero_le _, acc, xa, xs1, w5, s36 Dd _ hD3 n1 n2 rfl, ra3.keep (s36.keep h3.draw), h3.go s36 h6.draw, h6, by simpa using ecc, ex, s3.trans s36, .refl _⟩, ?_⟩
                    rintro j m H7 ⟨rfl, hj, acc7, xa7, rest7, wj, hD7, ra7, h7, h74, e7, ex7, s7, kp7⟩
                    obtain ⟨itb1, itb2⟩ := itb j H7 kp7
                    by_cases hjl : j < ds1.length
                    · refine .inr ?_
                      obtain ⟨go1, yl1⟩ := itb1 ds1[j] (by simp [hjl])
                      refine ⟨go1, fun H' => j + 1 ≤ ds1.length ∧ ∃ acc xa rest1 wj, H' Dd = some (.lst acc) ∧ Reps (tx X) G H' acc xa ∧ Hold (tx X) G B σ H' env wj ∧ Hold (tx X) G B σ4 H' env3 wj ∧ compD vs1 p1 c1 elt (ds1.drop (j + 1)) env3 wj = some (rest1, w6) ∧ xa ++ (rest1 ++ ys) = xs ∧ SameD G H1 H' ∧ Keep H6 H', fun H' ⟨q1, q2⟩ => ⟨ds1.length - (j + 1), by omega, rfl, q1, q2⟩, fun x8 H8 hy8 => ?_⟩
                      obtain ⟨sm8, rp8⟩ := yl1 x8 H8 hy8
                      rw [List.drop_eq_getElem_cons hjl] at e7
                      unfold compD at e7
                      have h8 := h7.go (.of sm8) (h7.draw.go sm8)
                      have h84 := h74.go (.of sm8) (h74.draw.go sm8)
                      have hD8 : H8 Dd = some (.lst acc7) := sm8 _ _ hD7
                      have kp78 := (SameD.of (G := G) sm8).keep h7.draw
                      have ra8 := ra7.keep kp78
                      have s8 : SameD G H1 H8 := s7.trans (.of sm8)
                      split at e7
                      · cases e7
                      · rename_i env9 ea9
                        refine ⟨G, B, wipeE env3 vs1, wj, _, env9, h84.wipe vs1, rp8, ea9, fun σ9 ag9 h9 => ⟨wipe_agr ag9 hps1, ?_⟩⟩
                        split at e7
                        · rename_i w10 ec10
                          refine ⟨G, B, env9, wj, true, w10, h9, ec10, fun H10 s10 h10 => iteT ?_⟩
                          split at e7
                          · cases e7
                          · rename_i y w11 ee
                            refine ⟨G, B, env9, w10, y, w11, h10, ee, fun v H11 s11 h11 r11 => ?_⟩
                            split at e7
                            · rename_i zs w12 er12
                              cases e7
                              have s811 : SameD G H8 H11 := s10.trans s11
                              have hD11 : H11 Dd = some (.lst acc7) := s811 Dd _ hD8 n1 n2 rfl
                              have hlt7 : acc7.length < sizeLine := by
                                rw [ra7.length]
                                have := congrArg List.length ex7
                                simp at this
                                omega
                              refine ⟨acc7, hD11, hlt7, hjl, acc7 ++ [v], xa7 ++ [y], zs, w11, upd_same, ?_, (h8.go s811 h11.draw).side _ hD11 noCode_lst rfl apD nb n1 n2 (h1.apartT (s8.trans s811) nD), (h84.go s811 h11.draw).side _ hD11 noCode_lst rfl apD4 nb n1 n2 (aptS _ (h1.apartT (s8.trans s811) nD)), er12, by simpa using ex7, ?_, ?_⟩
                              · exact ((ra8.keep (s811.keep h8.draw)).snoc r11).keep (Keep.mut _ hD11 rfl)
                              · intro a o q m1 m2 m3
                                rw [upd_ne (ne_of_none q nD)]
                                exact s811 a o (s8 a o q m1 m2 m3) m1 m2 m3
                              · exact ((kp7.trans kp78).trans (s811.keep h8.draw)).trans (Keep.mut _ hD11 rfl)
                            · cases e7
                        · rename_i w10 ec10
                          refine ⟨G, B, env9, wj, false, w10, h9, ec10, fun H10 s10 h10 => iteF ?_⟩
                          exact ⟨hjl, acc7, xa7, rest7, w10, s10 Dd _ hD8 n1 n2 rfl, ra8.keep (s10.keep h8.draw), h8.go s10 h10.draw, h84.go s10 h10.draw, e7, ex7, s8.trans s10, (kp7.trans kp78).trans (s10.keep h8.draw)⟩
                        · cases e7
                    · have hj' : j = ds1.length := by omega
                      refine .inl ⟨itb2 (by omega), hlt, acc7, xa7, ys, wj, hD7, ra7, h7, ?_, ?_, s7⟩
                      · rw [hj', List.drop_length] at e7
                        simp only [compD, Option.some.injEq, Prod.mk.injEq] at e7
                        obtain ⟨rfl, rfl⟩ := e7
                        exact er
                      · rw [hj', List.drop_length] at e7
                        simp only [compD, Option.some.injEq, Prod.mk.injEq] at e7
                        obtain ⟨rfl, rfl⟩ := e7
                        exact ex7
                  · cases e2
            · rename_i w4 ec4
              refine ⟨G, B, env3, wi, false, w4, h4, ec4, fun H5 s5 h5 => iteF ?_⟩
              exact ⟨hlt, acc, xa, rest, w4, s5 Dd _ hD3 n1 n2 rfl, ra3.keep (s5.keep h3.draw), h3.go s5 h5.draw, e2, ex, s3.trans s5⟩
            · cases e2
        · have hi' : i = ds.length := by omega
          refine .inl ⟨it2 (by omega), ?_⟩
          rw [hi', List.drop_length] at e2
          simp only [comp2D, Option.some.injEq, Prod.mk.injEq] at e2
          obtain ⟨rfl, rfl⟩ := e2
          rw [List.append_nil] at ex
          subst ex
          refine k Dd H2 (h1.back s1 nD) (s1.trans s2) h2 (.lst hD (by rw [ra.length]; exact hlen2) ra)
      · cases e
    · cases e
theorem do_comp2 {elt tg iter tg1 iter1 : Expr} {ifs ifs1 : List Expr} {scope : Scope} {own : List (Str × Nat)} {vs1 : List Nat} {p p1 : Pat} {fc fc1 fe : E} {fi fi1 : EA} (hc : X.calm = true) (hN : X.N.Nodup) (hi : DI X tg iter fi) (ok : BlkOk X.N X.env.scope scope own)
    (hv : (vs1.all fun j => (own.map (·.2)).contains j) = true) (hp : (p.slots.all fun j => (own.map (·.2)).contains j) = true) (hp1 : (p1.slots.all fun j => vs1.contains j) = true)
    (hg : ∀ (s : Shared) (H : Hp) (C : Addr) (cl : List (Str × Addr)) (fp : List Addr), DG (X.blk s H scope (compEnvC scope cl C X.env) fp) tg p) (ht : ∀ (s : Shared) (H : Hp) (C : Addr) (cl : List (Str × Addr)) (fp : List Addr), PTs (X.blk s H scope (compEnvC scope cl C X.env) fp) ifs (tDT (tx X) fc))
    (hi1 : ∀ (s : Shared) (H : Hp) (C : Addr) (cl : List (Str × Addr)) (fp : List Addr), DI (X.blk s H scope (compEnvC scope cl C X.env) fp) tg1 iter1 fi1)
    (hg1 : ∀ (s : Shared) (H : Hp) (C : Addr) (cl : List (Str × Addr)) (fp : List Addr), DG (X.blk s H scope (compEnvC scope cl C X.env) fp) tg1 p1) (ht1 : ∀ (s : Shared) (H : Hp) (C : Addr) (cl : List (Str × Addr)) (fp : List Addr), PTs (X.blk s H scope (compEnvC scope cl C X.env) fp) ifs1 (tDT (tx X) fc1))
    (he : ∀ (s : Shared) (H : Hp) (C : Addr) (cl : List (Str × Addr)) (fp : List Addr), DE (X.blk s H scope (compEnvC scope cl C X.env) fp) elt fe) (hs : ∀ x, foldedSetIterable iter X.env x = pure x := by intro _; rfl) (hs1 : ∀ env x, foldedSetIterable iter1 env x = pure x := by intro _ _; rfl) :
    DO X (.ListComp elt [⟨tg, iter, ifs, 0⟩, ⟨tg1, iter1, ifs1, 0⟩] scope pos) (eComp2 (own.map (·.2)) p fc fi1 vs1 p1 fc1 fe fi) :=
  pe_imp (pe_lc2 (own := own) (vs1 := vs1) (g := tDG (tx X) p) (g1 := tDG (tx X) p1) (wi1 := tDI (tx X) fi1) (te := tD (tx X) fe) hc hN hi ok (fun j hj => by simpa using List.all_eq_true.mp hv j hj) hg ht hi1 hg1 ht1 he hs hs1) (tLc2_of hp hp1)
end
end Dl
set_option Elab.async false
set_option linter.all false
set_option maxRecDepth 100000
set_option maxHeartbeats 4000000
/-! D12: __init__ -/
namespace Dl
open PySem PySem.Spec L2
mutual
theorem Rep.gd {T : Tx} {G G' : Gd} {H : Hp} (g : G.dd = G'.dd) (gt : G.tb = G'.tb) : ∀ {v : V} {d : D}, Rep T G H v d → Rep T G' H v d
  | _, _, .non => .non
  | _, _, .bl b => .bl b
  | _, _, .int i => .int i
  | _, _, .str h => .str h
  | _, _, .tup h z r => .tup h z (Reps.gd g gt r)
  | _, _, .ktp h r => .ktp h (Reps.gd g gt r)
  | _, _, .klt h r => .klt h (Reps.gd g gt r)
  | _, _, .lst h z r => .lst h z (Reps.gd g gt r)
  | _, _, .dicK h z e r => .dicK h z e (Reps.gd g gt r)
  | _, _, .dicT h z e r => .dicT h z e (Reps.gd g gt r)
  | _, _, .obj m h f e r => .obj m h f e (Reps.gd g gt r)
  | _, _, .drw h => by rw [g]; exact .drw (by rw [← gt]; exact h)
  | _, _, .exc m h c q f o e r => .exc m h c q f o e (Reps.gd g gt r)
theorem Reps.gd {T : Tx} {G G' : Gd} {H : Hp} (g : G.dd = G'.dd) (gt : G.tb = G'.tb) : ∀ {vs : List V} {ds : List D}, Reps T G H vs ds → Reps T G' H vs ds
  | _, _, .nil => .nil
  | _, _, .cons r t => .cons (Rep.gd g gt r) (Reps.gd g gt t)
end
def Gd.self (G : Gd) (x : Addr) : Gd := ⟨G.dd, G.dl, G.dc, x, G.tb⟩
def putG (f : Str) (v : D) : List (Str × D) → List (Str × D)
  | [] => [(f, v)]
  | (g, x) :: r => if g = f then (g, v) :: r else (g, x) :: putG f v r
def doneN (ns : List Str) : Bool := ns.any fun n => lastF.any fun x => decide (n = x)
theorem doneF_N (fs : List (Str × V)) : doneF fs = doneN (fs.map (·.1)) := by
  unfold doneF doneN
  rw [List.any_map]
  rfl
theorem Reps.putG {T : Tx} {G : Gd} {H : Hp} {f : Str} {v : V} {d : D} (r : Rep T G H v d) : ∀ {fs : List (Str × V)} {gs : List (Str × D)}, gs.map (·.1) = fs.map (·.1) → Reps T G H (fs.map (·.2)) (gs.map (·.2)) →
    (Dl.putG f d gs).map (·.1) = (L2.putF f v fs).map (·.1) ∧ Reps T G H ((L2.putF f v fs).map (·.2)) ((Dl.putG f d gs).map (·.2)) ∧ (L2.putF f v fs).length ≤ fs.length + 1
  | [], [], _, _ => ⟨rfl, .cons r .nil, Nat.le_refl _⟩
  | (a, x) :: fs, (b, y) :: gs, e, q => by
    simp only [List.map_cons, List.cons.injEq] at e
    obtain ⟨rfl, e⟩ := e
    cases q with
    | cons q1 q2 =>
      rw [show L2.putF f v ((b, x) :: fs) = (if b = f then (b, v) :: fs else (b, x) :: L2.putF f v fs) from rfl, show Dl.putG f d ((b, y) :: gs) = (if b = f then (b, d) :: gs else (b, y) :: Dl.putG f d gs) from rfl]
      by_cases h : b = f
      · rw [if_pos h, if_pos h]
        exact ⟨by simp [e], .cons r q2, by simp⟩
      · rw [if_neg h, if_neg h]
        obtain ⟨i1, i2, i3⟩ := Reps.putG (f := f) r e q2
        exact ⟨by simp [i1], .cons q1 i2, by simp; omega⟩
  | [], _ :: _, e, _ => by simp at e
  | _ :: _, [], e, _ => by simp at e
/-- self.f = e, in an __init__: slot 0 -/
def sFldD (c f : Str) (e : E) : S := fun env w => match e env w with
  | some (d, w1) => match (env[0]? : Option Slot) with
    | some (.ow (.obj c' gs)) => if c' = c ∧ gs.length < 50 ∧ doneN (gs.map (·.1)) = false then some (.nx (env.set 0 (.ow (.obj c (putG f d gs)))), w1) else none
    | _ => none
  | none => none
section
variable {X : Cx} {pos : Pos}
theorem ds_fld {o value : Expr} {pos' : Pos} {c fl : Str} {C : Addr} {f : E} (hc : X.mg c = some (.ref C)) (cl : Cls X.K C) (na : NoAttr X.K C fl) (ho : PE X o (tVar 0)) (hv : DE X value f) (hs : swapsWith value (some (.Attribute o fl pos')) pos.line X.env = pure false := by rfl) :
    DS X (.Assign [.Attribute o fl pos'] value pos) (sFldD c fl f) := ps_imp (ps_fld ho hv hs) fun D σ H ⟨G, B, env, w, f, w', hd, e, k⟩ => by
  unfold sFldD at e
  split at e
  · rename_i d w1 ea
    split at e
    · rename_i c' gs eo
      split at e
      · rename_i hcc
        obtain ⟨rfl, hl, dn⟩ := hcc
        cases e
        refine ⟨G, B, env, w, d, _, hd, ea, fun v H1 s1 h1 r => ?_⟩
        obtain ⟨a, h2, nb, n1, n2, ow⟩ := h1.ow 0 _ eo
        cases ow with
        | @obj C2 dx fs _ _ y m h z q rr =>
          have m' : X.mg c' = some (.ref _) := m
          rw [hc] at m'; cases m'
          have hln : ∀ {fs : List (Str × V)}, gs.map (·.1) = fs.map (·.1) → fs.length < 50 := fun e => by
            have := congrArg List.length e
            simp at this
            omega
          have nf : ∀ u, H1 a = some u → fz u = false := fun u hu => by
            rw [h] at hu; cases hu
            show doneF _ = false
            rw [doneF_N, ← q]; exact dn
          obtain ⟨p1, p2, p3⟩ := Reps.putG (f := fl) r q rr
          have kp : Keep H1 (upd H1 a (.ins C dx (putF fl v fs))) := Keep.mut _ h (nf _ h)
          refine ⟨_, h2, a, C, dx, fs, rfl, h, cl, na, Nat.lt_trans (hln q) (by decide), ?_⟩
          refine k σ _ ((s1.keep hd.draw).trans kp) (h1.mutOw eo h2 nf (.obj y m upd_same ?_ p1 (p2.keep kp)))
          have := hln q
          omega
      · cases e
    · cases e
  · cases e
end
def bodyI (c : Str) (n : Nat) (fb : S) : Fn := fun ds w => match fb (.ow (.obj c []) :: env0 n ds) w with
  | some (.nx env', w') => match (env'[0]? : Option Slot) with
    | some (.ow (.obj c' gs)) => if c' = c ∧ doneN (gs.map (·.1)) = true then some (.obj c gs, w') else none
    | _ => none
  | _ => none
theorem hold_startI {T : Tx} {G : Gd} {H : Hp} {w : Dr} {n0 c : Str} {N : List Str} {x C dx : Addr} {vs : List V} {ds : List D} (hc : T.mg c = some (.ref C)) (hx : H x = some (.ins C dx [])) (n1 : x ≠ G.dd) (n2 : G.nl x) (r : Reps T G (fun a => if a = x then none else H a) vs ds) (dr : DrawAt G H w) :
    Hold T (G.self x) (fun a => if a = x then none else H a) (L2.start (n0 :: N) (.ref x :: vs)) H (.ow (.obj c []) :: env0 N.length ds) w := by
  have kp : Keep (fun a => if a = x then none else H a) H := fun a o e _ => by
    have e : (if a = x then none else H a) = some o := e
    by_cases h : a = x
    · rw [if_pos h] at e; cases e
    · rw [if_neg h] at e; exact e
  have r' : Reps T (G.self x) H vs ds := Reps.gd (G := G) (G' := G.self x) rfl rfl (r.keep kp)
  have dr' : DrawAt (G.self x) H w := ⟨dr.dd, dr.dl, dr.dc, dr.tb⟩
  have h0 := hold_start (N := N) r' dr'
  have hs : L2.start (n0 :: N) (.ref x :: vs) = some (.ref x) :: L2.start N vs := by
    simp [L2.start]
  rw [hs]
  have env0_tr : ∀ {i : Nat} {d : D}, (env0 N.length ds)[i]? = some (.tr d) → False := fun {i d} e => by
    have hm := List.mem_of_getElem? e
    unfold env0 at hm
    rcases List.mem_append.mp hm with h | h
    · obtain ⟨_, _, z⟩ := List.mem_map.mp h; cases z
    · cases (List.mem_replicate.mp h).2
  have no : ∀ (i : Nat) (d : D), (env0 N.length ds)[i]? = some (.ow d) → False := fun i d e => by
    obtain ⟨a, _, h2, _, _, o⟩ := h0.ow i d e
    obtain ⟨u, hu, _⟩ := o.there
    exact h2.not hu (o.noCode hu).1
  refine ⟨by simp [h0.len], fun i d e => ?_, fun i d e => ?_, fun i j d e a q1 q2 q3 q4 => ?_, fun a o e _ _ _ => ?_, dr', .none fun i d e => ?_⟩
  · cases i with
    | zero => simp at e
    | succ i => simpa using h0.sh i d (by simpa using e)
  · cases i with
    | zero =>
      simp at e
      subst e
      exact ⟨x, rfl, .of (if_pos rfl), n1, n2, .obj rfl hc hx (by simp) rfl .nil⟩
    | succ i => exact absurd (by simpa using e) (no i d)
  · cases i with
    | zero => cases j with
      | zero => rfl
      | succ j => exact absurd (by simpa using q2) (no j e)
    | succ i => exact absurd (by simpa using q1) (no i d)
  · have e : (if a = x then none else H a) = some o := e
    by_cases h : a = x
    · rw [if_pos h] at e; cases e
    · rw [if_neg h] at e; exact e
  · cases i with
    | zero => simp at e
    | succ i => exact env0_tr (by simpa using e)
section
variable {P : Program} {w : World} {K : PySem.W.Frag} {mg : Str → Option Value} {base : Heap} {x qual n0 c : Str} {params : Arguments} {body : List Stmt} {scope : Scope} {dvs : List V} {kws : List (Str × V)} {f : Addr} {fd : FuncData} {N ps : List Str} {k n : Nat} {fb : S}
theorem fn_I (F : FunD K x qual params body scope dvs kws f fd) (S : FnScope (n0 :: N) (n0 :: ps) scope)
    (hb : ∀ (cdv : Value) (A : Around) (outer : List PySem.Env) (s : Shared) (H : Hp) (E : XK), Room k (A.deeper (PyProof.Rows.envOfC qual scope s.heap.objs.size f cdv)) → DSs (cxOf CX0 P w K mg base (n0 :: N) qual scope f cdv A outer s H E).nox body fb) :
    FnOk P w K mg base CX0 (k + 1) f fd (n0 :: ps) (spI ⟨K, mg, P, w⟩ c ps.length (bodyI c N.length fb)) := by
  refine F.ok S (fun vs H Q E h => ?_) (fun cdv A outer s H vs Q E hr h => ⟨_, PSs.nox (hb cdv A outer s H E hr), ?_⟩)
  · obtain ⟨x, C, dx, vr, G, ds, w0, gs, w', rfl, _, _, _, _, r, _, hl, _⟩ := h
    simp [r.length, hl]
  · obtain ⟨x, C, dx, vr, G, ds, w0, gs, w', rfl, hc, hx, n1, n2, r, dr, hl, e, k⟩ := h
    unfold bodyI at e
    split at e
    · rename_i env' w1 eb
      split at e
      · rename_i c' gs' eo
        split at e
        · rename_i hcc
          obtain ⟨hcc, _⟩ := hcc
          subst hcc
          cases e
          refine ⟨G.self x, _, _, w0, _, _, hold_startI hc hx n1 n2 r dr, eb, fun σ' H' _ h' => ?_⟩
          obtain ⟨a, h2, nb, _, _, ow⟩ := h'.ow 0 _ eo
          cases ow with
          | obj y m h z q rr =>
            obtain rfl : a = x := y
            have m' : mg c' = some (.ref _) := m
            have hc' : mg c' = some (.ref _) := hc
            rw [hc'] at m'; cases m'
            refine k _ _ H' (fun b o e1 e2 e3 e4 e5 => h'.same b o (by show (if b = a then none else H b) = some o; rw [if_neg e2]; exact e1) e3 e4 e5) ⟨h'.draw.dd, h'.draw.dl, h'.draw.dc, h'.draw.tb⟩ h q (Reps.gd (G := G.self a) (G' := G) rfl rfl rr)
        · cases e
      · cases e
    · cases e
end
end Dl
set_option Elab.async false
set_option linter.all false
set_option maxRecDepth 100000
set_option maxHeartbeats 4000000
/-! D13: sorted. -/
namespace Dl
open PySem PySem.Spec L2
mutual
theorem reads_there {h : Heap} : ∀ {v : Value} {d : PyData} {as : List Addr}, Reads h v d as → ∀ b ∈ as, b < h.objs.size
  | _, _, _, .none, _, hb => by cases hb
  | _, _, _, .bool _, _, hb => by cases hb
  | _, _, _, .int _ _, _, hb => by cases hb
  | _, _, _, .str _ _, _, hb => by cases hb
  | _, _, _, .list h1 _ _ r, b, hb => by
    rcases List.mem_cons.mp hb with rfl | hb
    · exact Heap.lt_size h1
    · exact readsAll_there r b hb
  | _, _, _, .tuple _ _ _ r, b, hb => readsAll_there r b hb
  | _, _, _, .dict h1 _ _ r r', b, hb => by
    rcases List.mem_cons.mp hb with rfl | hb
    · exact Heap.lt_size h1
    · rcases List.mem_append.mp hb with hb | hb
      · exact readsAll_there r b hb
      · exact readsAll_there r' b hb
theorem readsAll_there {h : Heap} : ∀ {vs : List Value} {ds : List PyData} {as : List Addr}, ReadsAll h vs ds as → ∀ b ∈ as, b < h.objs.size
  | _, _, _, .nil, _, hb => by cases hb
  | _, _, _, .cons r t, b, hb => by
    rcases List.mem_append.mp hb with hb | hb
    · exact reads_there r b hb
    · exact readsAll_there t b hb
end
def pyLe : D → D → Bool := PySem.W.dataLe false toPy
def sortD (ds : List D) : List D := ds.mergeSort pyLe
def notNT : PyData → Bool
  | .none => false
  | .tuple _ => false
  | _ => true
def tupNE : PyData → Bool
  | .tuple (_ :: _) => true
  | _ => false
def sortOk (ds : List D) : Bool := ds.all (okD 8) && (ds.all fun x => ds.all fun y => PySem.W.alike (toPy x) (toPy y)) && ((ds.all fun x => tupNE (toPy x)) || ds.all fun x => notNT (toPy x))
/-- what is asked of the items xs that stand for ds -/
structure SortIn (K : PySem.W.Frag) (H : Hp) (xs : List V) (ds : List D) : Prop where
  len : xs.length = ds.length
  dp : DpAll K H xs (toPys ds)
  al : PySem.W.AllAlike (ds.map toPy)
  so : PySem.W.Sortable (ds.map toPy)
  dep : ∀ d ∈ ds, (toPy d).depth ≤ 8
theorem depth_all : ∀ {ds : List D} {n : Nat}, PyData.depthAll (toPys ds) ≤ n → ∀ d ∈ ds, (toPy d).depth ≤ n
  | d :: ds, n, h, x, hx => by
    have h' : max (toPy d).depth (PyData.depthAll (toPys ds)) ≤ n := h
    rcases List.mem_cons.mp hx with rfl | hx
    · exact Nat.le_trans (Nat.le_max_left _ _) h'
    · exact depth_all (Nat.le_trans (Nat.le_max_right _ _) h') x hx
theorem sortIn_of {T : Tx} {G : Gd} {H : Hp} {xs : List V} {ds : List D} (r : Reps T G H xs ds) (h : sortOk ds = true) : SortIn T.K H xs ds := by
  unfold sortOk at h
  rw [Bool.and_eq_true, Bool.and_eq_true] at h
  obtain ⟨⟨h1, h2⟩, h3⟩ := h
  obtain ⟨p1, _, p3⟩ := pures (pure_of 8) r h1
  refine ⟨r.length, p1, fun d hd d' hd' => ?_, ?_, depth_all p3⟩
  · obtain ⟨x, hx, rfl⟩ := List.mem_map.mp hd
    obtain ⟨y, hy, rfl⟩ := List.mem_map.mp hd'
    exact List.all_eq_true.mp (List.all_eq_true.mp h2 x hx) y hy
  · rw [Bool.or_eq_true] at h3
    rcases h3 with h3 | h3
    · refine .inl fun d hd => ?_
      obtain ⟨x, hx, rfl⟩ := List.mem_map.mp hd
      have := List.all_eq_true.mp h3 x hx
      revert this
      cases toPy x with
      | tuple l => cases l with
        | nil => intro h; cases h
        | cons a l => intro _; exact ⟨a, l, rfl⟩
      | _ => intro h; cases h
    · refine .inr fun d hd => ?_
      obtain ⟨x, hx, rfl⟩ := List.mem_map.mp hd
      have := List.all_eq_true.mp h3 x hx
      revert this
      cases toPy x with
      | tuple l => intro h; cases h
      | none => intro h; cases h
      | _ => intro _; exact ⟨(by simp), (by simp)⟩
section
variable {X : Cx} {pins : List (Addr × Obj)} {σ : St} {H : Hp}
theorem each_rel : ∀ {xs : List V} {us : List Value} {ds : List D}, Vals xs us → xs.length = ds.length → PySem.W.EachIs (fun (u : Value) (p : V × D) => RelV p.1 u) us (xs.zip ds)
  | _, _, [], .nil, _ => .nil
  | _, _, _ :: _, .cons r t, hl => .cons r (each_rel t (by simpa using hl))
  | _, _, _ :: _, .nil, hl => by simp at hl
  | _, _, [], .cons _ _, hl => by simp at hl
theorem each_reads {s : Shared} (I : Inv X pins σ H s) : ∀ {xs : List V} {us : List Value} {ds : List D}, Vals xs us → DpAll X.K H xs (toPys ds) → PySem.W.EachIs (fun (u : Value) (p : V × D) => ∃ as, Reads s.heap u (toPy p.2) as) us (xs.zip ds)
  | _, _, [], .nil, _ => .nil
  | _, _, d :: ds, .cons r t, dp => by
    cases dp with
    | cons d1 d2 => exact .cons (Dp.reads I _ _ _ d1 r) (each_reads I t d2)
  | _, _, _ :: _, .nil, dp => by cases dp
  | _, _, [], .cons _ _, dp => by cases dp
theorem vals_each : ∀ {us : List Value} {ps : List (V × D)}, PySem.W.EachIs (fun (u : Value) (p : V × D) => RelV p.1 u) us ps → Vals (ps.map (·.1)) us
  | _, _, .nil => .nil
  | _, _, .cons r t => .cons r (vals_each t)
def zipSort (xs : List V) (ds : List D) : List (V × D) := (xs.zip ds).mergeSort (PySem.W.dataLe false fun p => toPy p.2)
/-- list.sort of a list that was just laid -/
theorem sortTail {s : Shared} {xs : List V} {us : List Value} {ds : List D} {Q : VK} (I : Inv X pins σ H s) (rv : Vals xs us) (hz : xs.length ≤ sizeLine) (S : SortIn X.K H xs ds) (hu : X.A.units + 64 < cLine)
    (q : ∀ p, H p = none → Q (.ref p) (upd H p (.lst ((zipSort xs ds).map (·.1))))) :
    wpAny (model X.prog X.w) X.A.in1 (call (.builtin "list.sort") [.ref s.heap.objs.size]) (fun _ s' => EP X pins σ Q (.ref s.heap.objs.size) s') X.xe { s with heap := s.heap.push (PyProof.Rows.seqObj "list" us.toArray 0) } := by
  have ho : (s.heap.push (PyProof.Rows.seqObj "list" us.toArray 0)).get? s.heap.objs.size = some (PyProof.Rows.seqObj "list" us.toArray 0) := Heap.get?_push_size _ rfl
  have zl : (xs.zip ds).length = xs.length := by simp [List.length_zip, S.len]
  have zm : (xs.zip ds).map (fun p => toPy p.2) = ds.map toPy := by
    rw [show (fun p : V × D => toPy p.2) = toPy ∘ (·.2) from rfl, ← List.map_map, List.map_snd_zip (by rw [S.len]; exact Nat.le_refl _)]
  refine PySem.W.list_sort_data (bs := xs.zip ds) (enc := fun p => toPy p.2) (R := fun u p => RelV p.1 u) ho (each_rel rv S.len)
    ((each_reads I rv S.dp).mono fun u p ⟨as, r⟩ => ⟨as, PyProof.Rows.Reads.keeps (fun _ _ e => Heap.get?_push_of_some _ e) r, fun hm => Nat.lt_irrefl _ (reads_there r _ hm)⟩)
    (by rw [zm]; exact S.al) (by rw [zm]; exact S.so) (by rw [zl]; exact hz) (fun p hp => ?_) fun out hl e => ?_
  · have hd : p.2 ∈ ds := (List.of_mem_zip hp).2
    have := S.dep _ hd
    have u1 : X.A.in1.units ≤ X.A.units + 1 := by
      show X.A.units + 1 ≤ _
      exact Nat.le_refl _
    omega
  · obtain ⟨e', he'⟩ := PyProof.Rows.sortedHeap_at (vs := us) (out := out.toArray) ho
    have rv' := vals_each e
    refine ⟨.ref s.heap.objs.size, upd H s.heap.objs.size (.lst ((zipSort xs ds).map (·.1))), I.laid (t' := s.toks) (fun b u e => ?_) (Nat.le_refl _) ⟨?_, out, e', rv', he'⟩, rfl, q _ (I.hok.fresh (Nat.le_refl _))⟩
    · have hb : b < s.heap.objs.size := Heap.lt_size e
      rw [PyProof.Rows.sortedHeap_old (Nat.ne_of_lt hb) (by rw [PyProof.Rows.size_push']; exact Nat.lt_succ_of_lt hb)]
      exact Heap.get?_push_of_some _ e
    · unfold zipSort
      rw [List.length_map, List.length_mergeSort, zl]; exact hz
theorem reps_pairs {T : Tx} {G : Gd} {H : Hp} : ∀ {l : List (V × D)}, (∀ p ∈ l, Rep T G H p.1 p.2) → Reps T G H (l.map (·.1)) (l.map (·.2))
  | [], _ => .nil
  | p :: l, h => .cons (h p (by simp)) (reps_pairs fun q hq => h q (by simp [hq]))
theorem reps_zip {T : Tx} {G : Gd} {H : Hp} : ∀ {xs : List V} {ds : List D}, Reps T G H xs ds → ∀ p ∈ xs.zip ds, Rep T G H p.1 p.2
  | _, _, .nil, _, hp => by simp at hp
  | _, _, .cons r t, p, hp => by
    rw [List.zip_cons_cons] at hp
    rcases List.mem_cons.mp hp with rfl | hp
    · exact r
    · exact reps_zip t p hp
theorem reps_sort {T : Tx} {G : Gd} {H : Hp} {xs : List V} {ds : List D} (r : Reps T G H xs ds) : Reps T G H ((zipSort xs ds).map (·.1)) (sortD ds) := by
  have e : (zipSort xs ds).map (·.2) = sortD ds := by
    unfold zipSort sortD
    rw [List.map_mergeSort (r := PySem.W.dataLe false fun p : V × D => toPy p.2) (s := pyLe) (f := fun x : V × D => x.2) (fun a _ b _ => rfl), List.map_snd_zip (by rw [r.length]; exact Nat.le_refl _)]
  rw [← e]
  exact reps_pairs fun p hp => reps_zip r p ((List.mergeSort_perm _ _).mem_iff.mp hp)
/-- the items of a list, or the keys of a dict -/
def SortSrc (K : PySem.W.Frag) (H : Hp) (a : Addr) (xs : List V) : Prop := (SqL K H a xs ∨ SqT K H a xs) ∨ ∃ kvs : List (Key × V), Rd H a (.dK kvs) ∧ xs = kvs.map fun p => kV p.1
def rSort (K : PySem.W.Frag) : List V → Hp → VK → Prop := fun vs H Q => ∃ (a : Addr) (xs : List V) (ds : List D), vs = [.ref a] ∧ SortSrc K H a xs ∧ xs.length ≤ sizeLine ∧ SortIn K H xs ds ∧
  ∀ p, H p = none → Q (.ref p) (upd H p (.lst ((zipSort xs ds).map (·.1))))
theorem cr_sort (hcalm : X.calm = true) (hu : X.A.units + 64 < cLine) : CallR X (.builtin "sorted") (rSort X.K) := by
  intro pins s σ H vs us Q I r h
  obtain ⟨a, xs, ds, rfl, src, hz, S, q⟩ := h
  obtain ⟨u, rfl, ru⟩ := vals1 r
  obtain rfl : u = Value.ref a := ru
  refine Calls.call_function_entry PyProof.Rows.kind_sorted PyProof.Rows.plain_sorted PyProof.Rows.entry_sorted (PyProof.Rows.args_sorted1 _) ?_
  unfold Builtin.«sorted»
  refine wpAny_bind (m := checkCount "sorted" 1 1 _) (wpAny_pure ?_)
  rcases src with src | ⟨kvs, hd, rfl⟩
  · have seq : ∃ (T : String) (o : Obj) (its : List Value) (n : Nat), (T = "list" ∨ T = "tuple") ∧ Vals xs its ∧ s.heap.get? a = some o ∧ o.cls = .type T ∧ o.data = .seq its.toArray n := by
      rcases src with src | src
      · obtain ⟨its, rv, ⟨o, n, e1, e2, _, e3⟩, _⟩ := I.list src
        exact ⟨_, o, its, n, .inl rfl, rv, e1, e2, e3⟩
      · obtain ⟨its, rv, ⟨o, e1, e2, n, e3⟩, _⟩ := I.tuple src
        exact ⟨_, o, its, n, .inr rfl, rv, e1, e2, e3⟩
    obtain ⟨T, o, its, n, hT, rv, e1, e2, e3⟩ := seq
    have hz' : its.length ≤ sizeLine := by rw [← rv.length]; exact hz
    refine wpAny_bind (wpAny_collect_seq a hT e1 e2 e3 (fun h' hk => ?_) (by rw [List.size_toArray]; exact hz'))
    have I1 : Inv X pins σ H { s with heap := h', toks := s.toks } := I.kept hk
    rw [show its.toArray.toList = its by simp]
    refine wpAny_bind (wpAny_newList ?_ hz')
    refine wpAny_bind (wpAny_holding (wpAny_mono (sortTail I1 rv hz S hu q) (fun _ s' x => ?_) fun _ _ e => e))
    exact wpAny_pure ⟨_, rfl, x⟩
  · obtain ⟨z, lo, vs, rel, dd⟩ := dk_rd I.hok hd
    obtain ⟨ep, hat⟩ := dd.dictAt
    have hl : vs.length = kvs.length := rel.length.symm
    refine wpAny_bind (PySem.W.kdu_collect (A := X.A.in1) (PySem.W.kdl_dict (knd := mixKind X.prog X.w) (kvs := vs) (ep := ep) lo) (I.ok.hd hcalm) hat (by rw [hl]; exact z) fun h' tk acc hk hacc => ?_)
    have hal : acc.toList.length = vs.length := by rw [Array.length_toList, hacc.1]
    have rv : Vals (vs.map fun p => kV p.1) acc.toList := keys_at hal fun j v e => hacc.2 j v (by rw [← Array.getElem?_toList]; exact e)
    have ek : (vs.map fun p => kV p.1) = kvs.map fun p => kV p.1 := by
      have := rel.keys
      have e1 : (vs.map fun p => kV p.1) = (vs.map (·.1)).map kV := by rw [List.map_map]; rfl
      have e2 : (kvs.map fun p => kV p.1) = (kvs.map (·.1)).map kV := by rw [List.map_map]; rfl
      rw [e1, e2, this]
    rw [ek] at rv
    have I1 : Inv X pins σ H { s with heap := h', toks := tk } := I.kept hk
    refine wpAny_bind (wpAny_newList ?_ (by rw [hal, hl]; exact z))
    refine wpAny_bind (wpAny_holding (wpAny_mono (sortTail I1 rv hz S hu q) (fun _ s' x => ?_) fun _ _ e => e))
    exact wpAny_pure ⟨_, rfl, x⟩
def sortedD : List D → Option D
  | [.lst ds] => if sortOk ds = true then some (.lst (sortD ds)) else none
  | [.klt ds] => if sortOk ds = true then some (.lst (sortD ds)) else none
  | [.ktp ds] => if sortOk ds = true then some (.lst (sortD ds)) else none
  | [.tup ds] => if sortOk ds = true then some (.lst (sortD ds)) else none
  | [.dic kvs] => if sortOk (kvs.map (·.1)) = true then some (.lst (sortD (kvs.map (·.1)))) else none
  | _ => none
theorem len_sort {xs : List V} {ds : List D} (h : xs.length = ds.length) : ((zipSort xs ds).map (·.1)).length = xs.length := by
  unfold zipSort
  rw [List.length_map, List.length_mergeSort, List.length_zip, h, Nat.min_self]
theorem cn_sorted (hcalm : X.calm = true) (hu : X.A.units + 64 < cLine) : CallN X (.builtin "sorted") sortedD := ⟨_, cr_sort hcalm hu, fun G H w vs ds d Q dr r e k => by
  have fin : ∀ {a : Addr} {xs : List V} {es : List D}, SortSrc X.K H a xs → xs.length ≤ sizeLine → Reps (tx X) G H xs es → sortOk es = true → (∀ p H', H p = none → Same H H' → Own (tx X) G H' p (.lst (sortD es)) → Q (.ref p) H') → rSort X.K [.ref a] H Q := fun src z rr ok k =>
    ⟨_, _, _, rfl, src, z, sortIn_of rr ok, fun p np => k p _ np (same_new _ np) (.lst upd_same (by rw [len_sort rr.length]; exact z) ((reps_sort rr).keep (Keep.new _ np)))⟩
  cases r with
  | nil => cases e
  | cons r rr =>
    cases rr with
    | cons _ _ => cases r <;> cases e
    | nil =>
      cases r with
      | lst h z q =>
        unfold sortedD at e
        simp only at e
        split at e
        · rename_i ok; cases e; exact fin (.inl (.inl h.sq)) z q ok k
        · cases e
      | ktp h q =>
        unfold sortedD at e
        simp only at e
        split at e
        · rename_i ok; cases e; exact fin (.inl (.inr h.sq)) h.len q ok k
        · cases e
      | tup h z q =>
        unfold sortedD at e
        simp only at e
        split at e
        · rename_i ok; cases e; exact fin (.inl (.inr (SqT.of h))) z q ok k
        · cases e
      | klt h q =>
        unfold sortedD at e
        simp only at e
        split at e
        · rename_i ok; cases e; exact fin (.inl (.inl (.inr h))) (klt_len h) q ok k
        · cases e
      | dicK h z ek q =>
        unfold sortedD at e
        simp only at e
        split at e
        · rename_i ok; cases e
          rename_i ps kvs
          refine fin (.inr ⟨_, .inr ⟨_, h⟩, rfl⟩) (by rw [List.length_map]; exact z.1) ?_ ok k
          rw [ek]
          have kr := keysReps (T := tx X) (G := G) (H := H) (ks := ps.map (·.1)) (fun k hk => by
            obtain ⟨p, hp, rfl⟩ := List.mem_map.mp hk
            exact z.2 p hp)
          rw [List.map_map, List.map_map] at kr
          exact kr
        · cases e
      | _ => cases e⟩
end
end Dl
set_option Elab.async false
set_option linter.all false
set_option maxRecDepth 100000
set_option maxHeartbeats 4000000
/-! D14: tuple(), dict(). -/
namespace Dl
open PySem PySem.Spec L2
section
variable {X : Cx}
/-- tuple(x): of a list a new tuple of which all is known -/
theorem cr_tupleP : CallR X (.type "tuple") (fun xs H Q => ∃ p ys, xs = [.ref p] ∧ ((SqL X.K H p ys ∧ ∀ (l : Addr) (o : Obj), H l = none → o.dict = none → Q (.ref l) (upd H l (.frz o (.tup ys)))) ∨ (SqT X.K H p ys ∧ Q (.ref p) H))) := by
  intro pins s σ H vs us Q I r ⟨p, ys, ev, h⟩
  subst ev
  obtain ⟨u, eu, ru⟩ := vals1 r
  subst eu
  cases ru
  rcases h with ⟨hs, q⟩ | ⟨hs, q⟩
  · obtain ⟨its, rv, pl, hz⟩ := I.list hs
    have hl := rv.length
    refine call_tuple_list pl.isList (fun h' kp => ?_) (by rw [List.size_toArray]; omega)
    have I1 : Inv X pins σ H { s with heap := h' } := I.kept (t' := s.toks) kp
    refine ⟨.ref h'.objs.size, _, I1.laid (o := .frz { cls := .type "tuple", data := .seq its.toArray } (.tup ys)) (t' := s.toks) (fun b o e => Heap.get?_push_of_some _ e) (Nat.le_refl _) ⟨Heap.get?_push_size _ rfl, hz, its, rv, PyProof.Rows.IsTup.new _ _⟩, rfl, q _ _ (I1.hok.fresh (Nat.le_refl _)) rfl⟩
  · obtain ⟨its, rv, pl, hz⟩ := I.tuple hs
    exact call_tuple_same pl ⟨.ref p, H, I, rfl, q⟩
def tupleP : List D → Option D
  | [.lst ds] => some (.ktp ds)
  | [.klt ds] => some (.ktp ds)
  | [.tup ds] => some (.tup ds)
  | [.ktp ds] => some (.ktp ds)
  | _ => none
theorem c1_tupleP : Call1 X (.type "tuple") tupleP := ⟨_, cr_tupleP, fun G H w vs ds d Q dr r e k => by
  cases r with
  | nil => cases e
  | cons r rr =>
    cases rr with
    | cons _ _ => cases r <;> cases e
    | nil =>
      cases r with
      | lst h z q => cases e; exact ⟨_, _, rfl, .inl ⟨h.sq, fun l o hl ho => k _ _ (same_new _ hl) (.ktp (.inr ⟨o, upd_same, ho, z⟩) (q.keep (Keep.new _ hl)))⟩⟩
      | klt h q => cases e; exact ⟨_, _, rfl, .inl ⟨.inr h, fun l o hl ho => k _ _ (same_new _ hl) (.ktp (.inr ⟨o, upd_same, ho, klt_len h⟩) (q.keep (Keep.new _ hl)))⟩⟩
      | tup h z q => cases e; exact ⟨_, _, rfl, .inr ⟨SqT.of h, k _ H (.refl _) (.tup h z q)⟩⟩
      | ktp h q => cases e; exact ⟨_, _, rfl, .inr ⟨h.sq, k _ H (.refl _) (.ktp h q)⟩⟩
      | _ => cases e⟩
end
/-! ### dict(..) -/
def pairK : D → Option (D × Key × D)
  | .tup [k, v] => match keyOf k with
    | some key => some (k, key, v)
    | none => none
  | .ktp [k, v] => match keyOf k with
    | some key => some (k, key, v)
    | none => none
  | _ => none
def pairsK : List D → Option (List (D × Key × D))
  | [] => some []
  | d :: ds => match pairK d, pairsK ds with
    | some p, some r => some (p :: r)
    | _, _ => none
def mergeD (kvs : List (D × D)) (l : List (D × Key × D)) : List (D × D) := l.foldl (fun acc p => putD acc p.1 p.2.1 p.2.2) kvs
section
variable {T : Tx} {G : Gd} {H : Hp}
/-- a pair (key, value) that stands for q -/
def PairIs (T : Tx) (G : Gd) (H : Hp) (kv : Key × V) (q : D × Key × D) : Prop := kv.1 = q.2.1 ∧ keyOf q.1 = some q.2.1 ∧ kOk q.2.1 ∧ Rep T G H kv.2 q.2.2
theorem pairK_rel {x : V} {d : D} {q : D × Key × D} (r : Rep T G H x d) (h : pairK d = some q) : ∃ (p : Addr) (kv : Key × V), x = .ref p ∧ SqT T.K H p [kV kv.1, kv.2] ∧ PairIs T G H kv q := by
  have fin : ∀ {xs : List V} {k v : D}, Reps T G H xs [k, v] → (match keyOf k with | some key => some (k, key, v) | none => none) = some q → ∃ kv : Key × V, xs = [kV kv.1, kv.2] ∧ PairIs T G H kv q := fun rr e => by
    cases rr with
    | cons r1 rr =>
      cases rr with
      | cons r2 rr =>
        cases rr
        split at e
        · rename_i key hk
          cases e
          obtain ⟨rfl, ok⟩ := r1.key hk
          exact ⟨(_, _), rfl, rfl, hk, ok, r2⟩
        · cases e
  unfold pairK at h
  split at h
  · cases r with
    | tup ht z rr =>
      obtain ⟨kv, rfl, pi⟩ := fin rr h
      exact ⟨_, kv, rfl, SqT.of ht, pi⟩
  · cases r with
    | ktp ht rr =>
      obtain ⟨kv, rfl, pi⟩ := fin rr h
      exact ⟨_, kv, rfl, ht.sq, pi⟩
  · cases h
theorem pairsK_rel : ∀ {xs : List V} {ds : List D} {l : List (D × Key × D)}, Reps T G H xs ds → pairsK ds = some l → ∃ (ps : List Addr) (kvs : List (Key × V)), xs = ps.map V.ref ∧ Paired (fun p kv => SqT T.K H p [kV kv.1, kv.2]) ps kvs ∧ Paired (PairIs T G H) kvs l
  | _, _, _, .nil, h => by cases h; exact ⟨[], [], rfl, .nil, .nil⟩
  | _, _, l, .cons r rr, h => by
    unfold pairsK at h
    split at h
    · rename_i q l' h1 h2
      cases h
      obtain ⟨p, kv, rfl, s1, pi⟩ := pairK_rel r h1
      obtain ⟨ps, kvs, rfl, s2, pis⟩ := pairsK_rel rr h2
      exact ⟨p :: ps, kv :: kvs, rfl, .cons s1 s2, .cons pi pis⟩
    · cases h
theorem merge_rel : ∀ {rest : List (Key × V)} {l : List (D × Key × D)}, Paired (PairIs T G H) rest l → ∀ {ps : List (Key × V)} {kvs : List (D × D)}, ps.length + rest.length ≤ sizeLine → (∀ p ∈ ps, kOk p.1) → kvs.map (·.1) = ps.map (fun p => dKey p.1) → Reps T G H (ps.map (·.2)) (kvs.map (·.2)) →
    ((mergeK ps rest).length ≤ sizeLine ∧ ∀ p ∈ mergeK ps rest, kOk p.1) ∧ (mergeD kvs l).map (·.1) = (mergeK ps rest).map (fun p => dKey p.1) ∧ Reps T G H ((mergeK ps rest).map (·.2)) ((mergeD kvs l).map (·.2))
  | _, _, .nil, ps, kvs, hl, ok, e, r => ⟨⟨by simpa [mergeK] using hl, ok⟩, e, r⟩
  | _, _, .cons (a := kv) (b := q) (l₁ := rest) (l₂ := l) h t, ps, kvs, hl, ok, e, r => by
    obtain ⟨h1, h2, h3, h4⟩ := h
    rw [List.length_cons] at hl
    obtain ⟨⟨p1, p2⟩, p3, p4⟩ := putD_rel h2 h3 h4 ⟨by omega, ok⟩ e r
    have hp : (putK ps q.2.1 kv.2).length ≤ ps.length + 1 := length_putK ps q.2.1 kv.2
    have := merge_rel t (ps := putK ps q.2.1 kv.2) (kvs := putD kvs q.1 q.2.1 q.2.2) (by omega) p2 p3 p4
    rw [show mergeK ps (kv :: rest) = mergeK (putK ps kv.1 kv.2) rest from rfl, h1]
    exact this
end
section
variable {X : Cx}
theorem pick {α β : Type} : ∀ {l : List α} {P : Nat → α → β → Prop}, (∀ (j : Nat) (q : α), l[j]? = some q → ∃ u, P j q u) → ∃ us : List β, us.length = l.length ∧ ∀ (j : Nat) (u : β), us[j]? = some u → ∃ q, l[j]? = some q ∧ P j q u
  | [], P, _ => ⟨[], rfl, fun j u e => by simp at e⟩
  | a :: l, P, h => by
    obtain ⟨u, hu⟩ := h 0 a rfl
    obtain ⟨us, e1, e2⟩ := pick (l := l) (P := fun j => P (j + 1)) fun j q e => h (j + 1) q (by simpa using e)
    refine ⟨u :: us, by simp [e1], fun j v e => ?_⟩
    cases j with
    | zero => simp at e; subst e; exact ⟨a, rfl, hu⟩
    | succ j => obtain ⟨q, g1, g2⟩ := e2 j v (by simpa using e); exact ⟨q, by simpa using g1, g2⟩
/-- dict(t) of a tuple of pairs -/
theorem call_dictU (hcalm : X.calm = true) : CallR X (.type "dict") (fun xs H Q => ∃ (a : Addr) (ps : List Addr) (kvs : List (Key × V)), xs = [.ref a] ∧ PTu X.K H a (ps.map V.ref) ∧ Paired (fun p kv => SqT X.K H p [kV kv.1, kv.2]) ps kvs ∧
    ∀ p, H p = none → Q (.ref p) (upd H p (.dK (mergeK [] kvs)))) := by
  intro pins s σ H xs us Q I r ⟨a, ps, kvs, ex, hq, hp, q⟩
  subst ex
  obtain ⟨u, eu, rx⟩ := vals1 r
  subst eu
  cases rx
  have hz := hq.len
  rw [List.length_map] at hz
  have pl : ∃ its : List Value, Vals (ps.map V.ref) its ∧ PlainSeq "tuple" s.heap a its.toArray := by
    rcases hq with ⟨o, its, n, h1, h2, h3, h4, h5, h6⟩ | ⟨o, h1, h2, h3⟩
    · exact ⟨its.toList, h5, o, n, I.kIn a o h1, h2, h6, by simpa using h3⟩
    · obtain ⟨g, z, its, rv, o', g', hc, n, hd⟩ := I.hok a _ h1
      rw [g] at g'
      cases g'
      exact ⟨its, rv, o, n, g, hc, h2, hd⟩
  obtain ⟨its, rv, pl⟩ := pl
  have ei := refs_at rv
  subst ei
  obtain ⟨prs, rel, hl, hpr⟩ := pairs_of I hp
  obtain ⟨us, hul, hus⟩ := pick (l := prs) (P := fun j q u => ∃ b, ps[j]? = some b ∧ PyProof.Rows.IsTup s.heap b #[u, q.2] ∧ keyIs q.1 u = true) fun j q' e => by
    obtain ⟨b, u, e1, e2, e3⟩ := hpr j q' e
    exact ⟨u, b, e1, e2, e3⟩
  have hat : ∀ (j : Nat) (k v : Value), (us.zip (prs.map (·.2)))[j]? = some (k, v) → ∃ b key, ps[j]? = some b ∧ PyProof.Rows.IsTup s.heap b #[k, v] ∧ prs[j]? = some (key, v) ∧ keyIs key k = true := fun j k v e => by
    rw [List.getElem?_zip_eq_some] at e
    obtain ⟨e1, e2⟩ := e
    obtain ⟨q', g1, b, g2, g3, g4⟩ := hus j k e1
    rw [List.getElem?_map, g1] at e2
    cases e2
    exact ⟨b, q'.1, g2, g3, g1, g4⟩
  have lz : (us.zip (prs.map (·.2))).length = ps.length := by rw [List.length_zip, List.length_map, hul, Nat.min_self, hl]
  refine PySem.call_dict_pairs (knd := mixKind X.prog X.w) (kvs := prs) (PairArg.tuple a (ps.map Value.ref).toArray (fun j => ps.getD j 0) (us.zip (prs.map (·.2)))) (I.ok.hd hcalm) ⟨pl, by rw [lz]; simp, fun j k v e => ?_⟩ ⟨by rw [lz, hl], fun i key v hrel => ?_⟩ (by rw [lz]; exact hz) fun h' tk hd' kk => ?_
  · obtain ⟨b, key, g1, g2, _⟩ := hat j k v e
    refine ⟨by simp [g1], .inl ?_⟩
    have ej : ps.getD j 0 = b := by rw [List.getD_eq_getElem?_getD, g1]; rfl
    show s.heap.IsTuple (ps.getD j 0) #[k, v]
    rw [ej]
    exact g2
  · obtain ⟨b, key', g1, g2, g3, g4⟩ := hat i key v hrel
    exact ⟨key', g3, g4⟩
  · have hm : (s.heap.objs.size == sysModules) = false := beq_eq_false_iff_ne.mpr (Nat.ne_of_gt I.big)
    have hlen : (mergeK [] kvs).length ≤ sizeLine := Nat.le_trans (length_mergeK kvs []) (by rw [List.length_nil, Nat.zero_add, rel.length, hl]; exact hz)
    exact ⟨.ref s.heap.objs.size, upd H s.heap.objs.size (.dK (mergeK [] kvs)), I.laid (t' := tk) (fun b o e => kk b o (fun z => nomatch z) e) (Nat.le_refl _) ⟨hlen, hm, merged [] prs, KV.merge rel .nil, hd'⟩, rfl, q _ (I.hok.fresh (Nat.le_refl _))⟩
def dictD : List D → Option D
  | [.dic kvs] => some (.dic kvs)
  | [.lst ds] => match pairsK ds with
    | some l => some (.dic (mergeD [] l))
    | none => none
  | [.ktp ds] => match pairsK ds with
    | some l => some (.dic (mergeD [] l))
    | none => none
  | _ => none
theorem cn_dict (hcalm : X.calm = true) : CallN X (.type "dict") dictD := ⟨_, CallR.or (CallR.or call_dictD (call_dictP hcalm)) (call_dictU hcalm), fun G H w vs ds d Q dr r e k => by
  cases r with
  | nil => cases e
  | cons r rr =>
    cases rr with
    | cons _ _ => cases r <;> cases e
    | nil =>
      cases r with
      | dicK h z q rr => cases e; exact .inl (.inl ⟨_, _, rfl, .inr ⟨_, h⟩, fun p np => k p _ np (same_new _ np) (.dicK upd_same z q (rr.keep (Keep.new _ np)))⟩)
      | lst h z q =>
        unfold dictD at e
        simp only at e
        split at e
        · rename_i l hl
          cases e
          obtain ⟨ps, kvs, rfl, pp, pis⟩ := pairsK_rel q hl
          refine .inl (.inr ⟨_, ps, kvs, rfl, h.sq, pp, fun p np => ?_⟩)
          have lk := Paired.length pp
          obtain ⟨m1, m2, m3⟩ := merge_rel pis (ps := []) (kvs := []) (by rw [List.length_map] at z; simpa [← lk] using z) (fun p hp => nomatch hp) rfl .nil
          exact k p _ np (same_new _ np) (.dicK upd_same m1 m2 (m3.keep (Keep.new _ np)))
        · cases e
      | ktp h q =>
        unfold dictD at e
        simp only at e
        split at e
        · rename_i l hl
          cases e
          obtain ⟨ps, kvs, rfl, pp, pis⟩ := pairsK_rel q hl
          refine .inr ⟨_, ps, kvs, rfl, h, pp, fun p np => ?_⟩
          have lk := Paired.length pp
          have z := h.len
          obtain ⟨m1, m2, m3⟩ := merge_rel pis (ps := []) (kvs := []) (by rw [List.length_map] at z; simpa [← lk] using z) (fun p hp => nomatch hp) rfl .nil
          exact k p _ np (same_new _ np) (.dicK upd_same m1 m2 (m3.keep (Keep.new _ np)))
        · cases e
      | _ => cases e⟩
end
end Dl
set_option Elab.async false
set_option linter.all false
set_option maxRecDepth 100000
set_option maxHeartbeats 4000000
/-! D15: the items of a dict, sorted or as a list. -/
namespace Dl
open PySem PySem.Spec L2
section
variable {X : Cx} {pins : List (Addr × Obj)} {σ : St} {H : Hp} {s : Shared}
/-- the raw entries of a dict -/
structure RawOf (h : Heap) (a : Addr) (its : List (V × V)) (es : Array DictEntry) (ep : Nat) : Prop where
  raw : DT.Raw h a es ep
  sz : es.size = its.length
  at_ : ∀ (j : Nat) (p : V × V), its[j]? = some p → ∃ e : DictEntry, es[j]? = some e ∧ RelV p.1 e.key ∧ RelV p.2 e.val
theorem pairs_at {P : Program} {w : World} : ∀ {es : List DictEntry} {vs : List (Key × Value)} {kvs : List (Key × V)}, Pairs (mixKind P w) es vs → KV kvs vs → es.length = kvs.length ∧ ∀ (j : Nat) (p : V × V), (kvs.map fun q => (kV q.1, q.2))[j]? = some p → ∃ e : DictEntry, es[j]? = some e ∧ RelV p.1 e.key ∧ RelV p.2 e.val
  | _, _, _, .nil, .nil => ⟨rfl, fun j p e => by simp at e⟩
  | _, _, _, .cons h1 h2 t, .cons (a := kv) r rr => by
    obtain ⟨e1, e2⟩ := pairs_at t rr
    refine ⟨by simp [e1], fun j p e => ?_⟩
    cases j with
    | zero =>
      simp at e
      subst e
      refine ⟨_, rfl, ?_, ?_⟩
      · rw [show kv.1 = _ from r.1]
        exact relV_key h1
      · rw [h2]; exact r.2
    | succ j =>
      obtain ⟨en, g1, g2⟩ := e2 j p (by simpa using e)
      exact ⟨en, by simpa using g1, g2⟩
theorem rawK {a : Addr} {kvs : List (Key × V)} (I : Inv X pins σ H s) (h : Rd H a (.dK kvs)) : (a == sysModules) = false ∧ ∃ es ep, RawOf s.heap a (kvs.map fun q => (kV q.1, q.2)) es ep := by
  obtain ⟨z, lo, vs, rel, o, es, ep, ho, hx, hdat, hk, hp, hn⟩ := dk_rd I.hok h
  obtain ⟨e1, e2⟩ := pairs_at hp rel
  exact ⟨lo, es, ep, ⟨o, ho, hx, hdat⟩, by simpa using e1, fun j p e => by simpa using e2 j p e⟩
def tItemsV (to : TE) : TE := fun σ H Q => to σ H fun x H1 => ∃ (a : Addr) (kvs : List (Key × V)), x = .ref a ∧ Rd H1 a (.dK kvs) ∧ ∀ p, H1 p = none → Q (.ref p) (upd H1 p (DX.itemsO p a))
theorem pe_itemsV {o : Expr} {to : TE} {apos cpos : Pos} (ho : PE X o to) (hbase : attributeBase o "items" X.env (eval o X.env) = eval o X.env := by rfl) (hline : (apos.endLine == cpos.line) = true := by rfl) :
    PE X (.Call (.Attribute o "items" apos) [] [] cpos) (tItemsV to) := by
  refine ⟨fun pins s σ H Q I h => ?_⟩
  refine wpAny_Call_method0_late hbase hline (thn (ho.run pins s σ H _ I h) fun v s1 ⟨x, H1, I1, r1, a, kvs, ex, hd, q1⟩ => ?_)
  subst ex
  cases r1
  obtain ⟨lo, es, ep, R⟩ := rawK I1 hd
  obtain ⟨ob, h1, h2, h3⟩ := id R.raw
  refine ⟨"dict", "dict.items", PySem.F.plainAttrs_dict, PySem.F.slot_dict_items, PySem.F.type_dict_items, R.raw.typeIs, fun b e => by cases e; exact ⟨ob, h1, h2.2.1⟩, Calls.callWith_builtin rfl (PySem.evalArgs_none (DT.callItems (es := es) (ep := ep) lo R.raw ?_))⟩
  have hf : H1 s1.heap.objs.size = none := I1.hok.fresh (Nat.le_refl _)
  exact ⟨.ref s1.heap.objs.size, upd H1 s1.heap.objs.size (DX.itemsO s1.heap.objs.size a), I1.laid (t' := s1.toks) (fun b u e => Heap.get?_push_of_some _ e) (Nat.le_refl _) (DX.itemsO_ok (Heap.get?_push_size _ rfl)), rfl, q1 _ hf⟩
/-- the pairs that were laid for the items of a dict, tracked -/
theorem laidPairs {its : List (V × V)} {es : Array DictEntry} {ep : Nat} {a : Addr} {h' : Heap} {tk : Nat} {as : List Addr} (I : Inv X pins σ H s) (R : RawOf s.heap a its es ep) (hk : ∀ b o, s.heap.get? b = some o → h'.get? b = some o) (hl : as.length = es.size) (hG : DT.Made es s.heap.objs.size h' as) :
    ∃ H', Inv X pins σ H' { s with heap := h', toks := tk } ∧ Same H H' ∧ ∀ (j : Nat) (b : Addr), as[j]? = some b → ∃ p : V × V, its[j]? = some p ∧ H' b = some (.tup [p.1, p.2]) := by
  have nd : as.Nodup := List.Pairwise.imp (fun h => Nat.ne_of_lt h) hG.rise
  obtain ⟨H', I', kp, at'⟩ := DX.takeT (P := fun b vs => ∃ (j : Nat) (p : V × V), as[j]? = some b ∧ its[j]? = some p ∧ vs = [p.1, p.2]) I as H (I.kept hk) nd fun b hb => by
    obtain ⟨j, hj⟩ := List.mem_iff_getElem?.mp hb
    obtain ⟨e, he, hg⟩ := hG.pairs j b hj
    have hjl : j < its.length := by
      rw [← R.sz, ← hl]
      exact (List.getElem?_eq_some_iff.mp hj).1
    obtain ⟨e', he', r1, r2⟩ := R.at_ j its[j] (by simp [hjl])
    rw [he] at he'
    cases he'
    have hlt := Nat.le_of_lt (hG.above b hb)
    exact ⟨hlt, I.hok.fresh hlt, _, ⟨j, its[j], hj, by simp [hjl], rfl⟩, fun H2 => ⟨by show 2 ≤ sizeLine; decide, [e.key, e.val], .cons r1 (.cons r2 .nil), _, hg, rfl, 0, rfl⟩⟩
  refine ⟨H', I', kp, fun j b hj => ?_⟩
  obtain ⟨vs, ⟨j', p, e1, e2, e3⟩, h2⟩ := at' b (List.mem_of_getElem? hj)
  have jj : j = j' := (List.getElem?_inj (List.getElem?_eq_some_iff.mp hj).1 nd).mp (hj.trans e1.symm)
  subst jj
  exact ⟨p, e2, by rw [h2, e3]⟩
/-- sorted(v), v the view of a dict's items -/
def rSortV (K : PySem.W.Frag) : List V → Hp → VK → Prop := fun vs H Q => ∃ (p a : Addr) (kvs : List (Key × V)), vs = [.ref p] ∧ H p = some (DX.itemsO p a) ∧ Rd H a (.dK kvs) ∧ kvs.length ≤ sizeLine ∧
  ∀ (H' : Hp) (as : List Addr), Same H H' → as.length = kvs.length → (∀ (j : Nat) (b : Addr), as[j]? = some b → ∃ q : Key × V, kvs[j]? = some q ∧ H' b = some (.tup [kV q.1, q.2])) →
    ∃ ds : List D, SortIn K H' (as.map V.ref) ds ∧ ∀ l, H' l = none → Q (.ref l) (upd H' l (.lst ((zipSort (as.map V.ref) ds).map (·.1))))
theorem cr_sortV (hcalm : X.calm = true) (hu : X.A.units + 64 < cLine) : CallR X (.builtin "sorted") (rSortV X.K) := by
  intro pins s σ H vs us Q I r ⟨p, a, kvs, ev, hp, hd, hz, k⟩
  subst ev
  obtain ⟨u, eu, ru⟩ := vals1 r
  subst eu
  cases ru
  have view : s.heap.IsItemsView p a := (show ObjOk X.prog X.w H s.heap p (DX.itemsO p a) from I.hok p _ hp).1
  obtain ⟨lo, es, ep, R⟩ := rawK I hd
  have sz := R.sz
  rw [List.length_map] at sz
  refine DT.sortedI (es := es) (ep := ep) (I.ok.hd hcalm) view R.raw (by rw [sz]; exact hz) fun h' tk as hk hlt hl hG => ?_
  obtain ⟨H', I', kp, at'⟩ := laidPairs (tk := tk) I R hk hl hG
  obtain ⟨ds, S, q⟩ := k H' as kp (hl.trans sz) fun j b e => by
    obtain ⟨p, e1, e2⟩ := at' j b e
    rw [List.getElem?_map] at e1
    cases e3 : kvs[j]? with
    | none => rw [e3] at e1; cases e1
    | some q => rw [e3] at e1; cases e1; exact ⟨q, rfl, e2⟩
  have rv : Vals (as.map V.ref) (as.map Value.ref) := by
    clear hl hG at' q S
    induction as with
    | nil => exact .nil
    | cons b as ih => exact .cons rfl ih
  exact sortTail I' rv (by rw [List.length_map, hl, sz]; exact hz) S hu q
end
def itemsP (kvs : List (D × D)) : List D := kvs.map fun q => .tup [q.1, q.2]
def sortItems (d : D) : Option D := match d with
  | .dic kvs => if sortOk (itemsP kvs) = true then some (.lst (sortD (itemsP kvs))) else none
  | _ => none
theorem cf_sortItems {f : E} : ∀ env w d w', e1 sortItems f env w = some (d, w') → cont d = true := fun env w d w' h => by
  obtain ⟨x, _, h⟩ := e1_some h
  unfold sortItems at h
  split at h
  · split at h
    · cases h; rfl
    · cases h
  · cases h
theorem repsPairs {T : Tx} {G : Gd} {H : Hp} : ∀ {as : List Addr} {ps : List (Key × V)} {kvs : List (D × D)}, kvs.map (·.1) = ps.map (fun p => dKey p.1) → (∀ p ∈ ps, kOk p.1) → Reps T G H (ps.map (·.2)) (kvs.map (·.2)) → as.length = ps.length →
    (∀ (j : Nat) (b : Addr), as[j]? = some b → ∃ q : Key × V, ps[j]? = some q ∧ H b = some (.tup [kV q.1, q.2])) → Reps T G H (as.map V.ref) (itemsP kvs)
  | [], [], [], _, _, _, _, _ => .nil
  | b :: as, p :: ps, kv :: kvs, e, ok, r, hl, h => by
    simp only [List.map_cons, List.cons.injEq] at e r
    obtain ⟨e1, e⟩ := e
    cases r with
    | cons r rr =>
      obtain ⟨q, g1, g2⟩ := h 0 b rfl
      simp at g1
      subst g1
      refine .cons (.tup g2 (by show 2 ≤ sizeLine; decide) (.cons ?_ (.cons r .nil))) (repsPairs e (fun q hq => ok q (by simp [hq])) rr (by simpa using hl) fun j b' e => ?_)
      · rw [e1]; exact keyRep (ok p (by simp))
      · obtain ⟨q, g1, g2⟩ := h (j + 1) b' (by simpa using e)
        exact ⟨q, by simpa using g1, g2⟩
  | [], _ :: _, _, _, _, _, hl, _ => by simp at hl
  | _ :: _, [], _, _, _, _, hl, _ => by simp at hl
  | [], [], _ :: _, e, _, _, _, _ => by simp at e
  | _ :: _, _ :: _, [], e, _, _, _, _ => by simp at e
section
variable {X : Cx} {o : Expr} {fo : E} {p pos apos cpos : Pos}
theorem do_sortItems (hcalm : X.calm = true) (hu : X.A.units + 64 < cLine) (hg : Gl X "sorted") (hm : X.mg "sorted" = none) (ho : DE X o fo) (hbase : attributeBase o "items" X.env (eval o X.env) = eval o X.env := by rfl) (hline : (apos.endLine == cpos.line) = true := by rfl)
    (he : starEach [.Call (.Attribute o "items" apos) [] [] cpos] X.env = (false, eval (.Call (.Attribute o "items" apos) [] [] cpos) X.env) :: starEach [] X.env := by rfl) :
    DO X (.Call (.Name "sorted" p) [.Call (.Attribute o "items" apos) [] [] cpos] [] pos) (e1 sortItems fo) :=
  pe_imp (pe_callB (cr_sortV hcalm hu) hg hm bt_sorted (pa_cons (pe_itemsV ho hbase hline) pa_nil he) (by decide) (by decide) he rfl) fun σ H Q ⟨G, B, env, w, d, w', hd, e, k⟩ => by
  obtain ⟨x, ea, eg⟩ := e1_some e
  unfold sortItems at eg
  split at eg
  · rename_i kvs
    split at eg
    · rename_i ok
      cases eg
      refine ⟨G, B, env, w, _, w', hd, ea, fun v H1 s1 h1 r => ?_⟩
      cases r with
      | @dicK a od ps _ h z q rr =>
        refine ⟨a, ps, rfl, .inr ⟨_, h⟩, fun pv npv => ?_⟩
        have hH : upd H1 pv (DX.itemsO pv a) a = some (.frz od (.dK ps)) := by rw [upd_ne (ne_of_none h npv)]; exact h
        refine ⟨pv, a, ps, rfl, upd_same, .inr ⟨_, hH⟩, z.1, fun H' as sm hl at' => ⟨itemsP kvs, ?_⟩⟩
        have sm1 : Same H1 H' := (same_new _ npv).trans sm
        have rp := repsPairs q z.2 (rr.keep ((SameD.of (G := G) sm1).keep h1.draw)) hl at'
        refine ⟨sortIn_of rp ok, fun l nl => ?_⟩
        have sm2 : Same H1 (upd H' l (.lst ((zipSort (as.map V.ref) (itemsP kvs)).map (·.1)))) := sm1.trans (same_new _ nl)
        refine k l _ (h1.back s1 (show H1 l = none from ?_)) (s1.trans (.of sm2)) (h1.go (.of sm2) (h1.draw.go sm2)) (.lst upd_same ?_ ((reps_sort rp).keep (Keep.new _ nl)))
        · cases hb : H1 l with
          | none => rfl
          | some u => rw [sm1 l u hb] at nl; cases nl
        · rw [len_sort rp.length, List.length_map, hl]; exact z.1
    · cases eg
  · cases eg
end
end Dl
set_option Elab.async false
set_option linter.all false
set_option maxRecDepth 100000
set_option maxHeartbeats 4000000
/-! D16: x.append(y.pop(i)), join, list of items. -/
namespace Dl
open PySem PySem.Spec L2
/-- x.append(y.pop(e)), x and y lists of one's own -/
def sAppPop (i j : Nat) (f : E) : S := fun env w => match f env w with
  | some (.int ix, w1) => match (env[i]? : Option Slot), (env[j]? : Option Slot) with
    | some (.ow (.lst a)), some (.ow (.lst b)) => match seqIndex? ix b.length with
      | some k => match b[k]? with
        | some d => if a.length < sizeLine ∧ -(2 ^ 63) ≤ ix ∧ ix < 2 ^ 63 then some (.nx ((env.set j (.ow (.lst (b.eraseIdx k)))).set i (.ow (.lst (a ++ [d])))), w1) else none
        | none => none
      | none => none
    | _, _ => none
  | _ => none
section
variable {X : Cx} {x y : Str} {p p' pos apos bpos cpos dpos : Pos} {e : Expr} {f : E}
theorem ds_appPop (i j : Nat) (hij : i ≠ j) (hi : PE X (.Name x p) (tVar i)) (hj : PE X (.Name y p') (tVar j)) (he : DE X e f)
    (hb1 : attributeBase (.Name x p) "append" X.env (eval (.Name x p) X.env) = eval (.Name x p) X.env := by rfl)
    (hf1 : ((backTo cpos (starEach ((.Call (.Attribute (.Name y p') "pop" bpos) [e] [] dpos) :: []) X.env)).all (fun x => !x.1) && (backToKw cpos (keywordEach [] X.env)).all (fun x => x.1.isSome)
      && decide (([.Call (.Attribute (.Name y p') "pop" bpos) [e] [] dpos] : List Expr).length + ([] : List Keyword).length + (if ([] : List Keyword).isEmpty then 0 else 1) < 30)) = true := by rfl)
    (hl1 : (apos.endLine == cpos.line) = true := by rfl) (hs1 : starEach ((.Call (.Attribute (.Name y p') "pop" bpos) [e] [] dpos) :: []) X.env = (false, eval (.Call (.Attribute (.Name y p') "pop" bpos) [e] [] dpos) X.env) :: starEach [] X.env := by rfl) (hp1 : (backTo cpos (starEach [] X.env)).any (·.1) = false := by rfl)
    (hb2 : attributeBase (.Name y p') "pop" X.env (eval (.Name y p') X.env) = eval (.Name y p') X.env := by rfl)
    (hf2 : ((backTo dpos (starEach (e :: []) X.env)).all (fun x => !x.1) && (backToKw dpos (keywordEach [] X.env)).all (fun x => x.1.isSome)
      && decide ((e :: []).length + ([] : List Keyword).length + (if ([] : List Keyword).isEmpty then 0 else 1) < 30)) = true := by rfl)
    (hl2 : (bpos.endLine == dpos.line) = true := by rfl) (hs2 : starEach (e :: []) X.env = (false, eval e X.env) :: starEach [] X.env := by rfl) (hp2 : (backTo dpos (starEach [] X.env)).any (·.1) = false := by rfl)
    (hsw : swapsWith (.Call (.Attribute (.Name x p) "append" apos) [.Call (.Attribute (.Name y p') "pop" bpos) [e] [] dpos] [] cpos) none pos.line X.env = pure false := by rfl) :
    DS X (.Expr (.Call (.Attribute (.Name x p) "append" apos) [.Call (.Attribute (.Name y p') "pop" bpos) [e] [] dpos] [] cpos) pos) (sAppPop i j f) :=
  ps_imp (ps_expr (pe_bm PySem.F.plainAttrs_list PySem.F.slot_list_append PySem.F.type_list_append mt_append hi
    (pa_cons (pe_bm PySem.F.plainAttrs_list PySem.F.slot_list_pop PySem.F.type_list_pop mt_popAt hj (pa_cons he pa_nil hs2) hb2 hf2 hl2 hs2 hp2) pa_nil hs1) hb1 hf1 hl1 hs1 hp1) hsw) fun D σ H ⟨G, B, env, w, fl, w', hd, e, k⟩ => by
  unfold sAppPop at e
  split at e
  · rename_i ix w1 ea
    split at e
    · rename_i a b hsi hsj
      split at e
      · rename_i kk hk
        split at e
        · rename_i d hd'
          split at e
          · rename_i hc
            obtain ⟨c1, c2, c3⟩ := hc
            cases e
            obtain ⟨p1, q1, nb, n1, n2, ow⟩ := hd.ow i _ hsi
            obtain ⟨p2, q2, mb, m1, m2, ow2⟩ := hd.ow j _ hsj
            refine ⟨_, q1, ?_, _, q2, ?_, G, B, env, w, _, _, hd, ea, fun v H1 s1 h1 r => ?_⟩
            · cases ow with
              | lst h z r => exact .inl ⟨rfl, _, SqL.of h⟩
            · cases ow2 with
              | lst h z r => exact .inl ⟨rfl, _, SqL.of h⟩
            · cases r
              obtain ⟨p2', q2', _, _, _, o2⟩ := h1.ow j _ hsj
              rw [q2] at q2'
              cases q2'
              cases o2 with
              | @lst xs2 _ h2 z2 r2 =>
                have hl2 := r2.length
                obtain ⟨y, hy, ry⟩ := r2.get hd'
                have km := Keep.mut (.lst (xs2.eraseIdx kk)) h2 rfl
                have hld : (xs2.eraseIdx kk).length ≤ xs2.length := List.length_eraseIdx_le _ _
                have h3 := h1.mutOw (d' := .lst (b.eraseIdx kk)) (o := .lst (xs2.eraseIdx kk)) hsj q2 (fun u hu => by rw [h2] at hu; cases hu; rfl) (.lst upd_same (Nat.le_trans hld z2) ((r2.eraseIdx kk).keep km))
                refine ⟨_, _, _, _, y, rfl, rfl, h2, c2, c3, by rw [hl2]; exact hk, hy, ?_⟩
                have hsi' : (env.set j (.ow (.lst (b.eraseIdx kk))))[i]? = some (.ow (.lst a)) := by rw [List.getElem?_set_ne (Ne.symm hij)]; exact hsi
                obtain ⟨p1', q1', _, _, _, o1⟩ := h3.ow i _ hsi'
                rw [q1] at q1'
                cases q1'
                cases o1 with
                | @lst xs4 _ h4 z4 r4 =>
                  have hl4 := r4.length
                  have km4 := Keep.mut (.lst (xs4 ++ [y])) h4 rfl
                  refine ⟨_, _, _, rfl, rfl, h4, by omega, k σ _ (((s1.keep hd.draw).trans km).trans km4) (h3.mutOw hsi' q1 (fun u hu => by rw [h4] at hu; cases hu; rfl) (.lst upd_same (by simp; omega) ((r4.snoc (ry.keep km)).keep km4)))⟩
          · cases e
        · cases e
      · cases e
    · cases e
  · cases e
/-! ### join -/
def strsD : List D → Option (List Str)
  | [] => some []
  | .str x :: ds => match strsD ds with
    | some xs => some (x :: xs)
    | none => none
  | _ => none
theorem strsD_rel {T : Tx} {G : Gd} {H : Hp} : ∀ {vs : List V} {ds : List D} {xs : List Str}, Reps T G H vs ds → strsD ds = some xs → vs = xs.map V.str
  | _, _, _, .nil, h => by cases h; rfl
  | _, _, xs, .cons r t, h => by
    cases r with
    | str _ =>
      unfold strsD at h
      split at h
      · rename_i ys hy
        cases h
        rw [strsD_rel t hy]; rfl
      · cases h
    | _ => simp [strsD] at h
def joinD (x y : D) : Option D := match x, y with
  | .str a, .lst ds => match strsD ds with
    | some ys => if (ys.map (·.length)).sum + ys.length * a.length ≤ 16777216 ∧ sB (Txt.join a ys) = true then some (.str (Txt.join a ys)) else none
    | none => none
  | _, _ => none
theorem de_join {o : Expr} {fo : E} (ho : DE X o fo) (he : DE X e f) (hs : starEach [e] X.env = [(false, eval e X.env)] := by rfl) (hbase : attributeBase o "join" X.env (eval o X.env) = eval o X.env := by rfl) (hline : (apos.endLine == pos.line) = true := by rfl) :
    DE X (.Call (.Attribute o "join" apos) [e] [] pos) (e2 joinD fo f) := pe_imp (pe_join ho he hs hbase hline) fun σ H Q ⟨G, B, env, w, d, w', hd, e, k⟩ => by
  obtain ⟨x, w1, y, h1, h2, h3⟩ := e2_some e
  unfold joinD at h3
  split at h3
  · rename_i a ds
    split at h3
    · rename_i ys hy
      split at h3
      · rename_i hc
        cases h3
        refine ⟨G, B, env, w, _, w1, hd, h1, fun v H1 s1 g1 r1 => ?_⟩
        cases r1
        refine ⟨⟨a, rfl⟩, G, B, env, w1, _, w', g1, h2, fun v H2 s2 g2 r2 => ?_⟩
        cases r2 with
        | lst h z r =>
          have := strsD_rel r hy
          subst this
          exact ⟨a, _, ys, rfl, rfl, .inl h.sq, hc.1, k _ H2 (s1.trans s2) g2 (.str hc.2)⟩
      · cases h3
    · cases h3
  · cases h3
end
/-! ### list(d.items()), list(d) -/
section
variable {X : Cx} {pins : List (Addr × Obj)} {σ : St} {H : Hp} {s : Shared}
def rListV : List V → Hp → VK → Prop := fun vs H Q => ∃ (p a : Addr) (kvs : List (Key × V)), vs = [.ref p] ∧ H p = some (DX.itemsO p a) ∧ Rd H a (.dK kvs) ∧
  ∀ (H' : Hp) (l : Addr) (as : List Addr), Same H H' → H l = none → H' l = some (.lst (as.map V.ref)) → Paired (fun (t : Addr) (q : Key × V) => H' t = some (.tup [kV q.1, q.2])) as kvs → Q (.ref l) H'
theorem cr_listV (hcalm : X.calm = true) : CallR X (.type "list") rListV := by
  intro pins s σ H vs us Q I r ⟨p, a, kvs, ev, hp, hd, k⟩
  subst ev
  obtain ⟨u, eu, ru⟩ := vals1 r
  subst eu
  cases ru
  have view : s.heap.IsItemsView p a := (show ObjOk X.prog X.w H s.heap p (DX.itemsO p a) from I.hok p _ hp).1
  obtain ⟨hz, hs0, ws, kv, hdo⟩ := dk_rd I.hok hd
  obtain ⟨ep, hat⟩ := hdo.dictAt
  have lk : kvs.length = ws.length := Paired.length kv
  refine PySem.W.kdx_call (knd := mixKind X.prog X.w) (kvs := ws) (ep := ep) (I.ok.hd hcalm) view hat (by omega) fun h' tk acc c as hk hS hl hG hacc => ?_
  obtain ⟨H', k1, k2, k3, k4, k5, k6, J⟩ := LiI.items_laid (tk := tk) I hz kv hk hS hl hG hacc
  exact ⟨.ref _, H', J, rfl, k H' _ as k1 k2 k5 k6⟩
def listItems (d : D) : Option D := match d with
  | .dic kvs => some (.lst (itemsP kvs))
  | _ => none
theorem cf_listItems {f : E} : ∀ env w d w', e1 listItems f env w = some (d, w') → cont d = true := fun env w d w' h => by
  obtain ⟨x, _, h⟩ := e1_some h
  unfold listItems at h
  split at h
  · cases h; rfl
  · cases h
theorem paired_at {α β : Type} {F : α → β → Prop} : ∀ {xs : List α} {ys : List β}, Paired F xs ys → ∀ (j : Nat) (x : α), xs[j]? = some x → ∃ y, ys[j]? = some y ∧ F x y
  | _, _, .nil, j, x, e => by simp at e
  | _, _, .cons h t, 0, x, e => by simp at e; subst e; exact ⟨_, rfl, h⟩
  | _, _, .cons h t, j + 1, x, e => by
    obtain ⟨y, e1, e2⟩ := paired_at t j x (by simpa using e)
    exact ⟨y, by simpa using e1, e2⟩
theorem do_listItems {o : Expr} {fo : E} {p pos apos cpos : Pos} (hcalm : X.calm = true) (hg : Gl X "list") (hm : X.mg "list" = none) (ho : DE X o fo) (hbase : attributeBase o "items" X.env (eval o X.env) = eval o X.env := by rfl) (hline : (apos.endLine == cpos.line) = true := by rfl)
    (he : starEach [.Call (.Attribute o "items" apos) [] [] cpos] X.env = (false, eval (.Call (.Attribute o "items" apos) [] [] cpos) X.env) :: starEach [] X.env := by rfl) :
    DO X (.Call (.Name "list" p) [.Call (.Attribute o "items" apos) [] [] cpos] [] pos) (e1 listItems fo) :=
  pe_imp (pe_callTy (cr_listV hcalm) hg hm bt_list (pa_cons (pe_itemsV ho hbase hline) pa_nil he) (by decide) (by decide) he rfl) fun σ H Q ⟨G, B, env, w, d, w', hd, e, k⟩ => by
  obtain ⟨x, ea, eg⟩ := e1_some e
  unfold listItems at eg
  split at eg
  · rename_i kvs
    cases eg
    refine ⟨G, B, env, w, _, w', hd, ea, fun v H1 s1 h1 r => ?_⟩
    cases r with
    | @dicK a od ps _ h z q rr =>
      refine ⟨a, ps, rfl, .inr ⟨_, h⟩, fun pv npv => ?_⟩
      have hH : upd H1 pv (DX.itemsO pv a) a = some (.frz od (.dK ps)) := by rw [upd_ne (ne_of_none h npv)]; exact h
      refine ⟨pv, a, ps, rfl, upd_same, .inr ⟨_, hH⟩, fun H' l as sm nl hl pr => ?_⟩
      have sm1 : Same H1 H' := (same_new _ npv).trans sm
      have la := Paired.length pr
      have rp := repsPairs q z.2 (rr.keep ((SameD.of (G := G) sm1).keep h1.draw)) la (paired_at pr)
      refine k l H' (h1.back s1 (show H1 _ = none from ?_)) (s1.trans (.of sm1)) (h1.go (.of sm1) (h1.draw.go sm1)) (.lst hl (by rw [List.length_map, la]; exact z.1) rp)
      cases hb : H1 l with
      | none => rfl
      | some u => rw [same_new _ npv l u hb] at nl; cases nl
  · cases eg
def listE : List D → Option D
  | [.dic kvs] => some (.lst (kvs.map (·.1)))
  | xs => listD xs
theorem cn_listE (hcalm : X.calm = true) : CallN X (.type "list") listE := by
  obtain ⟨r0, c0, h0⟩ := cn_list (X := X)
  refine ⟨_, CallR.or (call_listD hcalm) c0, fun G H w vs ds d Q dr r e k => ?_⟩
  unfold listE at e
  split at e
  · cases e
    cases r with
    | cons r rr =>
      cases rr
      cases r with
      | @dicK a od ps kvs h z q rr =>
        refine .inl ⟨_, _, rfl, .inr ⟨_, h⟩, fun p np => k p _ np (same_new _ np) (.lst upd_same (by rw [List.length_map]; exact z.1) ?_)⟩
        have kr := keysReps (T := tx X) (G := G) (H := upd H p (.lst (ps.map fun kv => kV kv.1))) (ks := ps.map (·.1)) (fun k hk => by
            obtain ⟨p, hp, rfl⟩ := List.mem_map.mp hk
            exact z.2 p hp)
        rw [List.map_map, List.map_map] at kr
        rw [q]
        exact kr
  · exact .inr (h0 G H w vs _ d Q dr r e k)
theorem cf_listE {fs : List E} : ∀ env w d w', eBi listE (aL fs) env w = some (d, w') → cont d = true := fun env w d w' h => by
  obtain ⟨xs, _, h⟩ := eBi_some h
  unfold listE at h
  split at h
  · cases h; rfl
  · unfold listD at h
    split at h <;> first | (cases h; rfl) | cases h
theorem cf_sorted {fs : List E} : ∀ env w d w', eBi sortedD (aL fs) env w = some (d, w') → cont d = true := fun env w d w' h => by
  obtain ⟨xs, _, h⟩ := eBi_some h
  unfold sortedD at h
  split at h <;> first | (cases h) | (split at h <;> first | (cases h; rfl) | cases h)
theorem cf_dict {fs : List E} : ∀ env w d w', eBi dictD (aL fs) env w = some (d, w') → cont d = true := fun env w d w' h => by
  obtain ⟨xs, _, h⟩ := eBi_some h
  unfold dictD at h
  split at h <;> first | (cases h; rfl) | (split at h <;> first | (cases h; rfl) | cases h) | cases h
end
end Dl
set_option Elab.async false
set_option linter.all false
set_option maxRecDepth 100000
set_option maxHeartbeats 4000000
/-! D19: dict comprehensions, the new dict of any kind. -/
namespace Dl
open PySem PySem.Spec L2
/-- how a dict of a kind is put to -/
def DSetR (Y : Cx) (put : Addr → V → V → Hp → (Hp → Prop) → Prop) : Prop := ∀ (pins : List (Addr × Obj)) (s : Shared) (σ : St) (H : Hp) (D : Addr) (y z : V) (u r : Value) (Nx : Hp → Prop) (E : Value → Shared → Prop),
  Inv Y pins σ H s → RelV y u → RelV z r → put D y z H Nx → wpAny (model Y.prog Y.w) Y.A (dictSet D u r) (fun _ s' => ∃ H', Inv Y pins σ H' s' ∧ Nx H') E s
abbrev noDict : Obj := { cls := .type "dict", data := .dict #[] }
def DNewR (X : Cx) (n0 : Addr → HO) : Prop := ∀ (H : Hp) (h : Heap), sysModules < h.objs.size → ObjOk X.prog X.w H (h.push noDict) h.objs.size (n0 h.objs.size)
/-- {k: v for target in iter if ..}: n0 the empty dict, put how it grows -/
def tDcG (n0 : Addr → HO) (put : Addr → V → V → Hp → (Hp → Prop) → Prop) (wi : TI) (g : TG) (tt : TT) (tk tv : TE) (vs : List Nat) : TE := fun σ H Q => wi σ H fun J H1 => ∀ D, H1 D = none → ∃ W : Nat → Nat → Hp → Prop, (∃ m, W 0 m (upd H1 D (n0 D))) ∧ ∀ i m H, W i m H →
  (J.stop i H ∧ Q (.ref D) H) ∨ (J.go i H ∧ ∃ Nx : Hp → Prop, (∀ H', Nx H' → ∃ m', m' < m ∧ W (i + 1) m' H') ∧ ∀ x H', J.yld i H x H' → g x (wipe σ vs) H' fun σ2 H2 => wipe σ2 vs = wipe σ vs ∧ tt σ2 H2 fun b H3 =>
    if b = true then tk σ2 H3 fun y H4 => tv σ2 H4 fun z H5 => put D y z H5 Nx else Nx H3)
/-- in every block that the comprehension may run in -/
abbrev InBlk (X : Cx) (scope : Scope) (P : Cx → Prop) : Prop := ∀ (s : Shared) (H : Hp) (C : Addr) (cl : List (Str × Addr)) (fp : List Addr), P (X.blk s H scope (compEnvC scope cl C X.env) fp)
/-- the loop stands ahead of a turn: its block Y, what the iterator is made of (fp), where it is (tn), the slots, the promise -/
def AtTurn (Y : Cx) (fp : List Addr) (tn : Nat → Heap → Prop) (σ : St) (W : Nat → Nat → Hp → Prop) (n : Nat) (s : Shared) : Prop :=
  ∃ i H, Inv Y [] σ H s ∧ tn i s.heap ∧ (∀ b ∈ fp, H b = none) ∧ W i n H
section
variable {X : Cx} {n0 : Addr → HO} {put : Addr → V → V → Hp → (Hp → Prop) → Prop} {fp : List Addr} {tn : Nat → Heap → Prop} {W : Nat → Nat → Hp → Prop} {Y : Cx}
/-- what the iterator is made of may be pinned within the block -/
theorem fp_within {σ : St} {H : Hp} {s : Shared} (hex : Y.ex = fp) (I : Inv Y [] σ H s) (hp : Y.pn = []) (free : ∀ b ∈ fp, H b = none) {b : Addr} (hb : b ∈ fp) : FpOk Y [] H b := by
  have hx : b ∈ Y.ex := hex ▸ hb
  have far := I.ok.exf b hx
  refine ⟨free b hb, far.1, I.ok.exfs b hx, Or.inl hx, far.2, fun p q => ?_⟩
  rw [hp] at q
  exact absurd q List.not_mem_nil
/-- a turn came round: the next one begins -/
theorem next_turn {i n : Nat} {vs : List Nat} {σ0 σ2 : St} {h7 : Heap} {H : Hp} {s : Shared} {Nx : Hp → Prop} (keeps : ∀ i h h', tn i h → (∀ b ∈ fp, ∀ o, h.get? b = some o → h'.get? b = some o) → tn i h') (objs : ∀ i h, tn i h → ∀ b ∈ fp, ∃ o, h.get? b = some o ∧ ∀ v, o.data ≠ .cell v)
    (at7 : tn (i + 1) h7) (same : wipe σ2 vs = wipe σ0 vs) (I : Inv Y ([] ++ pinsAt fp h7) σ2 H s) (less : ∀ H', Nx H' → ∃ m, m < n ∧ W (i + 1) m H') (nx : Nx H) : ∃ m, m < n ∧ AtTurn Y fp tn (wipe σ0 vs) W m s := by
  have pinned : ∀ b ∈ fp, ∀ o, h7.get? b = some o → s.heap.get? b = some o ∧ H b = none := fun b hb o e => (I.pin (b, o) (List.mem_append_right _ (List.mem_append_right _ (mem_pinsAt hb e)))).imp id And.left
  obtain ⟨m, lt, wm⟩ := less H nx
  refine ⟨m, lt, i + 1, H, ?_, keeps _ _ _ at7 (fun b hb o e => (pinned b hb o e).1), fun b hb => (objs _ _ at7 b hb).elim fun o q => (pinned b hb o q.1).2, wm⟩
  exact (I.unpinned (pins := [])).weak ((congrArg List.length same.symm).trans (wipe_length ..)) fun j v e => (wipe_some (vs := vs) (by rw [same]; exact e)).1
variable {kx vx tg iter : Expr} {ifs : List Expr} {scope : Scope} {own : List (Str × Nat)} {pos pos' : Pos} {wi : TI} {g : TG} {tt : TT} {tk tv : TE}
/-- the parts of such a comprehension, in every block -/
structure DcParts (X : Cx) (put : Addr → V → V → Hp → (Hp → Prop) → Prop) (scope : Scope) (tg kx vx : Expr) (ifs : List Expr) (g : TG) (tt : TT) (tk tv : TE) : Prop where
  put : ∀ (s : Shared) (H : Hp) (e : PySem.Env) (fp : List Addr), DSetR (X.blk s H scope e fp) put
  tgt : InBlk X scope fun Y => PG Y tg g
  ifs : InBlk X scope fun Y => PTs Y ifs tt
  key : InBlk X scope fun Y => PE Y kx tk
  val : InBlk X scope fun Y => PE Y vx tv
theorem dcG_core {pins : List (Addr × Obj)} {s : Shared} {σ : St} {H : Hp} {Q : VK} {use : Option (Value → Sem Unit)} {Qf : Value → Shared → Prop} (hnew : DNewR X n0) (P : DcParts X put scope tg kx vx ifs g tt tk tv)
    (hc : X.calm = true) (hN : X.N.Nodup) (I : Inv X pins σ H s) (hi : PI X tg iter wi) (ok : BlkOk X.N X.env.scope scope own) (hs : ∀ x, foldedSetIterable iter X.env x = pure x) (h : tDcG n0 put wi g tt tk tv (own.map (·.2)) σ H Q)
    (fin : ∀ D C s' m H', Inv X pins σ H' s' → Q (.ref D) H' → s'.heap.Ns C m → FpOk X pins H' C → compPost (model X.prog X.w) X.A X.xe use Qf (.ref D) C (.ok .next) s') :
    wpAny (model X.prog X.w) X.A (comprehension (.DictComp kx vx [⟨tg, iter, ifs, 0⟩] scope pos) scope X.env pos' newDict false (eval iter X.env) use) Qf X.xe s := by
  have caps : ∀ y ∈ scope.names, y.2 = .free → ∃ c, X.env.cells.lookup y.1 = some c := fun y hy e => I.ok.has _ (ok.free y hy e)
  refine wpAny_comprehension_free (use := use) rfl hs (closure_ok caps) ok.kind (fun y hy e => by rw [ok.uniq y hy, e]) (thn (hi.run pins s σ H _ I h) fun _ _ got => thn got fun _ s2 ⟨it, fp, tn, J, H2, e2, I2, T, at2, fp2, q⟩ => ?_)
  subst e2
  refine wpAny_newObj_type (newEnv_comp ?_)
  -- the new dict stands at D
  obtain ⟨D, eD⟩ : ∃ D, D = s2.heap.objs.size := ⟨_, rfl⟩
  obtain ⟨H3, eH⟩ : ∃ H3, H3 = upd H2 D (n0 D) := ⟨_, rfl⟩
  obtain ⟨W, ⟨m0, w0⟩, turn⟩ := q D (I2.hok.fresh (Nat.le_of_eq eD.symm))
  obtain ⟨s3, e3⟩ : ∃ s3 : Shared, s3 = { s2 with heap := s2.heap.push noDict } := ⟨_, rfl⟩
  have grow : ∀ b o, s2.heap.get? b = some o → s3.heap.get? b = some o := fun b o z => by rw [e3]; exact Heap.get?_push_of_some _ z
  have I3 : Inv X pins σ H3 s3 := by
    subst e3 eH eD
    exact I2.laid (t' := s2.toks) (fun b o z => Heap.get?_push_of_some _ z) (Nat.le_refl _) (hnew _ _ I2.big)
  have below : ∀ b ∈ fp, b < s2.heap.objs.size := fun b hb => (T.obj _ _ at2 b hb).elim fun _ z => Heap.lt_size z.1
  have fp3 : ∀ b ∈ fp, FpOk X pins H3 b ∧ b < s3.heap.objs.size := fun b hb => by
    refine ⟨⟨?_, (fp2 b hb).2⟩, ?_⟩
    · rw [eH, upd_ne (eD ▸ Nat.ne_of_lt (below b hb))]; exact (fp2 b hb).1
    · rw [e3, Heap.size_push]; exact Nat.lt_succ_of_lt (below b hb)
  -- the block
  have I4 := block_start I3 ok hN fp3
  obtain ⟨cl, ecl⟩ : ∃ cl, cl = cellsFrom (s3.heap.objs.size + 1) scope.names (cloFrom X.env.cells scope.names []) := ⟨_, rfl⟩
  obtain ⟨ce, ece⟩ : ∃ ce, ce = compEnvC scope cl s3.heap.objs.size X.env := ⟨_, rfl⟩
  obtain ⟨s4, e4⟩ : ∃ s4 : Shared, s4 = { s3 with heap := pushCells (s3.heap.push noDict) scope.names } := ⟨_, rfl⟩
  let Y : Cx := X.blk s3 H3 scope ce fp
  have J4 : Inv Y [] (wipe σ (own.map (·.2))) H3 s4 := by subst e4 ece ecl; exact I4
  have at4 : tn 0 s4.heap := T.keep _ _ _ at2 fun b _ o z => by rw [e4]; exact pushCells_keeps _ _ _ _ (Heap.get?_push_of_some _ (grow b o z))
  have pinY : ∀ {σ' : St} {H' : Hp} {s' : Shared}, Inv Y [] σ' H' s' → (∀ b ∈ fp, H' b = none) → ∀ b ∈ fp, FpOk Y [] H' b := fun J z b hb => fp_within (Y := Y) rfl J rfl z hb
  have tgY : PG Y tg g := by subst ece; exact P.tgt ..
  have ifY : PTs Y ifs tt := by subst ece; exact P.ifs ..
  have keY : PE Y kx tk := by subst ece; exact P.key ..
  have vaY : PE Y vx tv := by subst ece; exact P.val ..
  have loc : ce.locals = s3.heap.objs.size := by rw [ece]; rfl
  have loop : codeAny (model X.prog X.w) X.A (.compLoop (.DictComp kx vx [⟨tg, iter, ifs, 0⟩] scope pos) 0 (.ref it) (.ref D) ce) (compPost (model X.prog X.w) X.A X.xe use Qf (.ref D) ce.locals) s4 := by
    refine compLoop_anyD (AtTurn Y fp tn (wipe σ (own.map (·.2))) W) (fun n s5 ⟨i, H5, J5, at5, fr5, w5⟩ => ?_) m0 ⟨0, H3, J4, at4, fun b hb => (fp3 b hb).1.1, eH ▸ w0⟩
    rcases turn i n H5 w5 with ⟨stop, done⟩ | ⟨go, Nx, less, step⟩
    · refine thnF (T.done Y rfl rfl rfl hc i [] s5 _ H5 (fun _ _ => False) J5 (pinY J5 fr5) at5 stop) fun _ s6 ⟨e6, J6⟩ => ?_
      subst e6
      obtain ⟨mp, ns, _⟩ := J6.loc
      refine fin D ce.locals s6 mp H5 (I3.call' (ch := fp) J6.os J6.base J6.hok J6.bare fun b hb => ?_) done ns (I3.fpOk (Nat.le_of_eq loc.symm) J6.free)
      exact ⟨(fp3 b hb).1.2.2.2.1, (fp3 b hb).1.2.1, (fp3 b hb).1.2.2.2.2.1, (fp3 b hb).1.2.2.2.2.2⟩
    · refine thnF (T.item Y rfl rfl rfl hc i [] s5 _ H5 (fun _ _ => False) J5 (pinY J5 fr5) at5 go) fun _ s6 ⟨u, e6, more⟩ => ?_
      subst e6
      refine thnF more fun _ s7 ⟨x, H7, J7, rx, yx, at7, fr7⟩ => thnF (tgY.run _ s7 _ H7 x u _ (J7.pinned (pinY J7 fr7) (T.obj _ _ at7)) rx (step x H7 yx)) fun _ s8 ⟨σ8, H8, J8, same, q8⟩ => thnF (ifY.run _ s8 σ8 H8 _ J8 q8) fun b s9 ⟨H9, J9, q9⟩ => ?_
      have round : ∀ {s' : Shared} {H' : Hp}, Inv Y ([] ++ pinsAt fp s7.heap) σ8 H' s' → Nx H' → ∃ m, m < n ∧ AtTurn Y fp tn (wipe σ (own.map (·.2))) W m s' := fun J nx => next_turn T.keep T.obj at7 same J less nx
      match b, q9 with
      | false, q9 => exact round J9 q9
      | true, q9 =>
        refine thnF (keY.run _ s9 σ8 H9 _ J9 q9) fun _ sa ⟨vk, Ha, Ja, ra, qa⟩ => thnF (vaY.run _ sa σ8 Ha _ Ja qa) fun _ sb ⟨vv, Hb, Jb, rb, qb⟩ => ?_
        exact wpAny_mono (P.put s3 H3 ce fp _ sb σ8 Hb D vk vv _ _ Nx _ Jb ra rb qb) (fun _ _ ⟨_, Jc, qc⟩ => round Jc qc) fun _ _ z => z
  have all := codeAny_compStart_dict loop (T.self X.A 0 _ _ _ at4 loop)
  subst e4 e3 eD ece ecl
  exact all
theorem pe_dcG (hnew : DNewR X n0) (hput : ∀ (s : Shared) (H : Hp) (e : PySem.Env) (fp : List Addr), DSetR (X.blk s H scope e fp) put) (hc : X.calm = true) (hN : X.N.Nodup) (hi : PI X tg iter wi) (ok : BlkOk X.N X.env.scope scope own)
    (hg : InBlk X scope fun Y => PG Y tg g) (ht : InBlk X scope fun Y => PTs Y ifs tt) (hk : InBlk X scope fun Y => PE Y kx tk) (he : InBlk X scope fun Y => PE Y vx tv) (hs : ∀ x, foldedSetIterable iter X.env x = pure x := by intro _; rfl) :
    PE X (.DictComp kx vx [⟨tg, iter, ifs, 0⟩] scope pos) (tDcG n0 put wi g tt tk tv (own.map (·.2))) := by
  refine ⟨fun pins s σ H Q I h => ?_⟩
  rw [arm_eval_DictComp]
  refine dcG_core hnew ⟨hput, hg, ht, hk, he⟩ hc hN I hi ok hs h fun D C s' m H' J q ns far => ⟨m, ns, fun h' sb => ⟨.ref D, H', ?_, rfl, q⟩⟩
  exact J.turned (t' := s'.toks) (fun b o hb z => (sb.2 b hb).trans z) far.1 far.2.1 far.2.2.2.1 far.2.2.2.2.1 far.2.2.2.2.2
end
end Dl
set_option Elab.async false
set_option linter.all false
set_option maxRecDepth 100000
set_option maxHeartbeats 4000000
/-! D20: dicts from nested tuples to True. -/
namespace Dl
open PySem PySem.Spec L2
section
variable {X : Cx} {pins : List (Addr × Obj)} {σ : St} {H : Hp} {s : Shared} {G : Gd}
theorem nks_is {n : Nat} (ih : ∀ (d : D) (v : V) (u : Value) (k : NestedKey), Rep (tx X) G H v d → RelV v u → nkD n d = some k → NestedIs s.heap k u ∧ k.depth ≤ n) :
    ∀ {ds : List D} {vs : List V} {us : List Value} {ks : List NestedKey}, Reps (tx X) G H vs ds → Vals vs us → nkAll (nkD n) ds = some ks → NestedAll s.heap ks us ∧ NestedKey.depthAll ks ≤ n
  | _, _, _, ks, .nil, .nil, e => by cases e; exact ⟨.nil, Nat.zero_le _⟩
  | d :: ds, _, _, ks, .cons r rr, .cons q qq, e => by
    unfold nkAll at e
    split at e
    · rename_i k ks' e1 e2
      cases e
      obtain ⟨a1, a2⟩ := ih _ _ _ _ r q e1
      obtain ⟨b1, b2⟩ := nks_is ih rr qq e2
      exact ⟨.cons a1 b1, by simp only [NestedKey.depthAll]; exact Nat.max_le.mpr ⟨a2, b2⟩⟩
    · cases e
theorem nk_is (I : Inv X pins σ H s) : ∀ (n : Nat) (d : D) (v : V) (u : Value) (k : NestedKey), Rep (tx X) G H v d → RelV v u → nkD n d = some k → NestedIs s.heap k u ∧ k.depth ≤ n := by
  intro n
  induction n with
  | zero =>
    intro d v u k r q e
    cases r with
    | non => cases e; cases (show u = Value.none from q); exact ⟨.none, Nat.le_refl _⟩
    | bl b => cases e; cases (show u = Value.bool b from q); exact ⟨.bool rfl, Nat.le_refl _⟩
    | int i => cases e; obtain ⟨t, rfl⟩ := (show ∃ t, u = Value.int i t from q); exact ⟨.int _ _, Nat.le_refl _⟩
    | str h => cases e; obtain ⟨t, rfl⟩ := (show ∃ t, u = Value.str _ t from q); exact ⟨.text _ _, Nat.le_refl _⟩
    | _ => cases e
  | succ n ih =>
    intro d v u k r q e
    cases r with
    | non => cases e; cases (show u = Value.none from q); exact ⟨.none, Nat.zero_le _⟩
    | bl b => cases e; cases (show u = Value.bool b from q); exact ⟨.bool rfl, Nat.zero_le _⟩
    | int i => cases e; obtain ⟨t, rfl⟩ := (show ∃ t, u = Value.int i t from q); exact ⟨.int _ _, Nat.zero_le _⟩
    | str h => cases e; obtain ⟨t, rfl⟩ := (show ∃ t, u = Value.str _ t from q); exact ⟨.text _ _, Nat.zero_le _⟩
    | tup h z rr =>
      unfold nkD at e
      split at e
      · rename_i ks ek
        cases e
        cases q
        obtain ⟨its, rv, ⟨o, h1, h2, m, h3⟩, _⟩ := I.tuple (SqT.of h)
        obtain ⟨a1, a2⟩ := nks_is ih rr rv ek
        exact ⟨.tup h1 h2 h3 (by simpa using a1), by simp only [NestedKey.depth]; omega⟩
      · cases e
    | ktp h rr =>
      unfold nkD at e
      split at e
      · rename_i ks ek
        cases e
        cases q
        obtain ⟨its, rv, ⟨o, h1, h2, m, h3⟩, _⟩ := I.tuple h.sq
        obtain ⟨a1, a2⟩ := nks_is ih rr rv ek
        exact ⟨.tup h1 h2 h3 (by simpa using a1), by simp only [NestedKey.depth]; omega⟩
      · cases e
    | _ => cases e
theorem NKs.all (I : Inv X pins σ H s) : ∀ {xs : List (NestedKey × Addr)} {ds : List D}, NKs (tx X) G H xs ds → ∀ x ∈ xs, (nestedKind X.prog X.w).is s.heap x.1 x.2
  | _, _, .nil, x, hx => by cases hx
  | _, _, .cons r e t, x, hx => by
    rcases List.mem_cons.mp hx with rfl | hx
    · exact nk_is I 8 _ _ _ _ r rfl e
    · exact NKs.all I t x hx
abbrev withT (xs : List (NestedKey × Addr)) : List (NestedKey × Addr × Value) := xs.map fun x => (x.1, x.2, .bool true)
theorem nest_dict {T : Tx} {a : Addr} {xs : List (NestedKey × Addr)} {ds : List D} (I : Inv X pins σ H s) (h : H a = some (nestO X.prog X.w a xs)) (ks : NKs (tx X) G H xs ds) : (a == sysModules) = false ∧ xs.length ≤ sizeLine ∧ s.heap.DictOfH (nestedKind X.prog X.w) a (withT xs) := by
  obtain ⟨⟨lo, o, es, ep, h1, h2, h3, h4, h5, h6⟩, _⟩ := (show ObjOk X.prog X.w H s.heap a (nestO X.prog X.w a xs) from I.hok a _ h)
  refine ⟨lo, h6, o, es, ep, h1, h2, h3, by rw [h4, List.map_map]; rfl, fun x hx => ?_, by rw [List.map_map]; exact h5⟩
  obtain ⟨y, hy, rfl⟩ := List.mem_map.mp hx
  exact ks.all I y hy
theorem nest_ok {P : Program} {w : World} {H' : Hp} {h : Heap} {a : Addr} {xs : List (NestedKey × Addr)} (lo : (a == sysModules) = false) (z : xs.length ≤ sizeLine) (d : h.DictOfH (nestedKind P w) a (withT xs)) : ObjOk P w H' h a (nestO P w a xs) := by
  obtain ⟨o, es, ep, h1, h2, h3, h4, h5, h6⟩ := d
  refine ⟨⟨lo, o, es, ep, h1, h2, h3, by rw [h4, List.map_map]; rfl, by rw [List.map_map] at h6; exact h6, z⟩, ⟨o, h1⟩, fun g1 g2 ⟨l1, o1, e1, p1, k1, k2⟩ kp => ⟨l1, o1, e1, p1, kp _ k1, k2⟩⟩
def addX (xs : List (NestedKey × Addr)) (k : NestedKey) (b : Addr) : List (NestedKey × Addr) := if (xs.any fun x => decide (x.1 = k)) = true then xs else xs ++ [(k, b)]
theorem atKey_any (xs : List (NestedKey × Addr)) (k : NestedKey) : (atKey (withT xs) k).isSome = xs.any fun x => decide (x.1 = k) := by
  induction xs with
  | nil => rfl
  | cons x xs ih =>
    unfold atKey withT at ih ⊢
    rw [List.map_cons, List.find?_cons, List.any_cons]
    by_cases h : x.1 = k
    · simp [h]
    · simp only [h, decide_false, Bool.false_or]
      exact ih
theorem stored_add (xs : List (NestedKey × Addr)) (k : NestedKey) (b : Addr) : storedH (withT xs) k b (.bool true) = withT (addX xs k b) := by
  unfold storedH addX
  rw [atKey_any]
  split
  · unfold withT
    rw [List.map_map]
    refine List.map_congr_left fun x _ => ?_
    simp only [Function.comp, putAt]
    split <;> rfl
  · simp [withT]
def putN (T : Tx) : Addr → V → V → Hp → (Hp → Prop) → Prop := fun D y z H Nx => ∃ (G : Gd) (xs : List (NestedKey × Addr)) (ks : List Dl.D) (d : Dl.D) (k : NestedKey) (b : Addr), H D = some (nestO T.P T.w D xs) ∧ NKs T G H xs ks ∧ y = .ref b ∧ Rep T G H (.ref b) d ∧ nkD 8 d = some k ∧ z = .bl true ∧ xs.length < sizeLine ∧
  Nx (upd H D (nestO T.P T.w D (addX xs k b)))
theorem addX_len (xs : List (NestedKey × Addr)) (k : NestedKey) (b : Addr) : (addX xs k b).length ≤ xs.length + 1 := by
  unfold addX
  split
  · exact Nat.le_succ _
  · simp
theorem dset_N (hu : X.A.units + 8 < cLine) : DSetR X (putN (tx X)) := by
  intro pins s σ H D y z u r Nx E I ry rz ⟨G, xs, ks, d, k, b, hD, nk, ey, rb, ek, ez, hl, q⟩
  subst ey ez
  cases ry
  cases (show r = Value.bool true from rz)
  obtain ⟨lo, hz, dd⟩ := nest_dict (T := tx X) I hD nk
  refine wpAny_dictSet_heap (hsz := by rw [List.length_map]; exact hz) hu (nk_is I 8 _ _ _ _ rb rfl ek) dd fun h' dd' hs => ?_
  rw [stored_add] at dd'
  have he : ∃ q, h'.get? D = some q := let ⟨o, _, _, h1, _⟩ := dd'; ⟨o, h1⟩
  exact ⟨_, d_write I (by rw [hD]; exact True.intro) hs he (nest_ok lo (Nat.le_trans (addX_len xs k b) hl) dd'), q⟩
theorem dnew_N : DNewR X fun a => nestO X.prog X.w a [] := fun H h hb =>
  nest_ok (beq_eq_false_iff_ne.mpr (Ne.symm (Nat.ne_of_lt hb))) (Nat.zero_le _) (Heap.DictOfH.new h)
end
/-- keys that are not there yet -/
def nkT (d : D) : Option NestedKey := match d with
  | .tup _ => nkD 8 d
  | .ktp _ => nkD 8 d
  | _ => none
def addN : List D → List D → Option (List D)
  | ks, [] => some ks
  | ks, d :: ds => match nkT d with
    | some k => addN (if (ks.any fun x => decide (nkD 8 x = some k)) = true then ks else ks ++ [d]) ds
    | none => none
theorem nkT_ref {T : Tx} {G : Gd} {H : Hp} {v : V} {d : D} {k : NestedKey} (r : Rep T G H v d) (h : nkT d = some k) : nkD 8 d = some k ∧ ∃ b, v = .ref b := by
  unfold nkT at h
  split at h
  · cases r; exact ⟨h, _, rfl⟩
  · cases r; exact ⟨h, _, rfl⟩
  · cases h
theorem NKs.any {T : Tx} {G : Gd} {H : Hp} {k : NestedKey} : ∀ {xs : List (NestedKey × Addr)} {ks : List D}, NKs T G H xs ks → (ks.any fun x => decide (nkD 8 x = some k)) = xs.any fun x => decide (x.1 = k)
  | _, _, .nil => rfl
  | _, _, .cons r e t => by
    rw [List.any_cons, List.any_cons, NKs.any t, e]
    congr 1
    rename_i k' _ _ _ _
    by_cases h : k' = k
    · subst h; simp
    · rw [decide_eq_false h, decide_eq_false fun z => h (Option.some.inj z)]
theorem NKs.snoc {T : Tx} {G : Gd} {H : Hp} {k : NestedKey} {b : Addr} {d : D} (r : Rep T G H (.ref b) d) (e : nkD 8 d = some k) : ∀ {xs : List (NestedKey × Addr)} {ks : List D}, NKs T G H xs ks → NKs T G H (xs ++ [(k, b)]) (ks ++ [d])
  | _, _, .nil => .cons r e .nil
  | _, _, .cons r' e' t => .cons r' e' (NKs.snoc r e t)
def eDcN (vs : List Nat) (p : Pat) (c ek : E) (it : EA) : E := fun env w => match it env w with
  | none => none
  | some (ds, w1) => match compD vs p c ek ds env w1 with
    | none => none
    | some (xs, w2) => match addN [] xs with
      | some ks => some (.din ks, w2)
      | none => none
section
variable {X : Cx} {pos : Pos}
theorem tDcN_of {vs : List Nat} {p : Pat} {cond elt : E} {fi : EA} (hp : (p.slots.all fun j => vs.contains j) = true) : ∀ σ H Q, tDO (tx X) (eDcN vs p cond elt fi) σ H Q →
    tDcG (fun a => nestO X.prog X.w a []) (putN (tx X)) (tDI (tx X) fi) (tDG (tx X) p) (tDT (tx X) cond) (tD (tx X) elt) (tD (tx X) (eC (.bl true))) vs σ H Q := fun σ H Q ⟨G, B, env, w, d, w', hd, e, k⟩ => by
  have hps : ∀ j ∈ p.slots, j ∈ vs := fun j hj => by simpa using List.all_eq_true.mp hp j hj
  unfold eDcN at e
  split at e
  · cases e
  · rename_i ds w1 ea
    split at e
    · cases e
    · rename_i xs w2 ec
      split at e
      · rename_i kf eadd
        cases e
        refine ⟨G, B, env, w, ds, w1, hd, ea, fun J H1 s1 h1 it Dd nD => ?_⟩
        obtain ⟨hlen, it⟩ := it
        obtain ⟨nb, n1, n2⟩ := h1.nb nD
        have apD := h1.apart nD
        refine ⟨fun i m H => m = ds.length - i ∧ i ≤ ds.length ∧ ∃ acc ks rest wi, H Dd = some (nestO X.prog X.w Dd acc) ∧ acc.length ≤ i ∧ NKs (tx X) G H acc ks ∧ Hold (tx X) G B σ H env wi ∧ compD vs p cond elt (ds.drop i) env wi = some (rest, w') ∧ addN ks rest = some kf ∧ SameD G H1 H, ⟨ds.length, by simp, Nat.zero_le _, [], [], xs, w1, upd_same, Nat.le_refl _, .nil, h1.new _ nD, by simpa using ec, eadd, .new _ nD⟩, ?_⟩
        rintro i m H2 ⟨rfl, hi, acc, ks, rest, wi, hD, hacc, ra, h2, e2, ex, s2⟩
        obtain ⟨it1, it2⟩ := it i H2 (s2.keep h1.draw)
        by_cases hlt : i < ds.length
        · refine .inr ?_
          obtain ⟨go, yl⟩ := it1 ds[i] (by simp [hlt])
          refine ⟨go, fun H' => i + 1 ≤ ds.length ∧ ∃ acc ks rest wi, H' Dd = some (nestO X.prog X.w Dd acc) ∧ acc.length ≤ i + 1 ∧ NKs (tx X) G H' acc ks ∧ Hold (tx X) G B σ H' env wi ∧ compD vs p cond elt (ds.drop (i + 1)) env wi = some (rest, w') ∧ addN ks rest = some kf ∧ SameD G H1 H', fun H' ⟨q1, q2⟩ => ⟨ds.length - (i + 1), by omega, rfl, q1, q2⟩, fun x H3 hy => ?_⟩
          obtain ⟨sm, rp⟩ := yl x H3 hy
          rw [List.drop_eq_getElem_cons hlt] at e2
          unfold compD at e2
          have h3 := h2.go (.of sm) (h2.draw.go sm)
          have hD3 : H3 Dd = some (nestO X.prog X.w Dd acc) := sm _ _ hD
          have ra3 := ra.keep ((SameD.of (G := G) sm).keep h2.draw)
          have s3 : SameD G H1 H3 := s2.trans (.of sm)
          split at e2
          · cases e2
          · rename_i env3 ea3
            refine ⟨G, B, wipeE env vs, wi, _, env3, h3.wipe vs, rp, ea3, fun σ4 ag h4 => ⟨wipe_agr ag hps, ?_⟩⟩
            split at e2
            · rename_i w4 ec4
              refine ⟨G, B, env3, wi, true, w4, h4, ec4, fun H5 s5 h5 => iteT ?_⟩
              split at e2
              · cases e2
              · rename_i y w5 ee
                refine ⟨G, B, env3, w4, y, w5, h5, ee, fun v H6 s6 h6 r6 => ⟨G, B, env3, w5, _, w5, h6, rfl, fun v7 H7 s7 h7 r7 => ?_⟩⟩
                cases r7
                split at e2
                · rename_i ys w6 er
                  cases e2
                  unfold addN at ex
                  split at ex
                  · rename_i key hkey
                    obtain ⟨hk8, b, rfl⟩ := nkT_ref r6 hkey
                    have s37 : SameD G H3 H7 := (s5.trans s6).trans s7
                    have hD7 : H7 Dd = some (nestO X.prog X.w Dd acc) := s37 Dd _ hD3 n1 n2 rfl
                    have hs7 : Hold (tx X) G B σ H7 env w5 := h3.go s37 h7.draw
                    have ra7 := ra3.keep (s37.keep h3.draw)
                    have r7 := r6.keep (s7.keep h6.draw)
                    have km := Keep.mut (nestO X.prog X.w Dd (addX acc key b)) hD7 rfl
                    refine ⟨G, acc, ks, y, key, b, hD7, ra7, rfl, r7, hk8, rfl, by omega, hlt, addX acc key b, _, ys, w5, upd_same, Nat.le_trans (addX_len acc key b) (by omega), ?_, hs7.side _ hD7 noCode_nest rfl apD nb n1 n2 (h1.apartT (s3.trans s37) nD), er, ex, ?_⟩
                    · rw [ra7.any]
                      unfold addX
                      split
                      · exact ra7.keep (by unfold addX at km; rw [if_pos (by assumption)] at km; exact km)
                      · exact (NKs.snoc r7 hk8 ra7).keep (by unfold addX at km; rw [if_neg (by assumption)] at km; exact km)
                    · intro a o q m1 m2 m3
                      rw [upd_ne (ne_of_none q nD)]
                      exact s37 a o (s3 a o q m1 m2 m3) m1 m2 m3
                  · cases ex
                · cases e2
            · rename_i w4 ec4
              refine ⟨G, B, env3, wi, false, w4, h4, ec4, fun H5 s5 h5 => iteF ?_⟩
              exact ⟨hlt, acc, ks, rest, w4, s5 Dd _ hD3 n1 n2 rfl, by omega, ra3.keep (s5.keep h3.draw), h3.go s5 h5.draw, e2, ex, s3.trans s5⟩
            · cases e2
        · have hi' : i = ds.length := by omega
          refine .inl ⟨it2 (by omega), ?_⟩
          rw [hi', List.drop_length] at e2
          simp only [compD, Option.some.injEq, Prod.mk.injEq] at e2
          obtain ⟨rfl, rfl⟩ := e2
          cases ex
          exact k Dd H2 (h1.back s1 nD) (s1.trans s2) h2 (.din hD ra)
      · cases e
theorem do_dcN {kx vx tg iter : Expr} {ifs : List Expr} {scope : Scope} {own : List (Str × Nat)} {p : Pat} {fc fe : E} {fi : EA} (hu : X.A.units + 8 < cLine) (hc : X.calm = true) (hN : X.N.Nodup) (hi : DI X tg iter fi) (ok : BlkOk X.N X.env.scope scope own)
    (hp : (p.slots.all fun j => (own.map (·.2)).contains j) = true)
    (hg : ∀ (s : Shared) (H : Hp) (C : Addr) (cl : List (Str × Addr)) (fp : List Addr), DG (X.blk s H scope (compEnvC scope cl C X.env) fp) tg p) (ht : ∀ (s : Shared) (H : Hp) (C : Addr) (cl : List (Str × Addr)) (fp : List Addr), PTs (X.blk s H scope (compEnvC scope cl C X.env) fp) ifs (tDT (tx X) fc))
    (hk : ∀ (s : Shared) (H : Hp) (C : Addr) (cl : List (Str × Addr)) (fp : List Addr), DE (X.blk s H scope (compEnvC scope cl C X.env) fp) kx fe)
    (he : ∀ (s : Shared) (H : Hp) (C : Addr) (cl : List (Str × Addr)) (fp : List Addr), DE (X.blk s H scope (compEnvC scope cl C X.env) fp) vx (eC (.bl true))) (hs : ∀ x, foldedSetIterable iter X.env x = pure x := by intro _; rfl) :
    DO X (.DictComp kx vx [⟨tg, iter, ifs, 0⟩] scope pos) (eDcN (own.map (·.2)) p fc fe fi) :=
  pe_imp (pe_dcG (own := own) (g := tDG (tx X) p) (tk := tD (tx X) fe) (tv := tD (tx X) (eC (.bl true))) dnew_N (fun s H e fp => dset_N (X := X.blk s H scope e fp) hu) hc hN hi ok hg ht hk he hs) (tDcN_of hp)
/-- e in x, x such a dict of one's own -/
def eInN (i : Nat) (f : E) : E := fun env w => match f env w with
  | some (d, w1) => match nkT d, (env[i]? : Option Slot) with
    | some k, some (.ow (.din ks)) => some (.bl (ks.any fun x => decide (nkD 8 x = some k)), w1)
    | _, _ => none
  | none => none
def rInN (X : Cx) : V → V → Hp → VK → Prop := fun x y H Q => ∃ (G : Gd) (a b : Addr) (xs : List (NestedKey × Addr)) (ks : List D) (d : D) (k : NestedKey), x = .ref b ∧ y = .ref a ∧ H a = some (nestO X.prog X.w a xs) ∧ NKs (tx X) G H xs ks ∧ Rep (tx X) G H (.ref b) d ∧ nkD 8 d = some k ∧ Q (.bl (xs.any fun x => decide (x.1 = k))) H
theorem op_inN (hu : X.A.units + 64 < cLine) : OpR X (compareOp .In) (rInN X) := by
  intro pins s σ H x y u v Q I rx ry ⟨G, a, b, xs, ks, d, k, ex, ey, hD, nk, rb, ek, q⟩
  subst ex ey
  cases rx
  cases ry
  obtain ⟨lo, hz, dd⟩ := nest_dict (T := tx X) I hD nk
  refine in_keyed (knd := nestedKind X.prog X.w) (kvs := pairsH (withT xs)) (k := k) (by show X.A.units + 1 + 8 < cLine; omega) (nk_is I 8 _ _ _ _ rb rfl ek) lo ⟨_, dd, rfl⟩ ?_
  rw [valueAt_pairsH, Option.isSome_map, atKey_any]
  exact ⟨.bl _, H, I.tok _, rfl, q⟩
theorem tInN_of (i : Nat) {fa : E} : ∀ σ H Q, tD (tx X) (eInN i fa) σ H Q → tOp (rInN X) (tD (tx X) fa) (tVar i) σ H Q := fun σ H Q ⟨G, B, env, w, d, w', hd, e, k⟩ => by
  unfold eInN at e
  split at e
  · rename_i d1 w1 ea
    split at e
    · rename_i key ks hk hs
      cases e
      refine ⟨G, B, env, w, d1, _, hd, ea, fun v H1 s1 h1 r => ?_⟩
      obtain ⟨hk8, b', rfl⟩ := nkT_ref r hk
      obtain ⟨p, hp, nb, n1, n2, ow⟩ := h1.ow i _ hs
      cases ow with
      | din h nk => exact ⟨_, hp, G, p, b', _, ks, d1, key, rfl, rfl, h, nk, r, hk8, k _ H1 s1 h1 (by rw [nk.any]; exact .bl _)⟩
    · cases e
  · cases e
theorem de_inN (i : Nat) {a b : Expr} {fa : E} (hu : X.A.units + 64 < cLine) (ha : DE X a fa) (hb : PE X b (tVar i)) (hm : behindInMarks .In b = false := by rfl) : DE X (.Compare a [.In] [b] pos) (eInN i fa) := pe_imp (pe_cmpR (op_inN hu) ha hb hm) (tInN_of i)
theorem dt_inN (i : Nat) {a b : Expr} {fa : E} (hu : X.A.units + 64 < cLine) (ha : DE X a fa) (hb : PE X b (tVar i)) (hm : behindInMarks .In b = false := by rfl) : DT X (.Compare a [.In] [b] pos) (eInN i fa) := pt_imp (pt_cmpR (op_inN hu) ha hb hm) (tTest_of (tInN_of i))
end
end Dl
set_option Elab.async false
set_option linter.all false
set_option maxRecDepth 100000
set_option maxHeartbeats 4000000
/-! D21: enumerate over a tuple. -/
namespace Dl
open PySem PySem.Spec L2
theorem enum_new1 {v : Value} {o : Obj} {H : Heap → Prop} (B : Begins v o H) :
    Meets (Builtin.«enumerate.__new__» ⟨[.type "enumerate", v], []⟩) (fun _ R s => H s.heap ∧
      R (.ok (.ret (.ref (s.heap.push o).objs.size))) { s with heap := (s.heap.push o).push { cls := .type "enumerate", data := .fields #[.none, .bool false, .ref s.heap.objs.size, rawInt 0, .none, .none] } }) :=
  .of_wp fun prog w A R s h => by
    obtain ⟨hp, g, d, tk, os⟩ := s
    obtain ⟨h1, h⟩ := h
    have hsub := sub_enumerate
    have q1 : ∀ {A' : Around} {E : Value → Shared → Prop} {Q : Value → Shared → Prop}, Q (.ref hp.objs.size) ⟨hp.push o, g, d, tk, os⟩ → wpAny (model prog w) A' (pyIter v) Q E ⟨hp, g, d, tk, os⟩ := fun q => B.iter prog w _ _ ⟨hp, g, d, tk, os⟩ _ h1 q
    wp_walk using q1
    refine wpAny_stack_any fun st => wpAny_pure ?_
    split
    · rename_i c _ _ _ _ _
      cases (c == Value.type "enumerate") <;> (wp_walk using q1; exact ⟨_, rfl, h⟩)
    · wp_walk using q1
      exact ⟨_, rfl, h⟩
section
variable {prog : Program} {w : World} {A : Around} {E : Value → Shared → Prop} {s : Shared}
theorem enum_call1 {v : Value} {o : Obj} {H : Heap → Prop} {Q : Value → Shared → Prop} (B : Begins v o H) (h1 : H s.heap)
    (h : ∀ h', IsEnum h' (s.heap.objs.size + 1) s.heap.objs.size 0 .none → h'.get? s.heap.objs.size = some o → (∀ b o, s.heap.get? b = some o → h'.get? b = some o) → Q (.ref (s.heap.objs.size + 1)) { s with heap := h' }) :
    wpAny (model prog w) A (call (.type "enumerate") [v]) Q E s := by
  refine callType_new F.called_enumerate (by decide) (F.typeCall_enumerate_1 _) (F.newCall_enumerate_1 _) (fun obj => F.args_object_init_2 obj _) F.entry_enumerate_new (enum_new1 B) ⟨h1, ?_⟩
  have hz : (s.heap.push o).objs.size = s.heap.objs.size + 1 := Heap.size_push ..
  have he := Heap.get?_push_size (s.heap.push o) (o := { cls := .type "enumerate", data := .fields #[.none, .bool false, .ref s.heap.objs.size, rawInt 0, .none, .none] }) rfl
  show _ ∧ _
  rw [hz] at he ⊢
  exact ⟨⟨_, he, rfl⟩, h _ he (Heap.get?_push_of_some _ (Heap.get?_push_size _ B.free)) fun b o x => Heap.get?_push_of_some _ (Heap.get?_push_of_some _ x)⟩
theorem enumT_end {e it a : Addr} {i : Int} {j : Nat} {items : Array Value} {old : Value} {Q : Option Value → Shared → Prop} (hh : A.handled = none) (he : IsEnum s.heap e it i old) (hit : s.heap.IsTupleIter it a j) (hl : s.heap.IsTuple a items) (hx : items[j]? = none)
    (q : ∀ h', Heap.ExtBut it s.heap h' → Q none { s with heap := h' }) : wpAny (model prog w) A (pyNext (.ref e)) Q E s := by
  have ty : s.TypeIs (.ref e) "enumerate" := ⟨_, he, rfl⟩
  unfold pyNext
  refine wpAny_bind (wpAny_attempt (wpAny_callSpecial?_slot (name := Str.ofString "__next__") ty F.slot_enumerate_next (wpAny_call_entry F.slot_enumerate_next ty F.entry_enumerate_next ?_ (F.args_enumerate_next_1 _))))
  show wpAny _ _ (field (.ref e) 2 >>= fun z => Builtin.SmallTypes.nextOf z >>= _) _ _ _
  refine wpAny_bind (wpAny_field he rfl (x := .ref it) rfl (wpAny_bind (wpAny_nextOf_tuple_end hh hit hl hx fun h' x eb ⟨o, ho, hc⟩ => ?_)))
  exact wpAny_bind (wpAny_isInstance (T := "StopIteration") (b := true) ⟨o, ho, hc⟩ isSubtype_stop (wpAny_pure (q _ eb)))
end
/-- the tuple at a, the items in new pairs -/
def Itu (K : PySem.W.Frag) (a : Addr) : It :=
  ⟨fun i H => ∃ (xs : List V) (x : V), SqT K H a xs ∧ xs[i]? = some x, fun i H v H' => ∃ T x, v = .ref T ∧ H T = none ∧ H' = upd H T (.tup [.int (i : Nat), x]) ∧ ∀ xs, SqT K H a xs → xs[i]? = some x, fun i H => ∃ xs : List V, SqT K H a xs ∧ xs.length ≤ i⟩
/-- the enumerate object at e over the iterator at it of the tuple at a, ahead of turn i -/
structure EnAt (e it a : Addr) (i : Nat) (h : Heap) : Prop where
  en : ∃ old, IsEnum h e it (i : Int) old
  tu : h.IsTupleIter it a i
  ei : e ≠ it
  ea : e ≠ a
  ai : a ≠ it
theorem EnAt.eLt {e it a : Addr} {i : Nat} {h : Heap} (z : EnAt e it a i h) : e < h.objs.size := z.en.elim fun _ q => Heap.lt_size q
theorem EnAt.iLt {e it a : Addr} {i : Nat} {h : Heap} (z : EnAt e it a i h) : it < h.objs.size := z.tu.elim fun _ q => Heap.lt_size q.1
theorem EnAt.both {e it a b : Addr} {i : Nat} {h : Heap} (z : EnAt e it a i h) (hb : b ∈ [e, it]) : b < h.objs.size := by
  simp only [List.mem_cons, List.not_mem_nil, or_false] at hb
  exact hb.elim (· ▸ z.eLt) (· ▸ z.iLt)
theorem turn_enumT {P : Program} {w : World} {K : PySem.W.Frag} {elts : List Expr} {kk : Nat} {tpos : Pos} (a e it : Addr) : Turn P w K (.Tuple elts kk tpos) (Itu K a) [e, it] e (EnAt e it a) where
  mem := List.mem_cons_self
  obj := fun i h z b hb => by
    simp only [List.mem_cons, List.not_mem_nil, or_false] at hb
    rcases hb with rfl | rfl
    · exact z.en.elim fun _ q => ⟨_, q, fun v y => nomatch y⟩
    · obtain ⟨ob, q, _, dd⟩ := z.tu
      exact ⟨ob, q, fun v y => nomatch dd.symm.trans y⟩
  keep := fun i h h' z up => { z with
    en := z.en.imp fun _ q => up e List.mem_cons_self _ q
    tu := z.tu.at fun _ q => up it (List.mem_cons_of_mem _ List.mem_cons_self) _ q }
  item := by
    intro X hP hw hK hc i pins s σ H E I free z ⟨xs, x, seq, hx⟩
    subst hP hw hK
    obtain ⟨its, vals, tup, _⟩ := I.tuple seq
    obtain ⟨u, hu, rx⟩ := vals.get hx
    obtain ⟨old, en⟩ := z.en
    have inside : i < its.toArray.size := by simpa using (List.getElem?_eq_some_iff.mp hu).1
    refine wpAny_pyNext_enum_itemD (Draws.tuple (A := X.A.in1) (I.ok.hd hc) it a z.ai its.toArray) en ⟨z.tu, tup⟩ inside z.ei (by simp [z.ei, z.ea]) fun u' h1 tk got own next pair _ rest => ?_
    cases Option.some.inj (hu.symm.trans (show its[i]? = some u' by simpa using got))
    refine ⟨_, rfl, wpAny_letOwnedTupleGo_enum (s := { s with heap := h1, toks := tk + 1 }) own fun h2 en2 only => ?_⟩
    have pair2 := (only.2 _ (Nat.ne_of_gt z.eLt)).trans pair
    have J := I.turnedNew (ch := [e, it]) (h' := h2) (t' := tk + 1) (ob := .tup [.int (i : Nat), x]) (fun b ob hb q => (only.2 b fun y => hb (by simp [y])).trans (rest b ob (fun y => hb (by simp [y])) (fun y => hb (by simp [y])) q)) free (Nat.le_refl _)
      ⟨by show 2 ≤ sizeLine; decide, [.int i tk, u], .cons ⟨_, rfl⟩ (.cons rx .nil), ⟨_, pair2, rfl, _, rfl⟩⟩
    refine ⟨.ref s.heap.objs.size, _, J, rfl, ⟨_, x, rfl, I.hok.fresh (Nat.le_refl _), rfl, fun ys other => (I.tuple_inj other seq) ▸ hx⟩, ?_, fun b hb => ?_⟩
    · exact { z with en := ⟨u, by rw [show ((i + 1 : Nat) : Int) = i + 1 from by omega]; exact en2⟩, tu := next.1.at fun _ q => (only.2 it (Ne.symm z.ei)).trans q }
    · exact (upd_ne (Nat.ne_of_lt (z.both hb))).trans (free b hb).1
  done := by
    intro X hP hw hK hc i pins s σ H E I free z ⟨xs, seq, past⟩
    subst hP hw hK
    obtain ⟨its, vals, tup, _⟩ := I.tuple seq
    obtain ⟨old, en⟩ := z.en
    have fi := free it (List.mem_cons_of_mem _ List.mem_cons_self)
    have n := vals.length
    exact enumT_end (I.ok.hd hc) en z.tu tup (by simp; omega) fun h1 but => ⟨rfl, I.turned (t' := s.toks) but fi.1 fi.2.1 fi.2.2.2.1 fi.2.2.2.2.1 fi.2.2.2.2.2⟩
  self := fun A i s Q E z h => z.en.elim fun _ en => wpAny_pyIter_enum en h
def iEnumT (K : PySem.W.Frag) (ta : TA) : TI := fun σ H R => ta σ H fun vs H1 => ∃ a xs, vs = [.ref a] ∧ SqT K H1 a xs ∧ R (Itu K a) H1
theorem pi_enumT {X : Cx} {e : Expr} {ta : TA} {p pos tpos : Pos} {elts : List Expr} {kk : Nat} (hg : Gl X "enumerate") (hm : X.mg "enumerate" = none) (ha : PA X [e] ta) (hs : starEach [e] X.env = [(false, eval e X.env)] := by rfl) :
    PI X (.Tuple elts kk tpos) (.Call (.Name "enumerate" p) [e] [] pos) (iEnumT X.K ta) := by
  refine ⟨fun pins s σ H R I h => ?_⟩
  refine PyProof.Rows.Call_ (ld_blt I hg hm bt_enumerate (PyProof.Rows.callWith_type1 (thn (ha.run pos pins s σ H _ I h) fun us s1 ⟨vs, H1, I1, r1, a, xs, ev, hq, q⟩ => ?_) hs rfl))
  subst ev
  obtain ⟨u, eu, ru⟩ := vals1 r1
  subst eu
  cases ru
  obtain ⟨its, rv, pl, hz⟩ := I1.tuple hq
  refine enum_call1 (begins_tuple a its.toArray) pl fun h' he hit hk => wpAny_pyIter_enum he ?_
  have la : a < s1.heap.objs.size := let ⟨_, g, _⟩ := pl; Heap.lt_size g
  refine ⟨s1.heap.objs.size + 1, [s1.heap.objs.size + 1, s1.heap.objs.size], _, _, H1, rfl, I1.kept (t' := s1.toks) hk, turn_enumT a (s1.heap.objs.size + 1) s1.heap.objs.size, ⟨⟨.none, he⟩, ⟨_, hit, rfl, rfl⟩, Nat.succ_ne_self _, Nat.ne_of_gt (Nat.lt_succ_of_lt la), Nat.ne_of_lt la⟩, fun b hb => ?_, q⟩
  have hle : s1.heap.objs.size ≤ b := by
    rcases List.mem_cons.mp hb with z | z
    · rw [z]; exact Nat.le_add_right _ _
    · rw [List.mem_singleton.mp z]; exact Nat.le_refl _
  exact I1.fpOk hle (I1.hok.fresh hle)
theorem itOk_enumT {T : Tx} {G : Gd} {H : Hp} {a : Addr} {xs : List V} {ds : List D} (h : ∀ H2, Keep H H2 → SqT T.K H2 a xs) (z : xs.length ≤ sizeLine) (r : Reps T G H xs ds) : ItOk T G (Itu T.K a) H (enumD ds) := by
  have hl : (enumD ds).length = xs.length := by simp [enumD, r.length]
  refine ⟨by rw [hl]; exact z, fun i H2 k => ⟨fun d ed => ?_, fun hi => ⟨xs, h H2 k, by rw [hl] at hi; exact hi⟩⟩⟩
  unfold enumD at ed
  rw [List.getElem?_mapIdx] at ed
  cases hd : ds[i]? with
  | none => rw [hd] at ed; cases ed
  | some d' =>
    rw [hd] at ed
    cases ed
    obtain ⟨v, hv, rv⟩ := r.get hd
    refine ⟨⟨xs, v, h H2 k, hv⟩, fun x H3 ⟨T', y, ex, nT, e3, hy⟩ => ?_⟩
    subst ex e3
    have := hy xs (h H2 k)
    rw [hv] at this; cases this
    exact ⟨same_new _ nT, .tup upd_same (by show 2 ≤ sizeLine; decide) (.cons (.int _) (.cons ((rv.keep k).keep (Keep.new _ nT)) .nil))⟩
def enumA (d : D) : Option (List D) := match d with
  | .lst ds => some (enumD ds)
  | .tup ds => some (enumD ds)
  | .ktp ds => some (enumD ds)
  | _ => none
theorem di_enumA {X : Cx} {e : Expr} {f : E} {p pos tpos : Pos} {elts : List Expr} {kk : Nat} (hg : Gl X "enumerate") (hm : X.mg "enumerate" = none) (h : DE X e f) (hs : starEach [e] X.env = [(false, eval e X.env)] := by rfl) (hs1 : starEach (e :: []) X.env = (false, eval e X.env) :: starEach [] X.env := by rfl) :
    DI X (.Tuple elts kk tpos) (.Call (.Name "enumerate" p) [e] [] pos) (i1 enumA f) :=
  pi_imp (pi_or (pi_enum hg hm (da_cons (fs := []) h da_nil hs1) hs) (pi_enumT hg hm (da_cons (fs := []) h da_nil hs1) hs)) fun σ H R ⟨G, B, env, w, ds, w', hd, e, k⟩ => by
  obtain ⟨d, ea, eg⟩ := i1_some e
  have ev : aCons f aNil env w = some ([d], w') := by
    unfold aCons aNil
    rw [ea]
  cases d with
  | lst ds' =>
    cases eg
    refine .inl ⟨G, B, env, w, _, w', hd, ev, fun vs H1 s1 h1 r => ?_⟩
    cases r with
    | cons r rr =>
      cases rr
      cases r with
      | lst h z rr => exact ⟨_, _, rfl, h.sq, k _ H1 s1 h1 (itOk_enum (T := tx X) h z rr)⟩
  | tup ds' =>
    cases eg
    refine .inr ⟨G, B, env, w, _, w', hd, ev, fun vs H1 s1 h1 r => ?_⟩
    cases r with
    | cons r rr =>
      cases rr
      cases r with
      | tup h z rr => exact ⟨_, _, rfl, SqT.of h, k _ H1 s1 h1 (itOk_enumT (T := tx X) (fun H2 kk => SqT.of (kk _ _ h rfl)) z rr)⟩
  | ktp ds' =>
    cases eg
    refine .inr ⟨G, B, env, w, _, w', hd, ev, fun vs H1 s1 h1 r => ?_⟩
    cases r with
    | cons r rr =>
      cases rr
      cases r with
      | ktp h rr => exact ⟨_, _, rfl, h.sq, k _ H1 s1 h1 (itOk_enumT (T := tx X) (fun H2 kk => (h.keep kk).sq) h.len rr)⟩
  | _ => cases eg
end Dl
set_option Elab.async false
set_option linter.all false
set_option maxRecDepth 100000
set_option maxHeartbeats 4000000
/-! D22: methods, properties, making, as the printed derivations name them. -/
namespace Dl
open PySem PySem.Spec L2
/-- a class, and that attributes are looked up in the instance -/
structure KlA (K : PySem.W.Frag) (mg : Str → Option Value) (c : Str) (na : List Str) (C : Addr) : Prop where
  mg : mg c = some (.ref C)
  cl : Cls K C
  na : ∀ x ∈ na, NoAttr K C x
def CalM (P : Program) (w : World) (K : PySem.W.Frag) (mg : Str → Option Value) (base : Heap) (c m : Str) (k : Nat) (ps : List Str) (φ : Fn) : Prop :=
  ∃ C f fd, mg c = some (.ref C) ∧ Cls K C ∧ Meth K C m f ∧ FnOk P w K mg base CX0 k f fd ps (spD ⟨K, mg, P, w⟩ ps.length φ) ∧ Binds K fd ps []
def CalP (P : Program) (w : World) (K : PySem.W.Frag) (mg : Str → Option Value) (base : Heap) (c x : Str) (k : Nat) (ps : List Str) (φ : Fn) : Prop :=
  ∃ C pp f fd, mg c = some (.ref C) ∧ Cls K C ∧ PropOf K C x pp f ∧ ps.length = 1 ∧ FnOk P w K mg base CX0 k f fd ps (spD ⟨K, mg, P, w⟩ 1 φ) ∧ Binds K fd ps []
def CalI (P : Program) (w : World) (K : PySem.W.Frag) (mg : Str → Option Value) (base : Heap) (c : Str) (k n : Nat) (ps : List Str) (φ : Fn) : Prop :=
  ∃ C f fd, mg c = some (.ref C) ∧ Mk K C f ∧ FnOk P w K mg base CX0 k f fd ps (spI ⟨K, mg, P, w⟩ c n φ) ∧ Binds K fd ps []
section
variable {X : Cx} {pos p apos : Pos} {c m : Str} {k n : Nat} {ps : List Str} {φ : Fn} {o e : Expr} {es : List Expr} {fs : List E} {fo : E}
theorem de_att {na : List Str} (fl : Str) (A : ∃ C, KlA X.K X.mg c na C) (hn : fl ∈ na) (ho : DE X o fo) (hb : attributeBase o fl X.env (eval o X.env) = eval o X.env := by rfl) : DE X (.Attribute o fl pos) (eFld c fl fo) := by
  obtain ⟨C, A⟩ := A
  exact de_fld A.mg A.cl (A.na _ hn) ho hb
theorem ds_att {na : List Str} {pos' : Pos} {value : Expr} {f : E} (fl : Str) (A : ∃ C, KlA X.K X.mg c na C) (hn : fl ∈ na) (ho : PE X o (tVar 0)) (hv : DE X value f) (hs : swapsWith value (some (.Attribute o fl pos')) pos.line X.env = pure false := by rfl) : DS X (.Assign [.Attribute o fl pos'] value pos) (sFldD c fl f) := by
  obtain ⟨C, A⟩ := A
  exact ds_fld A.mg A.cl (A.na _ hn) ho hv hs
theorem de_calM {pl : Sem Bool} (M : CalM X.prog X.w X.K X.mg X.base c m k ps φ) (hr : Room k X.A) (ho : DE X o fo) (ha : DA X (e :: es) (aL fs)) (hn : fs.length + 1 = ps.length := by rfl)
    (hst : starEach (e :: es) X.env = (false, eval e X.env) :: starEach es X.env := by rfl) (hpl : (backTo pos (starEach es X.env)).any (·.1) = false := by rfl)
    (ht : eval (.Call (.Attribute o m apos) (e :: es) [] pos) X.env = (do
      let ov ← eval o X.env
      standAt apos.atName
      let (f, first) ← holding [ov] (getMethod ov m pl)
      callWith pos f first (backTo pos (starEach (e :: es) X.env)) (backToKw pos (keywordEach [] X.env))) := by rfl) :
    DE X (.Call (.Attribute o m apos) (e :: es) [] pos) (eMeth c m φ fo fs []) := by
  obtain ⟨C, f, fd, h1, h2, h3, F, hb⟩ := M
  exact de_meth (dds := []) h1 h2 h3 F hb .nil (fun _ _ => .nil) hr ho ha hn hst hpl ht
theorem de_calM0 {pl : Sem Bool} (M : CalM X.prog X.w X.K X.mg X.base c m k ps φ) (hr : Room k X.A) (ho : DE X o fo) (hn : 1 = ps.length := by rfl)
    (ht : eval (.Call (.Attribute o m apos) [] [] pos) X.env = (do
      let ov ← eval o X.env
      standAt apos.atName
      let (f, first) ← holding [ov] (getMethod ov m pl)
      callWith pos f first (backTo pos (starEach [] X.env)) (backToKw pos (keywordEach [] X.env))) := by rfl) :
    DE X (.Call (.Attribute o m apos) [] [] pos) (eMeth c m φ fo [] []) := by
  obtain ⟨C, f, fd, h1, h2, h3, F, hb⟩ := M
  exact de_meth0 (dds := []) h1 h2 h3 F hb .nil (fun _ _ => .nil) hr ho hn ht
theorem de_calP (M : CalP X.prog X.w X.K X.mg X.base c m k ps φ) (hr : Room (k + 1) X.A) (ho : DE X o fo) (hab : attributeBase o m X.env (eval o X.env) = eval o X.env := by rfl) : DE X (.Attribute o m pos) (eProp c φ fo) := by
  obtain ⟨C, pp, f, fd, h1, h2, h3, h4, F, hb⟩ := M
  exact de_prop h1 h2 h3 F hb hr ho hab
theorem de_calI (M : CalI X.prog X.w X.K X.mg X.base c k n ps φ) (hr : Room (k + 1) X.A) (hg : Gl X c) (ha : DA X (e :: es) (aL fs)) (hdone : ∀ xs w gs w', φ xs w = some (.obj c gs, w') → ∃ p ∈ gs, p.1 ∈ lastF) (hres : ∀ xs w d w', φ xs w = some (d, w') → ∃ gs, d = .obj c gs)
    (hn : fs.length = n := by rfl) (hdb : (c == ("__debug__" : Str)) = false := by decide) (he : starEach (e :: es) X.env = (false, eval e X.env) :: starEach es X.env := by rfl) (hpl : (backTo pos (starEach es X.env)).any (·.1) = false := by rfl) :
    DE X (.Call (.Name c p) (e :: es) [] pos) (eCall φ fs []) := by
  obtain ⟨C, f, fd, h1, h2, F, hb⟩ := M
  exact de_make h1 h2 F hb .nil (fun _ _ => .nil) hr hg ha hdone hres hn hdb he hpl
end
theorem bodyI_res {c : Str} {n : Nat} {fb : S} : ∀ xs w d w', bodyI c n fb xs w = some (d, w') → ∃ gs, d = .obj c gs := fun xs w d w' h => by
  unfold bodyI at h
  split at h
  · split at h
    · split at h
      · cases h; exact ⟨_, rfl⟩
      · cases h
    · cases h
  · cases h
theorem bodyI_done {c : Str} {n : Nat} {fb : S} : ∀ xs w gs w', bodyI c n fb xs w = some (.obj c gs, w') → ∃ p ∈ gs, p.1 ∈ lastF := fun xs w gs w' h => by
  unfold bodyI at h
  split at h
  · split at h
    · split at h
      · rename_i hc
        cases h
        obtain ⟨_, hd⟩ := hc
        unfold doneN at hd
        obtain ⟨x, hx, e⟩ := List.any_eq_true.mp hd
        obtain ⟨p, hp, rfl⟩ := List.mem_map.mp hx
        obtain ⟨y, hy, e⟩ := List.any_eq_true.mp e
        exact ⟨p, hp, by rw [of_decide_eq_true e]; exact hy⟩
      · cases h
    · cases h
  · cases h
end Dl
set_option Elab.async false
set_option linter.all false
set_option maxRecDepth 100000
set_option maxHeartbeats 4000000
/-! D23: a thing of one's own is looked at. -/
namespace Dl
open PySem PySem.Spec L2
theorem u8 {A : Around} {k : Nat} (hr : Room k A) : A.units + 8 < cLine := by have := hr.un; omega
def atom : D → Bool
  | .non => true
  | .bl _ => true
  | .int _ => true
  | .str _ => true
  | _ => false
/-- f looks at the thing of slot i, and gives a number, a text, a truth value -/
def eTmp (i : Nat) (f : E) : E := fun env w => match (env[i]? : Option Slot) with
  | some (.ow d) => if cont d = true then match f (env.set i (.sh d)) w with
    | some (r, w') => if atom r = true then some (r, w') else none
    | none => none else none
  | _ => f env w
theorem Rep.atom {T : Tx} {G : Gd} {H H' : Hp} {v : V} {d : D} (r : Rep T G H v d) (h : Dl.atom d = true) : Rep T G H' v d := by
  cases r with
  | non => exact .non
  | bl b => exact .bl b
  | int i => exact .int i
  | str hs => exact .str hs
  | _ => cases h
section
variable {X : Cx} {e : Expr} {f : E}
theorem de_tmp (i : Nat) (h : DE X e f) : DE X e (eTmp i f) := by
  refine ⟨fun pins s σ H Q I ⟨G, B, env, w, d, w', hd, e, k⟩ => ?_⟩
  unfold eTmp at e
  split at e
  · rename_i x hx
    split at e
    · rename_i hc
      split at e
      · rename_i r w1 ef
        split at e
        · rename_i ha
          cases e
          obtain ⟨a, h1, nb, n1, n2, ow⟩ := hd.ow i x hx
          obtain ⟨u, hu, mu⟩ := ow.there
          have fu := ow.nf hc hu
          obtain ⟨od, I1⟩ := I.lock hu mu
          have hf := hd.frzOw od hx hc h1 hu
          refine thn (h.run pins s σ _ (fun v H1 => H1 a = some (.frz od u) ∧ Q v (upd H1 a u)) I1 ⟨G, B, _, w, d, w', hf, ef, fun v H1 s1 g1 r1 => ?_⟩) fun v s1 ⟨x1, H1, I2, rr, e2, q⟩ => ?_
          · have ea : H1 a = some (.frz od u) := s1 a _ upd_same n1 n2 rfl
            have sm : SameD G H (upd H1 a u) := fun b o q m1 m2 m3 => by
              by_cases hb : b = a
              · subst hb; rw [upd_same, ← q]; exact hu.symm
              · rw [upd_ne hb]; exact s1 b o (by rw [upd_ne hb]; exact q) m1 m2 m3
            have dr : DrawAt G (upd H1 a u) w' := by
              have g := g1.draw
              obtain ⟨o', q⟩ := g.dc
              obtain ⟨o2, q2⟩ := hd.draw.dc
              have nc : G.dc ≠ a := fun z => by rw [z, hu] at q2; cases q2; cases fu
              exact ⟨by rw [upd_ne (Ne.symm n1)]; exact g.dd, by rw [upd_ne (Ne.symm n2)]; exact g.dl, ⟨o', by rw [upd_ne nc]; exact q⟩, tabs_upd _ g.tb ea noCode_frz⟩
            exact ⟨ea, k v _ sm (hd.go sm dr) (r1.atom ha)⟩
          · exact ⟨x1, _, I2.unlock e2 (I.nofrz hu mu), rr, q⟩
        · cases e
      · cases e
    · cases e
  · exact h.run pins s σ H Q I ⟨G, B, env, w, d, w', hd, e, k⟩
theorem dt_tmp (i : Nat) (h : DT X e f) : DT X e (eTmp i f) := by
  refine ⟨fun pins s σ H Q I ⟨G, B, env, w, b, w', hd, e, k⟩ => ?_⟩
  unfold eTmp at e
  split at e
  · rename_i x hx
    split at e
    · rename_i hc
      split at e
      · rename_i r w1 ef
        split at e
        · rename_i ha
          cases e
          obtain ⟨a, h1, nb, n1, n2, ow⟩ := hd.ow i x hx
          obtain ⟨u, hu, mu⟩ := ow.there
          have fu := ow.nf hc hu
          obtain ⟨od, I1⟩ := I.lock hu mu
          have hf := hd.frzOw od hx hc h1 hu
          refine thn (h.run pins s σ _ (fun v H1 => H1 a = some (.frz od u) ∧ Q v (upd H1 a u)) I1 ⟨G, B, _, w, b, w', hf, ef, fun H1 s1 g1 => ?_⟩) fun v s1 ⟨H1, I2, e2, q⟩ => ?_
          · have ea : H1 a = some (.frz od u) := s1 a _ upd_same n1 n2 rfl
            have sm : SameD G H (upd H1 a u) := fun b o q m1 m2 m3 => by
              by_cases hb : b = a
              · subst hb; rw [upd_same, ← q]; exact hu.symm
              · rw [upd_ne hb]; exact s1 b o (by rw [upd_ne hb]; exact q) m1 m2 m3
            have dr : DrawAt G (upd H1 a u) w' := by
              have g := g1.draw
              obtain ⟨o', q⟩ := g.dc
              obtain ⟨o2, q2⟩ := hd.draw.dc
              have nc : G.dc ≠ a := fun z => by rw [z, hu] at q2; cases q2; cases fu
              exact ⟨by rw [upd_ne (Ne.symm n1)]; exact g.dd, by rw [upd_ne (Ne.symm n2)]; exact g.dl, ⟨o', by rw [upd_ne nc]; exact q⟩, tabs_upd _ g.tb ea noCode_frz⟩
            exact ⟨ea, k _ sm (hd.go sm dr)⟩
          · exact ⟨_, I2.unlock e2 (I.nofrz hu mu), q⟩
        · cases e
      · cases e
    · cases e
  · exact h.run pins s σ H Q I ⟨G, B, env, w, b, w', hd, e, k⟩
end
end Dl
set_option Elab.async false
set_option linter.all false
set_option maxRecDepth 100000
set_option maxHeartbeats 4000000
/-! D24: the law's draw. -/
namespace Dl
open PySem PySem.Spec L2
inductive DrF where
  | rest
  | turn
  | mix
def DrF.nm : DrF → Str
  | .rest => "rest"
  | .turn => "turn"
  | .mix => "mix"
def Dr.at (w : Dr) : DrF → Int
  | .rest => w.rest
  | .turn => w.turn
  | .mix => w.mix
def Dr.put (w : Dr) (f : DrF) (n : Int) : Dr := match f with
  | .rest => { w with rest := n }
  | .turn => { w with turn := n }
  | .mix => { w with mix := n }
abbrev drK (G : Gd) (w : Dr) : List (Key × V) := [(.inr "large", .ref G.dl), (.inr "cells", .ref G.dc), (.inr "rest", .int w.rest), (.inr "turn", .int w.turn), (.inr "mix", .int w.mix)]
theorem drK_at (G : Gd) (w : Dr) (f : DrF) : valV (drK G w) (.inr f.nm) = some (.int (w.at f)) := by cases f <;> rfl
theorem drK_put (G : Gd) (w : Dr) (f : DrF) (n : Int) : putK (drK G w) (.inr f.nm) (.int n) = drK G (w.put f n) := by cases f <;> rfl
def isDrw (i : Nat) (env : Env) : Bool := match (env[i]? : Option Slot) with
  | some (.sh (.drt _)) => true
  | _ => false
section
variable {X : Cx} {T : Tx} {G : Gd} {B : Hp} {σ : St} {H : Hp} {env : Env} {w : Dr}
theorem Hold.drw {i : Nat} (h : Hold T G B σ H env w) (hi : isDrw i env = true) : σ[i]? = some (some (.ref G.dd)) := by
  unfold isDrw at hi
  split at hi
  · rename_i e
    obtain ⟨v, h1, r⟩ := h.sh i _ e
    cases r
    exact h1
  · cases hi
theorem sameD_dd (o : HO) : SameD G H (upd H G.dd o) := fun a u e n1 n2 _ => by rw [upd_ne n1]; exact e
theorem sameD_dl (o : HO) : SameD G H (upd H G.dl o) := fun a u e n1 n2 _ => by rw [upd_ne n2]; exact e
theorem DrawAt.ne (d : DrawAt G H w) : G.dd ≠ G.dl ∧ G.dd ≠ G.dc ∧ G.dl ≠ G.dc := by
  obtain ⟨o, hc⟩ := d.dc
  refine ⟨fun z => ?_, fun z => ?_, fun z => ?_⟩
  · have := d.dl; rw [← z, d.dd] at this; cases this
  · rw [← z, d.dd] at hc; cases hc
  · rw [← z, d.dl] at hc; cases hc
theorem DrawAt.put (d : DrawAt G H w) (f : DrF) (n : Int) : DrawAt G (upd H G.dd (.dK (drK G (w.put f n)))) (w.put f n) := by
  obtain ⟨n1, n2, _⟩ := d.ne
  refine ⟨upd_same, ?_, ?_, tabs_upd _ d.tb d.dd noCode_dK⟩
  · rw [upd_ne (Ne.symm n1)]
    have : (w.put f n).large = w.large := by cases f <;> rfl
    rw [this]; exact d.dl
  · obtain ⟨o, hc⟩ := d.dc
    have : (w.put f n).cells = w.cells := by cases f <;> rfl
    rw [this]
    exact ⟨o, by rw [upd_ne (Ne.symm n2)]; exact hc⟩
theorem DrawAt.pop (d : DrawAt G H w) (ls : List Int) : DrawAt G (upd H G.dl (.lst (ls.map V.int))) { w with large := ls } := by
  obtain ⟨n1, n2, n3⟩ := d.ne
  obtain ⟨o, hc⟩ := d.dc
  exact ⟨by rw [upd_ne n1]; exact d.dd, upd_same, ⟨o, by rw [upd_ne (Ne.symm n3)]; exact hc⟩, tabs_upd _ d.tb d.dl noCode_lst⟩
/-- draw['rest'] -/
def eDr (i : Nat) (f : DrF) : E := fun env w => if isDrw i env = true then some (.int (w.at f), w) else none
variable {o k value : Expr} {pos : Pos} {fv : E}
theorem de_dr (i : Nat) (f : DrF) (hu : X.A.units + 1 < cLine) (ho : PE X o (tVar i)) (hk : PE X k (tC (.str f.nm))) (hs : NoSl k) : DE X (.Subscript o k pos) (eDr i f) := pe_imp (pe_dget hu ho hk hs) fun σ H Q ⟨G, B, env, w, d, w', hd, e, q⟩ => by
  unfold eDr at e
  split at e
  · rename_i hi
    cases e
    refine ⟨_, hd.drw hi, _, .int (w.at f), rfl, ?_, q _ H (.refl _ _) hd (.int _)⟩
    rw [← drK_at G w f]
    exact DGet.k (k := .inr f.nm) hd.draw.dd
  · cases e
/-- draw['cells'] -/
def eDrC (i : Nat) : E := fun env w => if isDrw i env = true then some (.lst (w.cells.map .int), w) else none
theorem de_drC (i : Nat) (hu : X.A.units + 1 < cLine) (ho : PE X o (tVar i)) (hk : PE X k (tC (.str "cells"))) (hs : NoSl k) : DE X (.Subscript o k pos) (eDrC i) := by
  refine ⟨fun pins s σ H Q I ⟨G, B, env, w, d, w', hd, e, q⟩ => (pe_dget hu ho hk hs).run pins s σ H Q I ?_⟩
  unfold eDrC at e
  split at e
  · rename_i hi
    cases e
    obtain ⟨od, hc⟩ := hd.draw.dc
    have z : (w.cells.map V.int).length ≤ sizeLine := (I.hok _ _ hc).2.1
    exact ⟨_, hd.drw hi, _, .ref G.dc, rfl, DGet.k (k := .inr "cells") hd.draw.dd, q _ H (.refl _ _) hd (.lst ⟨od, hc⟩ z (Reps.ints w.cells))⟩
  · cases e
/-- draw[..] = e -/
def sDr (i : Nat) (f : DrF) (e : E) : S := fun env w => match e env w with
  | some (.int n, w1) => if isDrw i env = true then some (.nx env, w1.put f n) else none
  | _ => none
theorem ds_dr (i : Nat) (f : DrF) {pos' : Pos} (hu : X.A.units + 1 < cLine) (ho : PE X o (tVar i)) (hk : PE X k (tC (.str f.nm))) (hv : DE X value fv) (hs : swapsWith value (some (.Subscript o k pos')) pos.line X.env = pure false := by rfl) : DS X (.Assign [.Subscript o k pos'] value pos) (sDr i f fv) :=
  ps_imp (ps_dput hu ho hk hv hs) fun D σ H ⟨G, B, env, w, fl, w', hd, e, q⟩ => by
  unfold sDr at e
  split at e
  · rename_i n w1 ev
    split at e
    · rename_i hi
      cases e
      refine ⟨G, B, env, w, _, w1, hd, ev, fun v H1 s1 h1 r => ?_⟩
      cases r
      refine ⟨_, h1.drw hi, G.dd, _, rfl, DPut.k (k := .inr f.nm) h1.draw.dd (by show 5 < sizeLine; decide), ?_⟩
      have ep := drK_put G w1 f n
      show D.nx σ (upd H1 G.dd (.dK (putK (drK G w1) (.inr f.nm) (.int n))))
      rw [ep]
      exact q σ _ ((s1.keep hd.draw).trans (Keep.mut _ h1.draw.dd rfl)) (h1.go (sameD_dd _) (h1.draw.put f n))
    · cases e
  · cases e
/-- draw['large'] != [] -/
def eDrL (i : Nat) : E := fun env w => if isDrw i env = true then some (.bl (decide (w.large ≠ [])), w) else none
theorem dpAll_ints {K : PySem.W.Frag} {H : Hp} : ∀ ns : List Int, DpAll K H (ns.map V.int) (ns.map PyData.int)
  | [] => .nil
  | n :: ns => .cons (.int n) (dpAll_ints ns)
theorem ints_shaped (ns : List Int) : SeqAt.shaped (.list (ns.map PyData.int)) = true := by
  have a : PyData.canLayAll0 (ns.map PyData.int) = true := by
    induction ns with
    | nil => rfl
    | cons n ns ih => show (PyData.canLay0 (.int n) && PyData.canLayAll0 _) = true; rw [ih]; rfl
  have b : PyData.depthAll (ns.map PyData.int) = 0 := by
    clear a
    induction ns with
    | nil => rfl
    | cons n ns ih => show max (PyData.depth (.int n)) (PyData.depthAll _) = 0; rw [ih]; rfl
  unfold SeqAt.shaped
  rw [show PyData.canLay0 (.list (ns.map PyData.int)) = PyData.canLayAll0 (ns.map PyData.int) from rfl, a, Bool.true_and, show PyData.depth (.list (ns.map PyData.int)) = PyData.depthAll (ns.map PyData.int) + 1 from rfl, b]
  decide
theorem eqv_nil (ns : List Int) : (!PyData.eqv (.list (ns.map PyData.int)) (.list [])) = decide (ns ≠ []) := by
  cases ns with
  | nil => simp [PyData.eqv, PyData.eqvAll]
  | cons n ns => simp [PyData.eqv, PyData.eqvAll]
theorem dt_drL (i : Nat) {b : Expr} {lpos : Pos} (hu : X.A.units + 64 < cLine) (ho : PE X o (tVar i)) (hk : PE X k (tC (.str "large"))) (hs : NoSl k) (hb : DO X b (eLst [])) (hm : behindInMarks .NotEq b = false := by first | rfl | exact nomark _) : DT X (.Compare (.Subscript o k lpos) [.NotEq] [b] pos) (eDrL i) :=
  pt_imp (pt_cmpR (op_neD hu) (pe_dget (by omega) ho hk hs) hb hm) fun σ H Q ⟨G, B, env, w, d, w', hd, e, q⟩ => by
  unfold eDrL at e
  split at e
  · rename_i hi
    cases e
    refine ⟨_, hd.drw hi, G.dd, .ref G.dl, rfl, DGet.k (k := .inr "large") hd.draw.dd, G, B, env, w, .lst [], w, hd, rfl, fun p H1 np s1 h1 ow => ?_⟩
    cases ow with
    | lst h z r =>
      cases r
      exact ⟨_, .list [], .lst (SqL.of h1.draw.dl) (dpAll_ints _), .lst (SqL.of h) .nil, ints_shaped _, rfl, _, rfl, by rw [eqv_nil]; exact q H1 s1 h1⟩
  · cases e
/-- draw['rest'] = draw['large'].pop(0) -/
def sDrPop (i : Nat) : S := fun env w => match w.large with
  | n :: ls => if isDrw i env = true then some (.nx env, { w with large := ls, rest := n }) else none
  | [] => none
theorem ds_drPop (i : Nat) {z : Int} {o' k' ze : Expr} {pos' apos cpos lpos : Pos} (hz : z = 0) (hu : X.A.units + 1 < cLine) (ho : PE X o (tVar i)) (hk : PE X k (tC (.str "rest"))) (ho' : PE X o' (tVar i)) (hk' : PE X k' (tC (.str "large"))) (hs' : NoSl k') (hze : PE X ze (tC (.int z)))
    (hb : attributeBase (.Subscript o' k' lpos) "pop" X.env (eval (.Subscript o' k' lpos) X.env) = eval (.Subscript o' k' lpos) X.env := by rfl)
    (hf : ((backTo cpos (starEach (ze :: []) X.env)).all (fun x => !x.1) && (backToKw cpos (keywordEach [] X.env)).all (fun x => x.1.isSome)
      && decide ((ze :: []).length + ([] : List Keyword).length + (if ([] : List Keyword).isEmpty then 0 else 1) < 30)) = true := by rfl)
    (hl : (apos.endLine == cpos.line) = true := by rfl) (hs1 : starEach (ze :: []) X.env = (false, eval ze X.env) :: starEach [] X.env := by rfl) (hp : (backTo cpos (starEach [] X.env)).any (·.1) = false := by rfl)
    (hs : swapsWith (.Call (.Attribute (.Subscript o' k' lpos) "pop" apos) [ze] [] cpos) (some (.Subscript o k pos')) pos.line X.env = pure false := by rfl) :
    DS X (.Assign [.Subscript o k pos'] (.Call (.Attribute (.Subscript o' k' lpos) "pop" apos) [ze] [] cpos) pos) (sDrPop i) :=
  ps_imp (ps_dput hu ho hk (pe_bm PySem.F.plainAttrs_list PySem.F.slot_list_pop PySem.F.type_list_pop mt_popAt (pe_dget hu ho' hk' hs') (pa_cons hze pa_nil hs1) hb hf hl hs1 hp) hs) fun D σ H ⟨G, B, env, w, fl, w', hd, e, q⟩ => by
  unfold sDrPop at e
  split at e
  · rename_i n ls hw
    split at e
    · rename_i hi
      cases e
      subst hz
      have hdl := hd.draw.dl
      rw [hw] at hdl
      have h1 := hd.go (sameD_dl (.lst (ls.map V.int))) (hd.draw.pop ls)
      refine ⟨_, hd.drw hi, G.dd, .ref G.dl, rfl, DGet.k (k := .inr "large") hd.draw.dd, .inl ⟨rfl, _, SqL.of hdl⟩, ?_⟩
      refine ⟨G.dl, _, 0, 0, .int n, rfl, rfl, hdl, by decide, by decide, by unfold seqIndex?; simp, rfl, ?_⟩
      refine ⟨_, hd.drw hi, G.dd, _, rfl, DPut.k (k := .inr "rest") h1.draw.dd (by show 5 < sizeLine; decide), ?_⟩
      exact q σ _ ((Keep.mut _ hdl rfl).trans (Keep.mut _ h1.draw.dd rfl)) (h1.go (sameD_dd _) (h1.draw.put .rest n))
    · cases e
  · cases e
theorem pset_d (hu : X.A.units + 1 < cLine) : PSet X (fun o i v H Q => ∃ a H', o = .ref a ∧ DPut H a i v H' ∧ Q H') := by
  intro pins s σ H o i v ov iv u Q I ro ri rv ⟨a, H', eo, g, q⟩
  subst eo
  cases ro
  exact d_setItem hu I g ri rv fun s' I' => ⟨H', I', q⟩
/-- draw['rest'], x = divmod(draw['rest'], m) -/
def sDrDiv (i j : Nat) (fm : E) : S := fun env w => match fm env w with
  | some (.int m, w1) => if isDrw i env = true ∧ 0 < m ∧ m < 1073741824 then some (.nx (env.set j (.sh (.int (w.rest % m)))), w1.put .rest (w.rest / m)) else none
  | _ => none
theorem ds_drDiv (i j : Nat) {x : Str} {kk : Nat} {o' k' me : Expr} {p tpos spos npos lpos cpos : Pos} {fm : E} (hc : X.calm = true) (hu : X.A.units + 1 < cLine) (hg : Gl X "divmod") (hmg : X.mg "divmod" = none) (hN : X.N.Nodup) (hj : X.N[j]? = some x) (hx : Loc X.env.scope x)
    (ho : PE X o (tVar i)) (hk : PE X k (tC (.str "rest"))) (ho' : PE X o' (tVar i)) (hk' : PE X k' (tC (.str "rest"))) (hs' : NoSl k') (hm : DE X me fm) (hf : X.fn x = true ∨ X.env.scope.names.lookup x = some .local := by first | exact .inl rfl | exact .inr rfl | assumption)
    (he : starEach [.Subscript o' k' lpos, me] X.env = (false, eval (.Subscript o' k' lpos) X.env) :: starEach [me] X.env := by rfl) (he2 : starEach [me] X.env = (false, eval me X.env) :: starEach [] X.env := by rfl) (hpl : (backTo cpos (starEach [me] X.env)).any (·.1) = false := by rfl)
    (ha : ∀ v, assign (.Subscript o k spos) X.env v = (do
      let ov ← holding [v] (eval o X.env)
      let iv ← holding [v, ov] (eval k X.env)
      standAt spos
      holding [v, ov, iv] (setItem ov iv v)
      release [v, ov, iv] []) := by intro _; rfl)
    (hn : (assignEach [.Subscript o k spos, .Name x npos] X.env).length = 2 := by rfl) (hst : (assignEach [.Subscript o k spos, .Name x npos] X.env).findIdx? (·.1) = none := by rfl)
    (hc1 : (assignEach [.Subscript o k spos, .Name x npos] X.env).map (·.2) = assign (.Subscript o k spos) X.env :: (assignEach [.Name x npos] X.env).map (·.2) := by rfl) (hc2 : (assignEach [.Name x npos] X.env).map (·.2) = assign (.Name x npos) X.env :: (assignEach [] X.env).map (·.2) := by rfl)
    (hs : swapsWithSole [.Tuple [.Subscript o k spos, .Name x npos] kk tpos] (.Call (.Name "divmod" p) [.Subscript o' k' lpos, me] [] cpos) pos.line X.env = pure false := by rfl) (hw : swappedStores [.Tuple [.Subscript o k spos, .Name x npos] kk tpos] (.Call (.Name "divmod" p) [.Subscript o' k' lpos, me] [] cpos) X.env = pure none := by rfl)
    (h1 : (assignEach [.Tuple [.Subscript o k spos, .Name x npos] kk tpos] X.env).map (·.2) = [assign (.Tuple [.Subscript o k spos, .Name x npos] kk tpos) X.env] := by rfl) :
    DS X (.Assign [.Tuple [.Subscript o k spos, .Name x npos] kk tpos] (.Call (.Name "divmod" p) [.Subscript o' k' lpos, me] [] cpos) pos) (sDrDiv i j fm) := by
  refine ⟨fun pins s σ H D I h => (ps_asg (pe_callB call_divmod hg hmg bt_divmod (pa_cons (pe_dget hu ho' hk' hs') (pa_cons hm pa_nil he2) he) (by decide) (by decide) he hpl) (pg_tup (n := 2) hc (pgs_cons (pg_sub ho hk (pset_d hu) ha) (pgs_cons (pg_name hN hj hx hf) pgs_nil hc2) hc1) hn hst) hs hw h1).run pins s σ H D I ?_⟩
  have hl : j < σ.length := by rw [I.len]; exact (List.getElem?_eq_some_iff.mp hj).1
  obtain ⟨G, B, env, w, fl, w', hd, e, q⟩ := h
  unfold sDrDiv at e
  split at e
  · rename_i m w1 em
    split at e
    · rename_i hcd
      obtain ⟨hi, m1, m2⟩ := hcd
      cases e
      refine ⟨_, hd.drw hi, G.dd, .int w.rest, rfl, DGet.k (k := .inr "rest") hd.draw.dd, G, B, env, w, _, w1, hd, em, fun v H1 s1 g1 r => ?_⟩
      cases r
      refine ⟨w.rest, m, rfl, ⟨m1, m2⟩, fun pt np => ?_⟩
      have g2 := g1.new (.tup [.int (w.rest / m), .int (w.rest % m)]) np
      refine ⟨pt, _, rfl, SqT.of upd_same, rfl, _, _, rfl, _, hd.drw hi, G.dd, _, rfl, DPut.k (k := .inr "rest") g2.draw.dd (by show 5 < sizeLine; decide), _, _, rfl, rfl, ?_⟩
      exact q _ _ (((s1.keep hd.draw).trans (Keep.new _ np)).trans (Keep.mut _ g2.draw.dd rfl)) ((g2.go (sameD_dd _) (g2.draw.put .rest (w.rest / m))).setSh (.int _) hl)
    · cases e
  · cases e
end
end Dl
set_option Elab.async false
set_option linter.all false
set_option maxRecDepth 100000
set_option maxHeartbeats 4000000
/-! D25: _law_begin. -/
namespace Dl
open PySem PySem.Spec L2
def absI (i : Int) : Int := if i < 0 then -i else i
def bigOf (ns : List Int) : List Int := (ns.filter fun n => decide ((10 : Int) ^ 18 ≤ absI n)).map absI
abbrev tAbs (j : Nat) : TE := tCB (fun xs H Q => ∃ i, xs = [.int i] ∧ Q (.int (if i < 0 then -i else i)) H) (tCons (tVar j) tNil)
abbrev tBig (j : Nat) : TT := tTest (tOp (rI0 fun i j => .bl (decide (j ≤ i))) (tAbs j) (tOp (rI CPow fun i j => .int (i ^ j.toNat)) (tC (.int 10)) (tC (.int 18))))
theorem tLc_big {K : PySem.W.Frag} {σ : St} {H : Hp} {Q : VK} {a : Addr} {ns : List Int} (h0 : σ[0]? = some (some (.ref a))) (hl : σ.length = 3) (hs : SqL K H a (ns.map V.int)) (hz : ns.length ≤ sizeLine) (hfz : ∀ H', Same H H' → SqL K H' a (ns.map V.int))
    (q : ∀ D, H D = none → Q (.ref D) (upd H D (.lst ((bigOf ns).map V.int)))) : tLc (iList K (tVar 0)) (gName 2) (tBig 2) (tAbs 2) [2] σ H Q := by
  refine ⟨_, h0, a, rfl, ⟨_, hs⟩, fun D nD => ⟨fun i m H' => m = ns.length - i ∧ i ≤ ns.length ∧ H' = upd H D (.lst ((bigOf (ns.take i)).map V.int)), ⟨ns.length, by simp, Nat.zero_le _, rfl⟩, ?_⟩⟩
  rintro i m H' ⟨rfl, hi, rfl⟩
  have sq : SqL K (upd H D (.lst ((bigOf (ns.take i)).map V.int))) a (ns.map V.int) := hfz _ (same_new _ nD)
  by_cases hlt : i < ns.length
  · refine .inr ⟨⟨_, .int ns[i], sq, by simp [hlt]⟩, fun H'' => i + 1 ≤ ns.length ∧ H'' = upd H D (.lst ((bigOf (ns.take (i + 1))).map V.int)), fun H'' ⟨h1, h2⟩ => ⟨ns.length - (i + 1), by omega, rfl, h1, h2⟩, fun x H'' ⟨e3, hx⟩ => ?_⟩
    subst e3
    have ex := hx _ sq
    rw [List.getElem?_map, List.getElem?_eq_getElem hlt] at ex
    cases ex
    have h2 : ((wipe σ [2]).set 2 (some (V.int ns[i])))[2]? = some (some (.int ns[i])) := by rw [List.getElem?_set_self (by rw [wipe_length]; omega)]
    have tk : ns.take (i + 1) = ns.take i ++ [ns[i]] := by rw [List.take_succ, List.getElem?_eq_getElem hlt]; rfl
    have bk : bigOf (ns.take (i + 1)) = bigOf (ns.take i) ++ if decide ((10 : Int) ^ 18 ≤ absI ns[i]) = true then [absI ns[i]] else [] := by
      unfold bigOf
      rw [tk, List.filter_append, List.map_append]
      congr 1
      rw [List.filter_cons, List.filter_nil]
      split <;> rfl
    refine ⟨by simp [L2.wipe], _, h2, _, rfl, 10, 18, rfl, rfl, ⟨by decide, by decide, by decide⟩, _, _, rfl, rfl, _, rfl, ?_⟩
    have big : (decide ((10 : Int) ^ (18 : Int).toNat ≤ if ns[i] < 0 then -ns[i] else ns[i])) = decide ((10 : Int) ^ 18 ≤ absI ns[i]) := rfl
    rw [big]
    by_cases hb : decide ((10 : Int) ^ 18 ≤ absI ns[i]) = true
    · rw [hb]
      refine iteT ⟨_, h2, _, rfl, _, upd_same, ?_, hlt, ?_⟩
      · have : (bigOf (ns.take i)).length ≤ i := by
          unfold bigOf
          rw [List.length_map]
          exact Nat.le_trans (List.length_filter_le _ _) (List.length_take_le _ _)
        rw [List.length_map]; omega
      · rw [bk, if_pos hb, List.map_append]
        funext b
        by_cases hb' : b = D
        · subst hb'; rw [upd_same, upd_same]; rfl
        · rw [upd_ne hb', upd_ne hb', upd_ne hb']
    · have hb' : decide ((10 : Int) ^ 18 ≤ absI ns[i]) = false := by simpa using hb
      rw [hb']
      exact iteF ⟨hlt, by rw [bk, if_neg hb, List.append_nil]⟩
  · have e : i = ns.length := by omega
    refine .inl ⟨⟨_, sq, by simp; omega⟩, ?_⟩
    rw [e, List.take_length]
    exact q D nD
abbrev tLstOf (K : PySem.W.Frag) (j : Nat) : TE := tCB (fun xs H Q => ∃ p ys, xs = [.ref p] ∧ (SqL K H p ys ∨ SqT K H p ys) ∧ ∀ l, H l = none → Q (.ref l) (upd H l (.lst ys))) (tCons (tVar j) tNil)
abbrev trsB (K : PySem.W.Frag) : List (TE × TE) := [(tC (.str "large"), tVar 1), (tC (.str "cells"), tLstOf K 0), (tC (.str "rest"), tC (.int 0)), (tC (.str "turn"), tC (.int 0)), (tC (.str "mix"), tC (.int 7))]
theorem tDisp_begin {K : PySem.W.Frag} {σ : St} {H : Hp} {Q : VK} {a L : Addr} {ns ls : List Int} (h0 : σ[0]? = some (some (.ref a))) (h1 : σ[1]? = some (some (.ref L))) (hL : H L = some (.lst (ls.map V.int))) (hfz : ∀ H', Same H H' → SqL K H' a (ns.map V.int))
    (q : ∀ p c H', H p = none → H c = none → Same H H' → H' c = some (.lst (ns.map V.int)) → H' p = some (.dK [(.inr "large", .ref L), (.inr "cells", .ref c), (.inr "rest", .int 0), (.inr "turn", .int 0), (.inr "mix", .int 7)]) → Q (.ref p) H') : tDisp (trsB K) σ H Q := by
  intro p np
  refine ⟨_, h1, _, h0, a, _, rfl, .inl (hfz _ (same_new _ np)), fun c nc => ?_⟩
  have ncp : c ≠ p := fun z => by subst z; rw [upd_same] at nc; cases nc
  have nc' : H c = none := by rw [upd_ne ncp] at nc; exact nc
  refine ⟨by rw [upd_ne (Ne.symm ncp)]; exact upd_same, [(.inr "large", .ref L), (.inr "cells", .ref c), (.inr "rest", .int 0), (.inr "turn", .int 0), (.inr "mix", .int 7)], rfl, by show 5 ≤ 15; decide, q p c _ np nc' (fun b o e => ?_) ?_ upd_same⟩
  · have b1 : b ≠ p := ne_of_none e np
    rw [upd_ne b1, upd_ne (ne_of_none e nc'), upd_ne b1]; exact e
  · rw [upd_ne ncp]; exact upd_same
/-- what _law_begin promises -/
def spB (K : PySem.W.Frag) : Sp := fun vs H Q _ => ∃ (a : Addr) (ns : List Int) (tb : List (Addr × Str)), vs = [.ref a] ∧ (∀ H', Same H H' → SqL K H' a (ns.map V.int)) ∧ ns.length ≤ sizeLine ∧ LamX.Tabs tb H ∧
  ∀ (G : Gd) (H' : Hp), G.tb = tb → Same H H' → DrawAt G H' ⟨bigOf ns, ns, 0, 0, 7⟩ → Q (.ref G.dd) H'
/-- the value, and the list at its second place is not to be changed from now on -/
theorem pe_lockC {X : Cx} {e : Expr} {t : TE} (h : PE X e t) : PE X e (fun σ H Q => t σ H fun v H1 => ∃ c u, H1 c = some u ∧ Mut (some u) ∧ ∀ od, Q v (upd H1 c (.frz od u))) := by
  refine ⟨fun pins s σ H Q I hw => thn (h.run pins s σ H _ I hw) fun v s1 ⟨x, H1, I1, r, c, u, hc, mu, q⟩ => ?_⟩
  obtain ⟨od, I2⟩ := I1.lock hc mu
  exact ⟨x, _, I2, r, q od⟩
section
variable {P : Program} {w : World} {K : PySem.W.Frag} {mg : Str → Option Value} {base : Heap} {x qual p0 n1 n2 : Str} {params : Arguments} {st0 : Stmt} {de : Expr} {rpos : Pos} {scope : Scope} {dvs : List V} {kws : List (Str × V)} {f : Addr} {fd : FuncData} {k : Nat}
theorem fn_B (F : FunD K x qual params [st0, .Return (some de) rpos] scope dvs kws f fd) (S : FnScope [p0, n1, n2] [p0] scope)
    (h0 : ∀ (cdv : Value) (A : Around) (outer : List PySem.Env) (s : Shared) (H : Hp) (E : XK), Room k (A.deeper (PyProof.Rows.envOfC qual scope s.heap.objs.size f cdv)) → PS (cxOf CX0 P w K mg base [p0, n1, n2] qual scope f cdv A outer s H E).nox st0 (tAsg (tLc (iList K (tVar 0)) (gName 2) (tBig 2) (tAbs 2) [2]) (gName 1)) ∧
      PE (cxOf CX0 P w K mg base [p0, n1, n2] qual scope f cdv A outer s H E).nox de (tDisp (trsB K))) :
    FnOk P w K mg base CX0 (k + 1) f fd [p0] (spB K) := by
  refine F.ok S (fun vs H Q E h => ?_) (fun cdv A outer s H vs Q E hr h => ⟨_, PSs.nox (pss_cons (h0 cdv A outer s H E hr).1 (pss_one (ps_ret (pe_lockC (h0 cdv A outer s H E hr).2)))), ?_⟩)
  · obtain ⟨a, ns, tb, rfl, _⟩ := h
    rfl
  · obtain ⟨a, ns, tb, rfl, hfz, hz, htb, q⟩ := h
    show tLc (iList K (tVar 0)) (gName 2) (tBig 2) (tAbs 2) [2] (L2.start [p0, n1, n2] [.ref a]) H (fun v H1 => tDisp (trsB K) ((L2.start [p0, n1, n2] [.ref a]).set 1 (some v)) H1 fun v H1 => ∃ c u, H1 c = some u ∧ Mut (some u) ∧ ∀ od, Q v (upd H1 c (.frz od u)))
    refine tLc_big (σ := L2.start [p0, n1, n2] [.ref a]) (a := a) (ns := ns) rfl rfl (hfz H (fun _ _ e => e)) hz hfz fun L nL => ?_
    have hfz2 : ∀ H', Same (upd H L (.lst ((bigOf ns).map V.int))) H' → SqL K H' a (ns.map V.int) := fun H' sm => hfz H' ((same_new _ nL).trans sm)
    refine tDisp_begin (σ := (L2.start [p0, n1, n2] [.ref a]).set 1 (some (.ref L))) (a := a) (L := L) (ns := ns) (ls := bigOf ns) rfl rfl upd_same hfz2 fun p c H' np nc sm hc hp => ⟨c, _, hc, trivial, fun od => ?_⟩
    have ncp : p ≠ c := fun z => by subst z; rw [hc] at hp; cases hp
    have ncL : L ≠ c := fun z => by subst z; rw [upd_same] at nc; cases nc
    have sall : ∀ u, Same H (upd H' c u) := fun u b o e => by
      have bL : b ≠ L := ne_of_none e nL
      have e2 : upd H L (.lst ((bigOf ns).map V.int)) b = some o := by rw [upd_ne bL]; exact e
      rw [upd_ne (ne_of_none e2 nc)]
      exact sm b o e2
    exact q ⟨p, L, c, 0, tb⟩ _ rfl (sall _) ⟨by rw [upd_ne ncp]; exact hp, by rw [upd_ne ncL]; exact sm _ _ upd_same, ⟨od, upd_same⟩, htb.ext (sall _)⟩
end
end Dl
set_option Elab.async false
set_option linter.all false
set_option maxRecDepth 100000
set_option maxHeartbeats 4000000
/-! D26: the law's def, called by the claim's caller (whose repr guards are known). -/
namespace Dl
open PySem PySem.Spec L2
/-- a def's promise where the caller is the claim's own -/
def FnA (A : Around) (P : Program) (w : World) (K : PySem.W.Frag) (mg : Str → Option Value) (base : Heap) (f : Addr) (fd : FuncData) (ps : List Str) (sp : List V → Hp → VK → Prop) : Prop :=
  ∀ (outer : List PySem.Env) (s : Shared) (H : Hp) (args : Args) (us : List Value) (vs : List V) (Q : VK), Env0 P w K mg base A outer s H → BindsTo s fd args (ps.zip us) → Vals vs us → sp vs H Q →
    codeAny (model P w) A (.call (.ref f) args) (CR CX0 outer P w H s Q fun _ _ _ => False) s
def FnC (P : Program) (w : World) (K : PySem.W.Frag) (mg : Str → Option Value) (base : Heap) (f : Addr) (fd : FuncData) (ps : List Str) (sp : List V → Hp → VK → Prop) : Prop := FnA callerA P w K mg base f fd ps sp
/-- the code of the def at f -/
def CodeAt (K : PySem.W.Frag) (f : Addr) (cdv : Value) : Prop := ∃ o fd, K.lookup f = some o ∧ o.data = .func fd ∧ fd.code = cdv
section
variable {P : Program} {w : World} {K : PySem.W.Frag} {mg : Str → Option Value} {base : Heap} {x qual : Str} {params : Arguments} {body : List Stmt} {scope : Scope} {dvs : List V} {kws : List (Str × V)} {f : Addr} {fd : FuncData} {N ps : List Str} {k : Nat} {sp : List V → Hp → VK → Prop}
theorem fn_AT {A : Around} (F : FunD K x qual params body scope dvs kws f fd) (S : FnScope N ps scope) (hr : Room (k + 1) A) (len : ∀ vs H Q, sp vs H Q → vs.length = ps.length)
    (hbody : ∀ (cdv : Value), CodeAt K f cdv → ∀ (outer : List PySem.Env) (s : Shared) (H : Hp) (vs : List V) (Q : VK), Room k (A.deeper (PyProof.Rows.envOfC qual scope s.heap.objs.size f cdv)) → sp vs H Q →
      ∃ t, PSs (cxOf CX0 P w K mg base N qual scope f cdv A outer s H fun _ _ _ => False) body t ∧ t { nx := fun _ H' => Q .non H', rt := Q } (L2.start N vs) H)   : FnA A P w K mg base f fd ps sp := by
  obtain ⟨oc, od, dV, kV, doc, pm, an, cdv, ct, osl, rfl, lk, hcd, _, _⟩ := F.ex
  intro outer s H args us vs Q e0 hb r hsp
  have hl := len _ _ _ hsp
  have up : ∀ b o, base.get? b = some o → s.heap.get? b = some o := fun b o e => (e0.bs b o e).1
  have KX : K.In s.heap := e0.mod.kin.keeps up
  refine codeAny_call_function hr.depth (KX _ _ lk) rfl S.co S.gen rfl (PySem.W.codeRec_of KX hcd) (hb _ _ _ _ ?_)
  refine wpAny_newFunctionEnv_cells S.kind (fun ⟨n, v⟩ hy => ?_) fun env he s1 xx => ?_
  · rcases S.par n (List.of_mem_zip hy).1 with q | q
    · exact .inl q
    · exact .inr ⟨q, PySem.W.cellsFrom_some _ _ _ (.inl q)⟩
  · subst he
    refine ⟨(e0.mod.nolimit.keeps up).keeps xx.toInCall.keep, codeAny_func ?_⟩
    obtain ⟨t, ht, hq⟩ := hbody cdv ⟨_, _, lk, rfl, rfl⟩ outer s H vs Q (hr.deeper _) hsp
    have I : Inv (cxOf CX0 P w K mg base N qual scope f cdv A outer s H fun _ _ _ => False) [] (L2.start N vs) H s1 := inv_start S hr.hd e0 hl r xx
    refine wpAny_mono (ht.run [] s1 (L2.start N vs) H _ I hq) (fun fl s' hs => ?_) fun e s' hs => hs
    match fl, hs with
    | .ret u, ⟨v, σ', H', J, rv, q⟩ => exact ⟨v, H', J.os, J.bare, J.base, J.hok, rv, q⟩
    | .next, ⟨σ', H', J, q⟩ => exact ⟨.non, H', J.os, J.bare, J.base, J.hok, rfl, q⟩
    | .brk, ⟨_, _, _, q⟩ => exact False.elim q
    | .cont, ⟨_, _, _, q⟩ => exact False.elim q
theorem fn_CT (F : FunD K x qual params body scope dvs kws f fd) (S : FnScope N ps scope) (hr : Room (k + 1) callerA) (len : ∀ vs H Q, sp vs H Q → vs.length = ps.length)
    (hbody : ∀ (cdv : Value), CodeAt K f cdv → ∀ (outer : List PySem.Env) (s : Shared) (H : Hp) (vs : List V) (Q : VK), Room k (callerA.deeper (PyProof.Rows.envOfC qual scope s.heap.objs.size f cdv)) → sp vs H Q →
      ∃ t, PSs (cxOf CX0 P w K mg base N qual scope f cdv callerA outer s H fun _ _ _ => False) body t ∧ t { nx := fun _ H' => Q .non H', rt := Q } (L2.start N vs) H) : FnC P w K mg base f fd ps sp := fn_AT F S hr len hbody
theorem fn_C (F : FunD K x qual params body scope dvs kws f fd) (S : FnScope N ps scope) (hr : Room (k + 1) callerA) (len : ∀ vs H Q, sp vs H Q → vs.length = ps.length)
    (hbody : ∀ (cdv : Value) (outer : List PySem.Env) (s : Shared) (H : Hp) (vs : List V) (Q : VK), Room k (callerA.deeper (PyProof.Rows.envOfC qual scope s.heap.objs.size f cdv)) → sp vs H Q →
      ∃ t, PSs (cxOf CX0 P w K mg base N qual scope f cdv callerA outer s H fun _ _ _ => False) body t ∧ t { nx := fun _ H' => Q .non H', rt := Q } (L2.start N vs) H) : FnC P w K mg base f fd ps sp :=
  fn_CT F S hr len fun cdv _ => hbody cdv
end
end Dl
set_option Elab.async false
set_option linter.all false
set_option maxRecDepth 100000
set_option maxHeartbeats 4000000
/-! D27: what the head's run tells: defs by paths, constants, properties; the law's end. -/
namespace Dl
open PySem PySem.Spec L2
/-- a def: where it stands, and what it is -/
structure DefY where
  ad : PySem.W.Frag → Addr
  name : Str
  qual : Str
  params : Arguments
  body : List Stmt
  scope : Scope
  dfl : List He.Dv := []
def fnY (K : PySem.W.Frag) (a : Addr) : He.FnW := match K.lookup a with
  | some ⟨_, _, .func d, _⟩ => some (d.name, d.qualname, d.params, d.body, d.scope, d.globals, d.closure, d.builtins)
  | _ => none
def DefY.val (d : DefY) : He.FnW := some (d.name, d.qual, d.params, .stmts d.body, d.scope, mainGlobals, [], builtinsNs)
def DefY.dvs (K : PySem.W.Frag) (d : DefY) : List V := d.dfl.map (He.Dv.v K)
def DefY.ok (K : PySem.W.Frag) (d : DefY) : Bool := match K.lookup (d.ad K) with
  | some ⟨_, _, .func z, _⟩ => (PySem.W.keepIn K (.ref (d.ad K)) && PySem.W.codeIn K z.code d.qual) && He.dflB K z.defaults (d.dvs K)
  | _ => false
theorem DefY.fun_ {K : PySem.W.Frag} {d : DefY} (hv : fnY K (d.ad K) = d.val) (ho : d.ok K = true) : ∃ fd, FunD K d.name d.qual d.params d.body d.scope (d.dvs K) [] (d.ad K) fd := by
  unfold DefY.ok at ho
  unfold fnY at hv
  cases q : K.lookup (d.ad K) with
  | none => rw [q] at ho; cases ho
  | some o =>
    obtain ⟨oc, od, dt, sl⟩ := o
    rw [q] at ho hv
    cases dt with
    | func z =>
      obtain ⟨a1, a2, a3, a4, a5, a6, a7, a8, a9, a10, a11, a12, a13, a14, a15⟩ := z
      have ho' : ((PySem.W.keepIn K (.ref (d.ad K)) && PySem.W.codeIn K a13 d.qual) && He.dflB K a8 (d.dvs K)) = true := ho
      have hv' : (some (a1, a2, a3, a4, a5, a6, a7, a15) : He.FnW) = some (d.name, d.qual, d.params, .stmts d.body, d.scope, mainGlobals, [], builtinsNs) := hv
      cases hv'
      rw [Bool.and_eq_true, Bool.and_eq_true] at ho'
      exact ⟨_, ⟨oc, od, a8, a9, a10, a11, a12, a13, a14, sl, rfl, q, ho'.1.2, He.dflB_ok ho'.2, .inl rfl⟩, ho'.1.1⟩
    | _ => cases ho
/-- a property's getter -/
def propG (K : PySem.W.Frag) (c f : Str) : Addr := match PySem.W.recIn K (He.ma K (He.ga K c) f) "property" with
  | some (.ref g :: _) => g
  | _ => 0
def isRef (g : Addr) : Option (List Value) → Bool
  | some (.ref a :: _) => a == g
  | _ => false
def propB (K : PySem.W.Frag) (c f : Str) : Bool :=
  He.eqO (PySem.W.findIn K (.ref (He.ga K c)) f) (some (some (.ref (He.ma K (He.ga K c) f)))) &&
  He.eqO (PySem.W.specialIn K (.ref (He.ma K (He.ga K c) f)) "__get__") (some (some (.builtin "property.__get__"))) &&
  decide (PySem.W.takesIn K (.ref (He.ma K (He.ga K c) f)) = some true) && isRef (propG K c f) (PySem.W.recIn K (He.ma K (He.ga K c) f) "property")
theorem propB_ok {K : PySem.W.Frag} {c f : Str} (h : propB K c f = true) : PropOf K (He.ga K c) f (He.ma K (He.ga K c) f) (propG K c f) := by
  unfold propB at h
  rw [Bool.and_eq_true, Bool.and_eq_true, Bool.and_eq_true] at h
  refine ⟨He.eqO_ok h.1.1.1, He.eqO_ok h.1.1.2, of_decide_eq_true h.1.2, ?_⟩
  have h4 := h.2
  unfold isRef at h4
  split at h4
  · rename_i a r e
    exact ⟨r, by rw [e]; rw [eq_of_beq h4]⟩
  · cases h4
/-- a constant: texts, numbers, tuples of them -/
def conB (K : PySem.W.Frag) : Nat → Value → D → Bool
  | _, .none, .non => true
  | _, .bool b, .bl c => b == c
  | _, .int i _, .int j => decide (i = j)
  | _, .str x _, .str y => decide (x = y) && sB y
  | n + 1, .ref a, .ktp ds => match K.lookup a with
    | some ⟨.type t, none, .seq its _, _⟩ => decide (t = "tuple") && decide (its.size ≤ sizeLine) && decide (its.toList.length = ds.length) && (its.toList.zip ds).all fun p => conB K n p.1 p.2
    | _ => false
  | _, _, _ => false
theorem conB_rep {K : PySem.W.Frag} : ∀ (n : Nat) (u : Value) (d : D), conB K n u d = true → ∃ v, RelV v u ∧ ∀ (mg : Str → Option Value) (P : Program) (w : World) (G : Gd) (H : Hp), Rep ⟨K, mg, P, w⟩ G H v d := by
  intro n
  induction n with
  | zero =>
    intro u d h
    cases u <;> cases d <;> first
      | (cases h; done)
      | exact ⟨.non, rfl, fun _ _ _ _ _ => .non⟩
      | (rename_i b c; have e : b = c := eq_of_beq h; subst e; exact ⟨.bl b, rfl, fun _ _ _ _ _ => .bl _⟩)
      | (rename_i i t j; have e : i = j := of_decide_eq_true h; subst e; exact ⟨.int i, ⟨t, rfl⟩, fun _ _ _ _ _ => .int _⟩)
      | (rename_i x t y; have h' : (decide (x = y) && sB y) = true := h; rw [Bool.and_eq_true] at h'; have e : x = y := of_decide_eq_true h'.1; subst e; exact ⟨.str x, ⟨t, rfl⟩, fun _ _ _ _ _ => .str h'.2⟩)
  | succ n ih =>
    intro u d h
    cases u <;> cases d <;> first
      | (cases h; done)
      | exact ⟨.non, rfl, fun _ _ _ _ _ => .non⟩
      | (rename_i b c; have e : b = c := eq_of_beq h; subst e; exact ⟨.bl b, rfl, fun _ _ _ _ _ => .bl _⟩)
      | (rename_i i t j; have e : i = j := of_decide_eq_true h; subst e; exact ⟨.int i, ⟨t, rfl⟩, fun _ _ _ _ _ => .int _⟩)
      | (rename_i x t y; have h' : (decide (x = y) && sB y) = true := h; rw [Bool.and_eq_true] at h'; have e : x = y := of_decide_eq_true h'.1; subst e; exact ⟨.str x, ⟨t, rfl⟩, fun _ _ _ _ _ => .str h'.2⟩)
      | skip
    rename_i a ds
    have h' : (match K.lookup a with
      | some ⟨.type t, none, .seq its _, _⟩ => decide (t = "tuple") && decide (its.size ≤ sizeLine) && decide (its.toList.length = ds.length) && (its.toList.zip ds).all fun p => conB K n p.1 p.2
      | _ => false) = true := h
    split at h'
    · rename_i t its m sl q
      rw [Bool.and_eq_true, Bool.and_eq_true, Bool.and_eq_true] at h'
      obtain ⟨⟨⟨h1, h2⟩, h3⟩, h4⟩ := h'
      have e1 : t = "tuple" := of_decide_eq_true h1
      subst e1
      have aux : ∀ (us : List Value) (ds : List D), us.length = ds.length → ((us.zip ds).all fun p => conB K n p.1 p.2) = true → ∃ vs, Vals vs us ∧ ∀ (mg : Str → Option Value) (P : Program) (w : World) (G : Gd) (H : Hp), Reps ⟨K, mg, P, w⟩ G H vs ds := by
        intro us
        induction us with
        | nil => intro ds hl _; cases ds with
          | nil => exact ⟨[], .nil, fun _ _ _ _ _ => .nil⟩
          | cons _ _ => cases hl
        | cons u us ih2 =>
          intro ds hl ha
          cases ds with
          | nil => cases hl
          | cons d ds =>
            rw [List.zip_cons_cons, List.all_cons, Bool.and_eq_true] at ha
            obtain ⟨v, r1, r2⟩ := ih u d ha.1
            obtain ⟨vs, r3, r4⟩ := ih2 ds (Nat.succ.inj hl) ha.2
            exact ⟨v :: vs, .cons r1 r3, fun a b c d e => .cons (r2 a b c d e) (r4 a b c d e)⟩
      obtain ⟨vs, r1, r2⟩ := aux _ _ (of_decide_eq_true h3) h4
      exact ⟨.ref a, rfl, fun mg P w G H => .ktp (.inl ⟨_, its, m, q, rfl, rfl, of_decide_eq_true h2, r1, rfl⟩) (r2 mg P w G H)⟩
    · cases h'
/-- the module's name x is this constant -/
def gconB (K : PySem.W.Frag) (x : Str) (d : D) : Bool := match PySem.W.nsIn K mainGlobals x with
  | some (some u) => conB K 8 u d
  | _ => false
/-- the i-th default of the def at f is this constant -/
def dconB (K : PySem.W.Frag) (f : Str × Option Str) (i : Nat) (d : D) : Bool := conB K 8 (.ref (He.dflAt f i K)) d
abbrev AlY : Type := Bool × List He.FnW
def obsY (fa : List He.Fa) (fn : List DefY) (ex : List (PySem.W.Frag → Bool)) (K : PySem.W.Frag) : AlY := ((fa.all fun f => f.ok K) && ((ex.all fun e => e K) && fn.all fun d => d.ok K), fn.map fun d => fnY K (d.ad K))
def valY (fn : List DefY) : AlY := (true, fn.map DefY.val)
def SaysY (fa : List He.Fa) (fn : List DefY) (ex : List (PySem.W.Frag → Bool)) (K : PySem.W.Frag) : Prop := obsY fa fn ex K = valY fn
def obsYG (n : Nat) (fa : List He.Fa) (fn : List DefY) (ex : List (PySem.W.Frag → Bool)) (g : Addr → Option Obj) : AlY := obsY fa fn ex (He.frG g (He.asD g n))
def hookY (n : Nat) (fa : List He.Fa) (fn : List DefY) (ex : List (PySem.W.Frag → Bool)) : PySem.W.Hook where
  α := AlY
  obs := fun s => obsYG n fa fn ex s.heap.get?
  val := fun _ => valY fn
  says := fun _ h => ∃ K : PySem.W.Frag, K.In h ∧ SaysY fa fn ex K
  of := fun _ _ e => ⟨_, He.frG_in, e⟩
  keeps := fun _ _ _ ⟨K, hK, c⟩ k => ⟨K, PySem.W.Frag.In.keeps hK k, c⟩
theorem obsYG_eq {n : Nat} {fa : List He.Fa} {fn : List DefY} {ex : List (PySem.W.Frag → Bool)} {g : Addr → Option Obj} {s : Shared} (h : ∀ a, g a = s.heap.get? a) : obsYG n fa fn ex g = (hookY n fa fn ex).obs s := by
  obtain rfl : g = s.heap.get? := funext h
  rfl
section
variable {fa : List He.Fa} {fn : List DefY} {ex : List (PySem.W.Frag → Bool)} {K : PySem.W.Frag}
theorem SaysY.one (c : SaysY fa fn ex K) : (fa.all fun f => f.ok K) = true ∧ (ex.all fun e => e K) = true ∧ (fn.all fun d => d.ok K) = true := by
  have h : ((fa.all fun f => f.ok K) && ((ex.all fun e => e K) && fn.all fun d => d.ok K)) = true := congrArg (·.1) c
  rw [Bool.and_eq_true, Bool.and_eq_true] at h
  exact h
theorem SaysY.fact (c : SaysY fa fn ex K) (i : Nat) {f : He.Fa} (h : fa[i]? = some f := by rfl) : f.ok K = true := List.all_eq_true.mp c.one.1 f (List.mem_of_getElem? h)
theorem SaysY.ext (c : SaysY fa fn ex K) (i : Nat) {f : PySem.W.Frag → Bool} (h : ex[i]? = some f := by rfl) : f K = true := List.all_eq_true.mp c.one.2.1 f (List.mem_of_getElem? h)
theorem SaysY.def_ (c : SaysY fa fn ex K) (i : Nat) {d : DefY} (h : fn[i]? = some d := by rfl) : ∃ fd, FunD K d.name d.qual d.params d.body d.scope (d.dvs K) [] (d.ad K) fd := by
  have m := List.mem_of_getElem? h
  refine DefY.fun_ ?_ (List.all_eq_true.mp c.one.2.2 d m)
  have e : fn.map (fun d => fnY K (d.ad K)) = fn.map DefY.val := congrArg (·.2) c
  have e2 := congrArg (fun l => l[i]?) e
  simp only [List.getElem?_map, h] at e2
  exact Option.some.inj e2
end
end Dl
set_option Elab.async false
set_option linter.all false
set_option maxRecDepth 100000
set_option maxHeartbeats 4000000
/-! D28: the law's end, from the promise of the law's def at the claim's own caller. -/
namespace Dl
open PySem PySem.Spec L2 PyProof.Rows
section
variable {P : Program} {w : World} {K : PySem.W.Frag} {mg mb : Str → Option Value} {fa a : Addr} {fd : FuncData} {x : Str} {sp : List V → Hp → VK → Prop} {s : Shared} {vs : List Value} {ns : List Int}
/-- what the law must do -/
abbrev LawGoal (P : Program) (w : World) (fa a : Addr) (s : Shared) : Prop := codeAny (model P w) callerA (.call (.ref fa) ⟨[.ref a], []⟩) (fun r s' => r = .ok (.ret (.bool true)) ∧ OldK s.heap s'.heap ∧ s'.os = s.os ∧ AllBare s'.gens) s
/-- from an abstract heap H that tracks at most the script -/
theorem law_at {H : Hp} (KX : K.In s.heap) (hns : s.heap.Ns mainGlobals mg) (hb : s.heap.Ns builtinsNs mb) (hbb : ∀ x : Str, x ≠ "__name__" → mb x = bootBuiltins x) (hlim : s.heap.NoLimit) (hg : s.gens = #[])
    (ha : s.heap.get? a = some { cls := .type "list", data := .seq vs.toArray })
    (F : ∀ base : Heap, FnC P w K mg base fa fd [x] sp) (hbind : ∀ (s : Shared) (u : Value), BindsTo s fd ⟨[u], []⟩ [(x, u)])
    (hO : Only H) (hok : HOk P w H s.heap) (hA : ∀ b, H b ≠ none → b = a) (hK : H a ≠ none → K.lookup a = none) (hsp : sp [.ref a] H (fun v _ => v = .bl true)) : LawGoal P w fa a s := by
  -- a dict is not the script
  have dict_free : ∀ {b : Addr} {o : Obj} {es : Array DictEntry} {ep : Nat}, s.heap.get? b = some o → o.data = .dict es ep → H b = none := by
    intro b o es ep e1 e2
    by_cases hb : H b = none
    · exact hb
    · obtain rfl := hA b hb
      rw [ha] at e1
      cases e1
      cases e2
  have lift : ∀ {b : Addr} {m : Str → Option Value}, s.heap.Ns b m → (hidT s.heap H).Ns b m := by
    rintro b m ⟨o, es, ep, e, d, r⟩
    exact ⟨o, es, ep, hidT_get e (dict_free e d), d, r⟩
  have inK : K.In (hidT s.heap H) := by
    intro b o e
    by_cases hb : H b = none
    · exact hidT_get (KX b o e) hb
    · obtain rfl := hA b hb
      rw [hK hb] at e
      cases e
  have md : Mod K mg (hidT s.heap H) := ⟨inK, lift hns, ⟨mb, lift hb, hbb⟩, (by obtain ⟨mc, z1, z2⟩ := hlim; exact ⟨mc, lift z1, z2⟩)⟩
  have nil : ∀ b : Addr, ¬ b ∈ ([] : List Addr) := fun b z => by cases z
  have e0 : Env0 P w K mg (hidT s.heap H) callerA [] s H := ⟨rfl, md, fun b o e => of_hidT e, Nat.le_of_eq (hidT_size _ _), trivial, fun b hb => absurd hb (nil b), hok, .of_eq hg⟩
  refine codeAny_mono (F _ [] s H ⟨[.ref a], []⟩ [.ref a] [.ref a] _ e0 (hbind s (.ref a)) (.cons rfl .nil) hsp) fun r s' h => ?_
  match r, h with
  | .error e, h => exact False.elim h
  | .ok .next, h => exact False.elim h
  | .ok .brk, h => exact False.elim h
  | .ok .cont, h => exact False.elim h
  | .ok (.ret u), ⟨v, H', os, bare, un, hok', rv, q⟩ =>
    obtain rfl : v = .bl true := q
    obtain rfl : u = Value.bool true := rv
    refine ⟨rfl, OldK.of_keep fun b o e => ?_, os, bare⟩
    rcases hO b with z | ⟨ob, xs, z⟩
    · exact un.keep b o e z (nil b) (by simp)
    · have e1 := (hok b _ z).1
      have e2 := (hok' b _ (un.frzs b ob _ z)).1
      rw [e] at e1
      cases e1
      exact e2
/-- where the script stands -/
def ScriptAt (K : PySem.W.Frag) (H : Hp) (a : Addr) (ns : List Int) : Prop := (∃ o, H a = some (.frz o (.lst (ns.map V.int)))) ∨ ∃ (o : Obj) (its : Array Value) (n : Nat), K.lookup a = some o ∧ o.cls = .type "list" ∧ o.dict = none ∧ o.data = .seq its n ∧ its.size ≤ sizeLine ∧ Vals (ns.map V.int) its.toList
theorem law_fin (KX : K.In s.heap) (hns : s.heap.Ns mainGlobals mg) (hb : s.heap.Ns builtinsNs mb) (hbb : ∀ x : Str, x ≠ "__name__" → mb x = bootBuiltins x) (hlim : s.heap.NoLimit) (hg : s.gens = #[])
    (ha : s.heap.get? a = some { cls := .type "list", data := .seq vs.toArray }) (hi : IntsAre vs ns) (hl : ns.length ≤ sizeLine)
    (F : ∀ base : Heap, FnC P w K mg base fa fd [x] sp) (hbind : ∀ (s : Shared) (u : Value), BindsTo s fd ⟨[u], []⟩ [(x, u)])
    (hsp : ∀ H : Hp, Only H → ScriptAt K H a ns → sp [.ref a] H (fun v _ => v = .bl true)) : LawGoal P w fa a s := by
  have rv := vals_ints hi
  by_cases hk : K.lookup a = none
  · let H : Hp := fun b => if b = a then some (.frz { cls := .type "list", data := .seq vs.toArray } (.lst (ns.map V.int))) else none
    have Ha : H a = some (.frz { cls := .type "list", data := .seq vs.toArray } (.lst (ns.map V.int))) := if_pos rfl
    have Hn : ∀ b, b ≠ a → H b = none := fun b z => if_neg z
    have hO : Only H := fun b => by
      by_cases z : b = a
      · subst z; exact .inr ⟨_, _, Ha⟩
      · exact .inl (Hn b z)
    refine law_at (H := H) KX hns hb hbb hlim hg ha F hbind hO (fun b u z => ?_) (fun b z => ?_) (fun _ => hk) (hsp H hO (.inl ⟨_, Ha⟩))
    · by_cases y : b = a
      · subst y
        rw [Ha] at z
        cases z
        exact ⟨ha, by rw [List.length_map]; exact hl, vs, _, rv, ha⟩
      · rw [Hn b y] at z; cases z
    · by_cases y : b = a
      · exact y
      · exact absurd (Hn b y) z
  · obtain ⟨o, ho⟩ := Option.ne_none_iff_exists'.mp hk
    have e := KX a o ho
    rw [ha] at e
    cases e
    refine law_at (H := fun _ => none) KX hns hb hbb hlim hg ha F hbind (fun _ => .inl rfl) (fun b u z => by cases z) (fun b z => absurd rfl z) (fun z => absurd rfl z) (hsp _ (fun _ => .inl rfl) (.inr ⟨_, vs.toArray, _, ho, rfl, rfl, rfl, ?_, by simpa using rv⟩))
    rw [List.size_toArray, hi.length]
    exact hl
end
theorem walk_ofC {l : PySem.W.OpenLaw} {n : Nat} {q : Program} {loose : List Str} {XP : (Str → Option Value) → Heap → Prop} {YP : World → Heap → Prop} {d : DefRec} {x : Str} (hn : l.most = some n) (hn2 : n ≤ sizeLine) (hdf : d.params.defaults = [])
    (F : ∀ (w : World) (mg : Str → Option Value) (fa : Addr) (h : Heap), YP w h → h.Ns mainGlobals mg → mg d.name = some (.ref fa) →
      ∃ (K : PySem.W.Frag) (fd : FuncData) (sp : List V → Hp → VK → Prop), K.In h ∧ (∀ (s : Shared) (u : Value), BindsTo s fd ⟨[u], []⟩ [(x, u)]) ∧
        (∀ (H : Hp) (a : Addr) (ns : List Int), ns.length ≤ n → Only H → ScriptAt K H a ns → sp [.ref a] H (fun v _ => v = .bl true)) ∧ ∀ base : Heap, FnC l.prog w K mg base fa fd [x] sp) :
    PySem.W.WalkO q loose XP YP l.row.toRowW d [] (fun f vs => PySem.call f vs) := by
  refine Att.attach_call hn hdf fun w s₀ s₁ mg mb fa o pm cd doc a vs ns G Y ho hd hcd hmg hobj hints hlen hg => ?_
  obtain ⟨K, fd, sp, KX, hb, hsp, hF⟩ := F w mg fa _ Y G.T.g hmg
  exact law_fin KX G.T.g G.T.b G.T.builtins G.T.nolimit hg hobj hints (Nat.le_trans hlen hn2) hF hb fun H hO hS => hsp H a ns hlen hO hS
end Dl
set_option Elab.async false
set_option linter.all false
set_option maxRecDepth 100000
set_option maxHeartbeats 4000000
/-! D29: repr(x) where nothing is being shown; calls by keywords and with defaults; the law's body. -/
namespace Dl
open PySem PySem.Spec L2 PyProof.Rows
/-! ### repr -/
def rRepr (K : PySem.W.Frag) : List V → Hp → VK → Prop := fun xs H Q => ∃ (x : V) (d : PyData), xs = [x] ∧ Dp K H x d ∧ d.showable = true ∧ d.canLay0 = true ∧ d.depth ≤ 8 ∧ d.shown.length ≤ sizeLine ∧ Q (.str d.shown) H
theorem call_reprD {X : Cx} (hg : X.A.guards = some []) (hu : X.A.units + 64 < cLine) : CallR X (.builtin "repr") (rRepr X.K) := by
  intro pins s σ H xs us Q I r h
  obtain ⟨x, d, rfl, hd, hs, hc, hp, hz, q⟩ := h
  cases r with
  | cons rx rt =>
    cases rt
    rename_i u
    obtain ⟨as, rd⟩ := Dp.reads I d x u hd rx
    have fin : ∀ {h' : Heap} {tk : Nat} {t : Tok}, (∀ b o, s.heap.get? b = some o → h'.get? b = some o) → EP X pins σ Q (.str d.shown t) { s with heap := h', toks := tk } := fun {h' tk t} k => ⟨.str d.shown, H, I.kept k, ⟨t, rfl⟩, q⟩
    cases rd with
    | none => exact PySem.P.repr_of_none (fin (h' := s.heap) fun _ _ e => e)
    | bool b => exact PySem.P.repr_of_bool (fin (h' := s.heap) fun _ _ e => e)
    | int i t => exact PySem.P.repr_of_int (of_decide_eq_true hs) (fin (h' := s.heap) fun _ _ e => e)
    | str y t => exact PySem.P.repr_of_str (fin (h' := s.heap) fun _ _ e => e) hz
    | list h1 h2 h3 h4 => exact repr_of_reads' (.list h1 h2 h3 h4) hs (PyData.noDict_hsm (PyData.hasDict_of_canLay _ hc)) hg (by omega) (fun _ _ e => e) (fun h' u tk k => fin k) hz
    | tuple h1 h2 h3 h4 => exact repr_of_reads' (.tuple h1 h2 h3 h4) hs (PyData.noDict_hsm (PyData.hasDict_of_canLay _ hc)) hg (by omega) (fun _ _ e => e) (fun h' u tk k => fin k) hz
    | dict h1 h2 h3 h4 h5 => cases hc
/-- repr(x) -/
def reprD : List D → Option D
  | [d] => if (okD 8 d && (toPy d).showable && sB (toPy d).shown) = true then some (.str (toPy d).shown) else none
  | _ => none
theorem c1_repr {X : Cx} (hg : X.A.guards = some []) (hu : X.A.units + 64 < cLine) : Call1 X (.builtin "repr") reprD := ⟨_, call_reprD hg hu, fun G H w vs ds d Q dr r e k => by
  cases r with
  | nil => cases e
  | cons r rr =>
    cases rr with
    | cons _ _ => cases e
    | nil =>
      rename_i v d0
      have e' : (if (okD 8 d0 && (toPy d0).showable && sB (toPy d0).shown) = true then some (D.str (toPy d0).shown) else none) = some d := e
      split at e'
      · rename_i hc
        cases e'
        rw [Bool.and_eq_true, Bool.and_eq_true] at hc
        have p := pure_of 8 _ _ r hc.1.1
        exact ⟨_, _, rfl, p.dp, hc.1.2, p.lay, p.dep, sOk.len hc.2, k _ H (.refl _) (.str hc.2)⟩
      · cases e'⟩
/-! ### keywords, defaults -/
/-- the items of the places is -/
def pickA {α : Type} (is : List Nat) (l : List α) : List α := is.filterMap fun i => l[i]?
theorem vals_get : ∀ {vs : List V} {us : List Value} (i : Nat), Vals vs us → (vs[i]? = none ∧ us[i]? = none) ∨ ∃ v u, vs[i]? = some v ∧ us[i]? = some u ∧ RelV v u
  | _, _, i, .nil => .inl ⟨by simp, by simp⟩
  | _, _, 0, .cons r _ => .inr ⟨_, _, rfl, rfl, r⟩
  | _, _, i + 1, .cons _ t => by simpa using vals_get i t
theorem vals_pick : ∀ (is : List Nat) {vs : List V} {us : List Value}, Vals vs us → Vals (pickA is vs) (pickA is us)
  | [], _, _, _ => .nil
  | i :: is, vs, us, h => by
    have t := vals_pick is h
    unfold pickA at t ⊢
    rcases vals_get i h with ⟨e1, e2⟩ | ⟨v, u, e1, e2, r⟩
    · rw [List.filterMap_cons_none e1, List.filterMap_cons_none e2]; exact t
    · rw [List.filterMap_cons_some e1, List.filterMap_cons_some e2]; exact .cons r t
theorem reps_pick {T : Tx} {G : Gd} {H : Hp} : ∀ (is : List Nat) {vs : List V} {ds : List D}, Reps T G H vs ds → Reps T G H (pickA is vs) (pickA is ds)
  | [], _, _, _ => .nil
  | i :: is, vs, ds, h => by
    have t := reps_pick is h
    unfold pickA at t ⊢
    cases e : ds[i]? with
    | none =>
      have e1 : vs[i]? = none := by rw [List.getElem?_eq_none_iff] at e ⊢; rw [h.length]; exact e
      rw [List.filterMap_cons_none e1, List.filterMap_cons_none e]; exact t
    | some d =>
      obtain ⟨v, e1, r⟩ := h.get e
      rw [List.filterMap_cons_some e1, List.filterMap_cons_some e]; exact .cons r t
section
variable {K : PySem.W.Frag} {x qual : Str} {params : Arguments} {body : List Stmt} {scope : Scope} {dvs : List V} {f : Addr} {fd : FuncData} {ps : List Str}
/-- n written by place, the keywords ks; is: where each parameter is taken from (places, keywords, defaults) -/
theorem kbn0 (F : FunD K x qual params body scope [] [] f fd) (n : Nat) (ks : List Str) (is : List Nat)
    (h : ∀ (kV doc pm : Value) (an : Option Addr) (cdv ct : Value) (us ws : List Value), us.length = n → ws.length = ks.length → bindArgs (PySem.W.fnOf x qual params body scope .none kV doc pm an cdv ct) ⟨us, ks.zip ws⟩ = pure (ps.zip (pickA is (us ++ ws ++ [])))) :
    KBn K fd ps n ks (fun us ws => pickA is (us ++ ws ++ [])) (fun vs zs => pickA is (vs ++ zs ++ [])) := by
  obtain ⟨oc, od, dV, kV, doc, pm, an, cdv, ct, osl, rfl, lk, hcd, hD, hK⟩ := F.ex
  rcases hD with ⟨_, rfl⟩ | ⟨e, _⟩
  · exact ⟨fun s us ws _ l1 l2 => .of_eq (h kV doc pm an cdv ct us ws l1 l2), fun r1 r2 => vals_pick is ((r1.append r2).append .nil)⟩
  · exact absurd rfl e
theorem kbn1 (F : FunD K x qual params body scope dvs [] f fd) (n : Nat) (ks : List Str) (is : List Nat) (hd : dvs ≠ [])
    (h : ∀ (T : Addr) (kV doc pm : Value) (an : Option Addr) (cdv ct : Value) (us ws its : List Value), us.length = n → ws.length = ks.length → its.length = dvs.length →
      ∃ k, bindArgs (PySem.W.fnOf x qual params body scope (.ref T) kV doc pm an cdv ct) ⟨us, ks.zip ws⟩ = seqItems? (.ref T) >>= k ∧ k (some its.toArray) = pure (ps.zip (pickA is (us ++ ws ++ its)))) :
    ∃ its : List Value, KBn K fd ps n ks (fun us ws => pickA is (us ++ ws ++ its)) (fun vs zs => pickA is (vs ++ zs ++ dvs)) := by
  obtain ⟨oc, od, dV, kV, doc, pm, an, cdv, ct, osl, rfl, lk, hcd, hD, hK⟩ := F.ex
  rcases hD with ⟨e, _⟩ | ⟨_, T, o, its, m, rfl, lT, oT, rT⟩
  · exact absurd e hd
  · refine ⟨its, ⟨fun s us ws X l1 l2 => ?_, fun r1 r2 => vals_pick is ((r1.append r2).append rT)⟩⟩
    obtain ⟨k, e1, e2⟩ := h T kV doc pm an cdv ct us ws its l1 l2 rT.length.symm
    refine BindsTo.of_looks fun M => ?_
    rw [e1]
    exact looks_items X lT oT (.of_pure e2)
end
/-- a def that is called in this way: n by place, the keywords ks, is the places, dds the defaults -/
def CalK (P : Program) (w : World) (K : PySem.W.Frag) (mg : Str → Option Value) (base : Heap) (x : Str) (k : Nat) (n : Nat) (ks : List Str) (is : List Nat) (dds : List D) (φ : Fn) : Prop :=
  ∃ f fd ps g dvs, At K mg x f ∧ FnOk P w K mg base CX0 k f fd ps (spD ⟨K, mg, P, w⟩ is.length φ) ∧ KBn K fd ps n ks g (fun vs zs => pickA is (vs ++ zs ++ dvs)) ∧ ∀ G H, Reps ⟨K, mg, P, w⟩ G H dvs dds
def CalOK (P : Program) (w : World) (K : PySem.W.Frag) (mg : Str → Option Value) (base : Heap) (x : Str) (k : Nat) (n : Nat) (ks : List Str) (is : List Nat) (dds : List D) (φ : Fn) : Prop :=
  ∃ f fd ps g dvs, At K mg x f ∧ FnOk P w K mg base CX0 k f fd ps (spO ⟨K, mg, P, w⟩ is.length φ) ∧ KBn K fd ps n ks g (fun vs zs => pickA is (vs ++ zs ++ dvs)) ∧ ∀ G H, Reps ⟨K, mg, P, w⟩ G H dvs dds
def eCallK (φ : Fn) (is : List Nat) (fs fk : List E) (dds : List D) : E := fun env w => match aL fs env w with
  | some (xs, w1) => match aL fk env w1 with
    | some (ys, w2) => if (pickA is (xs ++ ys ++ dds)).length = is.length then φ (pickA is (xs ++ ys ++ dds)) w2 else none
    | none => none
  | none => none
theorem eCallK_some {φ : Fn} {is : List Nat} {fs fk : List E} {dds : List D} {env : Env} {w w' : Dr} {d : D} (h : eCallK φ is fs fk dds env w = some (d, w')) : ∃ xs w1 ys w2, aL fs env w = some (xs, w1) ∧ aL fk env w1 = some (ys, w2) ∧ (pickA is (xs ++ ys ++ dds)).length = is.length ∧ φ (pickA is (xs ++ ys ++ dds)) w2 = some (d, w') := by
  unfold eCallK at h
  split at h
  · split at h
    · split at h
      · exact ⟨_, _, _, _, ‹_›, ‹_›, ‹_›, h⟩
      · cases h
    · cases h
  · cases h
section
variable {X : Cx} {x : Str} {k n : Nat} {ks : List Str} {is : List Nat} {dds : List D} {φ : Fn} {p pos kpos : Pos} {e : Expr} {es : List Expr} {fs fk : List E} {kws : List Keyword} {nm : Option Str} {f : E}
abbrev DK (X : Cx) (kws : List Keyword) (f : EA) : Prop := PK X kws (tDA (tx X) f)
theorem pk_imp {t t' : TA} (h : PK X kws t) (q : ∀ σ H Q, t' σ H Q → t σ H Q) : PK X kws t' := ⟨fun pos pins s σ H Q I z => h.run pos pins s σ H Q I (q σ H Q z)⟩
theorem dk_nil : DK X [] (aL []) := pk_imp pk_nil fun σ H Q ⟨G, B, env, w, ds, w', hd, e, k⟩ => by
  cases e
  exact k [] H (.refl _ _) hd .nil
theorem dk_cons (ha : DE X e f) (hr : DK X kws (aL fs)) : DK X (⟨nm, e, kpos⟩ :: kws) (aL (f :: fs)) := pk_imp (pk_cons ha hr) fun σ H Q ⟨G, B, env, w, ds, w', hd, e, k⟩ => by
  obtain ⟨x, w1, xs, e1, e2, rfl⟩ := aCons_some (a := f) (r := aL fs) e
  refine ⟨G, B, env, w, x, w1, hd, e1, fun v H1 s1 h1 r1 => ⟨G, B, env, w1, xs, w', h1, e2, fun vs H2 s2 h2 r2 => ?_⟩⟩
  exact k (v :: vs) H2 (s1.trans s2) h2 (.cons (r1.keep (s2.keep h1.draw)) r2)
theorem tCallK_of {dvs : List V} (hds : ∀ G H, Reps (tx X) G H dvs dds) (hn : fs.length = n) (hm : fk.length = ks.length) : ∀ σ H Q, tD (tx X) (eCallK φ is fs fk dds) σ H Q → tCallN n ks.length (spD (tx X) is.length φ) (fun vs zs => pickA is (vs ++ zs ++ dvs)) E0 (tDA (tx X) (aL fs)) (tDA (tx X) (aL fk)) σ H Q := fun σ H Q ⟨G, B, env, w, d, w', hd, e, k⟩ => by
  obtain ⟨xs, w1, ys, w2, e1, e2, hl, e3⟩ := eCallK_some e
  refine ⟨G, B, env, w, xs, w1, hd, e1, fun vs H1 s1 h1 r1 => ⟨G, B, env, w1, ys, w2, h1, e2, fun zs H2 s2 h2 r2 => ⟨by rw [r1.length, aL_len e1]; exact hn, by rw [r2.length, aL_len e2]; exact hm, G, pickA is (xs ++ ys ++ dds), w2, d, w', ?_, h2.draw, hl, e3, fun v H' s dr r => ?_⟩⟩⟩
  · exact reps_pick is (((r1.keep (s2.keep h1.draw)).append r2).append (hds G H2))
  · exact k v H' ((s1.trans s2).trans s) (h2.go s dr) r
theorem tCallOK_of {dvs : List V} (hds : ∀ G H, Reps (tx X) G H dvs dds) (hn : fs.length = n) (hm : fk.length = ks.length) : ∀ σ H Q, tDO (tx X) (eCallK φ is fs fk dds) σ H Q → tCallN n ks.length (spO (tx X) is.length φ) (fun vs zs => pickA is (vs ++ zs ++ dvs)) E0 (tDA (tx X) (aL fs)) (tDA (tx X) (aL fk)) σ H Q := fun σ H Q ⟨G, B, env, w, d, w', hd, e, k⟩ => by
  obtain ⟨xs, w1, ys, w2, e1, e2, hl, e3⟩ := eCallK_some e
  refine ⟨G, B, env, w, xs, w1, hd, e1, fun vs H1 s1 h1 r1 => ⟨G, B, env, w1, ys, w2, h1, e2, fun zs H2 s2 h2 r2 => ⟨by rw [r1.length, aL_len e1]; exact hn, by rw [r2.length, aL_len e2]; exact hm, G, pickA is (xs ++ ys ++ dds), w2, d, w', ?_, h2.draw, hl, e3, fun q H' np s dr r => ?_⟩⟩⟩
  · exact reps_pick is (((r1.keep (s2.keep h1.draw)).append r2).append (hds G H2))
  · exact k q H' (h1.back s1 (h2.back s2 np)) ((s1.trans s2).trans s) (h2.go s dr) r
/-- f(k = v, ..) -/
theorem pe_callN0 {CX : CXT} {f : Addr} {fd : FuncData} {ps : List Str} {sp : Sp} {E : XK} {g : List Value → List Value → List Value} {gV : List V → List V → List V} {tk : TA} (F : FnOk X.prog X.w X.K X.mg X.base CX k f fd ps sp) (hr : Room k X.A) (hg : Gl X x) (hm : X.mg x = some (.ref f)) (hk : PySem.W.keepIn X.K (.ref f) = true) (hb : KBn X.K fd ps 0 ks g gV) (hx : Passes CX X E)
    (hkw : PK X kws tk) (hall : (backToKw pos (keywordEach kws X.env)).all (·.1.isSome) = true) (hks : (backToKw pos (keywordEach kws X.env)).filterMap (·.1) = ks) (hdb : (x == ("__debug__" : Str)) = false) (hpl : (backToKw pos (keywordEach kws X.env)).any (·.1.isNone) = false) :
    PE X (.Call (.Name x p) [] kws pos) (tCallN 0 ks.length sp gV E tNil tk) := by
  refine ⟨fun pins s σ H Q I h => wpAny_Call_Name_kw (ld_glob I hg hm ?_ hdb)⟩
  refine PySem.W.callWith_KW0 (h₀ := X.base) I.ok.mod.kin hk hall (thn (hkw.run pos pins s σ H _ I h) fun ws s2 ⟨zs, H2, I2, rz, l1, l2, q2⟩ => ⟨I2.kIn, ?_⟩) hpl
  rw [hks]
  exact run_fnN (us := []) (vs := []) F hr hb hx I2 .nil rz rfl l2 q2
theorem de_calK (C : CalK X.prog X.w X.K X.mg X.base x k n ks is dds φ) (hr : Room k X.A) (hg : Gl X x) (ha : DA X (e :: es) (aL fs)) (hkw : DK X kws (aL fk)) (hn : fs.length = n := by rfl) (hm : fk.length = ks.length := by rfl) (hall : (backToKw pos (keywordEach kws X.env)).all (·.1.isSome) = true := by rfl) (hks : (backToKw pos (keywordEach kws X.env)).filterMap (·.1) = ks := by rfl)
    (hdb : (x == ("__debug__" : Str)) = false := by decide) (he : starEach (e :: es) X.env = (false, eval e X.env) :: starEach es X.env := by rfl) (hpl : ((backTo pos (starEach (e :: es) X.env)).any (·.1) || (backToKw pos (keywordEach kws X.env)).any (·.1.isNone)) = false := by rfl) :
    DE X (.Call (.Name x p) (e :: es) kws pos) (eCallK φ is fs fk dds) := by
  obtain ⟨f, fd, ps, g, dvs, A, F, hb, hds⟩ := C
  exact pe_imp (pe_callN F hr hg A.mg A.kp hb pass0 ha hkw hall hks hdb he hpl) (tCallK_of hds hn hm)
theorem do_calK (C : CalOK X.prog X.w X.K X.mg X.base x k n ks is dds φ) (hr : Room k X.A) (hg : Gl X x) (ha : DA X (e :: es) (aL fs)) (hkw : DK X kws (aL fk)) (hn : fs.length = n := by rfl) (hm : fk.length = ks.length := by rfl) (hall : (backToKw pos (keywordEach kws X.env)).all (·.1.isSome) = true := by rfl) (hks : (backToKw pos (keywordEach kws X.env)).filterMap (·.1) = ks := by rfl)
    (hdb : (x == ("__debug__" : Str)) = false := by decide) (he : starEach (e :: es) X.env = (false, eval e X.env) :: starEach es X.env := by rfl) (hpl : ((backTo pos (starEach (e :: es) X.env)).any (·.1) || (backToKw pos (keywordEach kws X.env)).any (·.1.isNone)) = false := by rfl) :
    DO X (.Call (.Name x p) (e :: es) kws pos) (eCallK φ is fs fk dds) := by
  obtain ⟨f, fd, ps, g, dvs, A, F, hb, hds⟩ := C
  exact pe_imp (pe_callN F hr hg A.mg A.kp hb pass0 ha hkw hall hks hdb he hpl) (tCallOK_of hds hn hm)
theorem tNil_of {t2 : TA} {sp : Sp} {gV : List V → List V → List V} {m : Nat} : ∀ σ H Q, tCallN 0 m sp gV E0 (tDA (tx X) (aL [])) t2 σ H Q → tCallN 0 m sp gV E0 tNil t2 σ H Q := fun σ H Q ⟨G, B, env, w, ds, w', hd, e, k⟩ => by
  cases e
  exact k [] H (.refl _ _) hd .nil
theorem de_calK0 (C : CalK X.prog X.w X.K X.mg X.base x k 0 ks is dds φ) (hr : Room k X.A) (hg : Gl X x) (hkw : DK X kws (aL fk)) (hm : fk.length = ks.length := by rfl) (hall : (backToKw pos (keywordEach kws X.env)).all (·.1.isSome) = true := by rfl) (hks : (backToKw pos (keywordEach kws X.env)).filterMap (·.1) = ks := by rfl)
    (hdb : (x == ("__debug__" : Str)) = false := by decide) (hpl : (backToKw pos (keywordEach kws X.env)).any (·.1.isNone) = false := by rfl) : DE X (.Call (.Name x p) [] kws pos) (eCallK φ is [] fk dds) := by
  obtain ⟨f, fd, ps, g, dvs, A, F, hb, hds⟩ := C
  exact pe_imp (pe_callN0 F hr hg A.mg A.kp hb pass0 hkw hall hks hdb hpl) fun σ H Q z => tNil_of σ H Q (tCallK_of hds rfl hm σ H Q z)
theorem do_calK0 (C : CalOK X.prog X.w X.K X.mg X.base x k 0 ks is dds φ) (hr : Room k X.A) (hg : Gl X x) (hkw : DK X kws (aL fk)) (hm : fk.length = ks.length := by rfl) (hall : (backToKw pos (keywordEach kws X.env)).all (·.1.isSome) = true := by rfl) (hks : (backToKw pos (keywordEach kws X.env)).filterMap (·.1) = ks := by rfl)
    (hdb : (x == ("__debug__" : Str)) = false := by decide) (hpl : (backToKw pos (keywordEach kws X.env)).any (·.1.isNone) = false := by rfl) : DO X (.Call (.Name x p) [] kws pos) (eCallK φ is [] fk dds) := by
  obtain ⟨f, fd, ps, g, dvs, A, F, hb, hds⟩ := C
  exact pe_imp (pe_callN0 F hr hg A.mg A.kp hb pass0 hkw hall hks hdb hpl) fun σ H Q z => tNil_of σ H Q (tCallOK_of hds rfl hm σ H Q z)
end
/-! ### the law's body -/
/-- what the law is promised to do: f is the mirror of what stands behind the first statement; n: the other names -/
def TabsU (T : Tx) (ts : List Str) : Prop := ∀ x ∈ ts, ∀ p ∈ ts.map (tabOf T), p.1 = (tabOf T x).1 → p.2 = (tabOf T x).2
def spLawT (T : Tx) (ts : List Str) (n : Nat) (f : S) : List V → Hp → VK → Prop := fun vs H Q => LamX.Tabs (ts.map (tabOf T)) H ∧ TabsU T ts ∧ ∃ (a : Addr) (ns : List Int), vs = [.ref a] ∧ ScriptAt T.K H a ns ∧ ns.length ≤ sizeLine ∧
  (∀ sd, sd = D.lst (ns.map .int) ∨ sd = D.klt (ns.map .int) → ∃ w', f (.sh sd :: .sh (.drt ts) :: List.replicate n .un) ⟨bigOf ns, ns, 0, 0, 7⟩ = some (.rt (.bl true), w')) ∧ ∀ H', Q (.bl true) H'
def spLaw (T : Tx) (n : Nat) (f : S) : List V → Hp → VK → Prop := spLawT T [] n f
theorem spLaw_of {T : Tx} {n : Nat} {f : S} {vs : List V} {H : Hp} {Q : VK} (h : ∃ (a : Addr) (ns : List Int), vs = [.ref a] ∧ ScriptAt T.K H a ns ∧ ns.length ≤ sizeLine ∧
  (∀ sd, sd = D.lst (ns.map .int) ∨ sd = D.klt (ns.map .int) → ∃ w', f (.sh sd :: .sh .drw :: List.replicate n .un) ⟨bigOf ns, ns, 0, 0, 7⟩ = some (.rt (.bl true), w')) ∧ ∀ H', Q (.bl true) H') : spLaw T n f vs H Q := ⟨fun p hp => (List.not_mem_nil hp).elim, fun x hx => (List.not_mem_nil hx).elim, h⟩
theorem ScriptAt.sq {K : PySem.W.Frag} {H : Hp} {a : Addr} {ns : List Int} (h : ScriptAt K H a ns) : ∀ H', Same H H' → SqL K H' a (ns.map V.int) := fun H' sm => by
  rcases h with ⟨o, h⟩ | h
  · exact .inl (.inr ⟨o, sm _ _ h⟩)
  · exact .inr h
theorem law_bodyT {X : Cx} {st0 : Stmt} {rest : List Stmt} {f : S} {n : Nat} {ts : List Str} (h0 : PS X st0 (tAsg (tCall (spB X.K) [] E0 (tCons (tVar 0) tNil)) (gName 1))) (hb : DSs X rest f) :
    PSs X (st0 :: rest) (tSeq (tAsg (tCall (spB X.K) [] E0 (tCons (tVar 0) tNil)) (gName 1)) (tDS (tx X) f)) ∧
    ∀ (vs : List V) (H : Hp) (Q : VK), spLawT (tx X) ts n f vs H Q → (tSeq (tAsg (tCall (spB X.K) [] E0 (tCons (tVar 0) tNil)) (gName 1)) (tDS (tx X) f)) { nx := fun _ H' => Q .non H', rt := Q } (vs.map some ++ List.replicate (n + 1) none) H := by
  refine ⟨pss_cons h0 hb, ?_⟩
  rintro vs H Q ⟨htb, hun, a, ns, rfl, hs, hl, hf, hq⟩
  refine ⟨_, rfl, a, ns, ts.map (tabOf (tx X)), rfl, hs.sq, hl, htb, fun G H1 gt sm dr => ?_⟩
  have hrep : ∃ sd, (sd = D.lst (ns.map .int) ∨ sd = D.klt (ns.map .int)) ∧ Rep (tx X) G H1 (.ref a) sd := by
    rcases hs with ⟨o, h⟩ | ⟨o, its, m, h1, h2, h3, h4, h5, h6⟩
    · exact ⟨_, .inl rfl, .lst ⟨o, sm _ _ h⟩ (by rw [List.length_map]; exact hl) (Reps.ints ns)⟩
    · exact ⟨_, .inr rfl, .klt ⟨o, its, m, h1, h2, h3, h4, h5, h6⟩ (Reps.ints ns)⟩
  obtain ⟨sd, hsd, hr⟩ := hrep
  obtain ⟨w', hw⟩ := hf sd hsd
  refine ⟨G, H1, _, _, _, w', ⟨?_, ?_, ?_, ?_, .refl _ _, dr, .none fun i d e => by
    match i, e with
    | 0, e => cases e
    | 1, e => cases e
    | i + 2, e =>
      have e' : (List.replicate n Slot.un)[i]? = some (.tr d) := e
      rw [List.getElem?_replicate] at e'
      split at e' <;> cases e'⟩, hw, fun v H' _ _ r => ?_⟩
  · simp
  · intro i d e
    match i, e with
    | 0, e => cases e; exact ⟨_, rfl, hr⟩
    | 1, e => cases e; exact ⟨_, rfl, .drw fun n hn => ⟨by rw [gt]; exact List.mem_map_of_mem hn, fun p hp => hun n hn p (by rw [← gt]; exact hp)⟩⟩
    | i + 2, e =>
      have e' : (List.replicate n Slot.un)[i]? = some (.sh d) := e
      rw [List.getElem?_replicate] at e'
      split at e' <;> cases e'
  · intro i d e
    match i, e with
    | 0, e => cases e
    | 1, e => cases e
    | i + 2, e =>
      have e' : (List.replicate n Slot.un)[i]? = some (.ow d) := e
      rw [List.getElem?_replicate] at e'
      split at e' <;> cases e'
  · intro i j d e a' e1
    match i, e1 with
    | 0, e => cases e
    | 1, e => cases e
    | i + 2, e =>
      have e' : (List.replicate n Slot.un)[i]? = some (.ow d) := e
      rw [List.getElem?_replicate] at e'
      split at e' <;> cases e'
  · cases r
    exact hq H'
theorem law_body {X : Cx} {st0 : Stmt} {rest : List Stmt} {f : S} {n : Nat} (h0 : PS X st0 (tAsg (tCall (spB X.K) [] E0 (tCons (tVar 0) tNil)) (gName 1))) (hb : DSs X rest f) :
    PSs X (st0 :: rest) (tSeq (tAsg (tCall (spB X.K) [] E0 (tCons (tVar 0) tNil)) (gName 1)) (tDS (tx X) f)) ∧
    ∀ (vs : List V) (H : Hp) (Q : VK), spLaw (tx X) n f vs H Q → (tSeq (tAsg (tCall (spB X.K) [] E0 (tCons (tVar 0) tNil)) (gName 1)) (tDS (tx X) f)) { nx := fun _ H' => Q .non H', rt := Q } (vs.map some ++ List.replicate (n + 1) none) H := law_bodyT h0 hb
end Dl
set_option Elab.async false
set_option linter.all false
set_option maxRecDepth 100000
set_option maxHeartbeats 4000000
/-! D30: a new list or dict that a def gave, not to be changed; constants by the head's facts. -/
namespace Dl
open PySem PySem.Spec L2 PyProof.Rows
def eLockC (f : E) : E := fun env w => match f env w with
  | some (d, w') => if cont d = true then some (d, w') else none
  | none => none
theorem eLockC_some {f : E} {env : Env} {w w' : Dr} {d : D} (h : eLockC f env w = some (d, w')) : f env w = some (d, w') ∧ cont d = true := by
  unfold eLockC at h
  split at h
  · rename_i d' w1 e
    split at h
    · rename_i hc
      cases h
      exact ⟨e, hc⟩
    · cases h
  · cases h
theorem de_lockC {X : Cx} {e : Expr} {f : E} (h : DO X e f) : DE X e (eLockC f) :=
  de_lock (pe_imp h fun σ H Q ⟨G, B, env, w, d, w', hd, q, k⟩ => ⟨G, B, env, w, d, w', hd, (eLockC_some q).1, k⟩) fun env w d w' z => (eLockC_some z).2
section
variable {K : PySem.W.Frag} {h : Heap} {mg : Str → Option Value}
theorem gcon_ok (X : K.In h) (G : h.Ns mainGlobals mg) {x : Str} {ds : List D} (c : gconB K x (.ktp ds) = true) (P : Program) (w : World) : ∃ a, mg x = some (.ref a) ∧ ∀ G H, Rep ⟨K, mg, P, w⟩ G H (.ref a) (.ktp ds) := by
  unfold gconB at c
  split at c
  · rename_i u e
    obtain ⟨v, r1, r2⟩ := conB_rep 8 u _ c
    have r3 := r2 mg P w ⟨0, 0, 0, 0, []⟩ (fun _ => none)
    cases r3
    rename_i a xs _ _
    obtain rfl : u = Value.ref a := r1
    exact ⟨a, PySem.W.mg_of X G e, fun G H => r2 mg P w G H⟩
  · cases c
theorem dcon_ok {f : Str × Option Str} {i : Nat} {d : D} (c : dconB K f i d = true) (P : Program) (w : World) (G : Gd) (H : Hp) : Rep ⟨K, mg, P, w⟩ G H (.ref (He.dflAt f i K)) d := by
  obtain ⟨v, r1, r2⟩ := conB_rep 8 _ _ c
  cases v with
  | ref a =>
    have e : Value.ref (He.dflAt f i K) = Value.ref a := r1
    cases e
    exact r2 mg P w G H
  | int i => obtain ⟨t, e⟩ := r1; cases e
  | str i => obtain ⟨t, e⟩ := r1; cases e
  | byt i => obtain ⟨t, e⟩ := r1; cases e
  | flt i => obtain ⟨t, e⟩ := r1; cases e
  | _ => exact nomatch r1
end
end Dl
set_option Elab.async false
set_option linter.all false
set_option maxRecDepth 100000
set_option maxHeartbeats 4000000
/-! D46: set(xs), xs a list or a tuple: down to the loop that puts the items in. -/
namespace Dl
open PySem PySem.Spec L2
abbrev freshSet (led : Bool) : Obj := { cls := .type "set", dict := none, data := .set #[] 0 (.fresh 0 0 led) }
/-- the heap with the new set, and an iterator of the kind c over l behind it -/
abbrev heapSI (h : Heap) (led : Bool) (c : String) (l : Addr) : Heap := (h.push (freshSet led)).push { cls := .type c, data := .fields #[.ref l, .int 0 0] }
/-- what the loop must do: put all items in, and be good -/
def LoopDoes (prog : Program) (w : World) (A : Around) (s : Shared) (c : String) (l : Addr) (Good : Shared → Prop) : Prop := ∀ (led : Bool) (R : Result → Shared → Prop), (∀ t, Good t → R (.ok (.ret .none)) t) →
  codeAny (model prog w) A (.builtin "set.update.loop" ⟨[.ref s.heap.objs.size, .ref (s.heap.objs.size + 1)], []⟩) R { s with heap := heapSI s.heap led c l }
section
variable {prog : Program} {w : World} {A : Around} {E : Value → Shared → Prop} {s : Shared} {l : Addr} {items : Array Value} {Good : Shared → Prop} {Q : Value → Shared → Prop}
theorem set_call (v : Value) (hinit : ∀ led : Bool, wpAny (model prog w) A.in1.in1 (Builtin.«set.__init__» ⟨[.ref s.heap.objs.size, v], []⟩) (fun fin t => fin = .done (.ret .none) ∧ Q (.ref s.heap.objs.size) t) (fun _ _ => False) { s with heap := s.heap.push (freshSet led) }) :
    wpAny (model prog w) A (call (.type "set") [v]) Q E s := by
  have made : codeAny (model prog w) A.in1 (.call (.builtin "set.__new__") ⟨[.type "set", v], []⟩) (wants (fun obj t => ∃ led : Bool, obj = .ref s.heap.objs.size ∧ t = { s with heap := s.heap.push (freshSet led) }) E) s := code_set_new_1 v fun led => ⟨led, rfl, rfl⟩
  have begun : ∀ led : Bool, codeAny (model prog w) A.in1 (.call (.builtin "set.__init__") ⟨[.ref s.heap.objs.size, v], []⟩) (wants (fun r t => r = .none ∧ Q (.ref s.heap.objs.size) t) E) { s with heap := s.heap.push (freshSet led) } := fun led =>
    codeAny_call_builtin F.called_set.init.plain F.entry_set_init (check_set_init_1 ⟨_, Heap.get?_push_size _ rfl, rfl⟩ (wpAny_mono (hinit led) (fun fin t z => by rw [z.1]; exact ⟨rfl, z.2⟩) fun _ _ z => z.elim))
  obtain ⟨first, more, mro⟩ := F.called_set.mro
  have facts := And.intro F.called_set.made (And.intro F.called_set.sub (And.intro F.called_set.notType (And.intro F.called_set.canCreate (F.typeCall_set_1 v))))
  obtain ⟨f1, f2, f3, f4, f5⟩ := facts
  refine wpAny_call (codeAny_of_tree (wpAny_pure ⟨Code.quiet_builtin _ (by decide +kernel), codeAny_builtin F.entry_type_call ?_⟩))
  rw [Around.under_plain (weight_type_call_type "set" [v] []) rfl]
  repeat (any_goals (first | assumption | wp_step))
  refine codeAny_mono made fun r t z => ?_
  match r, z with
  | .error _, z => exact z
  | .ok (.ret _), ⟨led, e1, e2⟩ =>
    subst e1 e2
    have typ : Shared.TypeIs { s with heap := s.heap.push (freshSet led) } (.ref s.heap.objs.size) "set" := ⟨_, Heap.get?_push_size _ rfl, rfl⟩
    have g1 := F.called_set.init.lookup
    have g2 := F.called_set.init.bind (.ref s.heap.objs.size)
    repeat (any_goals (first | assumption | wp_step))
    refine codeAny_mono (begun led) fun r2 t2 z2 => ?_
    match r2, z2 with
    | .error _, z2 => exact z2
    | .ok (.ret _), ⟨e3, good⟩ =>
      subst e3
      repeat (any_goals (first | assumption | wp_step))
/-- set(l), l a list: what is good behind the loop is good behind the call -/
theorem set_list (hl : s.heap.IsList l items) (loop : LoopDoes prog w A.in1.in1 s "list_iterator" l Good) (q : ∀ t, Good t → Q (.ref s.heap.objs.size) t) : wpAny (model prog w) A (call (.type "set") [.ref l]) Q E s := by
  refine set_call _ fun led => ?_
  obtain ⟨⟨cls, dct, dat, sl⟩, gl, hc, nl, hd⟩ := hl
  simp only at hc hd
  subst hc hd
  have gl' := Heap.get?_push_of_some (freshSet led) gl
  have k1 := F.sub_list_set
  have k2 := F.sub_list_frozenset
  have k3 : (Value.type "list" == Value.type "dict") = false := by decide
  unfold Builtin.«set.__init__» noKeywords Builtin.Frozenset.updateFrom
  generalize eIt : pyIter = It
  wp_walk
  subst eIt
  refine wpAny_pyIter_list (items := items) ⟨_, gl', rfl, nl, rfl⟩ (wpAny_bind (wpAny_runValue ?_))
  have e1 : (s.heap.push (freshSet led)).objs.size = s.heap.objs.size + 1 := Heap.size_push ..
  show codeAny _ _ (.builtin "set.update.loop" ⟨[.ref s.heap.objs.size, .ref (s.heap.push (freshSet led)).objs.size], []⟩) _ _
  rw [e1]
  exact loop led _ fun t g => wpAny_pure (wpAny_pure ⟨rfl, q t g⟩)
theorem set_tuple (hl : s.heap.IsTuple l items) (loop : LoopDoes prog w A.in1.in1 s "tuple_iterator" l Good) (q : ∀ t, Good t → Q (.ref s.heap.objs.size) t) : wpAny (model prog w) A (call (.type "set") [.ref l]) Q E s := by
  refine set_call _ fun led => ?_
  obtain ⟨⟨cls, dct, dat, sl⟩, gl, hc, nl, hd⟩ := hl
  simp only at hc hd
  subst hc hd
  have gl' := Heap.get?_push_of_some (freshSet led) gl
  have k1 := F.sub_tuple_set
  have k2 := F.sub_tuple_frozenset
  have k3 : (Value.type "tuple" == Value.type "dict") = false := by decide
  unfold Builtin.«set.__init__» noKeywords Builtin.Frozenset.updateFrom
  generalize eIt : pyIter = It
  wp_walk
  subst eIt
  refine wpAny_pyIter_tuple (items := items) ⟨_, gl', rfl, nl, rfl⟩ (wpAny_bind (wpAny_runValue ?_))
  have e1 : (s.heap.push (freshSet led)).objs.size = s.heap.objs.size + 1 := Heap.size_push ..
  show codeAny _ _ (.builtin "set.update.loop" ⟨[.ref s.heap.objs.size, .ref (s.heap.push (freshSet led)).objs.size], []⟩) _ _
  rw [e1]
  exact loop led _ fun t g => wpAny_pure (wpAny_pure ⟨rfl, q t g⟩)
end
/-! ### the loop, by an invariant of one's own -/
section
variable {prog : Program} {w : World} {A : Around} {R : Result → Shared → Prop} {I S : Addr} {fp wr : List Addr} {G : Array GenState → Array GenState → Prop} {n : Nat} {P : Nat → Value → Prop} {St : Nat → Shared → Prop}
/-- J i: what is known of the set at S when i items are in -/
structure Grows (prog : Program) (w : World) (A : Around) (S : Addr) (wr : List Addr) (G : Array GenState → Array GenState → Prop) (n : Nat) (P : Nat → Value → Prop) (J : Nat → Shared → Prop) : Prop where
  stay : ∀ i s s', J i s → Moved wr G s s' → J i s'
  add : ∀ i v s, i < n → P i v → J i s → ∀ {Q E}, (∀ r h' tk, Heap.SameBut S s.heap h' → s.toks ≤ tk → J (i + 1) { s with heap := h', toks := tk } → Q r { s with heap := h', toks := tk }) → wpAny (model prog w) A (setAdd S v) Q E s
theorem loop_all (W : WalksS prog w A.in1 I fp wr G n P St) (far : S ∉ fp) {J : Nat → Shared → Prop} (g : Grows prog w A.in1 S wr G n P J) : ∀ (left i : Nat) (s : Shared), i + left = n → St i s → J i s →
    (∀ s', Moved (S :: wr) G s s' → J n s' → R (.ok (.ret .none)) s') → codeAny (model prog w) A (.builtin "set.update.loop" ⟨[.ref S, .ref I], []⟩) R s := by
  have more : ∀ {s s' : Shared}, Moved wr G s s' → Moved (S :: wr) G s s' := fun m => m.mono fun _ z => List.mem_cons_of_mem _ z
  have at_ : ∀ {R' : Result → Shared → Prop} {s : Shared} (hb : wpAny (model prog w) A.in1 (Builtin.«set.update.loop» ⟨[.ref S, .ref I], []⟩) (fun fin t => match fin with | .done f => R' (.ok f) t | .again c => c.quiet = true ∧ codeAny (model prog w) A c R' t) (fun e t => R' (.error e) t) s),
      codeAny (model prog w) A (.builtin "set.update.loop" ⟨[.ref S, .ref I], []⟩) R' s := fun hb => codeAny_builtin PyProof.Rows.F.entry_set_update_loop (Around.under_plainId PyProof.Rows.F.plain_set_update_loop _ ▸ hb)
  intro left
  induction left with
  | zero => exact fun i s e st j k => at_ (wpAny_bind (W.done s _ _ ((show i = n from e) ▸ st) fun t m => wpAny_pure (k t (more m) (g.stay n s t ((show i = n from e) ▸ j) m))))
  | succ left ih =>
    intro i s e st j k
    have lt : i < n := by omega
    refine at_ (wpAny_bind (W.item i s _ _ lt st fun v t hv st' m => wpAny_bind (wpAny_holding (g.add i v t lt hv (g.stay i s t j m) fun _ h' tk only up j' => ?_))))
    refine wpAny_pure ⟨plainId_quiet PyProof.Rows.F.plain_set_update_loop _, ih (i + 1) _ (by omega) (W.frame _ t _ _ st' up fun b hb o z => (only.2 b fun y => far (y ▸ hb)).trans z) j' fun t2 m2 jn => k t2 (Moved.trans W.gtrans ((more m).then_heap up fun b o hb z => ?_) m2) jn⟩
    exact (only.2 b fun y => hb (y ▸ List.mem_cons_self)).trans z
/-- what the loop leaves behind the call: the set is as the invariant says, all else stands -/
theorem kept_of {s t : Shared} {led : Bool} {c : String} {l : Addr} (m : Moved [s.heap.objs.size, s.heap.objs.size + 1] (fun a b => b = a) { s with heap := heapSI s.heap led c l } t) : ∃ h' tk, t = { s with heap := h', toks := tk } ∧ ∀ b o, s.heap.get? b = some o → h'.get? b = some o := by
  obtain ⟨h', g', d', tk, os'⟩ := t
  refine ⟨h', tk, ?_, fun b o z => m.heap b o (fun y => ?_) (Heap.get?_push_of_some _ (Heap.get?_push_of_some _ z))⟩
  · have e1 : g' = s.gens := m.gens
    have e2 : d' = s.drawn := m.drawn
    have e3 : os' = s.os := m.os
    rw [e1, e2, e3]
  · have lt := Heap.lt_size z
    simp only [List.mem_cons, List.not_mem_nil, or_false] at y
    exact y.elim (fun e => Nat.lt_irrefl _ (e ▸ lt)) fun e => Nat.lt_irrefl _ (Nat.lt_of_succ_lt (e ▸ lt))
variable {E : Value → Shared → Prop} {s : Shared} {l : Addr} {items : Array Value} {Q : Value → Shared → Prop} {J : Nat → Shared → Prop}
/-- set(l) by an invariant, l a list or a tuple -/
theorem set_by (hh : A.handled = none) (hl : s.heap.IsList l items ∨ s.heap.IsTuple l items) (g : Grows prog w A.in1.in1.in1 s.heap.objs.size [s.heap.objs.size + 1] (fun a b => b = a) items.size (fun i v => items[i]? = some v) J)
    (j0 : ∀ led c, J 0 { s with heap := heapSI s.heap led c l }) (q : ∀ h' tk, J items.size { s with heap := h', toks := tk } → (∀ b o, s.heap.get? b = some o → h'.get? b = some o) → Q (.ref s.heap.objs.size) { s with heap := h', toks := tk }) :
    wpAny (model prog w) A (call (.type "set") [.ref l]) Q E s := by
  have lt : l < s.heap.objs.size := hl.elim (fun z => z.elim fun _ y => Heap.lt_size y.1) fun z => z.elim fun _ y => Heap.lt_size y.1
  have nI : l ≠ s.heap.objs.size + 1 := Nat.ne_of_lt (Nat.lt_succ_of_lt lt)
  have far : s.heap.objs.size ∉ [s.heap.objs.size + 1, l] := fun z => by
    simp only [List.mem_cons, List.not_mem_nil, or_false] at z
    exact z.elim (fun e => Nat.succ_ne_self _ e.symm) fun e => Nat.lt_irrefl _ (e ▸ lt)
  have fin : ∀ t, (∃ h' tk, t = { s with heap := h', toks := tk } ∧ J items.size { s with heap := h', toks := tk } ∧ ∀ b o, s.heap.get? b = some o → h'.get? b = some o) → Q (.ref s.heap.objs.size) t := fun t ⟨h', tk, e, j, k⟩ => e ▸ q h' tk j k
  have ends : ∀ {led : Bool} {c : String} {t : Shared}, Moved (s.heap.objs.size :: [s.heap.objs.size + 1]) (fun a b => b = a) { s with heap := heapSI s.heap led c l } t → J items.size t → ∃ h' tk, t = { s with heap := h', toks := tk } ∧ J items.size { s with heap := h', toks := tk } ∧ ∀ b o, s.heap.get? b = some o → h'.get? b = some o := fun m j =>
    (kept_of m).elim fun h' z => z.elim fun tk y => ⟨h', tk, y.1, y.1 ▸ j, y.2⟩
  have sz : ∀ led, (s.heap.push (freshSet led)).objs.size = s.heap.objs.size + 1 := fun led => Heap.size_push ..
  have itAt : ∀ led c, (heapSI s.heap led c l).get? (s.heap.objs.size + 1) = some { cls := .type c, data := .fields #[.ref l, .int 0 0] } := fun led c => by rw [← sz led]; exact Heap.get?_push_size _ rfl
  have up : ∀ led c b o, s.heap.get? b = some o → (heapSI s.heap led c l).get? b = some o := fun led c b o z => Heap.get?_push_of_some _ (Heap.get?_push_of_some _ z)
  rcases hl with hl | hl
  · exact set_list hl (fun led R k => loop_all (Walks.list (A := A.in1.in1.in1) (by simp [hh]) (s.heap.objs.size + 1) l nI items).toS far g items.size 0 _ (Nat.zero_add _) ⟨⟨_, itAt led _, rfl, rfl⟩, hl.elim fun o z => ⟨o, up _ _ _ _ z.1, z.2⟩⟩ (j0 led _) fun t m j => k t (ends m j)) fin
  · exact set_tuple hl (fun led R k => loop_all (Walks.tuple (A := A.in1.in1.in1) (by simp [hh]) (s.heap.objs.size + 1) l nI items).toS far g items.size 0 _ (Nat.zero_add _) ⟨⟨_, itAt led _, rfl, rfl⟩, hl.elim fun o z => ⟨o, up _ _ _ _ z.1, z.2⟩⟩ (j0 led _) fun t m j => k t (ends m j)) fin
end
end Dl
set_option Elab.async false
set_option linter.all false
set_option maxRecDepth 100000
set_option maxHeartbeats 4000000
/-! D17: len(set(xs)), xs texts and ints. -/
namespace Dl
open PySem PySem.Spec L2
def isK (ks : List Key) (k : Key) : Bool := ks.any fun x => decide (x = k)
theorem isK_iff {ks : List Key} {k : Key} : isK ks k = true ↔ k ∈ ks := by
  unfold isK
  rw [List.any_eq_true]
  constructor
  · rintro ⟨x, hx, e⟩
    rw [of_decide_eq_true e] at hx
    exact hx
  · exact fun h => ⟨k, h, decide_eq_true rfl⟩
theorem isK_app (ks ls : List Key) (k : Key) : isK (ks ++ ls) k = (isK ks k || isK ls k) := by
  unfold isK
  rw [List.any_append]
/-- how many unlike keys -/
def dcnt : List Key → List Key → Nat
  | _, [] => 0
  | seen, k :: ks => if isK seen k = true then dcnt seen ks else dcnt (seen ++ [k]) ks + 1
theorem dcnt_snoc (k : Key) : ∀ (ks seen : List Key), dcnt seen (ks ++ [k]) = if (isK seen k || isK ks k) = true then dcnt seen ks else dcnt seen ks + 1
  | [], seen => by
    simp only [List.nil_append, dcnt]
    rw [show isK ([] : List Key) k = false from rfl, Bool.or_false]
  | a :: ks, seen => by
    simp only [List.cons_append, dcnt]
    have ea : isK (a :: ks) k = (decide (a = k) || isK ks k) := rfl
    by_cases h : isK seen a = true
    · rw [if_pos h, if_pos h, dcnt_snoc k ks seen, ea]
      by_cases hk : a = k
      · subst hk; simp [h]
      · simp [hk]
    · rw [if_neg h, if_neg h, dcnt_snoc k ks, isK_app, ea]
      have e1 : isK [a] k = decide (a = k) := by simp [isK]
      rw [e1]
      by_cases hk : ((isK seen k || decide (a = k)) || isK ks k) = true
      · rw [if_pos hk, if_pos (by rw [← Bool.or_assoc]; exact hk)]
      · rw [if_neg hk, if_neg (by rw [← Bool.or_assoc]; exact hk)]
theorem dcnt_le : ∀ (ks seen : List Key), dcnt seen ks ≤ ks.length
  | [], _ => Nat.zero_le _
  | k :: ks, seen => by
    simp only [dcnt, List.length_cons]
    split
    · exact Nat.le_succ_of_le (dcnt_le ks seen)
    · exact Nat.succ_le_succ (dcnt_le ks _)
section
variable {prog : Program} {w : World} {A : Around} {E : Value → Shared → Prop} {s : Shared} {l : Addr} {items : Array Value} {ks : List Key} {Q : Value → Shared → Prop}
/-- the set of the first i keys -/
def KSet (prog : Program) (w : World) (S : Addr) (ks : List Key) (i : Nat) (t : Shared) : Prop := t.heap.SetOf (mixKind prog w) S (isK (ks.take i)) (dcnt [] (ks.take i))
theorem isK_one (a b : Key) : isK [a] b = decide (b = a) := by
  rw [Bool.eq_iff_iff, isK_iff, decide_eq_true_iff, List.mem_singleton]
/-- one key more -/
theorem kset_step {i : Nat} {key : Key} (e : ks[i]? = some key) : (fun k => isK (ks.take i) k || decide (k = key)) = isK (ks.take (i + 1)) ∧ (if isK (ks.take i) key = true then dcnt [] (ks.take i) else dcnt [] (ks.take i) + 1) = dcnt [] (ks.take (i + 1)) := by
  have one : ks.take (i + 1) = ks.take i ++ [key] := by rw [List.take_succ, e]; rfl
  rw [one, dcnt_snoc]
  exact ⟨funext fun k => by rw [isK_app, isK_one], by rw [show isK ([] : List Key) key = false from rfl, Bool.false_or]⟩
theorem kset_grows {S I : Addr} (apart : S ≠ I) (hsz : ks.length = items.size) (hb : items.size + 1 < scanBound) (hval : ∀ (i : Nat) (v : Value), items[i]? = some v → ∃ k, ks[i]? = some k ∧ keyIs k v = true) :
    Grows prog w A S [I] (fun a b => b = a) items.size (fun i v => items[i]? = some v) (KSet prog w S ks) where
  stay := fun i t t' ⟨o, es, ep, tb, ho, r⟩ m => ⟨o, es, ep, tb, m.heap S o (fun z => apart (List.mem_singleton.mp z)) ho, r⟩
  add := fun i v t lt hv j Q E k => by
    obtain ⟨key, e1, e2⟩ := hval i v hv
    have room : dcnt [] (ks.take i) ≤ i := Nat.le_trans (dcnt_le _ _) (List.length_take_le _ _)
    unfold setAdd
    refine wpAny_holding (wpAny_bind ((mixKind prog w).pyHash (k := key) e2 (wpAny_setAddHashed_of (knd := mixKind prog w) (k := key) (s := { t with toks := _ }) e2 (key_scan (relV_key e2)) j (by omega) fun h' only j' => ?_)))
    refine k _ h' _ only (by first | exact Nat.le_add_right _ _ | exact Nat.le_succ _) ?_
    show h'.SetOf (mixKind prog w) S _ _
    rw [← (kset_step e1).1, ← (kset_step e1).2]
    exact j'
theorem kset_of (hh : A.handled = none) (hl : s.heap.IsList l items ∨ s.heap.IsTuple l items) (hsz : ks.length = items.size) (hb : items.size + 1 < scanBound) (hval : ∀ (i : Nat) (v : Value), items[i]? = some v → ∃ k, ks[i]? = some k ∧ keyIs k v = true)
    (q : ∀ (h' : Heap) (tk : Nat), h'.SetOf (mixKind prog w) s.heap.objs.size (isK ks) (dcnt [] ks) → (∀ b o, s.heap.get? b = some o → h'.get? b = some o) → Q (.ref s.heap.objs.size) { s with heap := h', toks := tk }) :
    wpAny (model prog w) A (call (.type "set") [.ref l]) Q E s := by
  refine set_by hh hl (kset_grows (ks := ks) (Nat.ne_of_lt (Nat.lt_succ_self _)) hsz hb hval) (fun led c => ?_) fun h' tk j kp => q h' tk ?_ kp
  · refine ⟨_, #[], 0, _, Heap.get?_push_of_some _ (Heap.get?_push_size _ rfl), ⟨rfl, rfl, rfl⟩, rfl, (fun e z => by simp at z), (fun k => by simp [isK]), (by decide), rfl, rfl⟩
  · have j' : h'.SetOf (mixKind prog w) s.heap.objs.size (isK (ks.take items.size)) (dcnt [] (ks.take items.size)) := j
    rw [← hsz, List.take_length] at j'
    exact j'
theorem set_of_list (hh : A.handled = none) (hl : s.heap.IsList l items) (hsz : ks.length = items.size) (hb : items.size + 1 < scanBound) (hval : ∀ (i : Nat) (v : Value), items[i]? = some v → ∃ k, ks[i]? = some k ∧ keyIs k v = true)
    (q : ∀ (h' : Heap) (tk : Nat), h'.SetOf (mixKind prog w) s.heap.objs.size (isK ks) (dcnt [] ks) → (∀ b o, s.heap.get? b = some o → h'.get? b = some o) → Q (.ref s.heap.objs.size) { s with heap := h', toks := tk }) :
    wpAny (model prog w) A (call (.type "set") [.ref l]) Q E s := kset_of hh (.inl hl) hsz hb hval q
theorem set_of_tuple (hh : A.handled = none) (hl : s.heap.IsTuple l items) (hsz : ks.length = items.size) (hb : items.size + 1 < scanBound) (hval : ∀ (i : Nat) (v : Value), items[i]? = some v → ∃ k, ks[i]? = some k ∧ keyIs k v = true)
    (q : ∀ (h' : Heap) (tk : Nat), h'.SetOf (mixKind prog w) s.heap.objs.size (isK ks) (dcnt [] ks) → (∀ b o, s.heap.get? b = some o → h'.get? b = some o) → Q (.ref s.heap.objs.size) { s with heap := h', toks := tk }) :
    wpAny (model prog w) A (call (.type "set") [.ref l]) Q E s := kset_of hh (.inr hl) hsz hb hval q
end
end Dl
set_option Elab.async false
set_option linter.all false
set_option maxRecDepth 100000
set_option maxHeartbeats 4000000
/-! D18: len(set(xs)) as a rule; enumerate of tuples. -/
namespace Dl
open PySem PySem.Spec L2
section
variable {X : Cx}
theorem keys_val (X : Cx) : ∀ {ks : List Key} {us : List Value}, Vals (ks.map kV) us → ∀ (i : Nat) (v : Value), us[i]? = some v → ∃ k, ks[i]? = some k ∧ keyIs k v = true
  | [], _, .nil, i, v, e => by simp at e
  | k :: ks, _, .cons r t, 0, v, e => by
    simp at e
    subst e
    exact ⟨k, rfl, kV_is (P := X.prog) (w := X.w) r⟩
  | k :: ks, _, .cons r t, i + 1, v, e => by
    obtain ⟨k', e1, e2⟩ := keys_val X t i v (by simpa using e)
    exact ⟨k', by simpa using e1, e2⟩
def rSetK (X : Cx) : List V → Hp → VK → Prop := fun vs H Q => ∃ (a : Addr) (ks : List Key), vs = [.ref a] ∧ (SqL X.K H a (ks.map kV) ∨ SqT X.K H a (ks.map kV)) ∧ ks.length + 1 < scanBound ∧
  ∀ p, H p = none → Q (.ref p) (upd H p (SetK X.prog X.w p (isK ks) (dcnt [] ks)))
theorem cr_setK (hcalm : X.calm = true) : CallR X (.type "set") (rSetK X) := by
  intro pins s σ H vs us Q I r ⟨a, ks, ev, src, hb, q⟩
  subst ev
  obtain ⟨u, eu, ru⟩ := vals1 r
  subst eu
  cases ru
  have fin : ∀ (h' : Heap) (tk : Nat), h'.SetOf (mixKind X.prog X.w) s.heap.objs.size (isK ks) (dcnt [] ks) → (∀ b o, s.heap.get? b = some o → h'.get? b = some o) → EP X pins σ Q (.ref s.heap.objs.size) { s with heap := h', toks := tk } := fun h' tk hS kp =>
    ⟨.ref _, _, I.laid (t' := tk) kp (Nat.le_refl _) (setK_new hS), rfl, q _ (I.hok.fresh (Nat.le_refl _))⟩
  rcases src with src | src
  · obtain ⟨its, rv, pl, _⟩ := I.list src
    have hl : ks.length = its.toArray.size := by rw [List.size_toArray, ← rv.length, List.length_map]
    exact set_of_list (I.ok.hd hcalm) pl.isList hl (by rw [← hl]; exact hb) (fun i v e => keys_val X rv i v (by rw [← Array.getElem?_toList] at e; exact e)) fin
  · obtain ⟨its, rv, pl, _⟩ := I.tuple src
    have hl : ks.length = its.toArray.size := by rw [List.size_toArray, ← rv.length, List.length_map]
    exact set_of_tuple (I.ok.hd hcalm) pl hl (by rw [← hl]; exact hb) (fun i v e => keys_val X rv i v (by rw [← Array.getElem?_toList] at e; exact e)) fin
def rLenK (X : Cx) : List V → Hp → VK → Prop := fun vs H Q => ∃ (a : Addr) (S : Key → Bool) (n : Nat), vs = [.ref a] ∧ H a = some (SetK X.prog X.w a S n) ∧ Q (.int n) H
theorem cr_lenK : CallR X (.builtin "len") (rLenK X) := by
  intro pins s σ H vs us Q I r ⟨a, S, n, ev, ha, q⟩
  subst ev
  obtain ⟨u, eu, ru⟩ := vals1 r
  subst eu
  cases ru
  obtain ⟨o, es, ep, t, ho, hex, hd, h1, h2, h3, hf, hn⟩ := setK_get I ha
  have h4 : es.size < 4096 := by unfold scanBound at h3; exact h3
  exact call_len_set ho hex hd hf (by omega) ⟨.int n, H, I.tok _, ⟨_, by rw [hn]⟩, q⟩
def lenSet (d : D) : Option D := match d with
  | .lst ds => match keysOf ds with
    | some ks => if ks.length + 1 < scanBound then some (.int (dcnt [] ks)) else none
    | none => none
  | .tup ds => match keysOf ds with
    | some ks => if ks.length + 1 < scanBound then some (.int (dcnt [] ks)) else none
    | none => none
  | .ktp ds => match keysOf ds with
    | some ks => if ks.length + 1 < scanBound then some (.int (dcnt [] ks)) else none
    | none => none
  | _ => none
theorem de_lenSet {a : Expr} {f : E} {p p2 q pos : Pos} (hcalm : X.calm = true) (hg : Gl X "len") (hm : X.mg "len" = none) (hg2 : Gl X "set") (hm2 : X.mg "set" = none) (ha : DE X a f)
    (n1 : starEach [a] X.env = (false, eval a X.env) :: starEach [] X.env := by rfl) (n2 : starEach [.Call (.Name "set" p2) [a] [] q] X.env = (false, eval (.Call (.Name "set" p2) [a] [] q) X.env) :: starEach [] X.env := by rfl) :
    DE X (.Call (.Name "len" p) [.Call (.Name "set" p2) [a] [] q] [] pos) (e1 lenSet f) :=
  pe_imp (pe_callB cr_lenK hg hm bt_len (pa_cons (pe_callTy (cr_setK hcalm) hg2 hm2 bt_set (pa_cons ha pa_nil n1) (by decide) (by decide) n1 rfl) pa_nil n2) (by decide) (by decide) n2 rfl) fun σ H Q ⟨G, B, env, w, d, w', hd, e, k⟩ => by
  obtain ⟨x, ea, eg⟩ := e1_some e
  refine ⟨G, B, env, w, x, w', hd, ea, fun v H1 s1 h1 r => ?_⟩
  have fin : ∀ {a : Addr} {ks : List Key}, (SqL X.K H1 a (ks.map kV) ∨ SqT X.K H1 a (ks.map kV)) → ks.length + 1 < scanBound → d = .int (dcnt [] ks) → rSetK X [.ref a] H1 (fun y H2 => rLenK X [y] H2 Q) := fun src hb ed =>
    ⟨_, _, rfl, src, hb, fun p np => ⟨_, _, _, rfl, upd_same, k _ _ (s1.trans (.new _ np)) (h1.new _ np) (ed ▸ .int _)⟩⟩
  unfold lenSet at eg
  split at eg
  all_goals first | (cases eg; done) | skip
  all_goals
    split at eg
    · rename_i ks hk
      split at eg
      · rename_i hb
        cases eg
        first
          | (cases r with
             | lst h z rr => obtain ⟨rfl, _⟩ := rr.keys hk; exact fin (.inl h.sq) hb rfl)
          | (cases r with
             | tup h z rr => obtain ⟨rfl, _⟩ := rr.keys hk; exact fin (.inr (SqT.of h)) hb rfl)
          | (cases r with
             | ktp h rr => obtain ⟨rfl, _⟩ := rr.keys hk; exact fin (.inr h.sq) hb rfl)
      · cases eg
    · cases eg
end
end Dl
set_option Elab.async false
set_option linter.all false
set_option maxRecDepth 100000
set_option maxHeartbeats 4000000
/-! P0: what mirrors answer, by weakest preconditions. -/
namespace Dl
open PySem L2
/-- it answers, and the answer is as Q says -/
def W {α : Type} (o : Option (α × Dr)) (Q : α → Dr → Prop) : Prop := ∃ d w, o = some (d, w) ∧ Q d w
def Wd {α : Type} (o : Option α) (Q : α → Prop) : Prop := ∃ d, o = some d ∧ Q d
section
variable {α β : Type} {Q : α → Dr → Prop}
@[simp] theorem W_some (d : α) (w : Dr) : W (some (d, w)) Q ↔ Q d w := by
  constructor
  · rintro ⟨d', w', h, q⟩; cases h; exact q
  · intro q; exact ⟨d, w, rfl, q⟩
@[simp] theorem W_none : W (none : Option (α × Dr)) Q ↔ False := by
  constructor
  · rintro ⟨d', w', h, q⟩; cases h
  · exact False.elim
@[simp] theorem Wd_some {Q : α → Prop} (d : α) : Wd (some d) Q ↔ Q d := by
  constructor
  · rintro ⟨d', h, q⟩; cases h; exact q
  · intro q; exact ⟨d, rfl, q⟩
@[simp] theorem Wd_none {Q : α → Prop} : Wd (none : Option α) Q ↔ False := by
  constructor
  · rintro ⟨d', h, q⟩; cases h
  · exact False.elim
@[simp] theorem Wd_if {Q : α → Prop} {c : Prop} [Decidable c] {a : Option α} : Wd (if c then a else none) Q ↔ c ∧ Wd a Q := by
  by_cases h : c
  · simp [h]
  · simp [h, Wd_none]
@[simp] theorem W_if {c : Prop} [Decidable c] {a : Option (α × Dr)} : W (if c then a else none) Q ↔ c ∧ W a Q := by
  by_cases h : c
  · simp [h]
  · simp [h, W_none]
@[simp] theorem Wd_map {γ : Type} {Q : α → Prop} {o : Option γ} {f : γ → α} : Wd (o.map f) Q ↔ Wd o fun x => Q (f x) := by
  cases o with
  | none => simp [Wd_none]
  | some x => simp [Wd_some]
theorem W.mono {o : Option (α × Dr)} {Q' : α → Dr → Prop} (h : W o Q) (k : ∀ d w, Q d w → Q' d w) : W o Q' := let ⟨d, w, e, q⟩ := h; ⟨d, w, e, k d w q⟩
theorem W.eq {o : Option (α × Dr)} {d : α} {w : Dr} (h : W o fun d' w' => d' = d ∧ w' = w) : o = some (d, w) := by
  obtain ⟨_, _, e, rfl, rfl⟩ := h
  exact e
theorem W.eqF {φ : Fn} {xs : List D} {d : D} {w : Dr} {Q : D → Dr → Prop} (h : W (φ xs w) fun d' w' => d' = d ∧ w' = w) : W (φ xs w) Q ↔ Q d w := by
  rw [h.eq]
  exact W_some _ _
theorem W_of {o : Option (α × Dr)} {d : α} {w : Dr} (h : o = some (d, w)) : W o Q ↔ Q d w := by
  rw [h]; exact W_some _ _
end
section
variable {env : Env} {w : Dr} {Q : D → Dr → Prop} {QA : List D → Dr → Prop} {QS : Fl → Dr → Prop}
@[simp] theorem W_eC (d : D) : W (eC d env w) Q ↔ Q d w := W_some _ _
@[simp] theorem W_eVar (i : Nat) : W (eVar i env w) Q ↔ ∃ d, env[i]? = some (.sh d) ∧ Q d w := by
  unfold eVar
  split
  · rename_i d e; rw [W_some]; simp [e]
  · rename_i h
    rw [W_none]
    constructor
    · exact False.elim
    · rintro ⟨d, e, _⟩; exact h d e
@[simp] theorem W_e1 (g : D → Option D) (a : E) : W (e1 g a env w) Q ↔ W (a env w) fun x w1 => Wd (g x) fun d => Q d w1 := by
  unfold e1
  cases a env w with
  | none => simp [W_none]
  | some p =>
    obtain ⟨x, w1⟩ := p
    simp only [W_some]
    cases g x with
    | none => simp [W_none, Wd_none]
    | some d => simp [W_some, Wd_some]
@[simp] theorem W_e2 (g : D → D → Option D) (a b : E) : W (e2 g a b env w) Q ↔ W (a env w) fun x w1 => W (b env w1) fun y w2 => Wd (g x y) fun d => Q d w2 := by
  unfold e2
  cases a env w with
  | none => simp [W_none]
  | some p =>
    obtain ⟨x, w1⟩ := p
    simp only [W_some]
    cases b env w1 with
    | none => simp [W_none]
    | some p =>
      obtain ⟨y, w2⟩ := p
      simp only [W_some]
      cases g x y with
      | none => simp [W_none, Wd_none]
      | some d => simp [W_some, Wd_some]
@[simp] theorem W_e3 (g g' : D → D → Option D) (a b c : E) : W (e3 g g' a b c env w) Q ↔ W (a env w) fun x w1 => W (b env w1) fun y w2 => Wd (g x y) fun d => ∃ t, d = .bl t ∧ if t = true then W (c env w2) fun z w3 => Wd (g' y z) fun e => Q e w3 else Q (.bl false) w2 := by
  unfold e3
  cases a env w with
  | none => simp [W_none]
  | some p =>
    obtain ⟨x, w1⟩ := p
    simp only [W_some]
    cases b env w1 with
    | none => simp [W_none]
    | some p =>
      obtain ⟨y, w2⟩ := p
      simp only [W_some]
      cases g x y with
      | none => simp [W_none, Wd_none]
      | some d =>
        simp only [Wd_some]
        cases d with
        | bl t =>
          cases t with
          | false => simp [W_some]
          | true =>
            simp only [D.bl.injEq, exists_eq_left', if_true]
            cases c env w2 with
            | none => simp [W_none]
            | some p =>
              obtain ⟨z, w3⟩ := p
              simp only [W_some]
              cases g' y z with
              | none => simp [W_none, Wd_none]
              | some e => simp [W_some, Wd_some]
        | _ => simp [W_none]
@[simp] theorem W_eAnd (a b : E) : W (eAnd a b env w) Q ↔ W (a env w) fun x w1 => ∃ t, x = .bl t ∧ if t = true then W (b env w1) Q else Q (.bl false) w1 := by
  unfold eAnd
  cases a env w with
  | none => simp [W_none]
  | some p =>
    obtain ⟨x, w1⟩ := p
    simp only [W_some]
    cases x with
    | bl t => cases t <;> simp [W_some]
    | _ => simp [W_none]
@[simp] theorem W_eOr (a b : E) : W (eOr a b env w) Q ↔ W (a env w) fun x w1 => ∃ t, x = .bl t ∧ if t = true then Q (.bl true) w1 else W (b env w1) Q := by
  unfold eOr
  cases a env w with
  | none => simp [W_none]
  | some p =>
    obtain ⟨x, w1⟩ := p
    simp only [W_some]
    cases x with
    | bl t => cases t <;> simp [W_some]
    | _ => simp [W_none]
@[simp] theorem W_eNot (a : E) : W (eNot a env w) Q ↔ W (a env w) fun x w1 => ∃ t, x = .bl t ∧ Q (.bl (!t)) w1 := by
  unfold eNot
  cases a env w with
  | none => simp [W_none]
  | some p =>
    obtain ⟨x, w1⟩ := p
    simp only [W_some]
    cases x with
    | bl t => simp [W_some]
    | _ => simp [W_none]
@[simp] theorem W_eIf (t a b : E) : W (eIf t a b env w) Q ↔ W (t env w) fun x w1 => ∃ t, x = .bl t ∧ if t = true then W (a env w1) Q else W (b env w1) Q := by
  unfold eIf
  cases t env w with
  | none => simp [W_none]
  | some p =>
    obtain ⟨x, w1⟩ := p
    simp only [W_some]
    cases x with
    | bl t => cases t <;> simp
    | _ => simp [W_none]
@[simp] theorem W_nil : W (aL [] env w) QA ↔ QA [] w := W_some _ _
@[simp] theorem W_cons (f : E) (fs : List E) : W (aL (f :: fs) env w) QA ↔ W (f env w) fun x w1 => W (aL fs env w1) fun xs w2 => QA (x :: xs) w2 := by
  show W (aCons f (aL fs) env w) QA ↔ _
  unfold aCons
  cases f env w with
  | none => simp [W_none]
  | some p =>
    obtain ⟨x, w1⟩ := p
    simp only [W_some]
    cases aL fs env w1 with
    | none => simp [W_none]
    | some p => obtain ⟨xs, w2⟩ := p; simp [W_some]
@[simp] theorem W_eApp (φ : Fn) (a : EA) : W (eApp φ a env w) Q ↔ W (a env w) fun xs w1 => W (φ xs w1) Q := by
  unfold eApp
  cases a env w with
  | none => simp [W_none]
  | some p => obtain ⟨x, w1⟩ := p; simp [W_some]
@[simp] theorem W_eBi (g : List D → Option D) (a : EA) : W (eBi g a env w) Q ↔ W (a env w) fun xs w1 => Wd (g xs) fun d => Q d w1 := by
  unfold eBi
  rw [W_eApp]
  constructor
  · refine fun h => h.mono fun xs w1 h => ?_
    cases e : g xs with
    | none => rw [e] at h; exact (W_none.mp h).elim
    | some d => rw [e] at h; exact (Wd_some _).mpr ((W_some _ _).mp h)
  · refine fun h => h.mono fun xs w1 h => ?_
    obtain ⟨d, e, q⟩ := h
    rw [e]
    exact (W_some _ _).mpr q
@[simp] theorem W_eCall (φ : Fn) (fs : List E) (dds : List D) : W (eCall φ fs dds env w) Q ↔ W (aL fs env w) fun xs w1 => W (φ (xs ++ dds) w1) Q := W_eApp _ _
@[simp] theorem W_eTup (fs : List E) : W (eTup fs env w) Q ↔ W (aL fs env w) fun xs w1 => Q (.tup xs) w1 := by
  unfold eTup
  cases aL fs env w with
  | none => simp [W_none]
  | some p => obtain ⟨x, w1⟩ := p; simp [W_some]
@[simp] theorem W_eLst (fs : List E) : W (eLst fs env w) Q ↔ W (aL fs env w) fun xs w1 => Q (.lst xs) w1 := by
  unfold eLst
  cases aL fs env w with
  | none => simp [W_none]
  | some p => obtain ⟨x, w1⟩ := p; simp [W_some]
@[simp] theorem W_eMeth (c m : Str) (φ : Fn) (a : E) (fs : List E) (dds : List D) : W (eMeth c m φ a fs dds env w) Q ↔ W (a env w) fun x w1 => ∃ gs, x = .obj c gs ∧ gs.lookup m = none ∧ W (aL fs env w1) fun xs w2 => W (φ (.obj c gs :: (xs ++ dds)) w2) Q := by
  unfold eMeth
  cases a env w with
  | none => simp [W_none]
  | some p =>
    obtain ⟨x, w1⟩ := p
    simp only [W_some]
    cases x with
    | obj c' gs =>
      simp only [W_if]
      constructor
      · rintro ⟨⟨rfl, h⟩, q⟩
        refine ⟨gs, rfl, h, ?_⟩
        cases e : aL fs env w1 with
        | none => rw [e] at q; exact (W_none.mp q).elim
        | some p => obtain ⟨xs, w2⟩ := p; rw [e] at q; exact (W_some _ _).mpr q
      · rintro ⟨gs', e, h, q⟩
        cases e
        refine ⟨⟨rfl, h⟩, ?_⟩
        obtain ⟨xs, w2, e, q⟩ := q
        rw [e]; exact q
    | _ => simp [W_none]
@[simp] theorem W_eProp (c : Str) (φ : Fn) (a : E) : W (eProp c φ a env w) Q ↔ W (a env w) fun x w1 => ∃ gs, x = .obj c gs ∧ W (φ [.obj c gs] w1) Q := by
  unfold eProp
  cases a env w with
  | none => simp [W_none]
  | some p =>
    obtain ⟨x, w1⟩ := p
    simp only [W_some]
    cases x with
    | obj c' gs =>
      simp only [W_if]
      constructor
      · rintro ⟨rfl, q⟩; exact ⟨gs, rfl, q⟩
      · rintro ⟨gs', e, q⟩; cases e; exact ⟨rfl, q⟩
    | _ => simp [W_none]
@[simp] theorem W_eFld (c f : Str) (a : E) : W (eFld c f a env w) Q ↔ W (a env w) fun x w1 => ∃ gs, x = .obj c gs ∧ Wd (gs.lookup f) fun d => Q d w1 := by
  unfold eFld eObj
  rw [W_e1]
  constructor
  · refine fun h => h.mono fun x w1 h0 => ?_
    cases x with
    | obj c' gs =>
      simp only [Wd_if] at h0
      obtain ⟨hc, h1⟩ := h0
      subst hc
      exact ⟨gs, rfl, h1⟩
    | _ => exact (Wd_none.mp h0).elim
  · refine fun h => h.mono fun x w1 h0 => ?_
    obtain ⟨gs, rfl, h1⟩ := h0
    simp only [Wd_if, true_and]
    exact h1
@[simp] theorem W_i1 (g : D → Option (List D)) (f : E) : W (i1 g f env w) QA ↔ W (f env w) fun x w1 => Wd (g x) fun ds => QA ds w1 := by
  unfold i1
  cases f env w with
  | none => simp [W_none]
  | some p =>
    obtain ⟨x, w1⟩ := p
    simp only [W_some]
    cases g x with
    | none => simp [W_none, Wd_none]
    | some d => simp [W_some, Wd_some]
@[simp] theorem W_iRange1 (f : E) : W (iRange1 f env w) QA ↔ W (f env w) fun x w1 => ∃ j, x = .int j ∧ (-1000000 ≤ j ∧ j ≤ 1000000) ∧ QA (rangeD 0 j.toNat) w1 := by
  unfold iRange1
  rw [W_i1]
  constructor
  · refine fun h => h.mono fun x w1 h => ?_
    cases x with
    | int j =>
      simp only [Wd_if, Wd_some] at h
      exact ⟨j, rfl, h⟩
    | _ => exact (Wd_none.mp h).elim
  · refine fun h => h.mono fun x w1 h => ?_
    obtain ⟨j, rfl, h⟩ := h
    simp only [Wd_if, Wd_some]
    exact h
@[simp] theorem W_eComp (vs : List Nat) (p : Pat) (c e : E) (it : EA) : W (eComp vs p c e it env w) Q ↔ W (it env w) fun ds w1 => W (compD vs p c e ds env w1) fun xs w2 => Q (.lst xs) w2 := by
  unfold eComp
  cases it env w with
  | none => simp [W_none]
  | some q =>
    obtain ⟨ds, w1⟩ := q
    simp only [W_some]
    cases compD vs p c e ds env w1 with
    | none => simp [W_none]
    | some q => obtain ⟨xs, w2⟩ := q; simp [W_some]
@[simp] theorem W_eComp2 (vs : List Nat) (p : Pat) (c : E) (it1 : EA) (vs1 : List Nat) (p1 : Pat) (c1 e : E) (it : EA) : W (eComp2 vs p c it1 vs1 p1 c1 e it env w) Q ↔ W (it env w) fun ds w1 => W (comp2D vs p c it1 vs1 p1 c1 e ds env w1) fun xs w2 => xs.length ≤ sizeLine ∧ Q (.lst xs) w2 := by
  unfold eComp2
  cases it env w with
  | none => simp [W_none]
  | some q =>
    obtain ⟨ds, w1⟩ := q
    simp only [W_some]
    cases comp2D vs p c it1 vs1 p1 c1 e ds env w1 with
    | none => simp [W_none]
    | some q => obtain ⟨xs, w2⟩ := q; simp only [W_some, W_if]
@[simp] theorem W_eDcN (vs : List Nat) (p : Pat) (c e : E) (it : EA) : W (eDcN vs p c e it env w) Q ↔ W (it env w) fun ds w1 => W (compD vs p c e ds env w1) fun xs w2 => Wd (addN [] xs) fun ks => Q (.din ks) w2 := by
  unfold eDcN
  cases it env w with
  | none => simp [W_none]
  | some q =>
    obtain ⟨ds, w1⟩ := q
    simp only [W_some]
    cases compD vs p c e ds env w1 with
    | none => simp [W_none]
    | some q =>
      obtain ⟨xs, w2⟩ := q
      simp only [W_some]
      cases addN [] xs with
      | none => simp [W_none, Wd_none]
      | some ks => simp [W_some, Wd_some]
@[simp] theorem W_eInN (i : Nat) (f : E) : W (eInN i f env w) Q ↔ W (f env w) fun d w1 => ∃ k ks, nkT d = some k ∧ env[i]? = some (.ow (.din ks)) ∧ Q (.bl (ks.any fun x => decide (nkD 8 x = some k))) w1 := by
  unfold eInN
  cases f env w with
  | none => simp [W_none]
  | some q =>
    obtain ⟨d, w1⟩ := q
    simp only [W_some]
    split
    · rename_i k ks e1 e2
      rw [W_some, e1, e2]
      simp
    · rename_i h
      rw [W_none]
      constructor
      · exact False.elim
      · rintro ⟨k, ks, h1, h2, _⟩
        exact h k ks h1 h2
@[simp] theorem W_eTmp (i : Nat) (f : E) : W (eTmp i f env w) Q ↔ match (env[i]? : Option Slot) with
    | some (.ow d) => cont d = true ∧ W (f (env.set i (.sh d)) w) fun r w' => atom r = true ∧ Q r w'
    | _ => W (f env w) Q := by
  unfold eTmp
  cases env[i]? with
  | none => exact Iff.rfl
  | some s =>
    cases s with
    | ow d =>
      simp only [W_if]
      cases f (env.set i (.sh d)) w with
      | none => simp [W_none]
      | some q => obtain ⟨r, w1⟩ := q; simp only [W_some, W_if]
    | _ => exact Iff.rfl
@[simp] theorem W_eP_none {Q : Option Int → Dr → Prop} : W (eP none env w) Q ↔ Q none w := W_some _ _
@[simp] theorem W_eP_some {Q : Option Int → Dr → Prop} (f : E) : W (eP (some f) env w) Q ↔ W (f env w) fun x w1 => ∃ n, x = .int n ∧ Q (some n) w1 := by
  unfold eP
  simp only []
  cases f env w with
  | none => simp [W_none]
  | some q =>
    obtain ⟨x, w1⟩ := q
    simp only [W_some]
    cases x with
    | int n => simp [W_some]
    | _ => simp [W_none]
@[simp] theorem W_eSl (a : E) (lo hi : Option E) : W (eSl a lo hi env w) Q ↔ W (a env w) fun x w1 => W (eP lo env w1) fun l w2 => W (eP hi env w2) fun h w3 => Wd (slD x l h) fun d => Q d w3 := by
  unfold eSl
  cases a env w with
  | none => simp [W_none]
  | some q =>
    obtain ⟨x, w1⟩ := q
    simp only [W_some]
    cases eP lo env w1 with
    | none => simp [W_none]
    | some q =>
      obtain ⟨l, w2⟩ := q
      simp only [W_some]
      cases eP hi env w2 with
      | none => simp [W_none]
      | some q =>
        obtain ⟨h, w3⟩ := q
        simp only [W_some]
        cases slD x l h with
        | none => simp [W_none, Wd_none]
        | some d => simp [W_some, Wd_some]
@[simp] theorem W_eLockC (f : E) : W (eLockC f env w) Q ↔ W (f env w) fun d w' => cont d = true ∧ Q d w' := by
  unfold eLockC
  cases f env w with
  | none => simp [W_none]
  | some q => obtain ⟨r, w1⟩ := q; simp only [W_some, W_if]
@[simp] theorem W_eCallK (φ : Fn) (is : List Nat) (fs fk : List E) (dds : List D) : W (eCallK φ is fs fk dds env w) Q ↔ W (aL fs env w) fun xs w1 => W (aL fk env w1) fun ys w2 => (pickA is (xs ++ ys ++ dds)).length = is.length ∧ W (φ (pickA is (xs ++ ys ++ dds)) w2) Q := by
  unfold eCallK
  cases aL fs env w with
  | none => simp [W_none]
  | some q =>
    obtain ⟨xs, w1⟩ := q
    simp only [W_some]
    cases aL fk env w1 with
    | none => simp [W_none]
    | some q => obtain ⟨ys, w2⟩ := q; simp only [W_some, W_if]
/-! statements -/
@[simp] theorem W_sNx : W (sNx env w) QS ↔ QS (.nx env) w := W_some _ _
@[simp] theorem W_sBad : W (sBad env w) QS ↔ False := W_none
@[simp] theorem W_sSeq (a b : S) : W (sSeq a b env w) QS ↔ W (a env w) fun fl w1 => match fl with
    | .nx env1 => W (b env1 w1) QS
    | r => QS r w1 := by
  unfold sSeq
  cases a env w with
  | none => simp [W_none]
  | some p =>
    obtain ⟨fl, w1⟩ := p
    simp only [W_some]
    cases fl <;> simp [W_some]
@[simp] theorem W_sRet (e : E) : W (sRet e env w) QS ↔ W (e env w) fun d w1 => QS (.rt d) w1 := by
  unfold sRet
  cases e env w with
  | none => simp [W_none]
  | some p => obtain ⟨x, w1⟩ := p; simp [W_some]
@[simp] theorem W_sRetO (e : E) : W (sRetO e env w) QS ↔ W (e env w) fun d w1 => QS (.ro d) w1 := by
  unfold sRetO
  cases e env w with
  | none => simp [W_none]
  | some p => obtain ⟨x, w1⟩ := p; simp [W_some]
@[simp] theorem W_sDrop (e : E) : W (sDrop e env w) QS ↔ W (e env w) fun d w1 => QS (.nx env) w1 := by
  unfold sDrop
  cases e env w with
  | none => simp [W_none]
  | some p => obtain ⟨x, w1⟩ := p; simp [W_some]
@[simp] theorem W_sIf (t : E) (a b : S) : W (sIf t a b env w) QS ↔ W (t env w) fun x w1 => ∃ t, x = .bl t ∧ if t = true then W (a env w1) QS else W (b env w1) QS := by
  unfold sIf
  cases t env w with
  | none => simp [W_none]
  | some p =>
    obtain ⟨x, w1⟩ := p
    simp only [W_some]
    cases x with
    | bl t => cases t <;> simp
    | _ => simp [W_none]
@[simp] theorem W_sSet (i : Nat) (e : E) : W (sSet i e env w) QS ↔ W (e env w) fun d w1 => QS (.nx (env.set i (.sh d))) w1 := by
  unfold sSet
  cases e env w with
  | none => simp [W_none]
  | some p => obtain ⟨x, w1⟩ := p; simp [W_some]
@[simp] theorem W_sSetO (i : Nat) (e : E) : W (sSetO i e env w) QS ↔ W (e env w) fun d w1 => QS (.nx (env.set i (.ow d))) w1 := by
  unfold sSetO
  cases e env w with
  | none => simp [W_none]
  | some p => obtain ⟨x, w1⟩ := p; simp [W_some]
@[simp] theorem W_sPar (is : List Nat) (fs : List (Bool × E)) : W (sPar is fs env w) QS ↔ W (aL (fs.map (·.2)) env w) fun ds w1 => QS (.nx (setsE is (fs.map (·.1)) ds env)) w1 := by
  unfold sPar
  cases aL (fs.map (·.2)) env w with
  | none => simp [W_none]
  | some p => obtain ⟨x, w1⟩ := p; simp [W_some]
@[simp] theorem W_sAsg (p : Pat) (e : E) : W (sAsg p e env w) QS ↔ W (e env w) fun d w1 => Wd (asgP p d env) fun env1 => QS (.nx env1) w1 := by
  unfold sAsg
  cases e env w with
  | none => simp [W_none]
  | some q =>
    obtain ⟨d, w1⟩ := q
    simp only [W_some]
    cases asgP p d env with
    | none => simp [W_none, Wd_none]
    | some d => simp [W_some, Wd_some]
@[simp] theorem W_sFor (p : Pat) (it : EA) (body : S) : W (sFor p it body env w) QS ↔ W (it env w) fun ds w1 => W (forD p body ds env w1) QS := by
  unfold sFor
  cases it env w with
  | none => simp [W_none]
  | some q => obtain ⟨ds, w1⟩ := q; simp [W_some]
@[simp] theorem W_sFrz (i : Nat) (f : S) : W (sFrz i f env w) QS ↔ match (env[i]? : Option Slot) with
    | some (.ow d) => cont d = true ∧ W (f (env.set i (.sh d)) w) QS
    | _ => W (f env w) QS := by
  unfold sFrz
  cases env[i]? with
  | none => exact Iff.rfl
  | some s =>
    cases s with
    | ow d => simp only [W_if]
    | _ => exact Iff.rfl
@[simp] theorem W_sApp (i : Nat) (e : E) : W (sApp i e env w) QS ↔ W (e env w) fun d w1 => ∃ ds, env[i]? = some (.ow (.lst ds)) ∧ ds.length < sizeLine ∧ QS (.nx (env.set i (.ow (.lst (ds ++ [d]))))) w1 := by
  unfold sApp
  cases e env w with
  | none => simp [W_none]
  | some q =>
    obtain ⟨d, w1⟩ := q
    simp only [W_some]
    split
    · rename_i ds h
      rw [W_if, W_some, h]
      simp
    · rename_i h
      rw [W_none]
      constructor
      · exact False.elim
      · rintro ⟨ds, h', _⟩; exact h ds h'
@[simp] theorem W_sExt (i : Nat) (e : E) : W (sExt i e env w) QS ↔ W (e env w) fun d w1 => ∃ es ds, d = .lst es ∧ env[i]? = some (.ow (.lst ds)) ∧ ds.length + es.length ≤ sizeLine ∧ QS (.nx (env.set i (.ow (.lst (ds ++ es))))) w1 := by
  unfold sExt
  cases e env w with
  | none => simp [W_none]
  | some q =>
    obtain ⟨d, w1⟩ := q
    simp only [W_some]
    cases d with
    | lst es =>
      simp only []
      split
      · rename_i ds h
        rw [W_if, W_some, h]
        simp
      · rename_i h
        rw [W_none]
        constructor
        · exact False.elim
        · rintro ⟨es, ds, _, h', _⟩; exact h ds h'
    | _ => simp [W_none]
@[simp] theorem W_sPut (i : Nat) (ek ev : E) : W (sPut i ek ev env w) QS ↔ W (ev env w) fun d w1 => W (ek env w1) fun kd w2 => ∃ kvs k, env[i]? = some (.ow (.dic kvs)) ∧ keyOf kd = some k ∧ kvs.length < sizeLine ∧ QS (.nx (env.set i (.ow (.dic (putD kvs kd k d))))) w2 := by
  unfold sPut
  cases ev env w with
  | none => simp [W_none]
  | some q =>
    obtain ⟨d, w1⟩ := q
    simp only [W_some]
    cases ek env w1 with
    | none => simp [W_none]
    | some q =>
      obtain ⟨kd, w2⟩ := q
      simp only [W_some]
      split
      · rename_i kvs k h1 h2
        rw [W_if, W_some, h1, h2]
        simp
      · rename_i h
        rw [W_none]
        constructor
        · exact False.elim
        · rintro ⟨kvs, k, h1, h2, _⟩; exact h kvs k h1 h2
@[simp] theorem W_bodyD (n : Nat) (f : S) (ds : List D) : W (bodyD n f ds w) Q ↔ W (f (env0 n ds) w) fun fl w' => match fl with
    | .rt d => Q d w'
    | .nx _ => Q .non w'
    | _ => False := by
  unfold bodyD
  cases f (env0 n ds) w with
  | none => simp [W_none]
  | some q =>
    obtain ⟨fl, w1⟩ := q
    simp only [W_some]
    cases fl <;> simp [W_some, W_none]
@[simp] theorem W_bodyO (n : Nat) (f : S) (ds : List D) : W (bodyO n f ds w) Q ↔ W (f (env0 n ds) w) fun fl w' => match fl with
    | .ro d => Q d w'
    | _ => False := by
  unfold bodyO
  cases f (env0 n ds) w with
  | none => simp [W_none]
  | some q =>
    obtain ⟨fl, w1⟩ := q
    simp only [W_some]
    cases fl <;> simp [W_some, W_none]
@[simp] theorem W_bodyI (c : Str) (n : Nat) (f : S) (ds : List D) : W (bodyI c n f ds w) Q ↔ W (f (.ow (.obj c []) :: env0 n ds) w) fun fl w' => match fl with
    | .nx env' => ∃ gs, env'[0]? = some (.ow (.obj c gs)) ∧ doneN (gs.map (·.1)) = true ∧ Q (.obj c gs) w'
    | _ => False := by
  unfold bodyI
  cases f (.ow (.obj c []) :: env0 n ds) w with
  | none => simp [W_none]
  | some q =>
    obtain ⟨fl, w1⟩ := q
    simp only [W_some]
    cases fl with
    | nx env' =>
      simp only []
      split
      · rename_i c' gs h
        rw [W_if, W_some, h]
        constructor
        · rintro ⟨⟨rfl, hd⟩, q⟩; exact ⟨gs, rfl, hd, q⟩
        · rintro ⟨gs', e, hd, q⟩; cases e; exact ⟨⟨rfl, hd⟩, q⟩
      · rename_i h
        rw [W_none]
        constructor
        · exact False.elim
        · rintro ⟨gs, h', _⟩; exact h c gs h'
    | _ => simp [W_none]
@[simp] theorem W_sFldD (c f : Str) (e : E) : W (sFldD c f e env w) QS ↔ W (e env w) fun d w1 => ∃ gs, env[0]? = some (.ow (.obj c gs)) ∧ gs.length < 50 ∧ doneN (gs.map (·.1)) = false ∧ QS (.nx (env.set 0 (.ow (.obj c (putG f d gs))))) w1 := by
  unfold sFldD
  cases e env w with
  | none => simp [W_none]
  | some q =>
    obtain ⟨d, w1⟩ := q
    simp only [W_some]
    split
    · rename_i c' gs h
      rw [W_if, W_some, h]
      constructor
      · rintro ⟨⟨rfl, h1, h2⟩, q⟩; exact ⟨gs, rfl, h1, h2, q⟩
      · rintro ⟨gs', e, h1, h2, q⟩; cases e; exact ⟨⟨rfl, h1, h2⟩, q⟩
    · rename_i h
      rw [W_none]
      constructor
      · exact False.elim
      · rintro ⟨gs, h', _⟩; exact h c gs h'
@[simp] theorem W_sAppPop (i j : Nat) (f : E) : W (sAppPop i j f env w) QS ↔ W (f env w) fun x w1 => ∃ ix a b k d, x = .int ix ∧ env[i]? = some (.ow (.lst a)) ∧ env[j]? = some (.ow (.lst b)) ∧ seqIndex? ix b.length = some k ∧ b[k]? = some d ∧ (a.length < sizeLine ∧ -(2 ^ 63) ≤ ix ∧ ix < 2 ^ 63) ∧ QS (.nx ((env.set j (.ow (.lst (b.eraseIdx k)))).set i (.ow (.lst (a ++ [d]))))) w1 := by
  unfold sAppPop
  cases f env w with
  | none => simp [W_none]
  | some q =>
    obtain ⟨x, w1⟩ := q
    simp only [W_some]
    cases x with
    | int ix =>
      simp only []
      split
      · rename_i a b h1 h2
        constructor
        · intro h
          split at h
          · rename_i k hk
            split at h
            · rename_i d hd
              rw [W_if, W_some] at h
              exact ⟨ix, a, b, k, d, rfl, h1, h2, hk, hd, h⟩
            · exact (W_none.mp h).elim
          · exact (W_none.mp h).elim
        · rintro ⟨ix', a', b', k, d, e, e1, e2, hk, hd, h⟩
          cases e
          rw [h1] at e1
          rw [h2] at e2
          cases e1
          cases e2
          simp only [hk, hd, W_if, W_some]
          exact h
      · rename_i h
        rw [W_none]
        constructor
        · exact False.elim
        · rintro ⟨ix', a', b', k, d, _, e1, e2, _⟩
          exact h a' b' e1 e2
    | _ => simp [W_none]
/-! the draw -/
@[simp] theorem W_eDr (i : Nat) (f : DrF) : W (eDr i f env w) Q ↔ isDrw i env = true ∧ Q (.int (w.at f)) w := by
  unfold eDr
  rw [W_if, W_some]
@[simp] theorem W_eDrC (i : Nat) : W (eDrC i env w) Q ↔ isDrw i env = true ∧ Q (.lst (w.cells.map .int)) w := by
  unfold eDrC
  rw [W_if, W_some]
@[simp] theorem W_eDrL (i : Nat) : W (eDrL i env w) Q ↔ isDrw i env = true ∧ Q (.bl (decide (w.large ≠ []))) w := by
  unfold eDrL
  rw [W_if, W_some]
@[simp] theorem W_sDr (i : Nat) (f : DrF) (e : E) : W (sDr i f e env w) QS ↔ W (e env w) fun d w1 => ∃ n, d = .int n ∧ isDrw i env = true ∧ QS (.nx env) (w1.put f n) := by
  unfold sDr
  cases e env w with
  | none => simp [W_none]
  | some q =>
    obtain ⟨d, w1⟩ := q
    simp only [W_some]
    cases d with
    | int n => simp only [W_if, W_some, D.int.injEq, exists_eq_left']
    | _ => simp [W_none]
@[simp] theorem W_sDrPop (i : Nat) : W (sDrPop i env w) QS ↔ ∃ n ls, w.large = n :: ls ∧ isDrw i env = true ∧ QS (.nx env) { w with large := ls, rest := n } := by
  unfold sDrPop
  split
  · rename_i n ls h
    rw [W_if, W_some, h]
    constructor
    · rintro ⟨h1, h2⟩; exact ⟨n, ls, rfl, h1, h2⟩
    · rintro ⟨n', ls', e, h1, h2⟩; cases e; exact ⟨h1, h2⟩
  · rename_i h
    rw [W_none, h]
    simp
@[simp] theorem W_sDrDiv (i j : Nat) (fm : E) : W (sDrDiv i j fm env w) QS ↔ W (fm env w) fun d w1 => ∃ m, d = .int m ∧ (isDrw i env = true ∧ 0 < m ∧ m < 1073741824) ∧ QS (.nx (env.set j (.sh (.int (w.rest % m))))) (w1.put .rest (w.rest / m)) := by
  unfold sDrDiv
  cases fm env w with
  | none => simp [W_none]
  | some q =>
    obtain ⟨d, w1⟩ := q
    simp only [W_some]
    cases d with
    | int n => simp only [W_if, W_some, D.int.injEq, exists_eq_left']
    | _ => simp [W_none]
end
theorem W_seq {a b : S} {env : Env} {w : Dr} {Q : Fl → Dr → Prop} (R : Env → Dr → Prop) (h1 : W (a env w) fun fl w1 => ∃ env1, fl = .nx env1 ∧ R env1 w1) (h2 : ∀ env1 w1, R env1 w1 → W (b env1 w1) Q) : W (sSeq a b env w) Q := by
  rw [W_sSeq]
  refine h1.mono fun fl w1 h => ?_
  obtain ⟨env1, rfl, h⟩ := h
  exact h2 env1 w1 h
/-! patterns -/
@[simp] theorem asgP_nm (i : Nat) (d : D) (env : Env) : asgP (.nm i) d env = some (env.set i (.sh d)) := by unfold asgP; rfl
@[simp] theorem asgP_tup (ps : List Pat) (ds : List D) (env : Env) : asgP (.tp ps) (.tup ds) env = asgPs ps ds env := by rw [asgP]
@[simp] theorem asgP_ktp (ps : List Pat) (ds : List D) (env : Env) : asgP (.tp ps) (.ktp ds) env = asgPs ps ds env := by rw [asgP]
@[simp] theorem asgPs_nil (env : Env) : asgPs [] [] env = some env := by rw [asgPs]
@[simp] theorem asgPs_cons (p : Pat) (ps : List Pat) (d : D) (ds : List D) (env : Env) : asgPs (p :: ps) (d :: ds) env = (asgP p d env).bind fun env1 => asgPs ps ds env1 := by
  rw [asgPs]
  cases asgP p d env <;> rfl
@[simp] theorem wipeE_nil (env : Env) : wipeE env [] = env := rfl
@[simp] theorem wipeE_cons (env : Env) (v : Nat) (vs : List Nat) : wipeE env (v :: vs) = (wipeE env vs).set v .un := rfl
@[simp] theorem setsE_cons (i : Nat) (is : List Nat) (b : Bool) (bs : List Bool) (d : D) (ds : List D) (env : Env) : setsE (i :: is) (b :: bs) (d :: ds) env = setsE is bs ds (env.set i (if b then .ow d else .sh d)) := rfl
@[simp] theorem setsE_nil (env : Env) : setsE [] [] [] env = env := rfl
/-! loops -/
theorem W_for {α : Type} {p : Pat} {body : S} {enc : α → D} {Q : Fl → Dr → Prop} (P : List α → Env → Dr → Prop) : ∀ (l : List α) {env : Env} {w : Dr}, P [] env w →
    (∀ pre a post env w, l = pre ++ a :: post → P pre env w → Wd (asgP p (enc a) env) fun env1 => W (body env1 w) fun fl w2 => ∃ env2, (fl = .nx env2 ∨ fl = .ct env2) ∧ P (pre ++ [a]) env2 w2) →
    (∀ env w, P l env w → Q (.nx env) w) → W (forD p body (l.map enc) env w) Q := by
  intro l env w h0 hs hq
  suffices h : ∀ (post pre : List α) (env : Env) (w : Dr), l = pre ++ post → P pre env w → W (forD p body (post.map enc) env w) Q from h l [] env w rfl h0
  intro post
  induction post with
  | nil =>
    intro pre env w e h
    rw [List.append_nil] at e
    subst e
    exact (W_some _ _).mpr (hq _ _ h)
  | cons a post ih =>
    intro pre env w e h
    obtain ⟨env1, e1, fl, w2, e2, env2, hf, h2⟩ := hs pre a post env w e h
    have hr := ih (pre ++ [a]) env2 w2 (by rw [e]; simp) h2
    rw [List.map_cons]
    unfold forD
    rw [e1]
    simp only [e2]
    rcases hf with rfl | rfl <;> exact hr
/-- .. that ends by a return at a -/
theorem W_forR {α : Type} {p : Pat} {body : S} {enc : α → D} {Q : Fl → Dr → Prop} (P : List α → Env → Dr → Prop) (l1 : List α) (a : α) (l2 : List α) {env : Env} {w : Dr} (h0 : P [] env w)
    (hs : ∀ pre b post env w, l1 = pre ++ b :: post → P pre env w → Wd (asgP p (enc b) env) fun env1 => W (body env1 w) fun fl w2 => ∃ env2, (fl = .nx env2 ∨ fl = .ct env2) ∧ P (pre ++ [b]) env2 w2)
    (hr : ∀ env w, P l1 env w → Wd (asgP p (enc a) env) fun env1 => W (body env1 w) fun fl w2 => ∃ d, fl = .rt d ∧ Q (.rt d) w2) : W (forD p body ((l1 ++ a :: l2).map enc) env w) Q := by
  suffices h : ∀ (post pre : List α) (env : Env) (w : Dr), l1 = pre ++ post → P pre env w → W (forD p body ((post ++ a :: l2).map enc) env w) Q from h l1 [] env w rfl h0
  intro post
  induction post with
  | nil =>
    intro pre env w e h
    rw [List.append_nil] at e
    subst e
    obtain ⟨env1, e1, fl, w2, e2, d, rfl, hq⟩ := hr env w h
    rw [List.nil_append, List.map_cons]
    unfold forD
    rw [e1]
    simp only [e2]
    exact (W_some _ _).mpr hq
  | cons b post ih =>
    intro pre env w e h
    obtain ⟨env1, e1, fl, w2, e2, env2, hf, h2⟩ := hs pre b post env w e h
    have hr := ih (pre ++ [b]) env2 w2 (by rw [e]; simp) h2
    rw [List.cons_append, List.map_cons]
    unfold forD
    rw [e1]
    simp only [e2]
    rcases hf with rfl | rfl <;> exact hr
theorem W_comp {α : Type} {vs : List Nat} {p : Pat} {c e : E} {enc : α → D} {env : Env} {Q : List D → Dr → Prop} (P : List α → List D → Dr → Prop) : ∀ (l : List α) {w : Dr}, P [] [] w →
    (∀ pre a post xs w, l = pre ++ a :: post → P pre xs w → Wd (asgP p (enc a) (wipeE env vs)) fun env1 => W (c env1 w) fun t w1 => ∃ b, t = .bl b ∧ if b = true then W (e env1 w1) fun x w2 => P (pre ++ [a]) (xs ++ [x]) w2 else P (pre ++ [a]) xs w1) →
    (∀ xs w, P l xs w → Q xs w) → W (compD vs p c e (l.map enc) env w) Q := by
  intro l w h0 hs hq
  suffices h : ∀ (post pre : List α) (xs : List D) (w : Dr), l = pre ++ post → P pre xs w → W (compD vs p c e (post.map enc) env w) fun ys w' => P l (xs ++ ys) w' by
    refine (h l [] [] w rfl h0).mono fun ys w' h => hq _ _ (by simpa using h)
  intro post
  induction post with
  | nil =>
    intro pre xs w e h
    rw [List.append_nil] at e
    subst e
    exact (W_some _ _).mpr (by simpa using h)
  | cons a post ih =>
    intro pre xs w el h
    obtain ⟨env1, e1, t, w1, e2, b, rfl, hb⟩ := hs pre a post xs w el h
    rw [List.map_cons]
    unfold compD
    rw [e1]
    simp only [e2]
    cases b with
    | false =>
      exact ih (pre ++ [a]) xs w1 (by rw [el]; simp) hb
    | true =>
      obtain ⟨x, w2, e3, hb⟩ := hb
      obtain ⟨ys, w3, e4, h4⟩ := ih (pre ++ [a]) (xs ++ [x]) w2 (by rw [el]; simp) hb
      simp only [e3, e4]
      exact (W_some _ _).mpr (by simpa using h4)
/-- a comprehension without draws -/
theorem W_compP {α : Type} {vs : List Nat} {p : Pat} {c e : E} {enc : α → D} {env : Env} {w : Dr} {Q : List D → Dr → Prop} (l : List α) (t : α → Bool) (g : α → D)
    (hs : ∀ a ∈ l, Wd (asgP p (enc a) (wipeE env vs)) fun env1 => W (c env1 w) fun x w1 => x = .bl (t a) ∧ w1 = w ∧ (t a = true → W (e env1 w) fun x w2 => x = g a ∧ w2 = w)) (hq : Q ((l.filter t).map g) w) : W (compD vs p c e (l.map enc) env w) Q := by
  refine W_comp (P := fun pre xs w' => xs = (pre.filter t).map g ∧ w' = w) l ⟨rfl, rfl⟩ (fun pre a post xs w' el h => ?_) (fun xs w' h => by obtain ⟨rfl, rfl⟩ := h; exact hq)
  obtain ⟨rfl, rfl⟩ := h
  obtain ⟨env1, e1, x, w1, e2, rfl, rfl, h⟩ := hs a (by rw [el]; simp)
  refine ⟨env1, e1, _, _, e2, t a, rfl, ?_⟩
  cases ht : t a with
  | false => simp [ht]
  | true =>
    simp only [if_true]
    refine (h ht).mono fun x w2 h => ?_
    obtain ⟨rfl, rfl⟩ := h
    simp [ht]
/-- .. with two fors -/
theorem W_comp2P {α β : Type} {vs vs1 : List Nat} {p p1 : Pat} {c c1 e : E} {it1 : EA} {enc : α → D} {enc1 : β → D} {env : Env} {w : Dr} {Q : List D → Dr → Prop} (l : List α) (m : α → List β) (t : α → β → Bool) (g : α → β → D)
    (hs : ∀ a ∈ l, Wd (asgP p (enc a) (wipeE env vs)) fun env1 => W (c env1 w) fun x w1 => x = .bl true ∧ w1 = w ∧ W (it1 env1 w) fun ds w2 => ds = (m a).map enc1 ∧ w2 = w ∧ ∀ b ∈ m a, Wd (asgP p1 (enc1 b) (wipeE env1 vs1)) fun env2 => W (c1 env2 w) fun x w1 => x = .bl (t a b) ∧ w1 = w ∧ (t a b = true → W (e env2 w) fun x w2 => x = g a b ∧ w2 = w))
    (hq : Q (l.flatMap fun a => ((m a).filter (t a)).map (g a)) w) : W (comp2D vs p c it1 vs1 p1 c1 e (l.map enc) env w) Q := by
  have h : ∀ l : List α, (∀ a ∈ l, Wd (asgP p (enc a) (wipeE env vs)) fun env1 => W (c env1 w) fun x w1 => x = .bl true ∧ w1 = w ∧ W (it1 env1 w) fun ds w2 => ds = (m a).map enc1 ∧ w2 = w ∧ ∀ b ∈ m a, Wd (asgP p1 (enc1 b) (wipeE env1 vs1)) fun env2 => W (c1 env2 w) fun x w1 => x = .bl (t a b) ∧ w1 = w ∧ (t a b = true → W (e env2 w) fun x w2 => x = g a b ∧ w2 = w)) →
      comp2D vs p c it1 vs1 p1 c1 e (l.map enc) env w = some (l.flatMap fun a => ((m a).filter (t a)).map (g a), w) := by
    intro l
    induction l with
    | nil => intro _; rfl
    | cons a l ih =>
      intro hs
      have ih := ih fun b hb => hs b (List.mem_cons_of_mem _ hb)
      obtain ⟨env1, e1, x, w1, e2, rfl, rfl, ds, w2, e3, rfl, rfl, h⟩ := hs a List.mem_cons_self
      rw [List.map_cons]
      unfold comp2D
      rw [e1]
      simp only [e2, e3]
      have h4 : compD vs1 p1 c1 e ((m a).map enc1) env1 w2 = some (((m a).filter (t a)).map (g a), w2) := (W_compP (Q := fun xs w' => xs = ((m a).filter (t a)).map (g a) ∧ w' = w2) (m a) (t a) (g a) h ⟨rfl, rfl⟩).eq
      simp only [h4, ih, List.flatMap_cons]
  exact ⟨_, _, h l hs, hq⟩
end Dl
set_option Elab.async false
set_option linter.all false
set_option maxRecDepth 100000
set_option maxHeartbeats 4000000
/-! P1: encodings, keys, order, membership. -/
namespace Dl
open PySem L2
/-! ### equality and membership -/
theorem okD_str (n : Nat) (x : Str) : okD n (.str x) = true := by cases n <;> rfl
theorem okD_int (n : Nat) (x : Int) : okD n (.int x) = true := by cases n <;> rfl
theorem okD_bl (n : Nat) (x : Bool) : okD n (.bl x) = true := by cases n <;> rfl
theorem okD_non (n : Nat) : okD n .non = true := by cases n <;> rfl
theorem okD_tup (n : Nat) (ds : List D) : okD (n + 1) (.tup ds) = ds.all (okD n) := rfl
theorem okD_ktp (n : Nat) (ds : List D) : okD (n + 1) (.ktp ds) = ds.all (okD n) := rfl
theorem okD_lst (n : Nat) (ds : List D) : okD (n + 1) (.lst ds) = ds.all (okD n) := rfl
theorem eqD_str (x y : Str) : eqD (.str x) (.str y) = decide (x = y) := by
  show (x == y) = _
  by_cases h : x = y <;> simp [h]
theorem eqD_int (x y : Int) : eqD (.int x) (.int y) = decide (x = y) := by
  show (x == y) = _
  by_cases h : x = y <;> simp [h]
theorem cEq_str (x y : Str) : cEq (.str x) (.str y) = some (.bl (decide (x = y))) := by
  unfold cEq
  rw [okD_str, okD_str, eqD_str]
  rfl
theorem cEq_int (x y : Int) : cEq (.int x) (.int y) = some (.bl (decide (x = y))) := by
  unfold cEq
  rw [okD_int, okD_int, eqD_int]
  rfl
theorem cNe_str (x y : Str) : cNe (.str x) (.str y) = some (.bl (!decide (x = y))) := by
  unfold cNe
  rw [okD_str, okD_str, eqD_str]
  rfl
theorem cNe_int (x y : Int) : cNe (.int x) (.int y) = some (.bl (!decide (x = y))) := by
  unfold cNe
  rw [okD_int, okD_int, eqD_int]
  rfl
theorem cLe_int (x y : Int) : cLe (.int x) (.int y) = some (.bl (decide (x ≤ y))) := rfl
theorem cGt_int (x y : Int) : cGt (.int x) (.int y) = some (.bl (decide (y < x))) := rfl
abbrev Pr := Str × Str
def dPr (x : Pr) : D := .tup [.str x.1, .str x.2]
def dPP (x : Pr × Pr) : D := .tup [dPr x.1, dPr x.2]
theorem eqD_tup2 (a b c d : D) : eqD (.tup [a, b]) (.tup [c, d]) = (eqD a c && eqD b d) := by
  show PyData.eqvAll [toPy a, toPy b] [toPy c, toPy d] = _
  simp [PyData.eqvAll, eqD]
theorem eqD_pr (x y : Pr) : eqD (dPr x) (dPr y) = decide (x = y) := by
  unfold dPr
  rw [eqD_tup2, eqD_str, eqD_str]
  obtain ⟨a, b⟩ := x
  obtain ⟨c, d⟩ := y
  by_cases h1 : a = c <;> by_cases h2 : b = d <;> simp [h1, h2]
theorem eqD_pp (x y : Pr × Pr) : eqD (dPP x) (dPP y) = decide (x = y) := by
  unfold dPP
  rw [eqD_tup2, eqD_pr, eqD_pr]
  obtain ⟨a, b⟩ := x
  obtain ⟨c, d⟩ := y
  by_cases h1 : a = c <;> by_cases h2 : b = d <;> simp [h1, h2]
theorem okD_pr (n : Nat) (x : Pr) : okD (n + 1) (dPr x) = true := by
  unfold dPr
  rw [okD_tup]
  simp [okD_str]
theorem okD_pp (n : Nat) (x : Pr × Pr) : okD (n + 2) (dPP x) = true := by
  unfold dPP
  rw [okD_tup]
  simp [okD_pr]
theorem dPr_inj {x y : Pr} (h : dPr x = dPr y) : x = y := by
  obtain ⟨a, b⟩ := x
  obtain ⟨c, d⟩ := y
  unfold dPr at h
  simp at h
  simp [h]
theorem dPP_inj {x y : Pr × Pr} (h : dPP x = dPP y) : x = y := by
  obtain ⟨a, b⟩ := x
  obtain ⟨c, d⟩ := y
  unfold dPP at h
  simp at h
  rw [dPr_inj h.1, dPr_inj h.2]
theorem all_map_ok {α : Type} {f : α → D} {n : Nat} (l : List α) (h : ∀ a, okD n (f a) = true) : (l.map f).all (okD n) = true := by
  rw [List.all_map, List.all_eq_true]
  exact fun x _ => h x
theorem hasD_map {α : Type} [DecidableEq α] {f : α → D} (hf : ∀ x y, eqD (f x) (f y) = decide (x = y)) (l : List α) (x : α) : hasD (l.map f) (f x) = decide (x ∈ l) := by
  unfold hasD
  rw [List.any_map]
  have : ((fun z => eqD z (f x)) ∘ f) = fun y => decide (y = x) := by funext y; exact hf y x
  rw [this]
  by_cases h : x ∈ l
  · rw [decide_eq_true h, List.any_eq_true]
    exact ⟨x, h, by simp⟩
  · rw [decide_eq_false h, List.any_eq_false]
    intro y hy
    simp
    rintro rfl
    exact h hy
section
variable {α : Type} [DecidableEq α] {f : α → D} (hf : ∀ x y, eqD (f x) (f y) = decide (x = y)) (ho : ∀ a, okD 7 (f a) = true) (ho8 : ∀ a, okD 8 (f a) = true) (l : List α) (x : α)
include hf ho ho8
theorem inR_lst : inR (f x) (.lst (l.map f)) = some (decide (x ∈ l)) := by
  show (if (okD 8 (f x) && (l.map f).all (okD 7)) = true then some (hasD (l.map f) (f x)) else none) = _
  rw [ho8, all_map_ok l ho, hasD_map hf]
  rfl
theorem inR_tup : inR (f x) (.tup (l.map f)) = some (decide (x ∈ l)) := by
  show (if (okD 8 (f x) && (l.map f).all (okD 7)) = true then some (hasD (l.map f) (f x)) else none) = _
  rw [ho8, all_map_ok l ho, hasD_map hf]
  rfl
theorem inR_ktp : inR (f x) (.ktp (l.map f)) = some (decide (x ∈ l)) := by
  show (if (okD 8 (f x) && (l.map f).all (okD 7)) = true then some (hasD (l.map f) (f x)) else none) = _
  rw [ho8, all_map_ok l ho, hasD_map hf]
  rfl
end
theorem inR_prL (l : List Pr) (x : Pr) : inR (dPr x) (.lst (l.map dPr)) = some (decide (x ∈ l)) := (inR_lst eqD_pr (okD_pr 6) (okD_pr 7) l x).trans (congrArg some (decide_eq_decide.mpr Iff.rfl))
theorem inR_prK (l : List Pr) (x : Pr) : inR (dPr x) (.ktp (l.map dPr)) = some (decide (x ∈ l)) := (inR_ktp eqD_pr (okD_pr 6) (okD_pr 7) l x).trans (congrArg some (decide_eq_decide.mpr Iff.rfl))
theorem inR_ppL (l : List (Pr × Pr)) (x : Pr × Pr) : inR (dPP x) (.lst (l.map dPP)) = some (decide (x ∈ l)) := (inR_lst eqD_pp (okD_pp 5) (okD_pp 6) l x).trans (congrArg some (decide_eq_decide.mpr Iff.rfl))
theorem inR_strL (l : List Str) (x : Str) : inR (.str x) (.lst (l.map .str)) = some (decide (x ∈ l)) := inR_lst (f := D.str) eqD_str (okD_str 7) (okD_str 8) l x
theorem inR_strK (l : List Str) (x : Str) : inR (.str x) (.ktp (l.map .str)) = some (decide (x ∈ l)) := inR_ktp (f := D.str) eqD_str (okD_str 7) (okD_str 8) l x
theorem inR_strT (l : List Str) (x : Str) : inR (.str x) (.tup (l.map .str)) = some (decide (x ∈ l)) := inR_tup (f := D.str) eqD_str (okD_str 7) (okD_str 8) l x
/-! ### nested keys -/
def nkPr (x : Pr) : NestedKey := .tup [.text x.1, .text x.2]
def nkPP (x : Pr × Pr) : NestedKey := .tup [nkPr x.1, nkPr x.2]
theorem nkD_pp (x : Pr × Pr) : nkD 8 (dPP x) = some (nkPP x) := rfl
theorem nkT_pp (x : Pr × Pr) : nkT (dPP x) = some (nkPP x) := rfl
theorem nkPP_inj {x y : Pr × Pr} (h : nkPP x = nkPP y) : x = y := by
  obtain ⟨⟨a, b⟩, c, d⟩ := x
  obtain ⟨⟨a', b'⟩, c', d'⟩ := y
  unfold nkPP nkPr at h
  simp at h
  simp [h]
theorem any_nk (l : List (Pr × Pr)) (x : Pr × Pr) : ((l.map dPP).any fun y => decide (nkD 8 y = some (nkPP x))) = decide (x ∈ l) := by
  rw [List.any_map]
  have : ((fun y => decide (nkD 8 y = some (nkPP x))) ∘ dPP) = fun y => decide (y = x) := by
    funext y
    show decide (nkD 8 (dPP y) = some (nkPP x)) = _
    rw [nkD_pp]
    by_cases h : y = x
    · simp [h]
    · rw [decide_eq_false h, decide_eq_false]
      intro e
      exact h (nkPP_inj (Option.some.inj e))
  rw [this]
  by_cases h : x ∈ l
  · rw [decide_eq_true h, List.any_eq_true]
    exact ⟨x, h, by simp⟩
  · rw [decide_eq_false h, List.any_eq_false]
    intro y hy
    simp
    rintro rfl
    exact h hy
/-- each once, in the order in which they first stand -/
def once (l : List (Pr × Pr)) : List (Pr × Pr) → List (Pr × Pr)
  | [] => l
  | x :: xs => once (if x ∈ l then l else l ++ [x]) xs
theorem mem_once (x : Pr × Pr) : ∀ (xs l : List (Pr × Pr)), x ∈ once l xs ↔ x ∈ l ∨ x ∈ xs
  | [], l => by simp [once]
  | y :: ys, l => by
    rw [once, mem_once x ys]
    by_cases h : y ∈ l
    · rw [if_pos h]
      constructor
      · rintro (h1 | h1)
        · exact .inl h1
        · exact .inr (List.mem_cons_of_mem _ h1)
      · rintro (h1 | h1)
        · exact .inl h1
        · rcases List.mem_cons.mp h1 with rfl | h1
          · exact .inl h
          · exact .inr h1
    · rw [if_neg h]
      simp
      constructor
      · rintro ((h1 | h1) | h1) <;> simp [h1]
      · rintro (h1 | h1 | h1) <;> simp [h1]
theorem addN_pp : ∀ (xs l : List (Pr × Pr)), addN (l.map dPP) (xs.map dPP) = some ((once l xs).map dPP)
  | [], l => rfl
  | x :: xs, l => by
    rw [List.map_cons]
    unfold addN
    rw [nkT_pp]
    simp only [any_nk, decide_eq_true_eq]
    rw [once]
    by_cases h : x ∈ l
    · rw [if_pos h, if_pos h]; exact addN_pp xs l
    · rw [if_neg h, if_neg h]
      have := addN_pp xs (l ++ [x])
      rw [List.map_append] at this
      exact this
/-! ### dicts from texts -/
section
variable {α : Type} {key : α → Str} {val : α → D}
def dKV (key : α → Str) (val : α → D) (a : α) : D × D := (.str (key a), val a)
theorem keyOf_str (x : Str) : keyOf (.str x) = some (.inr x) := rfl
theorem valD_eq (l : List α) (k : Str) : valD (l.map (dKV key val)) (.inr k) = (l.find? fun a => decide (key a = k)).map val := by
  unfold valD
  rw [List.find?_map]
  have : ((fun p : D × D => decide (keyOf p.1 = some (Sum.inr k : Key))) ∘ dKV key val) = fun a => decide (key a = k) := by
    funext a
    show decide (some (Sum.inr (key a) : Key) = some (Sum.inr k)) = _
    by_cases h : key a = k <;> simp [h]
  rw [this]
  cases l.find? fun a => decide (key a = k) <;> rfl
theorem find_nodup {l : List α} (nd : (l.map key).Nodup) {a : α} (h : a ∈ l) : (l.find? fun b => decide (key b = key a)) = some a := by
  induction l with
  | nil => cases h
  | cons b l ih =>
    rw [List.map_cons, List.nodup_cons] at nd
    rw [List.find?_cons]
    by_cases hb : key b = key a
    · rw [decide_eq_true hb]
      simp only []
      rcases List.mem_cons.mp h with rfl | h
      · rfl
      · exact absurd (List.mem_map.mpr ⟨a, h, hb.symm⟩) nd.1
    · rw [decide_eq_false hb]
      simp only []
      rcases List.mem_cons.mp h with rfl | h
      · exact absurd rfl hb
      · exact ih nd.2 h
theorem valD_get {l : List α} (nd : (l.map key).Nodup) {a : α} (h : a ∈ l) : valD (l.map (dKV key val)) (.inr (key a)) = some (val a) := by
  rw [valD_eq, find_nodup nd h]
  rfl
theorem valD_isSome (l : List α) (k : Str) : (valD (l.map (dKV key val)) (.inr k)).isSome = decide (k ∈ l.map key) := by
  rw [valD_eq, Option.isSome_map]
  by_cases h : k ∈ l.map key
  · rw [decide_eq_true h, List.find?_isSome]
    obtain ⟨a, ha, rfl⟩ := List.mem_map.mp h
    exact ⟨a, ha, by simp⟩
  · rw [decide_eq_false h, Bool.eq_false_iff, Ne, List.find?_isSome]
    rintro ⟨a, ha, e⟩
    exact h (List.mem_map.mpr ⟨a, ha, by simpa using e⟩)
theorem ixD_get {l : List α} (nd : (l.map key).Nodup) {a : α} (h : a ∈ l) : ixD (.dic (l.map (dKV key val))) (.str (key a)) = some (val a) := by
  show (match (match keyOf (D.str (key a)) with
    | some k => some (valD (l.map (dKV key val)) k)
    | none => none) with
    | some (some d) => some d
    | _ => none) = _
  simp only [keyOf_str, valD_get nd h]
theorem inR_dic (l : List α) (k : Str) : inR (.str k) (.dic (l.map (dKV key val))) = some (decide (k ∈ l.map key)) := by
  show (keyOf (.str k)).map (fun k => (valD (l.map (dKV key val)) k).isSome) = _
  rw [keyOf_str]
  simp only [Option.map_some, valD_isSome]
theorem putD_new (l : List α) (k : Str) (d : D) (h : k ∉ l.map key) : putD (l.map (dKV key val)) (.str k) (.inr k) d = l.map (dKV key val) ++ [(.str k, d)] := by
  unfold putD
  rw [if_neg]
  rw [List.any_map, List.any_eq_true]
  rintro ⟨a, ha, e⟩
  have e' : decide (some (Sum.inr (key a) : Key) = some (Sum.inr k)) = true := e
  simp at e'
  exact h (List.mem_map.mpr ⟨a, ha, e'⟩)
theorem map_fst_dKV (l : List α) : (l.map (dKV key val)).map (·.1) = l.map fun a => .str (key a) := by rw [List.map_map]; rfl
theorem map_snd_dKV (l : List α) : (l.map (dKV key val)).map (·.2) = l.map val := by rw [List.map_map]; rfl
end
/-! ### order -/
theorem pyLe_trans (a b c : D) (h1 : pyLe a b = true) (h2 : pyLe b c = true) : pyLe a c = true := (PySem.W.sortLe_total (PyProof.Rows.listOrd PyProof.Rows.itemOrd) false fun b => PySem.W.keyToks (toPy b)).trans a b c h1 h2
theorem pyLe_total (a b : D) : (pyLe a b || pyLe b a) = true := Bool.or_eq_true_iff.mpr ((PySem.W.sortLe_total (PyProof.Rows.listOrd PyProof.Rows.itemOrd) false fun b => PySem.W.keyToks (toPy b)).total a b)
theorem pyLe_anti {a b : D} (h1 : pyLe a b = true) (h2 : pyLe b a = true) : PySem.W.keyToks (toPy a) = PySem.W.keyToks (toPy b) := by
  have e1 : (!(PyProof.Rows.listOrd PyProof.Rows.itemOrd).blt (PySem.W.keyToks (toPy b)) (PySem.W.keyToks (toPy a))) = true := h1
  have e2 : (!(PyProof.Rows.listOrd PyProof.Rows.itemOrd).blt (PySem.W.keyToks (toPy a)) (PySem.W.keyToks (toPy b))) = true := h2
  exact (PyProof.Rows.listOrd PyProof.Rows.itemOrd).total _ _ (by simpa using e2) (by simpa using e1)
theorem str_ext {x y : Str} (h : x.cps.toList = y.cps.toList) : x = y := by
  cases x; cases y
  simp at h
  simp [h]
theorem pyLe_str_anti {x y : Str} (h1 : pyLe (.str x) (.str y) = true) (h2 : pyLe (.str y) (.str x) = true) : x = y := by
  have := pyLe_anti h1 h2
  have e : [Sum.inr x.cps.toList] = ([Sum.inr y.cps.toList] : List (Int ⊕ List Nat)) := this
  simp at e
  cases x; cases y
  simpa using e
/-- in the order of their encodings -/
def srt {α : Type} (f : α → D) (l : List α) : List α := l.mergeSort fun a b => pyLe (f a) (f b)
theorem sortD_map {α : Type} (f : α → D) (l : List α) : sortD (l.map f) = (srt f l).map f := by
  unfold sortD srt
  rw [List.map_mergeSort (s := pyLe)]
  exact fun a _ b _ => rfl
theorem srt_perm {α : Type} (f : α → D) (l : List α) : (srt f l).Perm l := List.mergeSort_perm _ _
theorem mem_srt {α : Type} {f : α → D} {l : List α} {a : α} : a ∈ srt f l ↔ a ∈ l := (srt_perm f l).mem_iff
theorem length_srt {α : Type} (f : α → D) (l : List α) : (srt f l).length = l.length := (srt_perm f l).length_eq
theorem srt_sorted {α : Type} (f : α → D) (l : List α) : (srt f l).Pairwise fun a b => pyLe (f a) (f b) = true := by
  unfold srt
  exact List.pairwise_mergeSort (le := fun a b => pyLe (f a) (f b)) (fun a b c h1 h2 => pyLe_trans (f a) (f b) (f c) h1 h2) (fun a b => pyLe_total (f a) (f b)) l
theorem srt_congr {α : Type} {f : α → D} {l m : List α} (h : l.Perm m) (ha : ∀ a b, a ∈ l → b ∈ l → pyLe (f a) (f b) = true → pyLe (f b) (f a) = true → a = b) : srt f l = srt f m := by
  refine List.Perm.eq_of_pairwise (le := fun a b => pyLe (f a) (f b) = true) ?_ (srt_sorted f l) (srt_sorted f m) ((srt_perm f l).trans (h.trans (srt_perm f m).symm))
  exact fun a b h1 h2 h3 h4 => ha a b (mem_srt.mp h1) (h.mem_iff.mpr (mem_srt.mp h2)) h3 h4
theorem sortOk_of {α : Type} (f : α → D) (l : List α) (ho : ∀ a, okD 8 (f a) = true) (ha : ∀ a b, PySem.W.alike (toPy (f a)) (toPy (f b)) = true) (hk : (∀ a, tupNE (toPy (f a)) = true) ∨ ∀ a, notNT (toPy (f a)) = true) : sortOk (l.map f) = true := by
  unfold sortOk
  rw [all_map_ok l ho]
  have e1 : ((l.map f).all fun x => (l.map f).all fun y => PySem.W.alike (toPy x) (toPy y)) = true := by
    simp only [List.all_map, List.all_eq_true]
    intro a _
    simp only [Function.comp, List.all_eq_true]
    exact fun b _ => ha a b
  rw [e1]
  rcases hk with hk | hk
  · have : ((l.map f).all fun x => tupNE (toPy x)) = true := by
      simp only [List.all_map, List.all_eq_true]
      exact fun a _ => hk a
    rw [this]; rfl
  · have : ((l.map f).all fun x => notNT (toPy x)) = true := by
      simp only [List.all_map, List.all_eq_true]
      exact fun a _ => hk a
    rw [this]; simp
theorem sortOk_str {α : Type} (f : α → Str) (l : List α) : sortOk (l.map fun a => .str (f a)) = true := sortOk_of _ l (fun a => okD_str _ _) (fun a b => rfl) (.inr fun a => rfl)
theorem sortOk_pr (l : List Pr) : sortOk (l.map dPr) = true := sortOk_of _ l (fun a => okD_pr 7 a) (fun a b => by simp [dPr, toPy, toPys, PySem.W.alike, PySem.W.alikeAll]) (.inl fun a => rfl)
/-! ### small steps -/
theorem lenD_str (x : Str) : lenD [.str x] = some (.int x.length) := rfl
theorem lenD_lst (x : List D) : lenD [.lst x] = some (.int x.length) := rfl
theorem lenD_tup (x : List D) : lenD [.tup x] = some (.int x.length) := rfl
theorem lenD_ktp (x : List D) : lenD [.ktp x] = some (.int x.length) := rfl
theorem lenD_dic (x : List (D × D)) : lenD [.dic x] = some (.int x.length) := rfl
theorem isG_s_str (x : Str) : isG [.str] (.str x) = some (.bl true) := rfl
theorem isG_s_tup (x : List D) : isG [.str] (.tup x) = some (.bl false) := rfl
theorem isG_s_ktp (x : List D) : isG [.str] (.ktp x) = some (.bl false) := rfl
theorem isG_s_lst (x : List D) : isG [.str] (.lst x) = some (.bl false) := rfl
theorem isG_s_dic (x : List (D × D)) : isG [.str] (.dic x) = some (.bl false) := rfl
theorem isG_s_int (x : Int) : isG [.str] (.int x) = some (.bl false) := rfl
theorem isG_s_bl (x : Bool) : isG [.str] (.bl x) = some (.bl false) := rfl
theorem isG_s_non  : isG [.str] (.non) = some (.bl false) := rfl
theorem isG_t_str (x : Str) : isG [.tuple] (.str x) = some (.bl false) := rfl
theorem isG_t_tup (x : List D) : isG [.tuple] (.tup x) = some (.bl true) := rfl
theorem isG_t_ktp (x : List D) : isG [.tuple] (.ktp x) = some (.bl true) := rfl
theorem isG_t_lst (x : List D) : isG [.tuple] (.lst x) = some (.bl false) := rfl
theorem isG_t_dic (x : List (D × D)) : isG [.tuple] (.dic x) = some (.bl false) := rfl
theorem isG_t_int (x : Int) : isG [.tuple] (.int x) = some (.bl false) := rfl
theorem isG_t_bl (x : Bool) : isG [.tuple] (.bl x) = some (.bl false) := rfl
theorem isG_t_non  : isG [.tuple] (.non) = some (.bl false) := rfl
theorem isG_d_str (x : Str) : isG [.dict] (.str x) = some (.bl false) := rfl
theorem isG_d_tup (x : List D) : isG [.dict] (.tup x) = some (.bl false) := rfl
theorem isG_d_ktp (x : List D) : isG [.dict] (.ktp x) = some (.bl false) := rfl
theorem isG_d_lst (x : List D) : isG [.dict] (.lst x) = some (.bl false) := rfl
theorem isG_d_dic (x : List (D × D)) : isG [.dict] (.dic x) = some (.bl true) := rfl
theorem isG_d_int (x : Int) : isG [.dict] (.int x) = some (.bl false) := rfl
theorem isG_d_bl (x : Bool) : isG [.dict] (.bl x) = some (.bl false) := rfl
theorem isG_d_non  : isG [.dict] (.non) = some (.bl false) := rfl
theorem isG_i_str (x : Str) : isG [.int] (.str x) = some (.bl false) := rfl
theorem isG_i_tup (x : List D) : isG [.int] (.tup x) = some (.bl false) := rfl
theorem isG_i_ktp (x : List D) : isG [.int] (.ktp x) = some (.bl false) := rfl
theorem isG_i_lst (x : List D) : isG [.int] (.lst x) = some (.bl false) := rfl
theorem isG_i_dic (x : List (D × D)) : isG [.int] (.dic x) = some (.bl false) := rfl
theorem isG_i_int (x : Int) : isG [.int] (.int x) = some (.bl true) := rfl
theorem isG_i_bl (x : Bool) : isG [.int] (.bl x) = some (.bl true) := rfl
theorem isG_i_non  : isG [.int] (.non) = some (.bl false) := rfl
theorem isG_b_str (x : Str) : isG [.bool] (.str x) = some (.bl false) := rfl
theorem isG_b_tup (x : List D) : isG [.bool] (.tup x) = some (.bl false) := rfl
theorem isG_b_ktp (x : List D) : isG [.bool] (.ktp x) = some (.bl false) := rfl
theorem isG_b_lst (x : List D) : isG [.bool] (.lst x) = some (.bl false) := rfl
theorem isG_b_dic (x : List (D × D)) : isG [.bool] (.dic x) = some (.bl false) := rfl
theorem isG_b_int (x : Int) : isG [.bool] (.int x) = some (.bl false) := rfl
theorem isG_b_bl (x : Bool) : isG [.bool] (.bl x) = some (.bl true) := rfl
theorem isG_b_non  : isG [.bool] (.non) = some (.bl false) := rfl
theorem isG_l_str (x : Str) : isG [.list] (.str x) = some (.bl false) := rfl
theorem isG_l_tup (x : List D) : isG [.list] (.tup x) = some (.bl false) := rfl
theorem isG_l_ktp (x : List D) : isG [.list] (.ktp x) = some (.bl false) := rfl
theorem isG_l_lst (x : List D) : isG [.list] (.lst x) = some (.bl true) := rfl
theorem isG_l_dic (x : List (D × D)) : isG [.list] (.dic x) = some (.bl false) := rfl
theorem isG_l_int (x : Int) : isG [.list] (.int x) = some (.bl false) := rfl
theorem isG_l_bl (x : Bool) : isG [.list] (.bl x) = some (.bl false) := rfl
theorem isG_l_non  : isG [.list] (.non) = some (.bl false) := rfl
theorem isG_lt_str (x : Str) : isG [.list, .tuple] (.str x) = some (.bl false) := rfl
theorem isG_lt_tup (x : List D) : isG [.list, .tuple] (.tup x) = some (.bl true) := rfl
theorem isG_lt_ktp (x : List D) : isG [.list, .tuple] (.ktp x) = some (.bl true) := rfl
theorem isG_lt_lst (x : List D) : isG [.list, .tuple] (.lst x) = some (.bl true) := rfl
theorem isG_lt_dic (x : List (D × D)) : isG [.list, .tuple] (.dic x) = some (.bl false) := rfl
theorem isG_lt_int (x : Int) : isG [.list, .tuple] (.int x) = some (.bl false) := rfl
theorem isG_lt_bl (x : Bool) : isG [.list, .tuple] (.bl x) = some (.bl false) := rfl
theorem isG_lt_non  : isG [.list, .tuple] (.non) = some (.bl false) := rfl
theorem walkD_lst (x : List D) : walkD (.lst x) = some x := rfl
theorem walkD_tup (x : List D) : walkD (.tup x) = some x := rfl
theorem walkD_ktp (x : List D) : walkD (.ktp x) = some x := rfl
theorem walkD_str (x : Str) : walkD (.str x) = some (chars x) := rfl
theorem walkD_dic (x : List (D × D)) : walkD (.dic x) = some (x.map (·.1)) := rfl
theorem valuesD_dic (x : List (D × D)) : valuesD (.dic x) = some (x.map (·.2)) := rfl
theorem itemsD_dic (x : List (D × D)) : itemsD (.dic x) = some (x.map fun p => .tup [p.1, p.2]) := rfl
theorem ix_t0 (a b : D) : ixD (.tup [a, b]) (.int 0) = some a := rfl
theorem ix_t1 (a b : D) : ixD (.tup [a, b]) (.int 1) = some b := rfl
theorem ix_k0 (a b : D) : ixD (.ktp [a, b]) (.int 0) = some a := rfl
theorem ix_k1 (a b : D) : ixD (.ktp [a, b]) (.int 1) = some b := rfl
theorem cIn_of (x c : D) : cIn x c = (inR x c).map .bl := rfl
theorem cNotIn_of (x c : D) : cNotIn x c = (inR x c).map fun b => .bl (!b) := rfl
theorem addD_int (i j : Int) : addD (.int i) (.int j) = some (.int (i + j)) := rfl
theorem bools_map {α : Type} (f : α → Bool) : ∀ l : List α, bools (l.map fun a => D.bl (f a)) = some (l.map f)
  | [] => rfl
  | a :: l => by
    rw [List.map_cons]
    unfold bools
    rw [bools_map f l]
    rfl
theorem allD_map {α : Type} (l : List α) (f : α → Bool) : allD [.lst (l.map fun a => D.bl (f a))] = some (.bl (l.all f)) := by
  show (bools (l.map fun a => D.bl (f a))).map _ = _
  rw [bools_map]
  simp [List.all_map, Function.comp_def]
theorem anyD_map {α : Type} (l : List α) (f : α → Bool) : anyD [.lst (l.map fun a => D.bl (f a))] = some (.bl (l.any f)) := by
  show (bools (l.map fun a => D.bl (f a))).map _ = _
  rw [bools_map]
  simp [List.any_map, Function.comp_def]
theorem filter_tt {α : Type} (l : List α) : (l.filter fun _ => true) = l := by
  induction l with
  | nil => rfl
  | cons a l ih => rw [List.filter_cons]; simp only [if_true, ih]
theorem flatMap_len {α β : Type} {f : α → List β} {n : Nat} : ∀ {l : List α}, (∀ a ∈ l, (f a).length ≤ n) → (l.flatMap f).length ≤ n * l.length
  | [], _ => by simp
  | a :: l, h => by
    have h1 := h a List.mem_cons_self
    have h2 := flatMap_len (l := l) fun b hb => h b (List.mem_cons_of_mem _ hb)
    rw [List.flatMap_cons, List.length_append, List.length_cons, Nat.mul_add]
    omega
theorem nodup_sub_len {α : Type} [BEq α] [LawfulBEq α] : ∀ {l m : List α}, l.Nodup → (∀ x ∈ l, x ∈ m) → l.length ≤ m.length
  | [], _, _, _ => Nat.zero_le _
  | a :: l, m, nd, h => by
    rw [List.nodup_cons] at nd
    have h1 := nodup_sub_len (l := l) (m := m.erase a) nd.2 fun x hx => (List.mem_erase_of_ne (fun e => nd.1 (by rw [← e]; exact hx))).mpr (h x (List.mem_cons_of_mem _ hx))
    have ha : a ∈ m := h a List.mem_cons_self
    have h2 := List.length_erase_of_mem ha
    have h3 : 0 < m.length := List.length_pos_of_mem ha
    rw [List.length_cons]
    omega
theorem eraseIdx_map1 {α β : Type} (f : α → β) : ∀ (l : List α) (i : Nat), (l.map f).eraseIdx i = (l.eraseIdx i).map f
  | [], _ => rfl
  | _ :: _, 0 => rfl
  | a :: l, i + 1 => by
    show f a :: (l.map f).eraseIdx i = f a :: (l.eraseIdx i).map f
    rw [eraseIdx_map1 f l i]
theorem perm_eraseIdx {α : Type} : ∀ (l : List α) (i : Nat) (h : i < l.length), (l[i] :: l.eraseIdx i).Perm l
  | a :: l, 0, _ => List.Perm.refl _
  | a :: l, i + 1, h => by
    show (l[i]'(by simpa using h) :: a :: l.eraseIdx i).Perm (a :: l)
    exact (List.Perm.swap _ _ _).trans ((perm_eraseIdx l i (by simpa using h)).cons a)
theorem nodup_map {α β : Type} {f : α → β} {l : List α} (hf : ∀ a b, f a = f b → a = b) (h : l.Nodup) : (l.map f).Nodup := List.Pairwise.map _ (fun a b h e => h (hf a b e)) h
theorem enumD_map {α : Type} (f : α → D) (l : List α) : enumD (l.map f) = l.zipIdx.map fun p => .tup [.int (p.2 : Nat), f p.1] := by
  unfold enumD
  rw [List.mapIdx_eq_zipIdx_map, List.zipIdx_map, List.map_map]
  rfl
theorem zipIdx_fst {α : Type} (l : List α) (n : Nat) : (l.zipIdx n).map (·.1) = l := by
  induction l generalizing n with
  | nil => rfl
  | cons a l ih => rw [List.zipIdx_cons, List.map_cons, ih]
/-! ### the draw -/
/-- what the draw keeps -/
def DrOk (w : Dr) : Prop := w.cells.length ≤ 63
end Dl
set_option Elab.async false
set_option linter.all false
set_option maxRecDepth 100000
set_option maxHeartbeats 4000000
/-! P2: repr of data of small letters. -/
namespace Dl
open PySem L2
abbrev abcL : List Nat := (("abcdefghijklmnopqrstuvwxyz" : Str)).cps.toList
/-- small letters only -/
def Low (x : Str) : Prop := ∀ c ∈ x.cps.toList, c ∈ abcL
theorem low_repr : ∀ c ∈ abcL, Builtin.Str.reprChar 39 c = [c] := by decide +kernel
theorem low_39 : ∀ c ∈ abcL, c ≠ 39 := by decide +kernel
theorem low_ok : ∀ c ∈ abcL, c < 0x110000 := by decide +kernel
theorem foldl_low : ∀ (l : List Nat) (acc : Array Nat), (∀ c ∈ l, c ∈ abcL) → l.foldl (fun out c => out ++ (Builtin.Str.reprChar 39 c).toArray) acc = acc ++ l.toArray
  | [], acc, _ => by simp
  | c :: l, acc, h => by
    rw [List.foldl_cons, low_repr c (h c List.mem_cons_self), foldl_low l _ fun d hd => h d (List.mem_cons_of_mem _ hd)]
    simp
theorem reprText_low {x : Str} (h : Low x) : (reprText x).cps.toList = 39 :: (x.cps.toList ++ [39]) := by
  have hq : reprQuote x = 39 := by
    unfold reprQuote
    have : x.cps.contains 39 = false := by
      rw [Array.contains_eq_any_beq, Array.any_eq_false]
      intro i hi
      have := low_39 _ (h x.cps[i] (by simp))
      simp
      exact fun e => this e.symm
    rw [this]
    rfl
  unfold reprText
  rw [hq, ← Array.foldl_toList, foldl_low _ _ h]
  simp
theorem strLen (x : Str) : x.length = x.cps.toList.length := by show x.cps.size = _; simp
/-- a text of at most n signs -/
def Sh (x : Str) (n : Nat) : Prop := x.length ≤ n ∧ ∀ c ∈ x.cps.toList, c < 0x110000
theorem Sh.sB {x : Str} {n : Nat} (h : Sh x n) (hn : n ≤ 16777216) : sB x = true := by
  refine sOk.mk ?_ ?_
  · rw [PySem.sizeLine_eq]; have := h.1; omega
  · show x.cps.all (· < 0x110000) = true
    rw [← Array.all_toList]
    simp only [List.all_eq_true, decide_eq_true_eq]
    exact h.2
theorem Sh.app {x y : Str} {n m : Nat} (h : Sh x n) (k : Sh y m) : Sh (x ++ y) (n + m) := by
  have e : (x ++ y).cps.toList = x.cps.toList ++ y.cps.toList := by show (x.cps ++ y.cps).toList = _; simp
  refine ⟨?_, fun c hc => ?_⟩
  · have h1 := h.1
    have k1 := k.1
    rw [strLen] at h1 k1 ⊢
    rw [e, List.length_append]
    omega
  · rw [e] at hc
    rcases List.mem_append.mp hc with hc | hc
    · exact h.2 c hc
    · exact k.2 c hc
theorem Sh.mono {x : Str} {n m : Nat} (h : Sh x n) (k : n ≤ m) : Sh x m := ⟨Nat.le_trans h.1 k, h.2⟩
theorem sh_repr {x : Str} (h : Low x) : Sh (reprText x) (x.length + 2) := by
  refine ⟨?_, fun c hc => ?_⟩
  · rw [strLen, reprText_low h, strLen x]; simp
  · rw [reprText_low h] at hc
    simp at hc
    rcases hc with rfl | hc | rfl
    · decide
    · exact low_ok c (h c (by simpa using hc))
    · decide
theorem sh_textFrom {n : Nat} : ∀ (ts : List Str) (k : Nat) (acc : Str) (m : Nat), (∀ t ∈ ts, Sh t n) → Sh acc m → Sh (textFrom k acc ts) (m + ts.length * (n + 2))
  | [], _, acc, m, _, h => by simpa [textFrom] using h
  | t :: ts, k, acc, m, ht, h => by
    unfold textFrom
    have hs : Sh (if k > 0 then (", " : String) else "" : String) 2 := by
      split
      · exact ⟨by decide, by decide⟩
      · exact ⟨by decide, by decide⟩
    have := sh_textFrom ts (k + 1) _ (m + 2 + n) (fun u hu => ht u (List.mem_cons_of_mem _ hu)) ((h.app hs).app (ht t List.mem_cons_self))
    refine this.mono ?_
    rw [List.length_cons, Nat.add_mul]
    omega
theorem sh_list {n : Nat} (ts : List Str) (h : ∀ t ∈ ts, Sh t n) : Sh (listText ts) (ts.length * (n + 2) + 2) := by
  unfold listText
  refine Sh.mono ((sh_textFrom ts 0 "[" 1 h ⟨by decide, by decide⟩).app (m := 1) ⟨by decide, by decide⟩) (by omega)
theorem sh_join {n : Nat} : ∀ ts : List Str, (∀ t ∈ ts, Sh t n) → Sh (Str.join ", " ts) (ts.length * (n + 2))
  | [], _ => ⟨Nat.zero_le _, fun _ h => absurd h List.not_mem_nil⟩
  | [x], h => (h x List.mem_cons_self).mono (by simp)
  | x :: y :: r, h => by
    show Sh (x ++ ", " ++ Str.join ", " (y :: r)) _
    have h2 := sh_join (y :: r) fun t ht => h t (List.mem_cons_of_mem _ ht)
    refine Sh.mono (((h x List.mem_cons_self).app (m := 2) ⟨by decide, by decide⟩).app h2) ?_
    simp only [List.length_cons, Nat.add_mul]
    omega
theorem sh_tuple {n : Nat} (ts : List Str) (h : ∀ t ∈ ts, Sh t n) : Sh (tupleText ts) (ts.length * (n + 2) + 3) := by
  unfold tupleText
  refine Sh.mono ((Sh.app (n := 1) ⟨by decide, by decide⟩ (sh_join ts h)).app (m := 2) ?_) (by omega)
  split
  · exact ⟨by decide, by decide⟩
  · exact ⟨by decide, by decide⟩
theorem shownAll_map : ∀ l : List PyData, PyData.shownAll l = l.map PyData.shown
  | [] => rfl
  | d :: l => by rw [PyData.shownAll, shownAll_map l]; rfl
theorem sh_pr {x : Pr} (h1 : Low x.1) (h2 : Low x.2) (l1 : x.1.length ≤ 6) (l2 : x.2.length ≤ 6) : Sh (toPy (dPr x)).shown 23 := by
  show Sh (tupleText (PyData.shownAll [.str x.1, .str x.2])) 23
  refine (sh_tuple (n := 8) _ ?_)
  intro t ht
  simp only [shownAll_map, List.map_cons, List.map_nil, List.mem_cons, List.not_mem_nil, or_false] at ht
  rcases ht with rfl | rfl
  · exact (sh_repr h1).mono (by omega)
  · exact (sh_repr h2).mono (by omega)
def LowP (x : Pr) : Prop := Low x.1 ∧ Low x.2 ∧ x.1.length ≤ 6 ∧ x.2.length ≤ 6
theorem sh_pp {x : Pr × Pr} (h1 : LowP x.1) (h2 : LowP x.2) : Sh (toPy (dPP x)).shown 53 := by
  show Sh (tupleText (PyData.shownAll [toPy (dPr x.1), toPy (dPr x.2)])) 53
  refine (sh_tuple (n := 23) _ ?_)
  intro t ht
  simp only [shownAll_map, List.map_cons, List.map_nil, List.mem_cons, List.not_mem_nil, or_false] at ht
  rcases ht with rfl | rfl
  · exact sh_pr h1.1 h1.2.1 h1.2.2.1 h1.2.2.2
  · exact sh_pr h2.1 h2.2.1 h2.2.2.1 h2.2.2.2
theorem showableAll_map : ∀ l : List PyData, PyData.showableAll l = l.all PyData.showable
  | [] => rfl
  | d :: l => by rw [PyData.showableAll, showableAll_map l]; rfl
theorem showable_pp (x : Pr × Pr) : (toPy (dPP x)).showable = true := rfl
theorem reprD_pps (l : List (Pr × Pr)) (h : ∀ x ∈ l, LowP x.1 ∧ LowP x.2) (hl : l.length ≤ 10000) : ∃ r, reprD [.lst (l.map dPP)] = some (.str r) := by
  refine ⟨(toPy (.lst (l.map dPP))).shown, ?_⟩
  show (if _ then some _ else none) = _
  rw [if_pos]
  have e1 : okD 8 (.lst (l.map dPP)) = true := all_map_ok l (okD_pp 5)
  have e2 : (toPy (.lst (l.map dPP))).showable = true := by
    show PyData.showableAll (toPys (l.map dPP)) = true
    rw [showableAll_map, toPys_map, List.map_map, List.all_map, List.all_eq_true]
    exact fun x _ => showable_pp x
  have e3 : Dl.sB (toPy (.lst (l.map dPP))).shown = true := by
    have : Sh (toPy (.lst (l.map dPP))).shown (l.length * (53 + 2) + 2) := by
      show Sh (listText (PyData.shownAll (toPys (l.map dPP)))) _
      have := sh_list (n := 53) (PyData.shownAll (toPys (l.map dPP))) fun t ht => by
        rw [shownAll_map, toPys_map, List.map_map, List.map_map] at ht
        obtain ⟨x, hx, rfl⟩ := List.mem_map.mp ht
        exact sh_pp (h x hx).1 (h x hx).2
      have e : (PyData.shownAll (toPys (l.map dPP))).length = l.length := by rw [shownAll_map, toPys_map, List.length_map, List.length_map, List.length_map]
      rwa [e] at this
    exact this.sB (by omega)
  rw [e1, e2, e3]
  rfl
end Dl
set_option Elab.async false
set_option linter.all false
set_option maxRecDepth 100000
set_option maxHeartbeats 4000000
/-! D31: sets of nested tuples, at the machine's level: adding, set(xs). -/
namespace Dl
open PySem PySem.Spec L2
section
variable {P : Program} {w : World} {A : Around} {E : Value → Shared → Prop} {s : Shared}
abbrev NIs (P : Program) (w : World) (h : Heap) (k : NestedKey) (a : Addr) : Prop := (nestedKind P w).is h k a
abbrev nH (w : World) (k : NestedKey) : Int := k.hash w
/-! ### questions that the search asks -/
theorem nst_items {h : Heap} {ks : List NestedKey} {vs : List Value} (x : NestedAll h ks vs) : ∀ v ∈ vs, ∃ k ∈ ks, NestedIs h k v := by
  induction vs generalizing ks with
  | nil => intro v hv; cases hv
  | cons u us ih =>
    cases x with
    | cons h1 h2 =>
      intro v hv
      rcases List.mem_cons.mp hv with rfl | hv
      · exact ⟨_, List.mem_cons_self, h1⟩
      · obtain ⟨k, hk, r⟩ := ih h2 v hv
        exact ⟨k, List.mem_cons_of_mem _ hk, r⟩
theorem depth_of_mem {k : NestedKey} : ∀ {ks : List NestedKey}, k ∈ ks → k.depth ≤ NestedKey.depthAll ks
  | [], h => by cases h
  | a :: ks, h => by
    simp only [NestedKey.depthAll]
    rcases List.mem_cons.mp h with rfl | h
    · exact Nat.le_max_left _ _
    · exact Nat.le_trans (depth_of_mem h) (Nat.le_max_right _ _)
/-- no part of such a key is of a class statement -/
theorem nst_cls : ∀ (n : Nat) (k : NestedKey) (v : Value) {Q : Bool → Shared → Prop}, NestedIs s.heap k v → k.depth ≤ n → Q false s → wpAny (model P w) A (ofAClassStatement n v) Q E s := by
  intro n
  induction n with
  | zero =>
    intro k v Q x hd q
    cases x with
    | none => exact wpAny_pure q
    | bool _ => exact wpAny_pure q
    | int _ _ => exact wpAny_pure q
    | text _ _ => exact wpAny_pure q
    | tup _ _ _ _ => simp only [NestedKey.depth] at hd; omega
  | succ n ih =>
    intro k v Q x hd q
    cases x with
    | none => exact wpAny_pure q
    | bool _ => exact wpAny_pure q
    | int _ _ => exact wpAny_pure q
    | text _ _ => exact wpAny_pure q
    | @tup a o vs m ks ho hc hdat hall =>
      simp only [NestedKey.depth] at hd
      have hT : s.TypeIs (.ref a) "tuple" := ⟨o, ho, hc⟩
      unfold ofAClassStatement
      refine wpAny_bind (wpAny_typeOf hT ?_)
      dsimp only
      simp only [beq_self_eq_true, if_true]
      try refine wpAny_bind (wpAny_pure ?_)
      simp only [Bool.not_true, Bool.false_eq_true, if_false]
      show wpAny _ _ (seqItems? (.ref a) >>= _) _ _ s
      refine wpAny_bind (wpAny_seqItems ho hdat ?_)
      dsimp only
      refine wpAny_bind ?_
      show wpAny _ _ (forIn vs _ _) _ _ s
      rw [← Array.forIn_toList]
      refine wpAny_forIn_list _ (fun l r s' => r.1 = none ∧ s' = s ∧ ∀ v ∈ l, ∃ k ∈ ks, NestedIs s.heap k v) _ ?_ ?_ _ _ ⟨rfl, rfl, nst_items hall⟩
      · rintro v l r s' ⟨_, rfl, hv⟩
        obtain ⟨k, hk, r⟩ := hv v List.mem_cons_self
        refine wpAny_bind (ih k v r (by have := depth_of_mem hk; omega) ?_)
        simp only [Bool.false_eq_true, if_false]
        exact wpAny_pure ⟨rfl, rfl, fun u hu => hv u (List.mem_cons_of_mem _ hu)⟩
      · rintro ⟨r1, r2⟩ s' ⟨hr, rfl, _⟩
        simp only at hr
        subst hr
        exact wpAny_pure q
/-- whether its hash is by value: any answer will do -/
theorem nst_hbv : ∀ (n : Nat) (k : NestedKey) (v : Value) {Q : Bool → Shared → Prop}, NestedIs s.heap k v → (∀ b, Q b s) → wpAny (model P w) A (hashByValue n v) Q E s := by
  intro n
  induction n with
  | zero =>
    intro k v Q x q
    cases x with
    | none => exact wpAny_pure (q _)
    | bool _ => exact wpAny_pure (q _)
    | int _ _ => exact wpAny_pure (q _)
    | text _ _ => exact wpAny_pure (q _)
    | tup _ _ _ _ => exact wpAny_pure (q _)
  | succ n ih =>
    intro k v Q x q
    cases x with
    | none => exact wpAny_pure (q _)
    | bool _ => exact wpAny_pure (q _)
    | int _ _ => exact wpAny_pure (q _)
    | text _ _ => exact wpAny_pure (q _)
    | @tup a o vs m ks ho hc hdat hall =>
      have hT : s.TypeIs (.ref a) "tuple" := ⟨o, ho, hc⟩
      unfold hashByValue
      refine wpAny_bind (wpAny_specialOf hT PySem.F.slot_tuple_hash.lookup ?_)
      show wpAny _ _ (seqItems? (.ref a) >>= _) _ _ s
      refine wpAny_bind (wpAny_seqItems ho hdat ?_)
      refine wpAny_bind ?_
      show wpAny _ _ (forIn vs _ _) _ _ s
      rw [← Array.forIn_toList]
      refine wpAny_forIn_list _ (fun l r s' => s' = s ∧ ∀ v ∈ l, ∃ k ∈ ks, NestedIs s.heap k v) _ ?_ ?_ _ _ ⟨rfl, nst_items hall⟩
      · rintro v l r s' ⟨rfl, hv⟩
        obtain ⟨k, hk, r⟩ := hv v List.mem_cons_self
        refine wpAny_bind (ih k v r fun b => ?_)
        cases b
        · simp only [Bool.not_false, if_true]
          exact wpAny_pure (wpAny_pure (q false))
        · simp only [Bool.not_true, Bool.false_eq_true, if_false]
          exact wpAny_pure ⟨rfl, fun u hu => hv u (List.mem_cons_of_mem _ hu)⟩
      · rintro ⟨r1, r2⟩ s' ⟨rfl, _⟩
        cases r1 with
        | none => exact wpAny_pure (q _)
        | some b => exact wpAny_pure (q _)
/-- a search among such keys shows nothing -/
theorem nst_seen {k : NestedKey} {b : Addr} {Q : Bool → Shared → Prop} (hk : NIs P w s.heap k b) {ys : List Value} (hy : ∀ y ∈ ys, ∃ k' c, y = Value.ref c ∧ NIs P w s.heap k' c) (q : Q false s) :
    wpAny (model P w) A (searchCouldBeSeen (.ref b) ys) Q E s := by
  unfold searchCouldBeSeen
  refine wpAny_bind (wpAny_forIn_list _ (fun l r s' => r.1 = none ∧ s' = s ∧ ∀ y ∈ l, ∃ k' c, y = Value.ref c ∧ NIs P w s.heap k' c) _ ?_ ?_ _ _ ⟨rfl, rfl, hy⟩)
  · rintro v l r s' ⟨_, rfl, hl⟩
    obtain ⟨k', c, rfl, hc⟩ := hl v List.mem_cons_self
    have tl : ∀ y ∈ l, ∃ k' c, y = Value.ref c ∧ NIs P w s'.heap k' c := fun u hu => hl u (List.mem_cons_of_mem _ hu)
    dsimp only
    by_cases hv : (b == c || (carriedByValue (.ref b) && carriedByValue (.ref c))) = true
    · exact wp_if_pos hv (wpAny_pure ⟨rfl, rfl, tl⟩)
    · refine wp_if_neg hv ?_
      refine wpAny_bind ((nestedKind P w).quiet hk ?_)
      simp only [Bool.not_true, Bool.false_eq_true, if_false]
      refine wpAny_bind ((nestedKind P w).quiet hc ?_)
      simp only [Bool.not_true, Bool.false_eq_true, if_false]
      refine wpAny_bind (nst_cls 8 k _ hk.1 hk.2 ?_)
      simp only [Bool.false_eq_true, if_false]
      refine wpAny_bind (nst_cls 8 k' _ hc.1 hc.2 ?_)
      simp only [Bool.false_eq_true, if_false]
      exact wpAny_pure ⟨rfl, rfl, tl⟩
  · rintro ⟨r1, r2⟩ s' ⟨hr, rfl, _⟩
    simp only at hr
    subst hr
    exact wpAny_pure q
/-! ### a set of nested keys -/
abbrev NL := List (Addr × NestedKey)
def nRows (w : World) (L : NL) : List (Int × Value) := L.map fun p => (nH w p.2, Value.ref p.1)
abbrev nHs (w : World) (L : NL) : List Int := L.map fun p => nH w p.2
structure SetN (P : Program) (w : World) (h : Heap) (a : Addr) (L : NL) (es : Array (Int × Value)) (ep : Nat) (t : SetTable) : Prop where
  ob : ∃ o, h.get? a = some o ∧ o.ExactSet ∧ o.data = .set es ep t
  rows : es.toList = nRows w L
  tab : TabOk t (nHs w L)
  nd : (L.map (·.2)).Nodup
  key : ∀ p ∈ L, NIs P w h p.2 p.1
  room : L.length * 5 < t.mask * 3
variable {a : Addr} {L : NL} {es : Array (Int × Value)} {ep : Nat} {t : SetTable}
theorem rows_size (hr : es.toList = nRows w L) : es.size = L.length := by
  have := congrArg List.length hr
  simpa [nRows] using this
theorem fits_of (hs : t.place.size = es.size) (hd : t.dummies = #[]) (hl : es.size ≤ t.mask) : t.fits es.size = true := by
  unfold SetTable.fits SetTable.fill
  rw [hd, Bool.and_eq_true, beq_iff_eq, decide_eq_true_eq]
  exact ⟨hs, by show t.place.size + 0 ≤ _; omega⟩
theorem SetN.place (R : SetN P w s.heap a L es ep t) : t.place.size = L.length := by rw [R.tab.sz, List.length_map]
theorem SetN.fits (R : SetN P w s.heap a L es ep t) : t.fits es.size = true :=
  fits_of (by rw [R.place, rows_size R.rows]) R.tab.dm (by rw [rows_size R.rows]; have := R.room; omega)
theorem SetN.at (R : SetN P w s.heap a L es ep t) {i : Nat} {p : Addr × NestedKey} (h : L[i]? = some p) : es[i]? = some (nH w p.2, Value.ref p.1) := by
  rw [← Array.getElem?_toList, R.rows, nRows, List.getElem?_map, h]
  rfl
abbrev nWay (t : SetTable) (w : World) (k : NestedKey) (c : Nat) : Nat := way t.mask (nH w k) c
abbrev nSt (t : SetTable) (w : World) (k : NestedKey) (c : Nat) : SetTable.Probe := nth t.mask (runAt t.mask (SetTable.bits (nH w k) % (t.mask + 1)) (SetTable.bits (nH w k))) c
theorem nth_dummy (m : Nat) : ∀ (n : Nat) (p : SetTable.Probe), p.dummy = none → (nth m p n).dummy = none
  | 0, _, h => h
  | n + 1, p, h => nth_dummy m n (adv m p) (by unfold adv; split <;> exact h)
/-- the first step of the search for k that comes to a free place -/
structure FreeAt (t : SetTable) (w : World) (k : NestedKey) (K : Nat) : Prop where
  out : nWay t w k K ∉ t.place.toList
  taken : ∀ c, c < K → nWay t w k c ∈ t.place.toList
/-- the entry i is a candidate at the place j: it is k, and the search ends, or it goes on -/
theorem SetN.meet (R : SetN P w s.heap a L es ep t) {x : Addr} {k : NestedKey} (hx : NIs P w s.heap k x) (hu : A.units + 8 < cLine) {i j f : Nat} {p : Addr × NestedKey} {nxt : SetTable.Probe} {Q : SetFound → Shared → Prop} (hp : L[i]? = some p) (hj : t.place.toList[i]? = some j)
    (same : p.2 = k → Q (.there none) s) (other : p.2 ≠ k → wpAny (model P w) A (setSearchFrom a (.ref x) (nH w k) true f (some nxt)) Q E s) : wpAny (model P w) A (searchRest a (.ref x) (nH w k) true f es t j i nxt) Q E s := by
  obtain ⟨o, ho, _, hd⟩ := R.ob
  have live : t.slot j = .live i := slot_live R.tab.ris hj
  unfold searchRest
  simp only [R.at hp]
  refine wpAny_bind (wpAny_holding ((nestedKind P w).eqBool hu (R.key p (List.mem_of_getElem? hp)) hx (wpAny_bind (wpAny_setState_of ho hd R.fits ?_))))
  by_cases alike : p.2 = k
  · exact wp_if_pos (decide_eq_true alike) (wpAny_pure (same alike))
  · have no : ¬ decide (p.2 = k) = true := fun z => alike (of_decide_eq_true z)
    refine wp_if_neg no ?_
    try refine wpAny_bind (wpAny_pure ?_)
    rw [sameMem]
    simp only [if_true, live, R.at hp]
    refine wpAny_bind (wpAny_isSame_ref_self (wpAny_bind (wpAny_pure (wp_if_neg ?_ (other alike)))))
    simpa using alike
/-- ahead of a candidate the machine asks whether the search could be seen: it could not -/
theorem SetN.unseen (R : SetN P w s.heap a L es ep t) {x : Addr} {k : NestedKey} (hx : NIs P w s.heap k x) {Q : Bool → Shared → Prop} (q : Q false s) : wpAny (model P w) A (searchCouldBeSeen (.ref x) ((es.filter fun e => e.1 == nH w k).toList.map (·.2))) Q E s := by
  refine nst_seen hx (fun y hy => ?_) q
  obtain ⟨r, hr, rfl⟩ := List.mem_map.mp hy
  have inR : r ∈ nRows w L := R.rows ▸ by simpa using (show r ∈ es ∧ r.1 = nH w k by simpa using hr).1
  obtain ⟨p, hp, rfl⟩ := List.mem_map.mp inR
  exact ⟨p.2, p.1, rfl, R.key p hp⟩
theorem SetN.search (R : SetN P w s.heap a L es ep t) {x : Addr} {k : NestedKey} (hx : NIs P w s.heap k x) (hu : A.units + 8 < cLine) {K : Nat} (soon : K < 10 * SetTable.turns t.mask) (F : FreeAt t w k K) {Q : SetFound → Shared → Prop} (found : k ∈ L.map (·.2) → Q (.there none) s) (free : k ∉ L.map (·.2) → Q (.free (nWay t w k K) false) s) :
    ∀ (f c : Nat) (st : Option SetTable.Probe), st.getD (t.probeStart (nH w k)) = nSt t w k c → c ≤ K → K - c < f → (∀ (i : Nat) p, L[i]? = some p → p.2 = k → ∃ c', c ≤ c' ∧ c' < K ∧ t.place.toList[i]? = some (nWay t w k c')) → wpAny (model P w) A (setSearchFrom a (.ref x) (nH w k) true f st) Q E s := by
  obtain ⟨o, ho, _, hd⟩ := R.ob
  have stays : ¬ t.gaveWay = true := by rw [show t.gaveWay = false from by unfold SetTable.gaveWay; rw [mask_odd R.tab.mok]; rfl]; decide
  let hOf : Nat → Int := fun i => (es[i]?.map (·.1)).getD 0
  have hOf_at : ∀ (i : Nat) p, L[i]? = some p → hOf i = nH w p.2 := fun i p hp => by show ((es[i]?).map _).getD 0 = _; rw [R.at hp]; rfl
  intro f
  induction f with
  | zero => exact fun c st _ _ hf => absurd hf (Nat.not_lt_zero _)
  | succ f ih =>
    intro c st hst hc hf ahead
    have step : ∀ q, nth t.mask (nSt t w k c) q = nSt t w k (c + q) := fun q => (nth_add t.mask c _ q).symm
    have place : ∀ q, (nth t.mask (nSt t w k c) q).j = nWay t w k (c + q) := fun q => congrArg SetTable.Probe.j (step q)
    have atK : c + (K - c) = K := by omega
    rw [setSearchFrom_succ]
    refine wpAny_bind (wpAny_setState_of ho hd R.fits (wp_if_neg stays ?_))
    try refine wpAny_bind (wpAny_pure ?_)
    rcases go_spec t R.tab.ris R.tab.dm hOf (nH w k) (10 * SetTable.turns t.mask) (K - c) (nSt t w k c) (nth_dummy _ c _ rfl) (by omega) (fun q hq => place q ▸ F.taken (c + q) (by omega)) (by rw [place, atK]; exact F.out) with ⟨q, i, hq, at_, _, none_, probe⟩ | ⟨none_, probe⟩
    · rw [show t.probe hOf (nH w k) (st.getD (t.probeStart (nH w k))) = some (.candidate (nWay t w k (c + q)) i (nSt t w k (c + (q + 1)))) from by rw [hst, ← place, ← step]; exact probe]
      rw [place] at at_
      have inL : i < L.length := by
        rw [← R.place, ← Array.length_toList]
        exact (List.getElem?_eq_some_iff.mp at_).1
      obtain ⟨p, hp⟩ : ∃ p, L[i]? = some p := ⟨_, List.getElem?_eq_getElem inL⟩
      have rest : wpAny (model P w) A (searchRest a (.ref x) (nH w k) true f es t (nWay t w k (c + q)) i (nSt t w k (c + (q + 1)))) Q E s := by
        refine R.meet hx hu hp at_ (fun e => found (List.mem_map.mpr ⟨p, List.mem_of_getElem? hp, e⟩)) fun e => ih (c + (q + 1)) _ rfl (by omega) (by omega) fun i0 p0 h0 e0 => ?_
        obtain ⟨c', ge, lt, e3⟩ := ahead i0 p0 h0 e0
        refine ⟨c', ?_, lt, e3⟩
        rcases Nat.lt_trichotomy c' (c + q) with z | z | z
        · exact absurd ((hOf_at i0 p0 h0).trans (congrArg (nH w) e0)) (none_ (c' - c) i0 (by omega) (by rw [place, show c + (c' - c) = c' by omega]; exact e3))
        · have both := (slot_live R.tab.ris at_).symm.trans (slot_live R.tab.ris (z ▸ e3))
          injection both with both
          rw [← both, hp] at h0
          exact absurd (Option.some.inj h0 ▸ e0) e
        · omega
      by_cases led : t.led = true
      · refine wp_if_neg (by simp [led]) ?_
        try refine wpAny_bind (wpAny_pure ?_)
        exact rest
      · refine wp_if_pos (by simp [led]) (wpAny_bind (R.unseen hx (wp_if_neg Bool.false_ne_true ?_)))
        try refine wpAny_bind (wpAny_pure ?_)
        exact rest
    · rw [show t.probe hOf (nH w k) (st.getD (t.probeStart (nH w k))) = some (.empty (nWay t w k K) none) from by rw [hst, ← atK, ← place]; exact probe]
      refine wpAny_pure (free fun hm => ?_)
      obtain ⟨p0, h0, e0⟩ := List.mem_map.mp hm
      obtain ⟨i0, g0⟩ := List.mem_iff_getElem?.mp h0
      obtain ⟨c', ge, lt, e3⟩ := ahead i0 p0 g0 e0
      exact none_ (c' - c) i0 (by omega) (by rw [place, show c + (c' - c) = c' by omega]; exact e3) ((hOf_at i0 p0 g0).trans (congrArg (nH w) e0))
theorem SetN.find (R : SetN P w s.heap a L es ep t) {x : Addr} {k : NestedKey} (hx : NIs P w s.heap k x) (hu : A.units + 8 < cLine) {Q : SetFound → Shared → Prop} (found : k ∈ L.map (·.2) → Q (.there none) s) (free : ∀ K, k ∉ L.map (·.2) → FreeAt t w k K → Q (.free (nWay t w k K) false) s) :
    wpAny (model P w) A (setSearch a (.ref x) (nH w k) true) Q E s := by
  have few : L.length ≤ t.mask := by have := R.room; omega
  obtain ⟨K, soon, out, taken⟩ := R.tab.first (by simpa using few) (nH w k)
  have turns : SetTable.turns t.mask ≤ 142 := by unfold SetTable.turns; rcases R.tab.mok with z | z | z <;> omega
  unfold setSearch
  refine R.search hx hu soon ⟨out, taken⟩ found (fun z => free K z ⟨out, taken⟩) 100000 0 none rfl (Nat.zero_le _) (by omega) fun i p hp e => ?_
  have inT : i < t.place.toList.length := by
    rw [Array.length_toList, R.place]; exact (List.getElem?_eq_some_iff.mp hp).1
  obtain ⟨c, lt, e2⟩ := R.tab.before out (i := i) (h := nH w k) (by rw [List.getElem?_map, hp, ← e]; rfl) (List.getElem?_eq_getElem inT)
  exact ⟨c, Nat.zero_le _, lt, (List.getElem?_eq_getElem inT).trans (congrArg some e2.symm)⟩
/-! ### adding -/
theorem nis_sameBut {h h' : Heap} {k : NestedKey} {b : Addr} {o : Obj} (x : NIs P w h k b) (ho : h.get? a = some o) (hd : o.data = .set es ep t) (sb : Heap.SameBut a h h') : NIs P w h' k b :=
  ⟨NestedIs.at (fun c oc vs n hc hdc => (sb.2 c fun z => by subst z; rw [ho] at hc; cases hc; rw [hd] at hdc; cases hdc).trans hc) k _ x.1, x.2⟩
theorem nis_keep {h h' : Heap} {k : NestedKey} {b : Addr} (x : NIs P w h k b) (kp : ∀ c o, h.get? c = some o → h'.get? c = some o) : NIs P w h' k b :=
  ⟨NestedIs.at (fun c oc vs n hc _ => kp c oc hc) k _ x.1, x.2⟩
theorem rows_order (order : Array Nat) (hr : es.toList = nRows w L) (hp : order.toList.Perm (List.range L.length)) :
    ∃ L2 : NL, (order.filterMap (es[·]?)).toList = nRows w L2 ∧ L2.Perm L ∧ nHs w L2 = order.toList.map fun i => (es.map (·.1)).getD i 0 := by
  have ent : ∀ i (h : i < L.length), es[i]? = some (nH w (L[i]).2, Value.ref (L[i]).1) := fun i h => by
    rw [← Array.getElem?_toList, hr, nRows, List.getElem?_map, List.getElem?_eq_getElem h]
    rfl
  have hlt : ∀ i ∈ order.toList, i < L.length := fun i hi => List.mem_range.mp (hp.mem_iff.mp hi)
  have one : ∀ l : List Nat, (∀ i ∈ l, i < L.length) → l.filterMap (fun i => es[i]?) = nRows w (l.filterMap fun i => L[i]?) ∧ nHs w (l.filterMap fun i => L[i]?) = l.map fun i => (es.map (·.1)).getD i 0 := by
    intro l
    induction l with
    | nil => intro _; exact ⟨rfl, rfl⟩
    | cons i l ih =>
      intro hl
      have hi := hl i List.mem_cons_self
      obtain ⟨e1, e2⟩ := ih fun j hj => hl j (List.mem_cons_of_mem _ hj)
      rw [List.filterMap_cons_some (ent i hi), List.filterMap_cons_some (List.getElem?_eq_getElem hi), e1]
      refine ⟨rfl, ?_⟩
      have e3 : (es.map (·.1)).getD i 0 = nH w (L[i]).2 := by simp [Array.getD_eq_getD_getElem?, ent i hi]
      rw [List.map_cons, e3, ← e2]
      rfl
  obtain ⟨e1, e2⟩ := one order.toList hlt
  refine ⟨order.toList.filterMap fun i => L[i]?, by rw [Array.toList_filterMap]; exact e1, ?_, e2⟩
  have all : ∀ n, n ≤ L.length → (List.range n).filterMap (fun i => L[i]?) = L.take n := by
    intro n
    induction n with
    | zero => intro _; rfl
    | succ n ih =>
      intro hn
      have hlt : n < L.length := hn
      rw [List.range_succ, List.filterMap_append, ih (by omega), List.take_succ, List.getElem?_eq_getElem hlt, List.filterMap_cons_some (List.getElem?_eq_getElem hlt)]
      rfl
  have := all L.length (Nat.le_refl _)
  rw [List.take_length] at this
  have pm := hp.filterMap fun i => L[i]?
  rw [this] at pm
  exact pm
/-- a set as it is while it grows: its object, its rows, a table for them -/
structure SetG (P : Program) (w : World) (h : Heap) (a : Addr) (L : NL) (es : Array (Int × Value)) (ep : Nat) (t : SetTable) : Prop where
  obj : ∃ o, h.get? a = some o ∧ o.ExactSet ∧ o.data = .set es ep t
  rows : es.toList = nRows w L
  tab : TabOk t (nHs w L)
  diff : (L.map (·.2)).Nodup
  key : ∀ p ∈ L, NIs P w h p.2 p.1
  fit : L.length ≤ t.mask
theorem SetG.full (g : SetG P w s.heap a L es ep t) (z : L.length * 5 < t.mask * 3) : SetN P w s.heap a L es ep t := ⟨g.obj, g.rows, g.tab, g.diff, g.key, z⟩
theorem SetG.fits (g : SetG P w s.heap a L es ep t) : t.fits es.size = true := fits_of (by rw [g.tab.sz, List.length_map, rows_size g.rows]) g.tab.dm (by rw [rows_size g.rows]; exact g.fit)
/-- other rows and another table are stored -/
theorem SetG.put {L2 : NL} {es2 : Array (Int × Value)} {t2 : SetTable} (g : SetG P w s.heap a L es ep t) (r : es2.toList = nRows w L2) (T : TabOk t2 (nHs w L2)) (nd : (L2.map (·.2)).Nodup) (key : ∀ p ∈ L2, NIs P w s.heap p.2 p.1) (fit : L2.length ≤ t2.mask) :
    SetG P w (s.heap.update a (Obj.putSet es2 t2)) a L2 es2 (ep + 1) t2 ∧ Heap.SameBut a s.heap (s.heap.update a (Obj.putSet es2 t2)) := by
  obtain ⟨o, ho, exact_, dat⟩ := g.obj
  have but : Heap.SameBut a s.heap (s.heap.update a (Obj.putSet es2 t2)) := Heap.SameBut.update ..
  exact ⟨⟨⟨_, store_at ho dat, ⟨exact_.1, exact_.2.1, exact_.2.2⟩, rfl⟩, r, T, nd, fun p hp => nis_sameBut (key p hp) ho dat but, fit⟩, but⟩
/-- a larger table, of the mask M -/
theorem SetG.relay (g : SetG P w s.heap a L es ep t) {wanted M : Nat} (hM : SetTable.sizeAbove wanted - 1 = M) (okM : MaskOk M) (room : L.length * 5 < M * 3) {Q : Unit → Shared → Prop} (q : ∀ h' L' es' ep' t', Heap.SameBut a s.heap h' → SetN P w h' a L' es' ep' t' → L'.Perm L → Q () { s with heap := h' }) :
    wpAny (model P w) A (setRelay a wanted) Q E s := by
  obtain ⟨o, ho, _, dat⟩ := g.obj
  have n := rows_size g.rows
  have bound : L.length ≤ M ∧ M ≤ 127 := by rcases okM with z | z | z <;> omega
  obtain ⟨t', order, laid, pm, T, em, _⟩ := relaid_ok t (hs := es.map (·.1)) (wanted := wanted) hM okM (by rw [Array.size_map, n]; exact bound.1)
  obtain ⟨L2, rows2, perm2, hashes⟩ := rows_order order g.rows (by simpa [n] using pm)
  have n2 : (order.filterMap (es[·]?)).size = es.size := by rw [rows_size rows2, n, perm2.length_eq]
  have small : es.size ≤ 127 := by omega
  rw [setRelay_eq]
  refine wpAny_bind (wpAny_setState_of ho dat g.fits (wp_if_neg (by rw [PySem.sizeLine_eq]; omega) ?_))
  try refine wpAny_bind (wpAny_pure ?_)
  rw [laid]
  refine wpAny_bind (wp_if_neg (by rw [n2]; simp) ?_)
  try refine wpAny_bind (wpAny_pure ?_)
  refine wpAny_pure (wpAny_storeSet_of ho dat ?_ (by rw [n2, PySem.sizeLine_eq]; omega))
  obtain ⟨g2, but⟩ := g.put rows2 (hashes ▸ T) ((perm2.map (·.2)).nodup_iff.mpr g.diff) (fun p hp => g.key p (perm2.mem_iff.mp hp)) (by rw [perm2.length_eq, em]; exact bound.1)
  exact q _ L2 _ (ep + 1) t' but ⟨g2.obj, g2.rows, g2.tab, g2.diff, g2.key, by rw [perm2.length_eq, em]; exact room⟩ perm2
theorem SetN.grown (R : SetN P w s.heap a L es ep t) : SetG P w s.heap a L es ep t := ⟨R.ob, R.rows, R.tab, R.nd, R.key, by have := R.room; omega⟩
/-- the rows with one more are stored, and a larger table is laid if they are too many -/
theorem SetN.more (R : SetN P w s.heap a L es ep t) {x : Addr} {k : NestedKey} (hx : NIs P w s.heap k x) (few : L.length < 75) (out : k ∉ L.map (·.2)) {L1 : NL} {es1 : Array (Int × Value)} {t2 : SetTable} (pm : L1.Perm ((x, k) :: L)) (rows1 : es1.toList = nRows w L1) (T : TabOk t2 (nHs w L1)) (mask : t2.mask = t.mask) (fill : t2.fill = L.length + 1)
    {Q : Bool → Shared → Prop} (q : ∀ h' L' es' ep' t', Heap.SameBut a s.heap h' → SetN P w h' a L' es' ep' t' → L'.Perm ((x, k) :: L) → Q true { s with heap := h' }) :
    wpAny (model P w) A (do storeSet a es1 t2; if (!false && t2.tooFull) = true then do setRelay a (SetTable.grown (es.size + 1)); pure true else pure true) Q E s := by
  obtain ⟨o, ho, _, dat⟩ := R.ob
  have n1 : L1.length = L.length + 1 := pm.length_eq
  have room := R.room
  have diff1 : (L1.map (·.2)).Nodup := (pm.map (·.2)).nodup_iff.mpr (by simpa using ⟨fun y z => out (List.mem_map.mpr ⟨(y, k), z, rfl⟩), R.nd⟩)
  obtain ⟨g1, but⟩ := R.grown.put (t2 := t2) rows1 T diff1 (fun p hp => (List.mem_cons.mp (pm.mem_iff.mp hp)).elim (fun z => z ▸ hx) (R.key p)) (by rw [n1, mask]; omega)
  have many : t2.tooFull = true ↔ t.mask * 3 ≤ (L.length + 1) * 5 := by unfold SetTable.tooFull; rw [decide_eq_true_eq, fill, mask]
  refine wpAny_bind (wpAny_storeSet_of ho dat ?_ (by rw [rows_size rows1, n1, PySem.sizeLine_eq]; omega))
  by_cases over : t2.tooFull = true
  · have sizes : (t.mask = 7 ∧ L.length = 4) ∨ (t.mask = 31 ∧ L.length = 18) := by
      have z := many.mp over
      rcases R.tab.mok with y | y | y
      · exact .inl ⟨y, by omega⟩
      · exact .inr ⟨y, by omega⟩
      · omega
    have laid : ∀ M, SetTable.sizeAbove (SetTable.grown (es.size + 1)) - 1 = M → MaskOk M → (L.length + 1) * 5 < M * 3 → wpAny (model P w) A (do setRelay a (SetTable.grown (es.size + 1)); pure true) Q E { s with heap := s.heap.update a (Obj.putSet es1 t2) } := fun M e1 e2 e3 =>
      wpAny_bind (g1.relay (s := { s with heap := s.heap.update a (Obj.putSet es1 t2) }) e1 e2 (by rw [n1]; exact e3) fun h2 L2 es2 ep2 t3 but2 R2 pm2 => wpAny_pure (q h2 L2 es2 ep2 t3 (but.trans but2) R2 (pm2.trans pm)))
    refine wp_if_pos (by simp [over]) ?_
    rcases sizes with ⟨_, z⟩ | ⟨_, z⟩
    · exact laid 31 (by rw [rows_size R.rows, z, size_20]) (.inr (.inl rfl)) (by omega)
    · exact laid 127 (by rw [rows_size R.rows, z, size_76]) (.inr (.inr rfl)) (by omega)
  · have z : ¬ t.mask * 3 ≤ (L.length + 1) * 5 := fun y => over (many.mpr y)
    exact wp_if_neg (by simp [over]) (wpAny_pure (q _ L1 es1 (ep + 1) t2 but ⟨g1.obj, g1.rows, g1.tab, g1.diff, g1.key, by rw [n1, mask]; omega⟩ pm))
/-- a key is added -/
theorem SetN.add (R : SetN P w s.heap a L es ep t) {x : Addr} {k : NestedKey} (hx : NIs P w s.heap k x) (hu : A.units + 8 < cLine) (few : L.length < 75) {Q : Bool → Shared → Prop}
    (q : ∀ b h' L' es' ep' t', Heap.SameBut a s.heap h' → SetN P w h' a L' es' ep' t' → (k ∈ L.map (·.2) → L' = L) → (k ∉ L.map (·.2) → L'.Perm ((x, k) :: L)) → Q b { s with heap := h' }) : wpAny (model P w) A (setAddHashed a (.ref x) (nH w k)) Q E s := by
  obtain ⟨o, ho, _, dat⟩ := R.ob
  have look : ∀ {α : Type} {f : Array (Int × Value) × Nat × SetTable → Sem α} {Q' : α → Shared → Prop}, wpAny (model P w) A (f (es, ep, t)) Q' E s → wpAny (model P w) A (setState a >>= f) Q' E s := fun z => wpAny_bind (wpAny_setState_of ho dat R.fits z)
  unfold setAddHashed
  rw [show (100000 : Nat) = Nat.succ 99999 from rfl, setAddHashedIn_succ]
  refine wpAny_holding (look (wp_if_neg (by simp [byScan, Value.scannable]) ?_))
  try refine wpAny_bind (wpAny_pure ?_)
  refine wpAny_bind (R.find hx hu (fun met => wpAny_pure (q false s.heap L es ep t (Heap.SameBut.refl a s.heap) R (fun _ => rfl) fun z => absurd met z)) fun K out F => look ?_)
  -- the row goes to its place
  obtain ⟨c1, c2, c3, c4, c5, c6, c7, c8, c9⟩ := R.tab.put F.out F.taken
  dsimp only
  generalize t.put (way t.mask (nH w k) K) = put at c1 c3 c4 c9 ⊢
  obtain ⟨t1, at1⟩ := put
  dsimp only at c1 c3 c4 c9 ⊢
  subst c1
  have rows1 : (SetTable.insertAt es (SetTable.below t.place (way t.mask (nH w k) K)) (nH w k, Value.ref x)).toList = nRows w (L.take (SetTable.below t.place (way t.mask (nH w k) K)) ++ (x, k) :: L.drop (SetTable.below t.place (way t.mask (nH w k) K))) := by rw [SetTable.toList_insertAt, R.rows]; simp [nRows]
  have T1 : TabOk t1 (nHs w (L.take (SetTable.below t.place (way t.mask (nH w k) K)) ++ (x, k) :: L.drop (SetTable.below t.place (way t.mask (nH w k) K)))) := by simpa [nHs] using c3
  have fill1 : t1.fill = L.length + 1 := by rw [c9, List.length_map]
  have go : ∀ t2, TabOk t2 _ → t2.mask = t.mask → t2.fill = L.length + 1 → wpAny (model P w) A _ Q E s := fun t2 T2 m2 f2 => R.more hx few out (put_perm L _ (x, k)) rows1 T2 m2 f2 fun h' L' es' ep' t' but R' pm => q true h' L' es' ep' t' but R' (fun z => absurd z out) fun _ => pm
  by_cases plain : t1.plain = true
  · refine wp_if_pos plain (wpAny_bind (nst_hbv 8 k _ hx.1 fun b => ?_))
    cases b
    · exact go { t1 with plain := false } ⟨T1.ris, T1.dm, T1.sz, T1.mok, T1.bd, T1.reach⟩ c4 fill1
    · exact go t1 T1 c4 fill1
  · exact wp_if_neg plain (wpAny_bind (wpAny_pure (go t1 T1 c4 fill1)))
end
end Dl
set_option Elab.async false
set_option linter.all false
set_option maxRecDepth 100000
set_option maxHeartbeats 4000000
/-! D34: x == y and x != y by an own __eq__. -/
namespace Dl
open PySem PySem.Spec L2
section
variable {prog : Program} {w : World} {A : Around} {E : Value → Shared → Prop} {s : Shared} {K : PySem.W.Frag} {x C f L : Addr} {ox : Obj} {od : Option Obj}
open PySem.W Builtin in
theorem one_ne {b : Value} {Q : Option Value → Shared → Prop} (hu : A.in1.units < cLine) (X : K.In s.heap) (I : InstAt s.heap x ox C od) (hn : findIn K (.ref C) "__ne__" = some (some (.builtin "object.__ne__"))) (hm : mroIn K C (.type "object") = some true)
    (hs : findIn K (.ref C) "__eq__" = some (some (.ref f))) (hf : isFn K (.ref f) = true)
    (h : wpAny (model prog w) A.in1 (call (.ref f) [.ref x, b]) (fun v s' => ∃ r, v = .bool r ∧ Q (some (.bool (!r))) s') E s) : wpAny (model prog w) A (tryCompare (.ref x) "__ne__" b) Q E s := by
  have inner : wpAny (model prog w) A (call (.builtin "object.__ne__") [.ref x, b]) (fun v s' => ∃ r, v = .bool r ∧ Q (some (.bool r)) s') E s := by
    refine wpAny_call (codeAny_call_builtin PySem.F.slot_object_ne.plain PySem.F.cmpEntry_ne (check_slot (i := "object.__ne__") (owner := "object") (n := "__ne__") PySem.F.cmpKind_ne PySem.F.cmpSplit_ne (I.type.andThen (looks_mroIn X hm)) (PySem.F.cmpArgs_ne _ _) ?_))
    unfold Builtin.«object.__ne__»
    refine wpAny_bind (m := slotArgs "__ne__" 1 _) (wpAny_pure ?_)
    dsimp only
    refine wpAny_bind (m := cRoomFor _ _) (wpAny_cRoomFor hu ?_)
    refine wpAny_bind (m := callSpecialIfBound? (.ref x) (Str.ofString "__eq__") _) (ifBound_K X I hs hf (wpAny_mono h (fun v s' hq => ?_) fun _ _ y => y))
    obtain ⟨r, rfl, hq⟩ := hq
    dsimp only
    refine wpAny_bind (m := truthy (.bool _)) (wpAny_truthy_bool ?_)
    exact wpAny_pure ⟨_, rfl, hq⟩
  unfold tryCompare callSpecialIfBound? bindSpecialIfBound?
  simp only []
  refine wpAny_bind (wpAny_holding (wpAny_bind (wpAny_bind (wpAny_bind (I.type.here ((looks_findIn X hn).here ?_))))))
  refine wpAny_bind (wpAny_askSetting (wpAny_ite ?_))
  have fin : wpAny (model prog w) A (call (.builtin "object.__ne__") ([.ref x] ++ [b]) >>= fun v => pure (some v)) (fun v s' => ∃ r, v = some (.bool r) ∧ Q (some (.bool r)) s') E s := wpAny_bind (wpAny_mono inner (fun v s' z => by
    obtain ⟨r, rfl, z⟩ := z
    exact wpAny_pure ⟨r, rfl, z⟩) fun _ _ z => z)
  have fin2 : wpAny (model prog w) A (call (.builtin "object.__ne__") ([.ref x] ++ [b]) >>= fun v => pure (some v)) (fun v s' => wpAny (model prog w) A (match v with
    | some .notImplemented | none => pure none
    | some v => pure (some v)) Q E s') E s := wpAny_mono fin (fun v s' z => by
      obtain ⟨r, rfl, z⟩ := z
      exact wpAny_pure z) fun _ _ z => z
  have bd := PySem.F.slot_object_ne.bind (.ref x)
  split
  · exact wpAny_bind ((Looks.of_pure bd).here (wpAny_pure (by exact fin2)))
  · exact wpAny_tryCatch (wpAny_bind ((Looks.of_pure bd).here (wpAny_pure (by exact fin2))))
open PySem.W in
theorem ne_own {b tb : Value} {Q : Value → Shared → Prop} (hu : A.units + 1 < cLine) (X : K.In s.heap) (I : InstAt s.heap x ox C od) (hb : Looks (model prog w) s.heap (typeOf b) tb) (hn0 : notFirst K C tb = true)
    (hn : findIn K (.ref C) "__ne__" = some (some (.builtin "object.__ne__"))) (hm : mroIn K C (.type "object") = some true) (hs : findIn K (.ref C) "__eq__" = some (some (.ref f))) (hf : isFn K (.ref f) = true)
    (h : wpAny (model prog w) A.in1 (call (.ref f) [.ref x, b]) (fun v s' => ∃ r, v = .bool r ∧ Q (.bool (!r)) s') E s) : wpAny (model prog w) A (richCompare .NotEq (.ref x) b) Q E s := by
  have one : wpAny (model prog w) A (tryCompare (.ref x) (cmpInfo .NotEq).2.1 b) (fun r s' => ∃ v, r = some v ∧ Q v s') E s :=
    one_ne (by show A.units + 1 < cLine; exact hu) X I hn hm hs hf (wpAny_mono h (fun v s' ⟨r, e, q⟩ => ⟨r, e, _, rfl, q⟩) fun _ _ z => z)
  -- the answer of __ne__ ends it, whichever side was asked about first
  have ends : ∀ k : Option Value → Sem Value, (∀ v, k (some v) = pure v) → wpAny (model prog w) A (tryCompare (.ref x) (cmpInfo .NotEq).2.1 b >>= k) Q E s := fun k hk =>
    wpAny_bind (wpAny_mono one (fun _ _ z => z.elim fun v q => by rw [q.1, hk]; exact wpAny_pure q.2) fun _ _ y => y)
  unfold richCompare
  rw [oneThing_ref]
  refine wpAny_holding (wpAny_bind (wpAny_cRoomFor (Nat.lt_of_succ_lt hu) (wpAny_bind (I.type.here (wpAny_bind (hb.here ?_))))))
  by_cases alike : tb = .ref C
  · have z : (Value.ref C != tb) = false := by simp [alike]
    rw [z]
    exact wpAny_bind (wpAny_pure (ends _ fun _ => rfl))
  · have z : (Value.ref C != tb) = true := by simpa using fun y => alike y.symm
    have nosub : subIn K tb (.ref C) = some false := (Bool.or_eq_true_iff.mp hn0).elim (fun z => absurd (beq_iff_eq.mp z) alike) beq_iff_eq.mp
    rw [z]
    exact wpAny_bind ((looks_subIn X nosub).here (ends _ fun _ => rfl))
end
/-- own facts of a class with __eq__ -/
structure EqC (K : PySem.W.Frag) (C f : Addr) : Prop where
  eq : PySem.W.findIn K (.ref C) "__eq__" = some (some (.ref f))
  ne : PySem.W.findIn K (.ref C) "__ne__" = some (some (.builtin "object.__ne__"))
  top : PySem.W.mroIn K C (.type "object") = some true
  fn : PySem.W.isFn K (.ref f) = true
section
variable {X : Cx} {C f : Addr} {fd : FuncData} {ps : List Str} {φ : Fn} {k : Nat}
/-- x == y, both of the class at C -/
def rEqO (X : Cx) (C : Addr) (φ : Fn) (neg : Bool) : R2 := fun x y H Q => ∃ a b dx dy fs gs, x = .ref a ∧ y = .ref b ∧ H a = some (.ins C dx fs) ∧ H b = some (.ins C dy gs) ∧ spD (tx X) 2 φ [.ref a, .ref b] H (fun v H' => ∃ r, v = .bl r ∧ Q (.bl (if neg = true then !r else r)) H') E0
theorem op_eqO (c : EqC X.K C f) (F : FnOk X.prog X.w X.K X.mg X.base CX0 k f fd ps (spD (tx X) 2 φ)) (hb : Binds X.K fd ps []) (hr : Room k X.A) : OpR X (compareOp .Eq) (rEqO X C φ false) := by
  intro pins s σ H x y u v Q I rx ry ⟨a, b, dx, dy, fs, gs, ex, ey, ha, hb', hsp⟩
  subst ex ey
  cases rx
  cases ry
  obtain ⟨mA, J, _⟩ := ins_get I.hok ha
  obtain ⟨mB, J', _⟩ := ins_get I.hok hb'
  obtain ⟨od, J, _⟩ := J.look
  obtain ⟨od', J', _⟩ := J'.look
  obtain ⟨m, hF⟩ := I.fr
  show wpAny (model X.prog X.w) X.A (richCompare .Eq (.ref a) (.ref b)) (EP X pins σ Q) X.xe s
  refine PySem.W.cmp_K (op := .Eq) (tb := .ref C) (by have := hr.un; omega) hF I.ok.mod.kin J J'.type (by simp [PySem.W.notFirst]) c.eq c.fn ?_
  exact wpAny_mono (run_fn (E := E0) (vs := [.ref a, .ref b]) F hr hb .nil pass0 I (.cons rfl (.cons rfl .nil)) hsp) (fun _ _ ⟨_, H', I', rz, r, ez, q⟩ => by
    subst ez; cases rz
    exact ⟨.bl r, H', I', rfl, q⟩) fun _ _ z => z
theorem op_neO (c : EqC X.K C f) (F : FnOk X.prog X.w X.K X.mg X.base CX0 k f fd ps (spD (tx X) 2 φ)) (hb : Binds X.K fd ps []) (hr : Room (k + 1) X.A) : OpR X (compareOp .NotEq) (rEqO X C φ true) := by
  intro pins s σ H x y u v Q I rx ry ⟨a, b, dx, dy, fs, gs, ex, ey, ha, hb', hsp⟩
  subst ex ey
  cases rx
  cases ry
  obtain ⟨mA, J, _⟩ := ins_get I.hok ha
  obtain ⟨mB, J', _⟩ := ins_get I.hok hb'
  obtain ⟨od, J, _⟩ := J.look
  obtain ⟨od', J', _⟩ := J'.look
  show wpAny (model X.prog X.w) X.A (richCompare .NotEq (.ref a) (.ref b)) (EP X pins σ Q) X.xe s
  refine ne_own (tb := .ref C) (by have := hr.un; omega) I.kIn J J'.type (by simp [PySem.W.notFirst]) c.ne c.top c.eq c.fn ?_
  -- the call is made one level deeper
  let Y : Cx := { X with A := X.A.in1 }
  have J0 : Inv Y pins σ H s := { I with ok := { I.ok with } }
  refine wpAny_mono (run_fn (X := Y) (E := E0) (vs := [.ref a, .ref b]) F hr.in1 hb .nil pass0 J0 (.cons rfl (.cons rfl .nil)) hsp) (fun _ _ ⟨_, H', I', rz, r, ez, q⟩ => ?_) fun _ _ z => z
  subst ez; cases rz
  exact ⟨r, rfl, .bl (!r), H', { I' with ok := I.ok }, rfl, q⟩
/-- the mirror -/
def eEqO (c : Str) (φ : Fn) (neg : Bool) (a b : E) : E := fun env w => match a env w with
  | some (.obj c1 gs, w1) => match b env w1 with
    | some (.obj c2 hs, w2) => if c1 = c ∧ c2 = c then match φ [.obj c1 gs, .obj c2 hs] w2 with
      | some (.bl r, w3) => some (.bl (if neg = true then !r else r), w3)
      | _ => none else none
    | _ => none
  | _ => none
theorem tEqO_of {c : Str} {neg : Bool} {fa fb : E} (hc : X.mg c = some (.ref C)) : ∀ σ H Q, tD (tx X) (eEqO c φ neg fa fb) σ H Q → tOp (rEqO X C φ neg) (tD (tx X) fa) (tD (tx X) fb) σ H Q := fun σ H Q ⟨G, B, env, w, d, w', hd, e, k⟩ => by
  unfold eEqO at e
  split at e
  · rename_i c1 gs w1 ea
    split at e
    · rename_i c2 hs w2 eb
      split at e
      · rename_i hcc
        obtain ⟨rfl, h2⟩ := hcc
        subst h2
        split at e
        · rename_i r w3 eφ
          cases e
          refine ⟨G, B, env, w, _, w1, hd, ea, fun v H1 s1 h1 rv => ⟨G, B, env, w1, _, w2, h1, eb, fun u H2 s2 h2 ru => ?_⟩⟩
          have rv2 := rv.keep (s2.keep h1.draw)
          have rv3 := rv2
          have ru3 := ru
          cases rv2 with
          | obj m1 hx1 dn1 q1 rr1 =>
            cases ru with
            | obj m2 hx2 dn2 q2 rr2 =>
              have e1 : X.mg _ = some (.ref _) := m1
              have e2 : X.mg _ = some (.ref _) := m2
              rw [hc] at e1 e2
              cases e1
              cases e2
              refine ⟨_, _, _, _, _, _, rfl, rfl, hx1, hx2, G, _, w2, .bl r, _, .cons rv3 (.cons ru3 .nil), h2.draw, rfl, eφ, fun v H' s dr rb => ?_⟩
              cases rb
              exact ⟨r, rfl, k _ H' ((s1.trans s2).trans s) (h2.go s dr) (.bl _)⟩
        · cases e
      · cases e
    · cases e
  · cases e
variable {a b : Expr} {fa fb : E} {pos : Pos} {c : Str}
theorem de_eqO (hc : X.mg c = some (.ref C)) (ec : EqC X.K C f) (F : FnOk X.prog X.w X.K X.mg X.base CX0 k f fd ps (spD (tx X) 2 φ)) (hb : Binds X.K fd ps []) (hr : Room (k + 1) X.A) (ha : DE X a fa) (hbx : DE X b fb) : DE X (.Compare a [.Eq] [b] pos) (eEqO c φ false fa fb) := pe_imp (pe_cmpR (op_eqO ec F hb (hr.mono (Nat.le_succ _))) ha hbx (nomark _)) (tEqO_of hc)
theorem de_neO (hc : X.mg c = some (.ref C)) (ec : EqC X.K C f) (F : FnOk X.prog X.w X.K X.mg X.base CX0 k f fd ps (spD (tx X) 2 φ)) (hb : Binds X.K fd ps []) (hr : Room (k + 1) X.A) (ha : DE X a fa) (hbx : DE X b fb) : DE X (.Compare a [.NotEq] [b] pos) (eEqO c φ true fa fb) := pe_imp (pe_cmpR (op_neO ec F hb hr) ha hbx (nomark _)) (tEqO_of hc)
theorem dt_eqO (hc : X.mg c = some (.ref C)) (ec : EqC X.K C f) (F : FnOk X.prog X.w X.K X.mg X.base CX0 k f fd ps (spD (tx X) 2 φ)) (hb : Binds X.K fd ps []) (hr : Room (k + 1) X.A) (ha : DE X a fa) (hbx : DE X b fb) : DT X (.Compare a [.Eq] [b] pos) (eEqO c φ false fa fb) := pt_imp (pt_cmpR (op_eqO ec F hb (hr.mono (Nat.le_succ _))) ha hbx (nomark _)) (tTest_of (tEqO_of hc))
theorem dt_neO (hc : X.mg c = some (.ref C)) (ec : EqC X.K C f) (F : FnOk X.prog X.w X.K X.mg X.base CX0 k f fd ps (spD (tx X) 2 φ)) (hb : Binds X.K fd ps []) (hr : Room (k + 1) X.A) (ha : DE X a fa) (hbx : DE X b fb) : DT X (.Compare a [.NotEq] [b] pos) (eEqO c φ true fa fb) := pt_imp (pt_cmpR (op_neO ec F hb hr) ha hbx (nomark _)) (tTest_of (tEqO_of hc))
/-- a class with its __eq__ -/
def CalE (P : Program) (w : World) (K : PySem.W.Frag) (mg : Str → Option Value) (base : Heap) (c : Str) (k : Nat) (ps : List Str) (φ : Fn) : Prop :=
  ∃ C f fd, mg c = some (.ref C) ∧ EqC K C f ∧ FnOk P w K mg base CX0 k f fd ps (spD ⟨K, mg, P, w⟩ 2 φ) ∧ Binds K fd ps []
theorem de_calEq (h : CalE X.prog X.w X.K X.mg X.base c k ps φ) (hr : Room (k + 1) X.A) (ha : DE X a fa) (hbx : DE X b fb) : DE X (.Compare a [.Eq] [b] pos) (eEqO c φ false fa fb) := let ⟨_, _, _, h1, h2, h3, h4⟩ := h; de_eqO h1 h2 h3 h4 hr ha hbx
theorem de_calNe (h : CalE X.prog X.w X.K X.mg X.base c k ps φ) (hr : Room (k + 1) X.A) (ha : DE X a fa) (hbx : DE X b fb) : DE X (.Compare a [.NotEq] [b] pos) (eEqO c φ true fa fb) := let ⟨_, _, _, h1, h2, h3, h4⟩ := h; de_neO h1 h2 h3 h4 hr ha hbx
theorem dt_calEq (h : CalE X.prog X.w X.K X.mg X.base c k ps φ) (hr : Room (k + 1) X.A) (ha : DE X a fa) (hbx : DE X b fb) : DT X (.Compare a [.Eq] [b] pos) (eEqO c φ false fa fb) := let ⟨_, _, _, h1, h2, h3, h4⟩ := h; dt_eqO h1 h2 h3 h4 hr ha hbx
theorem dt_calNe (h : CalE X.prog X.w X.K X.mg X.base c k ps φ) (hr : Room (k + 1) X.A) (ha : DE X a fa) (hbx : DE X b fb) : DT X (.Compare a [.NotEq] [b] pos) (eEqO c φ true fa fb) := let ⟨_, _, _, h1, h2, h3, h4⟩ := h; dt_neO h1 h2 h3 h4 hr ha hbx
end
end Dl
set_option Elab.async false
set_option linter.all false
set_option maxRecDepth 100000
set_option maxHeartbeats 4000000
/-! D35: [.., *xs, ..], f-strings, split, dicts with tuples as keys, isinstance of an own class, x * n. -/
namespace Dl
open PySem PySem.Spec L2
/-! ### stars -/
def aStar (f : E) (r : EA) : EA := fun env w => match f env w with
  | some (d, w1) => match seqD d with
    | some ds => match r env w1 with
      | some (xs, w2) => some (ds ++ xs, w2)
      | none => none
    | none => none
  | none => none
def eLstA (a : EA) : E := fun env w => match a env w with
  | some (ds, w') => if ds.length ≤ sizeLine then some (.lst ds, w') else none
  | none => none
def eTupA (a : EA) : E := fun env w => match a env w with
  | some (ds, w') => if ds.length ≤ sizeLine then some (.tup ds, w') else none
  | none => none
section
variable {X : Cx} {pos : Pos} {e : Expr} {es : List Expr} {f : E} {fr : EA}
theorem sq_of {T : Tx} {G : Gd} {H : Hp} {v : V} {d : D} {ds : List D} (r : Rep T G H v d) (h : seqD d = some ds) : ∃ p xs, v = .ref p ∧ (SqT T.K H p xs ∨ SqL T.K H p xs) ∧ Reps T G H xs ds := by
  cases r with
  | tup h1 z rr => cases h; exact ⟨_, _, rfl, .inl (SqT.of h1), rr⟩
  | ktp h1 rr => cases h; exact ⟨_, _, rfl, .inl h1.sq, rr⟩
  | lst h1 z rr => cases h; exact ⟨_, _, rfl, .inr h1.sq, rr⟩
  | klt h1 rr =>
    cases h
    obtain ⟨o, its, n, k1, k2, k3, k4, k5, k6⟩ := h1
    exact ⟨_, _, rfl, .inr (.inr ⟨o, its, n, k1, k2, k3, k4, k5, k6⟩), rr⟩
  | _ => cases h
theorem daA_nil : DA X [] aNil := da_nil
theorem daA_cons (ha : DE X e f) (hr : DA X es fr) (hs : starEach (e :: es) X.env = (false, eval e X.env) :: starEach es X.env := by rfl) : DA X (e :: es) (aCons f fr) :=
  pa_imp (pa_cons ha hr hs) fun σ H Q ⟨G, B, env, w, ds, w', hd, e, k⟩ => by
  obtain ⟨x, w1, xs, e1, e2, rfl⟩ := aCons_some (a := f) (r := fr) e
  refine ⟨G, B, env, w, x, w1, hd, e1, fun v H1 s1 h1 r1 => ⟨G, B, env, w1, xs, w', h1, e2, fun vs H2 s2 h2 r2 => ?_⟩⟩
  exact k (v :: vs) H2 (s1.trans s2) h2 (.cons (r1.keep (s2.keep h1.draw)) r2)
theorem daA_star {p : Pos} (ha : DE X e f) (hr : DA X es fr) (hs : starEach (.Starred e p :: es) X.env = (true, eval e X.env) :: starEach es X.env := by rfl) : DA X (.Starred e p :: es) (aStar f fr) :=
  pa_imp (StX.pa_star ha hr hs) fun σ H Q ⟨G, B, env, w, ds, w', hd, e, k⟩ => by
  unfold aStar at e
  split at e
  · rename_i d w1 e1
    split at e
    · rename_i ds1 h1
      split at e
      · rename_i xs w2 e2
        cases e
        refine ⟨G, B, env, w, d, w1, hd, e1, fun v H1 s1 g1 r1 => ?_⟩
        obtain ⟨p, ys, rfl, sq, rr⟩ := sq_of r1 h1
        refine ⟨p, ys, rfl, sq, G, B, env, w1, xs, _, g1, e2, fun vs H2 s2 g2 r2 => ?_⟩
        exact k _ H2 (s1.trans s2) g2 ((rr.keep (s2.keep g1.draw)).append r2)
      · cases e
    · cases e
  · cases e
theorem do_lstA (h : DA X es fr) : DO X (.List es pos) (eLstA fr) := pe_imp (pe_lst h) fun σ H Q ⟨G, B, env, w, d, w', hd, e, k⟩ => by
  unfold eLstA at e
  split at e
  · rename_i ds w1 ea
    split at e
    · rename_i hl
      cases e
      refine ⟨G, B, env, w, ds, _, hd, ea, fun vs H1 s1 h1 r1 => ?_⟩
      have len : vs.length ≤ sizeLine := by rw [r1.length]; exact hl
      exact ⟨len, fun p np => k p _ (h1.back s1 np) (s1.trans (.new _ np)) (h1.new _ np) (.lst upd_same len (r1.keep (Keep.new _ np)))⟩
    · cases e
  · cases e
theorem de_tupA {x1} (h : DA X es fr) : DE X (.Tuple es x1 pos) (eTupA fr) := pe_imp (pe_tup h) fun σ H Q ⟨G, B, env, w, d, w', hd, e, k⟩ => by
  unfold eTupA at e
  split at e
  · rename_i ds w1 ea
    split at e
    · rename_i hl
      cases e
      refine ⟨G, B, env, w, ds, _, hd, ea, fun vs H1 s1 h1 r1 => ?_⟩
      have len : vs.length ≤ sizeLine := by rw [r1.length]; exact hl
      exact ⟨len, fun p np => k _ _ (s1.trans (.new _ np)) (h1.new _ np) (.tup upd_same len (r1.keep (Keep.new _ np)))⟩
    · cases e
  · cases e
theorem cf_lstA : ∀ env w d w', eLstA fr env w = some (d, w') → cont d = true := fun env w d w' h => by
  unfold eLstA at h
  split at h
  · split at h
    · cases h; rfl
    · cases h
  · cases h
end
/-! ### f-strings -/
def jsD : List E → Str → Env → Dr → Option (Str × Dr)
  | [], acc, _, w => some (acc, w)
  | f :: fs, acc, env, w => match f env w with
    | some (.str y, w1) => if (acc ++ y).length ≤ sizeLine then jsD fs (acc ++ y) env w1 else none
    | _ => none
def eJs (fs : List E) : E := fun env w => match jsD fs Str.empty env w with
  | some (x, w1) => if sB x = true then some (.str x, w1) else none
  | none => none
/-- a part of an f-string -/
def eFm (f : E) : E := e1 (fun d => match d with
  | .str y => some (.str y)
  | _ => none) f
inductive DJ (X : Cx) : List Expr → List E → Prop
  | nil : DJ X [] []
  | cons {e : Expr} {f : E} {es : List Expr} {fs : List E} (h : DE X e f) (r : DJ X es fs) : DJ X (e :: es) (f :: fs)
section
variable {X : Cx} {pos : Pos}
theorem DJ.pj : ∀ {es : List Expr} {fs : List E}, DJ X es fs → PJ X es (fs.map (tD (tx X)))
  | _, _, .nil => .nil
  | _, _, .cons h r => .cons h r.pj
theorem tJs_of : ∀ {fs : List E} {acc : Str} {σ : St} {H : Hp} {G : Gd} {B : Hp} {env : Env} {w w' : Dr} {x : Str} {Q : Str → Hp → Prop}, Hold (tx X) G B σ H env w → jsD fs acc env w = some (x, w') → (∀ H', SameD G H H' → Hold (tx X) G B σ H' env w' → Q x H') → tJs (fs.map (tD (tx X))) acc σ H Q
  | [], acc, σ, H, G, B, env, w, w', x, Q, hd, e, k => by
    cases e
    exact k H (.refl _ _) hd
  | f :: fs, acc, σ, H, G, B, env, w, w', x, Q, hd, e, k => by
    unfold jsD at e
    split at e
    · rename_i y w1 e1
      split at e
      · rename_i hl
        refine ⟨G, B, env, w, _, w1, hd, e1, fun v H1 s1 h1 r => ?_⟩
        cases r
        exact ⟨y, rfl, hl, tJs_of h1 e fun H' s' h' => k H' (s1.trans s') h'⟩
      · cases e
    · cases e
theorem de_js {v1 v2 : Expr} {rest : List Expr} {fs : List E} (h : DJ X (v1 :: v2 :: rest) fs) : DE X (.JoinedStr (v1 :: v2 :: rest) pos) (eJs fs) := pe_imp (pe_joined h.pj) fun σ H Q ⟨G, B, env, w, d, w', hd, e, k⟩ => by
  unfold eJs at e
  split at e
  · rename_i x w1 ej
    split at e
    · rename_i hs
      cases e
      exact tJs_of hd ej fun H' s' h' => k _ H' s' h' (.str hs)
    · cases e
  · cases e
theorem de_fm {e : Expr} {f : E} (h : DE X e f) : DE X (.FormattedValue e (-1) none pos) (eFm f) := pe_imp (pe_fmt h) fun σ H Q ⟨G, B, env, w, d, w', hd, e, k⟩ => by
  obtain ⟨x, ea, eg⟩ := e1_some e
  refine ⟨G, B, env, w, x, w', hd, ea, fun v H1 s1 h1 r => ?_⟩
  cases r with
  | str hs => cases eg; exact .inl ⟨_, rfl, hs.len, k _ H1 s1 h1 (.str hs)⟩
  | _ => cases eg
end
/-! ### split -/
def splitD (x y : D) : Option D := match x, y with
  | .str a, .str b => if (b.length == 0) = false ∧ a.length + 2 ≤ sizeLine ∧ ((Txt.split a b).all sB = true ∧ (Txt.split a b).length ≤ sizeLine) then some (.lst ((Txt.split a b).map .str)) else none
  | _, _ => none
theorem reps_strs {T : Tx} {G : Gd} {H : Hp} : ∀ {ys : List Str}, ys.all sB = true → Reps T G H (ys.map V.str) (ys.map D.str)
  | [], _ => .nil
  | y :: ys, h => by
    rw [List.all_cons, Bool.and_eq_true] at h
    exact .cons (.str h.1) (reps_strs h.2)
section
variable {X : Cx} {pos apos : Pos} {o e : Expr} {fo f : E}
theorem do_split (ho : DE X o fo) (he : DE X e f) (hs : starEach [e] X.env = [(false, eval e X.env)] := by rfl) (hbase : attributeBase o "split" X.env (eval o X.env) = eval o X.env := by rfl) (hline : (apos.endLine == pos.line) = true := by rfl) :
    DO X (.Call (.Attribute o "split" apos) [e] [] pos) (e2 splitD fo f) := pe_imp (pe_split ho he hs hbase hline) fun σ H Q ⟨G, B, env, w, d, w', hd, e, k⟩ => by
  obtain ⟨x, w1, y, h1, h2, h3⟩ := e2_some e
  unfold splitD at h3
  split at h3
  · rename_i a b
    split at h3
    · rename_i hc
      cases h3
      refine ⟨G, B, env, w, _, w1, hd, h1, fun v H1 s1 g1 r1 => ?_⟩
      cases r1
      refine ⟨⟨a, rfl⟩, G, B, env, w1, _, w', g1, h2, fun v H2 s2 g2 r2 => ?_⟩
      cases r2
      refine ⟨a, b, rfl, rfl, hc.1, hc.2.1, fun p np => ?_⟩
      exact k p _ (g1.back s1 (g2.back s2 np)) ((s1.trans s2).trans (.new _ np)) (g2.new _ np) (.lst upd_same (by rw [List.length_map]; exact hc.2.2.2) (reps_strs hc.2.2.1))
    · cases h3
  · cases h3
theorem cf_split : ∀ env w d w', e2 splitD fo f env w = some (d, w') → cont d = true := fun env w d w' h => by
  obtain ⟨x, w1, y, _, _, h3⟩ := e2_some h
  unfold splitD at h3
  split at h3
  · split at h3
    · cases h3; rfl
    · cases h3
  · cases h3
end
/-! ### dicts with tuples as keys -/
section
variable {T : Tx} {G : Gd} {H : Hp}
theorem tupKey_dKeys (k : List Key) : tupKey (dKeys k) = some k := keysOf_map k
theorem any_tkeys {k : List Key} : ∀ {ps : List (List Key × V)} {kvs : List (D × D)}, kvs.map (·.1) = ps.map (fun p => dKeys p.1) → (kvs.any fun q => decide (tupKey q.1 = some k)) = ps.any fun q => decide (q.1 = k)
  | [], [], _ => rfl
  | (a, v) :: ps, (b, d) :: kvs, e => by
    simp only [List.map_cons, List.cons.injEq] at e
    obtain ⟨rfl, e⟩ := e
    rw [List.any_cons, List.any_cons, any_tkeys e]
    congr 1
    rw [tupKey_dKeys]
    by_cases h : a = k
    · subst h; simp
    · rw [decide_eq_false h, decide_eq_false fun z => h (Option.some.inj z)]
theorem map_putT {k : List Key} {v : V} {d : D} (rv : Rep T G H v d) : ∀ {ps : List (List Key × V)} {kvs : List (D × D)}, kvs.map (·.1) = ps.map (fun p => dKeys p.1) → Reps T G H (ps.map (·.2)) (kvs.map (·.2)) →
    (kvs.map fun q => if tupKey q.1 = some k then (q.1, d) else q).map (·.1) = (ps.map fun q => if q.1 = k then (q.1, v) else q).map (fun p => dKeys p.1) ∧ Reps T G H ((ps.map fun q => if q.1 = k then (q.1, v) else q).map (·.2)) ((kvs.map fun q => if tupKey q.1 = some k then (q.1, d) else q).map (·.2))
  | [], [], _, _ => ⟨rfl, .nil⟩
  | (a, u) :: ps, (b, d') :: kvs, e, r => by
    simp only [List.map_cons, List.cons.injEq] at e r
    obtain ⟨rfl, e⟩ := e
    cases r with
    | cons r rr =>
      obtain ⟨h1, h2⟩ := map_putT (k := k) rv e rr
      by_cases h : a = k
      · subst h
        simp only [List.map_cons, tupKey_dKeys, if_true]
        exact ⟨by rw [h1], .cons rv h2⟩
      · have h' : ¬ tupKey (dKeys a) = some k := by rw [tupKey_dKeys]; exact fun z => h (Option.some.inj z)
        simp only [List.map_cons, if_neg h, if_neg h']
        exact ⟨by rw [h1], .cons r h2⟩
theorem keysOf_dKey : ∀ {ds : List D} {ks : List Key}, keysOf ds = some ks → ds = ks.map dKey
  | [], _, h => by cases h; rfl
  | d :: ds, ks, h => by
    unfold keysOf at h
    split at h
    · rename_i k hk
      split at h
      · rename_i ks' hks
        cases h
        rw [List.map_cons, ← keysOf_dKey hks, ← dKey_of hk]
      · cases h
    · cases h
theorem dKeys_of {kd : D} {k : List Key} (h : tupKey kd = some k) : kd = dKeys k := by
  unfold Dl.tupKey at h
  split at h
  · rw [keysOf_dKey h]; rfl
  · cases h
theorem putT_rel {ps : List (List Key × V)} {kvs : List (D × D)} {kd : D} {k : List Key} {v : V} {d : D} (hk : tupKey kd = some k) (ok : ksOk k) (rv : Rep T G H v d) (z : ps.length < sizeLine ∧ ∀ p ∈ ps, ksOk p.1) (e : kvs.map (·.1) = ps.map (fun p => dKeys p.1)) (r : Reps T G H (ps.map (·.2)) (kvs.map (·.2))) :
    ((putK ps k v).length ≤ sizeLine ∧ ∀ p ∈ putK ps k v, ksOk p.1) ∧ (putT kvs kd k d).map (·.1) = (putK ps k v).map (fun p => dKeys p.1) ∧ Reps T G H ((putK ps k v).map (·.2)) ((putT kvs kd k d).map (·.2)) := by
  refine ⟨⟨Nat.le_trans (length_putK ps k v) z.1, fun p hp => ?_⟩, ?_⟩
  · unfold putK at hp
    split at hp
    · obtain ⟨q, hq, rfl⟩ := List.mem_map.mp hp
      split
      · exact z.2 q hq
      · exact z.2 q hq
    · rcases List.mem_append.mp hp with h | h
      · exact z.2 p h
      · cases List.mem_singleton.mp h; exact ok
  · unfold putK putT
    rw [any_tkeys e]
    split
    · exact map_putT rv e r
    · simp only [List.map_append, e, dKeys_of hk]
      exact ⟨rfl, r.append (.cons rv .nil)⟩
end
section
variable {X : Cx} {pos : Pos} {x : Str} {p : Pos}
/-- x[k] = v, x a dict of one's own with tuples as keys -/
def sPutT (i : Nat) (ek ev : E) : S := fun env w => match ev env w with
  | none => none
  | some (d, w1) => match ek env w1 with
    | none => none
    | some (kd, w2) => match env[i]?, tupKey kd with
      | some (.ow (.dit kvs)), some k => if kvs.length < sizeLine then some (.nx (env.set i (.ow (.dit (putT kvs kd k d)))), w2) else none
      | _, _ => none
theorem ds_putT (i : Nat) {ke ve : Expr} {pos' : Pos} {fk fv : E} (hu : X.A.units + 1 < cLine) (hi : PE X (.Name x p) (tVar i)) (hk : DE X ke fk) (hv : DE X ve fv) (hs : swapsWith ve (some (.Subscript (.Name x p) ke pos')) pos.line X.env = pure false := by rfl) :
    DS X (.Assign [.Subscript (.Name x p) ke pos'] ve pos) (sPutT i fk fv) := ps_imp (ps_dput hu hi hk hv hs) fun D σ H ⟨G, B, env, w, fl, w', hd, e, kk⟩ => by
  unfold sPutT at e
  split at e
  · cases e
  · rename_i d w1 ev
    split at e
    · cases e
    · rename_i kd w2 ek
      split at e
      · rename_i kvs k hs hkey
        split at e
        · rename_i hlt
          cases e
          refine ⟨G, B, env, w, d, w1, hd, ev, fun v H1 s1 h1 rv => ?_⟩
          obtain ⟨a, ha, nb, n1, n2, ow⟩ := h1.ow i _ hs
          refine ⟨_, ha, G, B, env, w1, kd, _, h1, ek, fun y H2 s2 h2 ry => ?_⟩
          obtain ⟨a', ha', _, _, _, ow'⟩ := h2.ow i _ hs
          rw [ha] at ha'
          cases ha'
          obtain ⟨b, ey, hb, ok⟩ := ry.tupKey hkey
          cases ow' with
          | @dicT ps _ h z q r =>
            have hl := r.length
            simp only [List.length_map] at hl
            have hp : ps.length < sizeLine := by omega
            refine ⟨_, _, rfl, .inr ⟨_, k, b, h, ey, hb, hp, rfl⟩, kk σ _ (((s1.trans s2).keep hd.draw).trans (Keep.mut _ h rfl)) (h2.mutOw hs ha (fun u hu => by rw [h] at hu; cases hu; rfl) ?_)⟩
            have km : Keep H2 (upd H2 a (.dT (putK ps k v))) := Keep.mut _ h rfl
            obtain ⟨p1, p2, p3⟩ := putT_rel hkey ok ((rv.keep (s2.keep h1.draw)).keep km) ⟨hp, z.2⟩ q (r.keep km)
            exact .dicT upd_same p1 p2 p3
        · cases e
      · cases e
end
/-! ### isinstance of an own class -/
structure IsC (K : PySem.W.Frag) (mg : Str → Option Value) (c : Str) : Prop where
  ex : ∃ C, mg c = some (.ref C) ∧ Cls K C ∧ PySem.W.findIn K (.ref C) "__class__" = some (some (.builtin "object.__class__")) ∧ PySem.W.specialIn K (.builtin "object.__class__") "__get__" = some (some (.builtin "getset_descriptor.__get__")) ∧ PySem.W.takesIn K (.builtin "object.__class__") = some true ∧ PySem.W.mroIn K C (.type "object") = some true ∧ PySem.W.kitOne K (.ref C) (.ref C) = some true
def isOb (c : Str) (d : D) : Option D := match d with
  | .obj c' _ => if c' = c then some (.bl true) else none
  | _ => none
theorem de_isO {X : Cx} {c : Str} {a : Expr} {fa : E} {p p2 pos : Pos} (hg : Gl X "isinstance") (hm : X.mg "isinstance" = none) (hg2 : Gl X c) (ic : IsC X.K X.mg c) (ha : DE X a fa) (hx2 : (c == ("__debug__" : Str)) = false := by decide)
    (hs1 : starEach (a :: [.Name c p2]) X.env = (false, eval a X.env) :: starEach [.Name c p2] X.env := by rfl) (hs2 : starEach (.Name c p2 :: []) X.env = (false, eval (.Name c p2) X.env) :: starEach [] X.env := by rfl) (hpl : (backTo pos (starEach [.Name c p2] X.env)).any (·.1) = false := by rfl) :
    DE X (.Call (.Name "isinstance" p) [a, .Name c p2] [] pos) (e1 (isOb c) fa) := by
  obtain ⟨C, h1, h2, h3, h4, h5, h6, h7⟩ := ic.ex
  refine pe_imp (pe_callB call_isi hg hm PyProof.Rows.boot_isinstance (pa_cons ha (pa_cons (pe_glob (v := .ref C) hg2 h1 rfl hx2) pa_nil hs2) hs1) (by decide) (by decide) hs1 hpl) fun σ H Q ⟨G, B, env, w, d, w', hd, e, k⟩ => ?_
  obtain ⟨x, ea, eg⟩ := e1_some e
  refine ⟨G, B, env, w, x, w', hd, ea, fun v H1 s1 g1 r => ?_⟩
  unfold isOb at eg
  split at eg
  · rename_i c' gs
    split at eg
    · rename_i hcc
      subst hcc
      cases eg
      cases r with
      | obj m hx dn q rr =>
        have e1 : X.mg c' = some (.ref _) := m
        rw [h1] at e1
        cases e1
        exact ⟨_, .ref C, .ref C, .ref C, true, rfl, .own C, .base (.ins hx h2 h3 h4 h5 h6), h7, k _ H1 s1 g1 (.bl _)⟩
    · cases eg
  · cases eg
end Dl
set_option Elab.async false
set_option linter.all false
set_option maxRecDepth 100000
set_option maxHeartbeats 4000000
/-! D32: set(xs) of nested tuples; its len. -/
namespace Dl
open PySem PySem.Spec L2
/-- each once -/
def dedupN (ks : List NestedKey) : List NestedKey := ks.foldl (fun acc k => if k ∈ acc then acc else acc ++ [k]) []
theorem dedupN_snoc (ks : List NestedKey) (k : NestedKey) : dedupN (ks ++ [k]) = if k ∈ dedupN ks then dedupN ks else dedupN ks ++ [k] := by
  unfold dedupN
  rw [List.foldl_append]
  rfl
theorem dedupN_len (ks : List NestedKey) : (dedupN ks).length ≤ ks.length := by
  have h : ∀ (l acc : List NestedKey), (l.foldl (fun acc k => if k ∈ acc then acc else acc ++ [k]) acc).length ≤ acc.length + l.length := by
    intro l
    induction l with
    | nil => intro acc; exact Nat.le_refl _
    | cons a l ih =>
      intro acc
      rw [List.foldl_cons]
      refine Nat.le_trans (ih _) ?_
      split <;> simp <;> omega
  have := h ks []
  rw [List.length_nil, Nat.zero_add] at this
  exact this
section
variable {prog : Program} {w : World} {A : Around} {R : Result → Shared → Prop} {I : Addr} {fp wr : List Addr} {G : Array GenState → Array GenState → Prop} {n : Nat} {P : Nat → Value → Prop} {St : Nat → Shared → Prop}
/-- a set with these keys -/
def SetE (prog : Program) (w : World) (h : Heap) (a : Addr) (ks : List NestedKey) : Prop := ∃ L es ep t, SetN prog w h a L es ep t ∧ (L.map (·.2)).Perm (dedupN ks)
theorem SetN.keep {h h' : Heap} {a : Addr} {L : NL} {es : Array (Int × Value)} {ep : Nat} {t : SetTable} (R : SetN prog w h a L es ep t) (ha : ∀ o, h.get? a = some o → h'.get? a = some o) (hk : ∀ p ∈ L, NIs prog w h' p.2 p.1) : SetN prog w h' a L es ep t :=
  ⟨let ⟨o, ho, r⟩ := R.ob; ⟨o, ha o ho, r⟩, R.rows, R.tab, R.nd, hk, R.room⟩
theorem setN_fresh {h : Heap} {a : Addr} {led : Bool} (ho : h.get? a = some (freshSet led)) : SetN prog w h a [] #[] 0 (.fresh 0 0 led) where
  ob := ⟨_, ho, ⟨rfl, rfl, rfl⟩, rfl⟩
  rows := rfl
  tab := ⟨List.Pairwise.nil, rfl, rfl, .inl rfl, fun x hx => (by cases hx), fun i h j hi => (by simp at hi)⟩
  nd := List.nodup_nil
  key := fun p hp => (by cases hp)
  room := by show 0 * 5 < 7 * 3; decide
variable {E : Value → Shared → Prop} {s : Shared} {l : Addr} {items : Array Value} {aks : NL} {Q : Value → Shared → Prop}
/-- the set of the first i of the tuples aks, which stand in h0, as all of h0 does -/
def NSet (prog : Program) (w : World) (h0 : Heap) (S : Addr) (aks : NL) (i : Nat) (t : Shared) : Prop := (∀ b o, h0.get? b = some o → t.heap.get? b = some o) ∧
  ∃ L es ep tb, SetN prog w t.heap S L es ep tb ∧ (L.map (·.2)).Perm (dedupN ((aks.take i).map (·.2))) ∧ ∀ p ∈ L, p ∈ aks
theorem NSet.len {h0 : Heap} {S : Addr} {i : Nat} {L : NL} (pm : (L.map (·.2)).Perm (dedupN ((aks.take i).map (·.2)))) : L.length ≤ i := by
  have h1 := pm.length_eq
  have h2 := dedupN_len ((aks.take i).map (fun x : Addr × NestedKey => x.2))
  rw [← h1] at h2
  simp only [List.length_map, List.length_take] at h2
  omega
/-- what is put behind one more tuple -/
theorem NSet.more {i : Nat} {p : Addr × NestedKey} {L L' : NL} (e : aks[i]? = some p) (pm : (L.map (·.2)).Perm (dedupN ((aks.take i).map (·.2)))) (sub : ∀ p ∈ L, p ∈ aks) (c1 : p.2 ∈ L.map (·.2) → L' = L) (c2 : p.2 ∉ L.map (·.2) → L'.Perm (p :: L)) :
    (L'.map (·.2)).Perm (dedupN ((aks.take (i + 1)).map (·.2))) ∧ ∀ p ∈ L', p ∈ aks := by
  have one : aks.take (i + 1) = aks.take i ++ [p] := by rw [List.take_succ, e]; rfl
  rw [one, List.map_append, List.map_singleton, dedupN_snoc]
  by_cases met : p.2 ∈ L.map (·.2)
  · rw [if_pos (pm.mem_iff.mp met), c1 met]
    exact ⟨pm, sub⟩
  · rw [if_neg fun z => met (pm.mem_iff.mpr z)]
    have q := c2 met
    exact ⟨((q.map (fun x : Addr × NestedKey => x.2)).trans (pm.cons p.2 : (p.2 :: L.map (·.2)).Perm _)).trans (List.perm_append_singleton _ _).symm, fun x hx => (List.mem_cons.mp (q.mem_iff.mp hx)).elim (fun y => y ▸ List.mem_of_getElem? e) (sub x)⟩
theorem nset_grows {h0 : Heap} {S I : Addr} (apart : S ≠ I) (hS0 : h0.get? S = none) (hI0 : h0.get? I = none) (hsz : aks.length = items.size) (few : aks.length < 75) (hval : ∀ (i : Nat) (v : Value), items[i]? = some v → ∃ p, aks[i]? = some p ∧ v = .ref p.1) (hk : ∀ p ∈ aks, NIs prog w h0 p.2 p.1) (hu : A.units + 8 < cLine) :
    Grows prog w A S [I] (fun a b => b = a) items.size (fun i v => items[i]? = some v) (NSet prog w h0 S aks) where
  stay := fun i t t' ⟨kp, L, es, ep, tb, hS, pm, sub⟩ m => by
    have kp' : ∀ b o, h0.get? b = some o → t'.heap.get? b = some o := fun b o z => m.heap b o (fun y => by rw [List.mem_singleton.mp y, hI0] at z; cases z) (kp b o z)
    exact ⟨kp', L, es, ep, tb, hS.keep (fun o z => m.heap S o (fun y => apart (List.mem_singleton.mp y)) z) fun p hp => nis_keep (hk p (sub p hp)) kp', pm, sub⟩
  add := fun i v t lt hv ⟨kp, L, es, ep, tb, hS, pm, sub⟩ Q E k => by
    obtain ⟨p, e, rfl⟩ := hval i v hv
    have here : NIs prog w t.heap p.2 p.1 := nis_keep (hk p (List.mem_of_getElem? e)) kp
    have room := NSet.len (h0 := h0) (S := S) pm
    unfold setAdd
    refine wpAny_holding (wpAny_bind ((nestedKind prog w).pyHash (k := p.2) hu here (SetN.add (s := { t with toks := t.toks + (nestedKind prog w).draws p.2 }) hS here hu (by omega) fun b h' L' es' ep' t' only hS' c1 c2 => ?_)))
    exact k b h' _ only (Nat.le_add_right _ _) ⟨fun b o z => (only.2 b fun y => by rw [y, hS0] at z; cases z).trans (kp b o z), L', es', ep', t', hS', NSet.more e pm sub c1 c2⟩
theorem nset_of (hh : A.handled = none) (hl : s.heap.IsList l items ∨ s.heap.IsTuple l items) (hsz : aks.length = items.size) (few : aks.length < 75) (hval : ∀ (i : Nat) (v : Value), items[i]? = some v → ∃ p, aks[i]? = some p ∧ v = .ref p.1) (hk : ∀ p ∈ aks, NIs prog w s.heap p.2 p.1) (hu : A.units + 16 < cLine)
    (q : ∀ (h' : Heap) (tk : Nat), SetE prog w h' s.heap.objs.size (aks.map (·.2)) → (∀ b o, s.heap.get? b = some o → h'.get? b = some o) → Q (.ref s.heap.objs.size) { s with heap := h', toks := tk }) :
    wpAny (model prog w) A (call (.type "set") [.ref l]) Q E s := by
  have above : ∀ b, s.heap.objs.size ≤ b → s.heap.get? b = none := fun b hb => Heap.get?_none_of_le hb
  refine set_by hh hl (nset_grows (aks := aks) (h0 := s.heap) (Nat.ne_of_lt (Nat.lt_succ_self _)) (above _ (Nat.le_refl _)) (above _ (Nat.le_succ _)) hsz few hval hk (by show A.units + 3 + 8 < cLine; omega)) (fun led c => ?_) fun h' tk j kp => q h' tk ?_ kp
  · exact ⟨fun b o z => Heap.get?_push_of_some _ (Heap.get?_push_of_some _ z), [], #[], 0, _, setN_fresh (led := led) (Heap.get?_push_of_some _ (Heap.get?_push_size _ rfl)), List.Perm.refl _, fun p hp => absurd hp List.not_mem_nil⟩
  · obtain ⟨_, L, es, ep, tb, hS, pm, _⟩ := j
    rw [← hsz, List.take_length] at pm
    exact ⟨L, es, ep, tb, hS, pm⟩
theorem setN_of_list (hh : A.handled = none) (hl : s.heap.IsList l items) (hsz : aks.length = items.size) (few : aks.length < 75) (hval : ∀ (i : Nat) (v : Value), items[i]? = some v → ∃ p, aks[i]? = some p ∧ v = .ref p.1) (hk : ∀ p ∈ aks, NIs prog w s.heap p.2 p.1) (hu : A.units + 16 < cLine)
    (q : ∀ (h' : Heap) (tk : Nat), SetE prog w h' s.heap.objs.size (aks.map (·.2)) → (∀ b o, s.heap.get? b = some o → h'.get? b = some o) → Q (.ref s.heap.objs.size) { s with heap := h', toks := tk }) :
    wpAny (model prog w) A (call (.type "set") [.ref l]) Q E s := nset_of hh (.inl hl) hsz few hval hk hu q
theorem setN_of_tuple (hh : A.handled = none) (hl : s.heap.IsTuple l items) (hsz : aks.length = items.size) (few : aks.length < 75) (hval : ∀ (i : Nat) (v : Value), items[i]? = some v → ∃ p, aks[i]? = some p ∧ v = .ref p.1) (hk : ∀ p ∈ aks, NIs prog w s.heap p.2 p.1) (hu : A.units + 16 < cLine)
    (q : ∀ (h' : Heap) (tk : Nat), SetE prog w h' s.heap.objs.size (aks.map (·.2)) → (∀ b o, s.heap.get? b = some o → h'.get? b = some o) → Q (.ref s.heap.objs.size) { s with heap := h', toks := tk }) :
    wpAny (model prog w) A (call (.type "set") [.ref l]) Q E s := nset_of hh (.inr hl) hsz few hval hk hu q
end
end Dl
set_option Elab.async false
set_option linter.all false
set_option maxRecDepth 100000
set_option maxHeartbeats 4000000
/-! D33: len(set(xs)), xs texts, numbers, or nested tuples. -/
namespace Dl
open PySem PySem.Spec L2
/-- a set of n things -/
def SetL (a : Addr) (n : Nat) : HO := .ext fun h => ∃ (o : Obj) (es : Array (Int × Value)) (ep : Nat) (t : SetTable), h.get? a = some o ∧ o.ExactSet ∧ o.data = .set es ep t ∧ t.fits es.size = true ∧ es.size = n ∧ n < 1000
section
variable {X : Cx}
theorem setL_new {P : Program} {w : World} {H : Hp} {h : Heap} {a : Addr} {ks : List NestedKey} (R : SetE P w h a ks) (few : ks.length < 75) : ObjOk P w H h a (SetL a (dedupN ks).length) := by
  obtain ⟨L, es, ep, t, R, pm⟩ := R
  obtain ⟨o, ho, hex, hd⟩ := R.ob
  have hl : es.size = (dedupN ks).length := by rw [rows_size R.rows, ← pm.length_eq, List.length_map]
  have hf : t.fits es.size = true := fits_of (by rw [R.tab.sz, List.length_map, rows_size R.rows]) R.tab.dm (by rw [rows_size R.rows]; have := R.room; omega)
  have := dedupN_len ks
  exact ⟨⟨o, es, ep, t, ho, hex, hd, hf, hl, by omega⟩, ⟨o, ho⟩, fun g1 g2 ⟨o1, es1, ep1, t1, k1, k2⟩ kp => ⟨o1, es1, ep1, t1, kp _ k1, k2⟩⟩
def rLenL : List V → Hp → VK → Prop := fun vs H Q => ∃ (a : Addr) (n : Nat), vs = [.ref a] ∧ H a = some (SetL a n) ∧ Q (.int n) H
theorem cr_lenL : CallR X (.builtin "len") rLenL := by
  intro pins s σ H vs us Q I r ⟨a, n, ev, ha, q⟩
  subst ev
  obtain ⟨u, eu, ru⟩ := vals1 r
  subst eu
  cases ru
  obtain ⟨⟨o, es, ep, t, ho, hex, hd, hf, hn, hb⟩, _⟩ := (show ObjOk X.prog X.w H s.heap a (SetL a n) from I.hok a _ ha)
  exact call_len_set ho hex hd hf (by omega) ⟨.int n, H, I.tok _, ⟨_, by rw [hn]⟩, q⟩
def rSetN (X : Cx) : List V → Hp → VK → Prop := fun vs H Q => ∃ (G : Gd) (a : Addr) (aks : NL), vs = [.ref a] ∧ (SqL X.K H a (aks.map fun p => V.ref p.1) ∨ SqT X.K H a (aks.map fun p => V.ref p.1)) ∧
  (∀ p ∈ aks, ∃ d, Rep (tx X) G H (.ref p.1) d ∧ nkD 8 d = some p.2) ∧ aks.length < 75 ∧ ∀ p, H p = none → Q (.ref p) (upd H p (SetL p (dedupN (aks.map (·.2))).length))
theorem vals_refs : ∀ {aks : NL} {us : List Value}, Vals (aks.map fun p => V.ref p.1) us → us = aks.map fun p => Value.ref p.1
  | [], _, .nil => rfl
  | p :: aks, _, .cons r t => by
    have h : _ = Value.ref p.1 := r
    rw [List.map_cons, vals_refs t, h]
theorem cr_setN (hcalm : X.calm = true) (hu : X.A.units + 64 < cLine) : CallR X (.type "set") (rSetN X) := by
  intro pins s σ H vs us Q I r ⟨G, a, aks, ev, src, hk, few, q⟩
  subst ev
  obtain ⟨u, eu, ru⟩ := vals1 r
  subst eu
  cases ru
  have key : ∀ p ∈ aks, NIs X.prog X.w s.heap p.2 p.1 := fun p hp => by
    obtain ⟨d, rp, e⟩ := hk p hp
    exact nk_is I 8 d _ _ _ rp rfl e
  have fin : ∀ (h' : Heap) (tk : Nat), SetE X.prog X.w h' s.heap.objs.size (aks.map (·.2)) → (∀ b o, s.heap.get? b = some o → h'.get? b = some o) → EP X pins σ Q (.ref s.heap.objs.size) { s with heap := h', toks := tk } := fun h' tk hS kp =>
    ⟨.ref _, _, I.laid (t' := tk) kp (Nat.le_refl _) (setL_new hS (by rw [List.length_map]; exact few)), rfl, q _ (I.hok.fresh (Nat.le_refl _))⟩
  have vl : ∀ {its : List Value}, Vals (aks.map fun p => V.ref p.1) its → ∀ (i : Nat) (v : Value), its.toArray[i]? = some v → ∃ p, aks[i]? = some p ∧ v = .ref p.1 := fun {its} rv i v e => by
    rw [vals_refs rv] at e
    simp at e
    obtain ⟨b, ⟨k, e1⟩, e2⟩ := e
    exact ⟨(b, k), e1, e2.symm⟩
  rcases src with src | src
  · obtain ⟨its, rv, pl, _⟩ := I.list src
    have hl : aks.length = its.toArray.size := by rw [List.size_toArray, ← rv.length, List.length_map]
    exact setN_of_list (I.ok.hd hcalm) pl.isList hl few (vl rv) key (by omega) fin
  · obtain ⟨its, rv, pl, _⟩ := I.tuple src
    have hl : aks.length = its.toArray.size := by rw [List.size_toArray, ← rv.length, List.length_map]
    exact setN_of_tuple (I.ok.hd hcalm) pl hl few (vl rv) key (by omega) fin
def nkTs : List D → Option (List NestedKey)
  | [] => some []
  | d :: ds => match nkT d with
    | some k => match nkTs ds with
      | some ks => some (k :: ks)
      | none => none
    | none => none
theorem Reps.nks {T : Tx} {G : Gd} {H : Hp} : ∀ {vs : List V} {ds : List D} {ks : List NestedKey}, Reps T G H vs ds → nkTs ds = some ks → ∃ aks : NL, vs = aks.map (fun p => V.ref p.1) ∧ aks.map (·.2) = ks ∧ ∀ p ∈ aks, ∃ d, Rep T G H (.ref p.1) d ∧ nkD 8 d = some p.2
  | _, _, _, .nil, e => by cases e; exact ⟨[], rfl, rfl, fun p hp => by cases hp⟩
  | _, d :: ds, ks, .cons r rr, e => by
    unfold nkTs at e
    split at e
    · rename_i k hk
      split at e
      · rename_i ks' hks
        cases e
        obtain ⟨h8, b, rfl⟩ := nkT_ref r hk
        obtain ⟨aks, rfl, rfl, h⟩ := Reps.nks rr hks
        refine ⟨(b, k) :: aks, rfl, rfl, fun p hp => ?_⟩
        rcases List.mem_cons.mp hp with rfl | hp
        · exact ⟨d, r, h8⟩
        · exact h p hp
      · cases e
    · cases e
def lenSetN (d : D) : Option D := match seqD d with
  | some ds => match nkTs ds with
    | some ks => if ks.length < 75 then some (.int (dedupN ks).length) else none
    | none => none
  | none => none
/-- len(set(d)) -/
def lenSetA (d : D) : Option D := match lenSet d with
  | some x => some x
  | none => match d with
    | .klt _ => none
    | _ => lenSetN d
theorem de_lenSetA {a : Expr} {f : E} {p p2 q pos : Pos} (hcalm : X.calm = true) (hu : X.A.units + 64 < cLine) (hg : Gl X "len") (hm : X.mg "len" = none) (hg2 : Gl X "set") (hm2 : X.mg "set" = none) (ha : DE X a f)
    (n1 : starEach [a] X.env = (false, eval a X.env) :: starEach [] X.env := by rfl) (n2 : starEach [.Call (.Name "set" p2) [a] [] q] X.env = (false, eval (.Call (.Name "set" p2) [a] [] q) X.env) :: starEach [] X.env := by rfl) :
    DE X (.Call (.Name "len" p) [.Call (.Name "set" p2) [a] [] q] [] pos) (e1 lenSetA f) :=
  pe_imp (pe_callB (cr_lenK.or cr_lenL) hg hm bt_len (pa_cons (pe_callTy ((cr_setK hcalm).or (cr_setN hcalm hu)) hg2 hm2 bt_set (pa_cons ha pa_nil n1) (by decide) (by decide) n1 rfl) pa_nil n2) (by decide) (by decide) n2 rfl) fun σ H Q ⟨G, B, env, w, d, w', hd, e, k⟩ => by
  obtain ⟨x, ea, eg⟩ := e1_some e
  refine ⟨G, B, env, w, x, w', hd, ea, fun v H1 s1 h1 r => ?_⟩
  have fin : ∀ {a : Addr} {ks : List Key}, (SqL X.K H1 a (ks.map kV) ∨ SqT X.K H1 a (ks.map kV)) → ks.length + 1 < scanBound → d = .int (dcnt [] ks) → rSetK X [.ref a] H1 (fun y H2 => rLenK X [y] H2 Q ∨ rLenL [y] H2 Q) := fun src hb ed =>
    ⟨_, _, rfl, src, hb, fun p np => .inl ⟨_, _, _, rfl, upd_same, k _ _ (s1.trans (.new _ np)) (h1.new _ np) (ed ▸ .int _)⟩⟩
  have finN : ∀ {a : Addr} {vs : List V} {ds : List D} {ks : List NestedKey}, (SqL X.K H1 a vs ∨ SqT X.K H1 a vs) → Reps (tx X) G H1 vs ds → nkTs ds = some ks → ks.length < 75 → d = .int (dedupN ks).length → rSetN X [.ref a] H1 (fun y H2 => rLenK X [y] H2 Q ∨ rLenL [y] H2 Q) := fun src rr hks few ed => by
    obtain ⟨aks, rfl, rfl, h⟩ := rr.nks hks
    exact ⟨G, _, aks, rfl, src, h, by rw [List.length_map] at few; exact few, fun p np => .inr ⟨_, _, rfl, upd_same, k _ _ (s1.trans (.new _ np)) (h1.new _ np) (ed ▸ .int _)⟩⟩
  unfold lenSetA at eg
  split at eg
  · rename_i y hy
    cases eg
    refine .inl ?_
    unfold lenSet at hy
    split at hy
    all_goals first | (cases hy; done) | skip
    all_goals
      split at hy
      · rename_i ks hk
        split at hy
        · rename_i hb
          cases hy
          first
            | (cases r with
               | lst h z rr => obtain ⟨rfl, _⟩ := rr.keys hk; exact fin (.inl h.sq) hb rfl)
            | (cases r with
               | tup h z rr => obtain ⟨rfl, _⟩ := rr.keys hk; exact fin (.inr (SqT.of h)) hb rfl)
            | (cases r with
               | ktp h rr => obtain ⟨rfl, _⟩ := rr.keys hk; exact fin (.inr h.sq) hb rfl)
        · cases hy
      · cases hy
  · split at eg
    · cases eg
    · rename_i hnk
      unfold lenSetN at eg
      split at eg
      · rename_i ds hds
        split at eg
        · rename_i ks hks
          split at eg
          · rename_i few
            cases eg
            refine .inr ?_
            cases r with
            | lst h z rr => cases hds; exact finN (.inl h.sq) rr hks few rfl
            | tup h z rr => cases hds; exact finN (.inr (SqT.of h)) rr hks few rfl
            | ktp h rr => cases hds; exact finN (.inr h.sq) rr hks few rfl
            | klt _ _ => exact absurd rfl (hnk _)
            | _ => cases hds
          · cases eg
        · cases eg
      · cases eg
end
end Dl
set_option Elab.async false
set_option linter.all false
set_option maxRecDepth 100000
set_option maxHeartbeats 4000000
/-! D36: facts of classes for the head; all arguments handed where there are defaults. -/
namespace Dl
open PySem PySem.Spec L2
def eqB (K : PySem.W.Frag) (c : Str) : Bool :=
  He.eqO (PySem.W.findIn K (.ref (He.ga K c)) "__eq__") (some (some (.ref (He.ma K (He.ga K c) "__eq__")))) &&
  He.eqO (PySem.W.findIn K (.ref (He.ga K c)) "__ne__") (some (some (.builtin "object.__ne__"))) &&
  decide (PySem.W.mroIn K (He.ga K c) (.type "object") = some true) && PySem.W.isFn K (.ref (He.ma K (He.ga K c) "__eq__"))
theorem eqB_ok {K : PySem.W.Frag} {c : Str} (h : eqB K c = true) : EqC K (He.ga K c) (He.ma K (He.ga K c) "__eq__") := by
  unfold eqB at h
  rw [Bool.and_eq_true, Bool.and_eq_true, Bool.and_eq_true] at h
  exact ⟨He.eqO_ok h.1.1.1, He.eqO_ok h.1.1.2, of_decide_eq_true h.1.2, h.2⟩
def isB (K : PySem.W.Frag) (c : Str) : Bool :=
  He.eqO (PySem.W.findIn K (.ref (He.ga K c)) "__class__") (some (some (.builtin "object.__class__"))) &&
  He.eqO (PySem.W.specialIn K (.builtin "object.__class__") "__get__") (some (some (.builtin "getset_descriptor.__get__"))) &&
  decide (PySem.W.takesIn K (.builtin "object.__class__") = some true) && decide (PySem.W.mroIn K (He.ga K c) (.type "object") = some true) && decide (PySem.W.kitOne K (.ref (He.ga K c)) (.ref (He.ga K c)) = some true)
theorem isB_ok {K : PySem.W.Frag} {mg : Str → Option Value} {c : Str} (hm : mg c = some (.ref (He.ga K c))) (hc : Cls K (He.ga K c)) (h : isB K c = true) : IsC K mg c := by
  unfold isB at h
  rw [Bool.and_eq_true, Bool.and_eq_true, Bool.and_eq_true, Bool.and_eq_true] at h
  exact ⟨_, hm, hc, He.eqO_ok h.1.1.1.1, He.eqO_ok h.1.1.1.2, of_decide_eq_true h.1.1.2, of_decide_eq_true h.1.2, of_decide_eq_true h.2⟩
theorem bindsFull {K : PySem.W.Frag} {x qual : Str} {params : Arguments} {body : List Stmt} {scope : Scope} {dvs : List V} {f : Addr} {fd : FuncData} {ps : List Str} (F : FunD K x qual params body scope dvs [] f fd) (hd : dvs ≠ [])
    (h : ∀ (T : Addr) (kV doc pm : Value) (an : Option Addr) (cdv ct : Value) (us its : List Value), us.length = ps.length → its.length = dvs.length →
      ∃ k, bindArgs (PySem.W.fnOf x qual params body scope (.ref T) kV doc pm an cdv ct) ⟨us, []⟩ = seqItems? (.ref T) >>= k ∧ k (some its.toArray) = pure (ps.zip us)) : Binds K fd ps [] := by
  obtain ⟨ds, hv, hb⟩ := F.binds1 (ps := ps) ps.length dvs.length hd (by omega) (fun T kV doc pm an cdv ct us its l1 l2 => by
    have e : its.drop dvs.length = [] := List.drop_eq_nil_of_le (by omega)
    rw [e, List.append_nil]
    exact h T kV doc pm an cdv ct us its l1 l2)
  rw [List.drop_length] at hv
  cases hv
  exact hb
end Dl
set_option Elab.async false
set_option linter.all false
set_option maxRecDepth 100000
set_option maxHeartbeats 4000000
/-! P3: rules for stars, f-strings, ==, tuple keys; pairs in either encoding; joined texts. -/
namespace Dl
open PySem L2
section
variable {env : Env} {w : Dr} {Q : D → Dr → Prop} {QA : List D → Dr → Prop} {QS : Fl → Dr → Prop}
@[simp] theorem W_aNil : W (aNil env w) QA ↔ QA [] w := W_some _ _
@[simp] theorem W_aCons (f : E) (r : EA) : W (aCons f r env w) QA ↔ W (f env w) fun x w1 => W (r env w1) fun xs w2 => QA (x :: xs) w2 := by
  unfold aCons
  cases f env w with
  | none => simp [W_none]
  | some p =>
    obtain ⟨x, w1⟩ := p
    simp only [W_some]
    cases r env w1 with
    | none => simp [W_none]
    | some p => obtain ⟨xs, w2⟩ := p; simp [W_some]
@[simp] theorem W_aStar (f : E) (r : EA) : W (aStar f r env w) QA ↔ W (f env w) fun x w1 => Wd (seqD x) fun ds => W (r env w1) fun xs w2 => QA (ds ++ xs) w2 := by
  unfold aStar
  cases f env w with
  | none => simp [W_none]
  | some p =>
    obtain ⟨x, w1⟩ := p
    simp only [W_some]
    cases seqD x with
    | none => simp [W_none, Wd_none]
    | some ds =>
      simp only [Wd_some]
      cases r env w1 with
      | none => simp [W_none]
      | some p => obtain ⟨xs, w2⟩ := p; simp [W_some]
@[simp] theorem W_eLstA (a : EA) : W (eLstA a env w) Q ↔ W (a env w) fun xs w1 => xs.length ≤ sizeLine ∧ Q (.lst xs) w1 := by
  unfold eLstA
  cases a env w with
  | none => simp [W_none]
  | some p => obtain ⟨x, w1⟩ := p; simp only [W_some, W_if]
@[simp] theorem W_eTupA (a : EA) : W (eTupA a env w) Q ↔ W (a env w) fun xs w1 => xs.length ≤ sizeLine ∧ Q (.tup xs) w1 := by
  unfold eTupA
  cases a env w with
  | none => simp [W_none]
  | some p => obtain ⟨x, w1⟩ := p; simp only [W_some, W_if]
@[simp] theorem W_jsD_nil {Q : Str → Dr → Prop} (acc : Str) : W (jsD [] acc env w) Q ↔ Q acc w := W_some _ _
@[simp] theorem W_jsD_cons {Q : Str → Dr → Prop} (f : E) (fs : List E) (acc : Str) : W (jsD (f :: fs) acc env w) Q ↔ W (f env w) fun d w1 => ∃ y, d = .str y ∧ (acc ++ y).length ≤ sizeLine ∧ W (jsD fs (acc ++ y) env w1) Q := by
  rw [jsD]
  cases f env w with
  | none => simp [W_none]
  | some p =>
    obtain ⟨x, w1⟩ := p
    simp only [W_some]
    cases x with
    | str y => simp only [W_if, D.str.injEq, exists_eq_left']
    | _ => simp [W_none]
@[simp] theorem W_eJs (fs : List E) : W (eJs fs env w) Q ↔ W (jsD fs Str.empty env w) fun x w1 => sB x = true ∧ Q (.str x) w1 := by
  unfold eJs
  cases jsD fs Str.empty env w with
  | none => simp [W_none]
  | some p => obtain ⟨x, w1⟩ := p; simp only [W_some, W_if]
@[simp] theorem W_eFm (f : E) : W (eFm f env w) Q ↔ W (f env w) fun d w1 => ∃ y, d = .str y ∧ Q (.str y) w1 := by
  unfold eFm
  rw [W_e1]
  constructor
  · refine fun h => h.mono fun x w1 h => ?_
    cases x with
    | str y => exact ⟨y, rfl, (Wd_some (Q := fun d => Q d w1) _).mp h⟩
    | _ => exact (Wd_none.mp h).elim
  · refine fun h => h.mono fun x w1 h => ?_
    obtain ⟨y, rfl, h⟩ := h
    exact (Wd_some _).mpr h
@[simp] theorem W_eNeg (f : E) : W (eNeg f env w) Q ↔ W (f env w) fun d w1 => ∃ i, d = .int i ∧ Q (.int (-i)) w1 := by
  unfold eNeg
  rw [W_e1]
  constructor
  · refine fun h => h.mono fun x w1 h => ?_
    cases x with
    | int y => exact ⟨y, rfl, (Wd_some (Q := fun d => Q d w1) _).mp h⟩
    | _ => exact (Wd_none.mp h).elim
  · refine fun h => h.mono fun x w1 h => ?_
    obtain ⟨y, rfl, h⟩ := h
    exact (Wd_some _).mpr h
@[simp] theorem W_eEqO (c : Str) (φ : Fn) (neg : Bool) (a b : E) : W (eEqO c φ neg a b env w) Q ↔ W (a env w) fun x w1 => ∃ gs, x = .obj c gs ∧ W (b env w1) fun y w2 => ∃ hs, y = .obj c hs ∧ W (φ [.obj c gs, .obj c hs] w2) fun r w3 => ∃ t, r = .bl t ∧ Q (.bl (if neg = true then !t else t)) w3 := by
  unfold eEqO
  cases a env w with
  | none => simp [W_none]
  | some p =>
    obtain ⟨x, w1⟩ := p
    simp only [W_some]
    cases x with
    | obj c1 gs =>
      simp only []
      cases hb : b env w1 with
      | none => simp [W_none]
      | some p =>
        obtain ⟨y, w2⟩ := p
        simp only [W_some]
        cases y with
        | obj c2 hs =>
          simp only [W_if]
          constructor
          · rintro ⟨⟨rfl, rfl⟩, h⟩
            refine ⟨gs, rfl, hs, rfl, ?_⟩
            cases hp : φ [.obj c2 gs, .obj c2 hs] w2 with
            | none => rw [hp] at h; exact (W_none.mp h).elim
            | some p =>
              obtain ⟨r, w3⟩ := p
              rw [hp] at h
              cases r with
              | bl t => exact (W_some _ _).mpr ⟨t, rfl, (W_some _ _).mp h⟩
              | _ => exact (W_none.mp h).elim
          · rintro ⟨gs', e1, hs', e2, h⟩
            cases e1
            cases e2
            refine ⟨⟨rfl, rfl⟩, ?_⟩
            obtain ⟨r, w3, e, t, rfl, q⟩ := h
            rw [e]
            exact (W_some _ _).mpr q
        | _ => simp [W_none]
    | _ => simp [W_none]
@[simp] theorem W_sPutT (i : Nat) (ek ev : E) : W (sPutT i ek ev env w) QS ↔ W (ev env w) fun d w1 => W (ek env w1) fun kd w2 => ∃ kvs k, env[i]? = some (.ow (.dit kvs)) ∧ tupKey kd = some k ∧ kvs.length < sizeLine ∧ QS (.nx (env.set i (.ow (.dit (putT kvs kd k d))))) w2 := by
  unfold sPutT
  cases ev env w with
  | none => simp [W_none]
  | some q =>
    obtain ⟨d, w1⟩ := q
    simp only [W_some]
    cases ek env w1 with
    | none => simp [W_none]
    | some q =>
      obtain ⟨kd, w2⟩ := q
      simp only [W_some]
      split
      · rename_i kvs k h1 h2
        rw [W_if, W_some, h1, h2]
        simp
      · rename_i h
        rw [W_none]
        constructor
        · exact False.elim
        · rintro ⟨kvs, k, h1, h2, _⟩; exact h kvs k h1 h2
end
@[simp] theorem isOb_self (c : Str) (gs : List (Str × D)) : isOb c (.obj c gs) = some (.bl true) := by unfold isOb; simp
@[simp] theorem cIs_lst (ds : List D) : cIs (.lst ds) .non = some (.bl false) := rfl
@[simp] theorem cIs_nn : cIs .non .non = some (.bl true) := rfl
@[simp] theorem cIsNot_lst (ds : List D) : cIsNot (.lst ds) .non = some (.bl true) := rfl
@[simp] theorem cIsNot_nn : cIsNot .non .non = some (.bl false) := rfl
@[simp] theorem seqD_lst (ds : List D) : seqD (.lst ds) = some ds := rfl
@[simp] theorem seqD_tup (ds : List D) : seqD (.tup ds) = some ds := rfl
@[simp] theorem seqD_ktp (ds : List D) : seqD (.ktp ds) = some ds := rfl
@[simp] theorem tupleP_l (ds : List D) : tupleP [.lst ds] = some (.ktp ds) := rfl
/-! ### == of data with itself -/
theorem eqD_refl : ∀ {n : Nat} {d : D}, okD n d = true → eqD d d = true := by
  have h : ∀ (n : Nat), (∀ d, okD n d = true → eqD d d = true) → ∀ ds : List D, ds.all (okD n) = true → PyData.eqvAll (toPys ds) (toPys ds) = true := by
    intro n ih ds
    induction ds with
    | nil => intro _; rfl
    | cons d ds ihd =>
      intro h
      rw [List.all_cons, Bool.and_eq_true] at h
      show (PyData.eqv (toPy d) (toPy d) && PyData.eqvAll (toPys ds) (toPys ds)) = true
      have := ih d h.1
      unfold eqD at this
      rw [this, ihd h.2]
      rfl
  have ha : ∀ d, (match d with | .tup _ => False | .ktp _ => False | .lst _ => False | .klt _ => False | _ => True) → eqD d d = true := by
    intro d hd
    cases d <;> first
      | exact hd.elim
      | rfl
      | simp [eqD, toPy, PyData.eqv]
  intro n
  induction n with
  | zero =>
    intro d hd
    cases d <;> first
      | exact ha _ trivial
      | exact absurd hd (by simp [okD])
  | succ n ih =>
    intro d hd
    cases d with
    | tup ds => exact h n (fun _ => ih) ds hd
    | ktp ds => exact h n (fun _ => ih) ds hd
    | lst ds => exact h n (fun _ => ih) ds hd
    | klt ds => exact h n (fun _ => ih) ds hd
    | _ => exact ha _ trivial
theorem cNe_refl {d : D} (h : okD 8 d = true) : cNe d d = some (.bl false) := by
  unfold cNe
  rw [h, eqD_refl h]
  rfl
theorem eqvAll_map {α : Type} [DecidableEq α] {f g : α → D} (h : ∀ x y, eqD (f x) (g y) = decide (x = y)) : ∀ l m : List α, PyData.eqvAll (toPys (l.map f)) (toPys (m.map g)) = decide (l = m)
  | [], [] => rfl
  | [], _ :: _ => rfl
  | _ :: _, [] => rfl
  | a :: l, b :: m => by
    have ih := eqvAll_map h l m
    have h1 := h a b
    show (PyData.eqv (toPy (f a)) (toPy (g b)) && PyData.eqvAll (toPys (l.map f)) (toPys (m.map g))) = _
    unfold eqD at h1
    rw [ih, h1]
    by_cases e1 : a = b <;> by_cases e2 : l = m <;> simp [e1, e2]
theorem all_ok_map {α : Type} {f : α → D} {n : Nat} (l : List α) (h : ∀ a ∈ l, okD n (f a) = true) : (l.map f).all (okD n) = true := by
  rw [List.all_map, List.all_eq_true]
  exact h
/-! ### pairs in either encoding -/
def dPrK (x : Pr) : D := .ktp [.str x.1, .str x.2]
def En (e : Pr → D) : Prop := e = dPr ∨ e = dPrK
theorem En.dPr : En dPr := .inl rfl
theorem En.dPrK : En dPrK := .inr rfl
theorem En.eqD {e f : Pr → D} (h : En e) (k : En f) (x y : Pr) : Dl.eqD (e x) (f y) = decide (x = y) := by
  rcases h with rfl | rfl <;> rcases k with rfl | rfl <;> exact eqD_pr x y
theorem En.ok {e : Pr → D} (h : En e) (n : Nat) (x : Pr) : okD (n + 1) (e x) = true := by
  rcases h with rfl | rfl <;> exact okD_pr n x
theorem En.inR {e f : Pr → D} (h : En e) (k : En f) (l : List Pr) (x : Pr) : Dl.inR (e x) (.lst (l.map f)) = some (decide (x ∈ l)) := by
  show (if (okD 8 (e x) && (l.map f).all (okD 7)) = true then some (hasD (l.map f) (e x)) else none) = _
  rw [h.ok 7, all_map_ok l (k.ok 6)]
  have : hasD (l.map f) (e x) = decide (x ∈ l) := by
    unfold hasD
    rw [List.any_map]
    have : ((fun z => Dl.eqD z (e x)) ∘ f) = fun y => decide (y = x) := by funext y; exact k.eqD h y x
    rw [this]
    by_cases h : x ∈ l
    · rw [decide_eq_true h, List.any_eq_true]
      exact ⟨x, h, by simp⟩
    · rw [decide_eq_false h, List.any_eq_false]
      intro y hy
      simp
      rintro rfl
      exact h hy
  rw [this]
  rfl
theorem En.inRK {e f : Pr → D} (h : En e) (k : En f) (l : List Pr) (x : Pr) : Dl.inR (e x) (.ktp (l.map f)) = some (decide (x ∈ l)) := h.inR k l x
theorem En.isT {e : Pr → D} (h : En e) (x : Pr) : isG [.tuple] (e x) = some (.bl true) := by rcases h with rfl | rfl <;> rfl
theorem En.len {e : Pr → D} (h : En e) (x : Pr) : lenD [e x] = some (.int 2) := by rcases h with rfl | rfl <;> rfl
theorem En.i0 {e : Pr → D} (h : En e) (x : Pr) : ixD (e x) (.int 0) = some (.str x.1) := by rcases h with rfl | rfl <;> rfl
theorem En.i1 {e : Pr → D} (h : En e) (x : Pr) : ixD (e x) (.int 1) = some (.str x.2) := by rcases h with rfl | rfl <;> rfl
theorem En.asg {e : Pr → D} (h : En e) (x : Pr) (i j : Nat) (env : Env) : asgP (.tp [.nm i, .nm j]) (e x) env = some ((env.set i (.sh (.str x.1))).set j (.sh (.str x.2))) := by
  rcases h with rfl | rfl
  · simp [Dl.dPr]
  · simp [Dl.dPrK]
theorem En.nk {e : Pr → D} (h : En e) (x : Pr) : nkT (e x) = some (nkPr x) := by rcases h with rfl | rfl <;> rfl
theorem En.sort {e : Pr → D} (h : En e) (l : List Pr) : sortedD [.lst (l.map e)] = some (.lst ((srt Dl.dPr l).map e)) := by
  have hs : sortOk (l.map e) = true := by
    rcases h with rfl | rfl
    · exact sortOk_pr l
    · exact sortOk_of _ l (fun a => okD_pr 7 a) (fun a b => by simp [Dl.dPrK, toPy, toPys, PySem.W.alike, PySem.W.alikeAll]) (.inl fun a => rfl)
  unfold sortedD
  simp only []
  rw [if_pos hs, sortD_map]
  rcases h with rfl | rfl <;> rfl
theorem En.eqL {e f : Pr → D} (h : En e) (k : En f) (l m : List Pr) : cEq (.lst (l.map e)) (.lst (m.map f)) = some (.bl (decide (l = m))) := by
  unfold cEq
  rw [if_pos]
  · exact congrArg (fun b => some (D.bl b)) (eqvAll_map (h.eqD k) l m)
  · show ((l.map e).all (okD 7) && (m.map f).all (okD 7)) = true
    rw [all_map_ok l (h.ok 6), all_map_ok m (k.ok 6)]
    rfl
theorem En.eqK {e f : Pr → D} (h : En e) (k : En f) (l m : List Pr) : cEq (.ktp (l.map e)) (.ktp (m.map f)) = some (.bl (decide (l = m))) := h.eqL k l m
theorem cNe_of {x y : D} {b : Bool} (h : cEq x y = some (.bl b)) : cNe x y = some (.bl (!b)) := by
  unfold cEq at h
  unfold cNe
  split at h
  · rename_i hh
    rw [if_pos hh]
    have : eqD x y = b := by simpa using h
    rw [this]
  · cases h
theorem En.neNil {e : Pr → D} (h : En e) (l : List Pr) : cNe (.lst (l.map e)) (.lst []) = some (.bl (!decide (l = []))) := cNe_of (h.eqL h l [])
theorem En.eqNil {e : Pr → D} (h : En e) (l : List Pr) : cEq (.lst (l.map e)) (.lst []) = some (.bl (decide (l = []))) := by
  have := h.eqL h l []
  rwa [List.map_nil] at this
theorem dedupN_nodup : ∀ (l acc : List NestedKey), (acc ++ l).Nodup → l.foldl (fun acc k => if k ∈ acc then acc else acc ++ [k]) acc = acc ++ l
  | [], acc, _ => by simp
  | k :: l, acc, h => by
    have hk : k ∉ acc := by
      rw [List.nodup_append] at h
      exact fun hm => h.2.2 _ hm _ List.mem_cons_self rfl
    rw [List.foldl_cons, if_neg hk, dedupN_nodup l (acc ++ [k]) (by simpa using h)]
    simp
theorem nkPr_inj {x y : Pr} (h : nkPr x = nkPr y) : x = y := by
  obtain ⟨a, b⟩ := x
  obtain ⟨c, d⟩ := y
  unfold nkPr at h
  simp at h
  simp [h]
theorem En.lenSet {e : Pr → D} (h : En e) (l : List Pr) (nd : l.Nodup) (hn : l ≠ []) (hl : l.length < 75) : lenSetA (.lst (l.map e)) = some (.int l.length) := by
  have h1 : Dl.lenSet (.lst (l.map e)) = none := by
    cases l with
    | nil => exact absurd rfl hn
    | cons a l =>
      have : keysOf ((a :: l).map e) = none := by
        rw [List.map_cons]
        unfold keysOf
        rcases h with rfl | rfl <;> rfl
      unfold Dl.lenSet
      simp only [this]
  have h2 : ∀ l : List Pr, nkTs (l.map e) = some (l.map nkPr) := by
    intro l
    induction l with
    | nil => rfl
    | cons a l ih =>
      rw [List.map_cons]
      unfold nkTs
      rw [h.nk, ih]
      rfl
  unfold lenSetA
  rw [h1]
  show lenSetN (.lst (l.map e)) = _
  unfold lenSetN
  simp only [seqD_lst, h2]
  rw [if_pos (by rw [List.length_map]; exact hl)]
  have h3 := dedupN_nodup (l.map nkPr) [] (by simpa using nodup_map (fun _ _ => nkPr_inj) nd)
  unfold dedupN
  rw [h3]
  simp
end Dl
set_option Elab.async false
set_option linter.all false
set_option maxRecDepth 100000
set_option maxHeartbeats 4000000
/-! D50: an error of the program is made: its __init__ says super().__init__(text), then self.f = f. -/
namespace Dl
open PySem PySem.W PySem.Calls PyProof.Rows PySem.Spec
/-- the body of such an __init__ -/
abbrev supBody (p0 p1 apos pc pos ps p' pn po ps2 : Pos) (j : Nat) (txt fl : Str) : List Stmt :=
  [.Expr (.Call (.Attribute (.Call (.Name "super" p0) [] [] p1) "__init__" apos) [.Constant (.str txt) j pc] [] pos) ps, .Assign [.Attribute (.Name "self" po) fl p'] (.Name fl pn) ps2]
/-- the value is handed over by place or by name -/
def KwOr (fl : Str) (e : Addr) (u : Value) (as : Args) : Prop := as = ⟨[.ref e, u], []⟩ ∨ as = ⟨[.ref e], [(fl, u)]⟩
/-- what the written part tells of the class at C and its __init__ at f -/
structure SupC (K : Frag) (P : Program) (C f : Addr) (fl : Str) : Prop where
  ox : L2.OexC K C
  ini : findIn K (.ref C) "__init__" = some (some (.ref f))
  tI : typeIn K (.ref f) = some (.type "function")
  fn : ∃ (qual : Str) (params : Arguments) (p0 p1 apos pc pos ps p' pn po ps2 : Pos) (j : Nat) (txt : Str) (scope : Scope) (dV kV doc pm : Value) (an : Option Addr) (cda : Addr) (ct : Value) (cc : Addr) (oc : Value) (od : Option Addr) (osl : Array (Option Value)),
    K.lookup f = some ⟨oc, od, .func (ksFn "__init__" qual params (supBody p0 p1 apos pc pos ps p' pn po ps2 j txt fl) scope dV kV doc pm an (.ref cda) ct cc), osl⟩ ∧ codeIn K (.ref cda) qual = true ∧ (apos.endLine == pos.line) = true ∧
    (∃ vs file tf ccl cdd ccs, K.lookup cda = some ⟨ccl, cdd, .fields vs, ccs⟩ ∧ vs[2]? = some (.str file tf) ∧ ((P.main.file : Str) == file) = true) ∧
    (∃ cl cld csl, K.lookup cc = some ⟨cl, cld, .cell (some (.ref C)), csl⟩) ∧
    (∃ ar, (params.posonlyargs ++ params.args).head? = some ar ∧ ar.arg = "self") ∧
    (∀ (s : Shared) (e : Addr) (u : Value) (as : Args), KwOr fl e u as → BindsTo s (ksFn "__init__" qual params (supBody p0 p1 apos pc pos ps p' pn po ps2 j txt fl) scope dV kV doc pm an (.ref cda) ct cc) as [("self", .ref e), (fl, u)]) ∧
    scope.names.lookup ("super" : Str) = some .globalImplicit ∧ scope.names.lookup ("__class__" : Str) = some .free ∧ scope.names.lookup ("self" : Str) = some .local ∧ scope.names.lookup fl = some .local ∧ scope.kind = .function ∧ scope.isCoroutine = false ∧ scope.isGenerator = false ∧ (∀ x ∈ scope.names, x.2 ≠ .cell)
  nself : fl ≠ "self"
  fdb : (fl == ("__debug__" : Str)) = false
  sub : mroIn K C (.ref C) = some true
  top : (P.main.scope.names.lookup ("super" : Str)).isSome = false
  st : nsIn K cStatics "thirdparty.any" = some none
  si : ks_superIn K C C "__init__" = some (some (.builtin "ValueError.__init__"))
  isV : subIn K (.ref C) (.type "ValueError") = some true
  no : findIn K (.ref C) fl = some none
  xi : excInitIn K C [.type "ValueError", .type "Exception", .type "BaseException", .type "object"] "ValueError.__new__" = true
section
variable {P : Program} {w : World} {K : Frag} {C f : Addr} {fl : Str}
/-- C.__init__(e, u) -/
theorem sup_init (S : SupC K P C f fl) {A : Around} {s : Shared} {e t0 : Addr} {u : Value} {as : Args} (has : KwOr fl e u as) {mg mb : Str → Option Value} {R : Result → Shared → Prop} (X : K.In s.heap) (hg : s.heap.Ns mainGlobals mg) (hgs : mg "super" = none) (hb : s.heap.Ns builtinsNs mb) (hbs : mb "super" = some (.type "super")) (hlim : s.heap.NoLimit) (hroom : A.depth < recursionLimit)
    (he : s.heap.get? e = some (HandSPX.excO C t0)) (hke : K.lookup e = none)
    (hq : ∀ h' tk dx t1, (∀ b o, b ≠ e → s.heap.get? b = some o → h'.get? b = some o) → s.heap.objs.size ≤ dx → dx ≠ e → h'.get? e = some { cls := .ref C, dict := some dx, data := .fields #[.ref t1, .none, .none, .none, .bool false, .none] } →
      h'.Ns1 dx (fun y => if y = fl then some u else none) → R (.ok (.ret .none)) { s with heap := h', toks := tk }) :
    codeAny (model P w) A (.call (.ref f) as) R s := by
  obtain ⟨qual, params, p0, p1, apos, pc, pos, ps, p', pn, po, ps2, j, txt, scope, dV, kV, doc, pm, an, cda, ct, cc, oc, od, osl, lk, hcd, hline, ⟨vs, file, tf, ccl, cdd, ccs, hcode, hvs, hfile⟩, ⟨cl, cld, csl, hcell⟩, ⟨ar, har, harg⟩, hbind, ksu, kcl, kse, kfl, kk, hco, hgen, hnc⟩ := S.fn
  obtain ⟨nm, q, N, bs, bm, sn, sub, ab, col, dd, k0, k1, k2, k3, k5, hC, hbm⟩ := S.ox.cls
  have hcl : clsIn K C = some { name := nm, bases := bs, mro := .ref C :: bm, ns := N, qualname := q, hasDict := true, slotNames := sn, subclasses := sub, abstract := ab, collection := col, hasDel := false } := by unfold clsIn; rw [hC] <;> rfl
  refine ks_codeAny_call_defAt (fd := ksFn "__init__" qual params (supBody p0 p1 apos pc pos ps p' pn po ps2 j txt fl) scope dV kV doc pm an (.ref cda) ct cc) (body := supBody p0 p1 apos pc pos ps p' pn po ps2 j txt fl) (binds := [("self", .ref e), (fl, u)]) hroom (X _ _ lk) rfl hlim (codeRec_of X hcd) rfl (hbind s e u as has) hnc
    (fun x hx => ?_) (fun h₀ hns hk => ?_) hco hgen kk
  · rcases List.mem_cons.mp hx with rfl | hx
    · exact kse
    · rcases List.mem_cons.mp hx with rfl | hx
      · exact kfl
      · cases hx
  have X0 : K.In h₀ := X.keeps hk
  have he0 := hk _ _ he
  have kse' : scope.names.lookup ar.arg = some .local := by rw [harg]; exact kse
  have ne : (("self" : Str) == fl) = false := by simpa using Ne.symm S.nself
  have hint : interactive (ksEnv qual scope s.heap.objs.size f (.ref cda) cc) = false := by
    show (scope.kind == .module && _) = false
    rw [kk]; rfl
  have hev : eval (.Call (.Attribute (.Call (.Name "super" p0) [] [] p1) "__init__" apos) [.Constant (.str txt) j pc] [] pos) (ksEnv qual scope s.heap.objs.size f (.ref cda) cc) = (do
      let ov ← attributeBase (.Call (.Name "super" p0) [] [] p1) "__init__" (ksEnv qual scope s.heap.objs.size f (.ref cda) cc) (eval (.Call (.Name "super" p0) [] [] p1) (ksEnv qual scope s.heap.objs.size f (.ref cda) cc))
      standAt apos.atName
      let (fv, first) ← holding [ov] (getMethod ov "__init__" (L2.plainOf (.Call (.Name "super" p0) [] [] p1) (ksEnv qual scope s.heap.objs.size f (.ref cda) cc)))
      callWith pos fv first (backTo pos (starEach [.Constant (.str txt) j pc] (ksEnv qual scope s.heap.objs.size f (.ref cda) cc))) []) := by
    show (do
      let ov ← attributeBase (.Call (.Name "super" p0) [] [] p1) "__init__" (ksEnv qual scope s.heap.objs.size f (.ref cda) cc) (eval (.Call (.Name "super" p0) [] [] p1) (ksEnv qual scope s.heap.objs.size f (.ref cda) cc))
      standAt apos.atName
      methodCall (.Call (.Name "super" p0) [] [] p1) "__init__" apos pos (ksEnv qual scope s.heap.objs.size f (.ref cda) cc) ov 1 (backTo pos (starEach [.Constant (.str txt) j pc] (ksEnv qual scope s.heap.objs.size f (.ref cda) cc))) []) = _
    congr 1; funext ov; congr 1; funext _
    exact L2.mcall_line rfl hline
  refine ks_wpAt_execs_cons (ks_wpAt_Expr_any (env := ksEnv qual scope s.heap.objs.size f (.ref cda) cc) (ks_wpAt_MethodCall (env := ksEnv qual scope s.heap.objs.size f (.ref cda) cc) ?_ hev) hint (by rfl))
  refine ks_wpAt_super_base (env := ksEnv qual scope s.heap.objs.size f (.ref cda) cc) ksu kcl rfl rfl (X0 _ _ lk) rfl har rfl (X0 _ _ hcode) rfl hvs hfile S.top ?_
  refine ks_loadName_global kk ksu (loadGlobal_builtin (env := ksEnv qual scope s.heap.objs.size f (.ref cda) cc) (hg.keeps hk) hgs (hb.keeps hk) hbs ⟨rfl, ?_⟩)
  refine wpAny_loadName_free kk kcl rfl ⟨_, X0 _ _ hcell, rfl⟩ ?_
  refine wpAny_loadName_local kk kse' hns (v := .ref e) (by rw [harg]; show ([("self", Value.ref e), (fl, u)] : List (Str × Value)).reverse.lookup ("self" : Str) = _; simp [List.lookup, ne]) ?_
  refine ks_wpAny_isType_cls (X0 _ _ hC) rfl ⟨rfl, ?_⟩
  refine ks_wpAny_call_super (X0 _ _ hC) rfl he0 rfl (fun c z => by cases z) (looks_mroIn X0 S.sub) fun h1 hso k1 => ?_
  have X1 : K.In h1 := X0.keeps k1
  have he1 := k1 _ _ he0
  have J1 : InstAt h1 e (HandSPX.excO C t0) C none := ⟨he1, rfl, rfl, trivial⟩
  have hI : Looks (model P w) h1 (isInstance (.ref e) (.type "ValueError")) true := J1.type.andThen (looks_subIn X1 S.isV)
  have hsi := S.si
  unfold ks_superIn at hsi
  rw [hcl] at hsi
  refine kxs_getMethod kxs_ValueError hso (looks_opaque X1 S.st) (l₀ := .ref C :: bm) (fun A Q E s k q => wpAny_bind ((looks_clsIn X1 hcl) A _ E s k (wpAny_pure q))) rfl X1 hsi hI (ks_ne X1 J1 hcl) rfl ?_
  -- the ledger: the frame at L, the wrapper and the error; what stood before the call is the ground, but for the error
  let L := s.heap.objs.size
  let ws := h1.push (kxs_mw "ValueError.__init__" e)
  have up2 : ∀ b o, h₀.get? b = some o → ws.get? b = some o := fun b o z => Heap.get?_push_of_some _ (k1 b o z)
  have eL : e ≠ L := Nat.ne_of_lt (Heap.lt_size he)
  obtain ⟨oL, es0, ep0, hL, _⟩ := id hns
  have uL : h1.objs.size ≠ L := Nat.ne_of_gt (Heap.lt_size (k1 _ _ hL))
  have ue : h1.objs.size ≠ e := Nat.ne_of_gt (Heap.lt_size he1)
  have ground : ∀ b o, (hideAll s.heap [e]).get? b = some o → b ≠ e ∧ s.heap.get? b = some o := fun b o z => ⟨fun y => by (rw [y, hideAll_none [e] (.head _)] at z; cases z), of_hideAll [e] z⟩
  have K00 : K.In (hideAll s.heap [e]) := fun b o z => hideAll_get [e] (X _ _ z) fun y => by rw [List.mem_singleton.mp y, hke] at z; cases z
  have ledF : Fr (hideAll s.heap [e]) L ws (fun x => ([("self", Value.ref e), (fl, u)] : List (Str × Value)).reverse.lookup x) := ⟨hns.keeps up2, fun b o z => up2 b o (hk b o (ground b o z).2), Nat.le_of_eq (hideAll_size _ _)⟩
  have ledN : News (hideAll s.heap [e]) L ws [(h1.objs.size, kxs_mw "ValueError.__init__" e), (e, excObj C t0 none .none)] := fun p hp => by
    rcases List.mem_cons.mp hp with rfl | one
    · refine ⟨Heap.get?_push_at rfl rfl, uL, ?_⟩
      cases z : (hideAll s.heap [e]).get? h1.objs.size with
      | none => rfl
      | some o => exact absurd (Heap.lt_size (k1 _ _ (hk _ _ (ground _ _ z).2))) (Nat.lt_irrefl _)
    · obtain rfl := List.mem_singleton.mp one
      exact ⟨up2 _ _ he0, eL, hideAll_none [e] (.head _)⟩
  refine kxs_callWith1 (s := ⟨ws, _, _, _, _⟩) ledN (.head _) ?_ rfl rfl
  show wpAny _ _ (spliced ((false, eval (.Constant (.str txt) j pc) (ksEnv qual scope L f (.ref cda) cc)) :: backTo pos (starEach [] (ksEnv qual scope L f (.ref cda) cc)))) _ _ _
  refine Calls.spliced_cons (Calls.Constant_str (Calls.spliced_nil ⟨kxs_at ledN (.head _), ?_⟩))
  refine kxs_call (x := e) (t := t0) (dv := none) (c2 := .none) ledF K00 ledN F.excBase_ValueError S.xi (.head _) (.tail ue (.head fun _ z => nomatch z)) (by show 1 ≤ sizeLine; rw [sizeLine_eq]; omega) fun t' h3 F3 N3 _ => ?_
  have he3 : h3.get? e = some (excObj C t' none .none) := (N3 (e, _) (.tail _ (.tail _ (.head _)))).1
  have X3 : K.In h3 := K00.keeps F3.keep
  have hns3 := F3.ns
  have up3 : ∀ b o, b ≠ e → s.heap.get? b = some o → h3.get? b = some o := fun b o hb z => F3.keep b o (hideAll_get [e] z fun y => hb (List.mem_singleton.mp y))
  show _root_.PySem.wpAt (model P w) _ _ (execs [Stmt.Assign [(Expr.Name "self" po).Attribute fl p'] (Expr.Name fl pn) ps2] (ksEnv qual scope L f (.ref cda) cc)) _ _ _
  refine ks_wpAt_execs_cons (ks_wpAt_Assign_Attr (env := ksEnv qual scope L f (.ref cda) cc) ?_ (by rfl))
  refine wpAt_of_wpAny (ESX.ldL (env := ksEnv qual scope L f (.ref cda) cc) (v := u) hns3 (by show ([("self", Value.ref e), (fl, u)] : List (Str × Value)).reverse.lookup fl = _; simp [List.lookup]) ?_ kk kfl S.fdb)
  refine ESX.ldL (env := ksEnv qual scope L f (.ref cda) cc) (v := .ref e) hns3 (by show ([("self", Value.ref e), (fl, u)] : List (Str × Value)).reverse.lookup ("self" : Str) = _; simp [List.lookup, ne]) ?_ kk kse rfl
  refine set_plain X3 (ox := excObj C t' none .none) (od := none) ⟨he3, rfl, rfl, trivial⟩ S.ox.sa (HandSPX.exc_osa X3 he3 hcl (show HandSPX.refsVE (.ref C :: bm) = true from hbm) rfl S.no fun h' tk' dx kp dn dne hx hn => ?_)
  show _root_.PySem.wpAt (model P w) _ _ (execs [] (ksEnv qual scope L f (.ref cda) cc)) _ _ _
  obtain ⟨_, _, _, h3L, _⟩ := hns3
  exact wpAt_of_wpAny (wpAny_execs_nil (hq h' tk' dx t' (fun b o hb z => kp b o hb (up3 b o hb z)) (Nat.le_trans (Nat.le_of_lt (Heap.lt_size h3L)) dn) dne hx hn))
end
end Dl
namespace L2
open PySem PySem.Spec PyProof.Rows
section
variable {X : Cx} {e : Expr} {te : TE} {x fl : Str} {C fI : Addr} {p pos : Pos} {k : Nat}
/-- C(e), C an error of the program with one field -/
def tMk1 (C : Addr) (fl : Str) (te : TE) : St → Hp → XK → Prop := fun σ H Q => te σ H fun v H1 => ∀ d, H1 d = none → Q (.ref C) (some d) (upd H1 d (.xd [(fl, v)]))
/-- the class is called on rest and kw, which bind the field to u -/
theorem run_sup (S : Dl.SupC X.K X.prog C fI fl) (hs : X.mg "super" = none) {rest : List Value} {kw : List (Str × Value)} (hroom : (X.A.under (.builtin "type.__call__" ⟨.ref C :: rest, kw⟩)).depth < recursionLimit) {pins : List (Addr × Obj)} {s1 : Shared} {σ : St} {H1 : Hp} {Q : XK} {u : Value} {v : V} (has : ∀ e, Dl.KwOr fl e u ⟨.ref e :: rest, kw⟩)
    (hcall : ∀ R, codeAny (model X.prog X.w) (X.A.under (.builtin "type.__call__" ⟨.ref C :: rest, kw⟩)) (.call (.ref fI) ⟨.ref (s1.heap.objs.size + 1) :: rest, kw⟩) (PySem.W.InitBack (s1.heap.objs.size + 1) R) { s1 with heap := (s1.heap.push (PySem.W.kdv_tup rest)).push (PySem.HandSPX.excO C s1.heap.objs.size) } → codeAny (model X.prog X.w) X.A (.call (.ref C) ⟨rest, kw⟩) R s1)
    (I1 : Inv X pins σ H1 s1) (rv : RelV v u) (q1 : ∀ d, H1 d = none → Q (.ref C) (some d) (upd H1 d (.xd [(fl, v)]))) : wpAny (model X.prog X.w) X.A (call (.ref C) rest kw) (MkP X pins σ Q) X.xe s1 := by
  obtain ⟨hp, g, dr, tk, os⟩ := s1
  have kk : ∀ b o, hp.get? b = some o → ((hp.push (PySem.W.kdv_tup rest)).push (PySem.HandSPX.excO C hp.objs.size)).get? b = some o := fun b o e => Heap.get?_push_of_some _ (Heap.get?_push_of_some _ e)
  have hget : ((hp.push (PySem.W.kdv_tup rest)).push (PySem.HandSPX.excO C hp.objs.size)).get? (hp.objs.size + 1) = some (PySem.HandSPX.excO C hp.objs.size) := by heap_get
  obtain ⟨mb, hb1, hb2⟩ := I1.ok.mod.blt
  have bk : ∀ b o, X.base.get? b = some o → ((hp.push (PySem.W.kdv_tup rest)).push (PySem.HandSPX.excO C hp.objs.size)).get? b = some o := fun b o e => kk b o (I1.bk b o e)
  have hn : hp.get? (hp.objs.size + 1) = none := Heap.get?_none_of_le (Nat.le_succ _)
  have hke : X.K.lookup (hp.objs.size + 1) = none := by
    cases z : X.K.lookup (hp.objs.size + 1) with
    | none => rfl
    | some o => have := I1.kIn _ _ z; rw [show hp.get? (hp.objs.size + 1) = none from hn] at this; cases this
  refine wpAny_call (hcall _ ?_)
  refine Dl.sup_init S (has _) (I1.kIn.keeps kk) (I1.mod.glob.keeps bk) hs (hb1.keeps bk) ((hb2 _ (by decide)).trans (by first | rfl | decide +kernel)) (I1.mod.nolimit.keeps bk) hroom hget hke fun h' tk' dx t1 k dn dne hx hns => ?_
  obtain ⟨G, g1, g2⟩ := restrict h' fun b => decide (b ≠ hp.objs.size + 1)
  have gk : ∀ b, b ≠ hp.objs.size + 1 → G.get? b = h'.get? b := fun b hb => g1 b (decide_eq_true hb)
  have ge : G.get? (hp.objs.size + 1) = none := g2 _ (by simp)
  have nha : ∀ {b : Addr} {o : Obj}, hp.get? b = some o → b ≠ hp.objs.size + 1 := fun {b o} z => Nat.ne_of_lt (Nat.lt_succ_of_lt (Heap.lt_size z))
  have hsz : hp.objs.size ≤ dx := Nat.le_trans (show hp.objs.size ≤ ((hp.push (PySem.W.kdv_tup rest)).push (PySem.HandSPX.excO C hp.objs.size)).objs.size by rw [Heap.size_push, Heap.size_push]; omega) dn
  have J : Inv X pins σ (upd H1 dx (.xd [(fl, v)])) ⟨G, g, dr, tk', os⟩ := I1.laid (t' := tk') (a := dx) (o := .xd [(fl, v)]) (h' := G) (fun b o z => by rw [gk b (nha z)]; exact k b o (nha z) (kk b o z)) hsz
    ⟨_, hns.at fun o y => (gk dx dne).trans y, relO_put (fs := []) rv fun _ => trivial⟩
  refine ⟨rfl, hp.objs.size + 1, _, _, ⟨G, g, dr, tk', os⟩, _, .ref C, some dx, rfl, J, fun b o z => ?_, ge, hx, ⟨rfl, rfl⟩, rfl, rfl, ?_, rfl, I1.bare, raises_own S.ox.exC S.ox.tyC, q1 dx (I1.hok.fresh hsz)⟩
  · refine (gk b fun y => ?_).symm.trans z
    rw [y] at z
    cases (show G.get? (hp.objs.size + 1) = some o from z).symm.trans ge
  · rw [upd_ne (Ne.symm dne)]; exact I1.hok.fresh (Nat.le_succ _)
theorem pmk_sup (S : Dl.SupC X.K X.prog C fI fl) (hr : Room (k + 1) X.A) (hg : Gl X x) (hm : X.mg x = some (.ref C)) (hs : X.mg "super" = none) (he : PE X e te) (hdb : (x == ("__debug__" : Str)) = false := by decide)
    (hst : starEach [e] X.env = (false, eval e X.env) :: starEach [] X.env := by rfl) : PMk X (.Call (.Name x p) [e] [] pos) (tMk1 C fl te) := by
  intro pins s σ H Q I h
  obtain ⟨_, _, _, _, mroT, _, _, _, _, _, _, _, _, _, _, hC, hbm⟩ := S.ox.cls
  refine wpAny_Call_Name_kw (ld_glob I hg hm ?_ hdb)
  refine PySem.W.callWith_K (h₀ := X.base) I.ok.mod.kin S.ox.kC (thn ((pa_cons he pa_nil hst).run pos pins s σ H (fun vs H1 => match vs with | [v] => ∀ d, H1 d = none → Q (.ref C) (some d) (upd H1 d (.xd [(fl, v)])) | _ => False) I h) fun us s1 ⟨vs, H1, I1, r1, q1⟩ => ⟨I1.kIn, ?_⟩) hst (by rfl)
  match vs, r1, q1 with
  | [], _, q1 => exact q1.elim
  | _ :: _ :: _, _, q1 => exact q1.elim
  | [v], .cons (b := u) rv .nil, q1 =>
  exact run_sup S hs (rest := [u]) (kw := []) (hr.make C [u] []).depth (fun e => .inl rfl) (fun R h => PySem.HandSPX.call_own F.excBase_ValueError (fun Y => PySem.HandSPX.refsVE_contains Y mroT hbm) (I1.kIn _ _ hC) (PySem.W.looks_findIn I1.kIn S.ini) (fun self => PySem.W.bind_fn I1.kIn self S.tI) (by show 1 ≤ sizeLine; rw [sizeLine_eq]; omega) h) I1 rv q1
end
end L2
set_option Elab.async false
set_option linter.all false
set_option maxRecDepth 100000
set_option maxHeartbeats 4000000
/-! D52: what may raise an error: expressions, statements, defs. -/
namespace Dl
open PySem PySem.Spec L2
/-- an outcome: a datum, or an error (.exc c fs) that is raised -/
inductive Rs where
  | ok (d : D)
  | ex (x : D)
abbrev EX := Env → Dr → Option (Rs × Dr)
abbrev FnX := List D → Dr → Option (Rs × Dr)
inductive RsA where
  | ok (ds : List D)
  | ex (x : D)
abbrev EAX := Env → Dr → Option (RsA × Dr)
inductive FX where
  | fl (f : Fl)
  | ex (x : D)
abbrev SX := Env → Dr → Option (FX × Dr)
/-- the error x: its class, where its dict stands -/
def ExR (T : Tx) (G : Gd) (H : Hp) (cls : Value) (d : Option Addr) (x : D) : Prop := ∃ c fs C vs, x = .exc c fs ∧ T.mg c = some (.ref C) ∧ cls = .ref C ∧
  ((d = none ∧ vs = []) ∨ ∃ dd, d = some dd ∧ H dd = some (.xd vs)) ∧ fs.map (·.1) = vs.map (·.1) ∧ Reps T G H (vs.map (·.2)) (fs.map (·.2))
theorem ExR.keep {T : Tx} {G : Gd} {H H' : Hp} {cls : Value} {d : Option Addr} {x : D} (k : Keep H H') (h : ExR T G H cls d x) : ExR T G H' cls d x := by
  obtain ⟨c, fs, C, vs, h1, h2, h3, h4, h5, h6⟩ := h
  exact ⟨c, fs, C, vs, h1, h2, h3, h4.imp id fun ⟨dd, e1, e2⟩ => ⟨dd, e1, k _ _ e2 rfl⟩, h5, h6.keep k⟩
/-- what is wished of an error -/
def Wx (T : Tx) (G : Gd) (B : Hp) (E : XK) (x : D) (w' : Dr) : Prop := ∀ cls d H', SameD G B H' → DrawAt G H' w' → ExR T G H' cls d x → E cls d H'
def rsD (T : Tx) (G : Gd) (B : Hp) (σ : St) (H : Hp) (env : Env) (w' : Dr) (E : XK) (Q : VK) : Rs → Prop
  | .ok d => ∀ v H', SameD G H H' → Hold T G B σ H' env w' → Rep T G H' v d → Q v H'
  | .ex x => Wx T G B E x w'
def tDX (T : Tx) (E : XK) (f : EX) : TE := fun σ H Q => ∃ G B env w r w', Hold T G B σ H env w ∧ f env w = some (r, w') ∧ rsD T G B σ H env w' E Q r
def rsA (T : Tx) (G : Gd) (B : Hp) (σ : St) (H : Hp) (env : Env) (w' : Dr) (E : XK) (Q : List V → Hp → Prop) : RsA → Prop
  | .ok ds => ∀ vs H', SameD G H H' → Hold T G B σ H' env w' → Reps T G H' vs ds → Q vs H'
  | .ex x => Wx T G B E x w'
def tDAX (T : Tx) (E : XK) (f : EAX) : TA := fun σ H Q => ∃ G B env w r w', Hold T G B σ H env w ∧ f env w = some (r, w') ∧ rsA T G B σ H env w' E Q r
def endDX (T : Tx) (G : Gd) (B H : Hp) (E : XK) (D : Ends) : FX → Dr → Prop
  | .fl fl, w' => endD T G B H D fl w'
  | .ex x, w' => Wx T G B E x w'
def tDSX (T : Tx) (E : XK) (f : SX) : TS := fun D σ H => ∃ G B env w fl w', Hold T G B σ H env w ∧ f env w = some (fl, w') ∧ endDX T G B H E D fl w'
abbrev DEX (X : Cx) (E : XK) (e : Expr) (f : EX) : Prop := PE X e (tDX (tx X) E f)
abbrev DAX (X : Cx) (E : XK) (es : List Expr) (f : EAX) : Prop := PA X es (tDAX (tx X) E f)
abbrev DSX (X : Cx) (E : XK) (st : Stmt) (f : SX) : Prop := PS X st (tDSX (tx X) E f)
abbrev DSsX (X : Cx) (E : XK) (st : List Stmt) (f : SX) : Prop := PSs X st (tDSX (tx X) E f)
/-- the context takes the errors that E wishes -/
abbrev Tks (X : Cx) (E : XK) : Prop := Takes X (fun cls d _ H => E cls d H)
theorem Tks.passes {X : Cx} {E : XK} (t : Tks X E) : Passes (L2.CX X.prog X.w) X E := passes_call t (fun _ _ _ _ h => h)
theorem passesF {X : Cx} : Passes (L2.CX X.prog X.w) X (fun _ _ _ => False) := fun _ _ _ _ _ _ _ ⟨_, _, _, _, _, _, _, _, _, _, _, _, h⟩ => h.elim
/-! ### expressions -/
def xE (f : E) : EX := fun env w => match f env w with
  | some (d, w') => some (.ok d, w')
  | none => none
theorem xE_some {f : E} {env : Env} {w w' : Dr} {r : Rs} (h : xE f env w = some (r, w')) : ∃ d, f env w = some (d, w') ∧ r = .ok d := by
  unfold xE at h
  split at h
  · cases h; exact ⟨_, ‹_›, rfl⟩
  · cases h
def aXNil : EAX := fun _ w => some (.ok [], w)
def aXCons (a : EX) (r : EAX) : EAX := fun env w => match a env w with
  | some (.ok x, w1) => match r env w1 with
    | some (.ok xs, w2) => some (.ok (x :: xs), w2)
    | some (.ex x, w2) => some (.ex x, w2)
    | none => none
  | some (.ex x, w1) => some (.ex x, w1)
  | none => none
/-- a call with arguments that may raise, by what it does with them -/
def eAppX (φ : FnX) (a : EAX) : EX := fun env w => match a env w with
  | some (.ok xs, w1) => φ xs w1
  | some (.ex x, w1) => some (.ex x, w1)
  | none => none
/-- a def that raises nothing -/
def fnX (φ : Fn) : FnX := fun xs w => match φ xs w with
  | some (d, w') => some (.ok d, w')
  | none => none
section
variable {X : Cx} {Z : XK} {pos : Pos} {e : Expr} {es : List Expr}
theorem dex_de {f : E} (h : DE X e f) : DEX X Z e (xE f) := pe_imp h fun σ H Q ⟨G, B, env, w, r, w', hd, e, k⟩ => by
  obtain ⟨d, e1, rfl⟩ := xE_some e
  exact ⟨G, B, env, w, d, w', hd, e1, k⟩
theorem dax_nil : DAX X Z [] aXNil := pa_imp pa_nil fun σ H Q ⟨G, B, env, w, r, w', hd, e, k⟩ => by
  cases e
  exact k [] H (.refl _ _) hd .nil
theorem dax_cons {f : EX} {g : EAX} (ha : DEX X Z e f) (hr : DAX X Z es g) (hs : starEach (e :: es) X.env = (false, eval e X.env) :: starEach es X.env := by rfl) : DAX X Z (e :: es) (aXCons f g) :=
  pa_imp (pa_cons ha hr hs) fun σ H Q ⟨G, B, env, w, r, w', hd, e, k⟩ => by
  unfold aXCons at e
  split at e
  · rename_i x w1 ea
    split at e
    · rename_i xs w2 eb
      cases e
      exact ⟨G, B, env, w, _, w1, hd, ea, fun v H1 s1 h1 r1 => ⟨G, B, env, w1, _, _, h1, eb, fun vs H2 s2 h2 r2 => k _ H2 (s1.trans s2) h2 (.cons (r1.keep (s2.keep h1.draw)) r2)⟩⟩
    · rename_i y w2 eb
      cases e
      exact ⟨G, B, env, w, _, w1, hd, ea, fun v H1 s1 h1 r1 => ⟨G, B, env, w1, _, _, h1, eb, k⟩⟩
    · cases e
  · rename_i y w1 ea
    cases e
    exact ⟨G, B, env, w, _, _, hd, ea, k⟩
  · cases e
end
/-! ### defs -/
def rsC (T : Tx) (G : Gd) (H : Hp) (w' : Dr) (E : XK) (Q : VK) : Rs → Prop
  | .ok d => ∀ v H', SameD G H H' → DrawAt G H' w' → Rep T G H' v d → Q v H'
  | .ex x => ∀ cls d H', SameD G H H' → DrawAt G H' w' → ExR T G H' cls d x → E cls d H'
def spX (T : Tx) (n : Nat) (φ : FnX) : Sp := fun vs H Q E => ∃ G ds w r w', Reps T G H vs ds ∧ DrawAt G H w ∧ ds.length = n ∧ φ ds w = some (r, w') ∧ rsC T G H w' E Q r
def bodyX (n : Nat) (f : SX) : FnX := fun ds w => match f (env0 n ds) w with
  | some (.fl (.rt d), w') => some (.ok d, w')
  | some (.fl (.nx _), w') => some (.ok .non, w')
  | some (.ex x, w') => some (.ex x, w')
  | _ => none
/-- the part of the reading that a call has -/
theorem rsD_call {T : Tx} {G : Gd} {B : Hp} {σ : St} {H H1 : Hp} {env : Env} {w1 w' : Dr} {E : XK} {Q : VK} {r : Rs} (s1 : SameD G H H1) (h1 : Hold T G B σ H1 env w1) (k : rsD T G B σ H env w' E Q r) : rsC T G H1 w' E Q r := by
  cases r with
  | ok d => exact fun v H' s dr rr => k v H' (s1.trans s) (h1.go s dr) rr
  | ex x => exact fun cls d H' s dr rr => k cls d H' (h1.same.trans s) dr rr
section
variable {P : Program} {w : World} {K : PySem.W.Frag} {mg : Str → Option Value} {base : Heap} {x qual : Str} {params : Arguments} {body : List Stmt} {scope : Scope} {dvs : List V} {kws : List (Str × V)} {f : Addr} {fd : FuncData} {N ps : List Str} {k : Nat} {fb : SX}
theorem fn_X (F : FunD K x qual params body scope dvs kws f fd) (S : FnScope N ps scope)
    (hb : ∀ (cdv : Value) (A : Around) (outer : List PySem.Env) (s : Shared) (H : Hp) (E : XK), Room k (A.deeper (PyProof.Rows.envOfC qual scope s.heap.objs.size f cdv)) → Tks (cxOf (L2.CX P w) P w K mg base N qual scope f cdv A outer s H E) E → PassesOwn (model P w) (cxOf (L2.CX P w) P w K mg base N qual scope f cdv A outer s H E).A (cxOf (L2.CX P w) P w K mg base N qual scope f cdv A outer s H E).env (cxOf (L2.CX P w) P w K mg base N qual scope f cdv A outer s H E).xe → DSsX (cxOf (L2.CX P w) P w K mg base N qual scope f cdv A outer s H E) E body fb) :
    FnOk P w K mg base (L2.CX P w) (k + 1) f fd ps (spX ⟨K, mg, P, w⟩ ps.length (bodyX N.length fb)) := by
  refine F.ok S (fun vs H Q E h => ?_) (fun cdv A outer s H vs Q E hr h => ⟨_, hb cdv A outer s H E hr (takes_of (E₁ := fun e' s'' => L2.CX P w outer H s E e' s'') rfl rfl rfl rfl) (passes_of rfl), ?_⟩)
  · obtain ⟨G, ds, w, d, w', r, _, hl, _⟩ := h
    rw [r.length]; exact hl
  · obtain ⟨G, ds, w0, r0, w', r, dr, hl, e, k⟩ := h
    unfold bodyX at e
    split at e
    · rename_i d' w1 eb
      cases e
      exact ⟨G, H, _, w0, _, _, hold_start r dr, eb, fun v H' s dr r => k v H' s dr r⟩
    · rename_i env' w1 eb
      cases e
      exact ⟨G, H, _, w0, _, _, hold_start r dr, eb, fun σ' H' _ h' => k _ H' h'.same h'.draw .non⟩
    · rename_i x' w1 eb
      cases e
      exact ⟨G, H, _, w0, _, _, hold_start r dr, eb, k⟩
    · cases e
end
end Dl
set_option Elab.async false
set_option linter.all false
set_option maxRecDepth 100000
set_option maxHeartbeats 4000000
/-! D53: calls and statements that may raise an error. -/
namespace Dl
open PySem PySem.Spec L2
def aLX : List EX → EAX
  | [] => aXNil
  | f :: fs => aXCons f (aLX fs)
theorem aLX_len : ∀ {fs : List EX} {env : Env} {w w' : Dr} {xs : List D}, aLX fs env w = some (.ok xs, w') → xs.length = fs.length
  | [], _, _, _, _, h => by cases h; rfl
  | f :: fs, env, w, w', xs, h => by
    unfold aLX aXCons at h
    split at h
    · split at h
      · cases h
        simp [aLX_len ‹_›]
      · cases h
      · cases h
    · cases h
    · cases h
def eCallX (φ : FnX) (fs : List EX) (dds : List D) : EX := eAppX (fun xs w => φ (xs ++ dds) w) (aLX fs)
section
variable {X : Cx} {Z : XK} {φ : FnX} {ψ : Fn} {fs : List EX} {dds : List D} {dvs : List V} {n k : Nat}
theorem tCallX_of (hds : ∀ G H, Reps (tx X) G H dvs dds) (hn : fs.length + dds.length = n) : ∀ σ H Q, tDX (tx X) Z (eCallX φ fs dds) σ H Q → tCall (spX (tx X) n φ) dvs Z (tDAX (tx X) Z (aLX fs)) σ H Q := fun σ H Q ⟨G, B, env, w, r, w', hd, e, k⟩ => by
  unfold eCallX eAppX at e
  split at e
  · rename_i xs w1 e1
    refine ⟨G, B, env, w, _, w1, hd, e1, fun vs H1 s1 h1 r1 => ⟨G, xs ++ dds, w1, r, w', r1.append (hds G H1), h1.draw, ?_, e, rsD_call s1 h1 k⟩⟩
    rw [List.length_append, aLX_len e1]; exact hn
  · rename_i x w1 e1
    cases e
    exact ⟨G, B, env, w, _, _, hd, e1, k⟩
  · cases e
theorem tCallP_of (hds : ∀ G H, Reps (tx X) G H dvs dds) (hn : fs.length + dds.length = n) : ∀ σ H Q, tDX (tx X) Z (eCallX (fnX ψ) fs dds) σ H Q → tCall (spD (tx X) n ψ) dvs E0 (tDAX (tx X) Z (aLX fs)) σ H Q := fun σ H Q ⟨G, B, env, w, r, w', hd, e, k⟩ => by
  unfold eCallX eAppX at e
  split at e
  · rename_i xs w1 e1
    simp only [fnX] at e
    split at e
    · rename_i d w2 e2
      cases e
      refine ⟨G, B, env, w, _, w1, hd, e1, fun vs H1 s1 h1 r1 => ⟨G, xs ++ dds, w1, d, _, r1.append (hds G H1), h1.draw, ?_, e2, fun v H' s dr r => k v H' (s1.trans s) (h1.go s dr) r⟩⟩
      rw [List.length_append, aLX_len e1]; exact hn
    · cases e
  · rename_i x w1 e1
    cases e
    exact ⟨G, B, env, w, _, _, hd, e1, k⟩
  · cases e
variable {x : Str} {p pos apos : Pos} {e o : Expr} {es : List Expr} {ps : List Str}
def CalX (P : Program) (w : World) (K : PySem.W.Frag) (mg : Str → Option Value) (base : Heap) (x : Str) (k : Nat) (ps : List Str) (φ : FnX) : Prop :=
  ∃ f fd, At K mg x f ∧ FnOk P w K mg base (L2.CX P w) k f fd ps (spX ⟨K, mg, P, w⟩ ps.length φ) ∧ Binds K fd ps []
theorem dex_calX (C : CalX X.prog X.w X.K X.mg X.base x k ps φ) (px : Tks X Z) (hr : Room k X.A) (hg : Gl X x)
    (ha : DAX X Z (e :: es) (aLX fs)) (hn : fs.length = ps.length := by rfl) (hdb : (x == ("__debug__" : Str)) = false := by decide) (he : starEach (e :: es) X.env = (false, eval e X.env) :: starEach es X.env := by rfl) (hpl : (backTo pos (starEach es X.env)).any (·.1) = false := by rfl) :
    DEX X Z (.Call (.Name x p) (e :: es) [] pos) (eCallX φ fs []) := by
  obtain ⟨f, fd, A, F, hb⟩ := C
  exact pe_imp (pe_call F hr hg A.mg A.kp hb .nil px.passes ha hdb he hpl) (tCallX_of (fun _ _ => .nil) hn)
theorem dex_cal (C : Cal X.prog X.w X.K X.mg X.base x k ps ψ) (hr : Room k X.A) (hg : Gl X x)
    (ha : DAX X Z (e :: es) (aLX fs)) (hn : fs.length = ps.length := by rfl) (hdb : (x == ("__debug__" : Str)) = false := by decide) (he : starEach (e :: es) X.env = (false, eval e X.env) :: starEach es X.env := by rfl) (hpl : (backTo pos (starEach es X.env)).any (·.1) = false := by rfl) :
    DEX X Z (.Call (.Name x p) (e :: es) [] pos) (eCallX (fnX ψ) fs []) := by
  obtain ⟨f, fd, A, F, hb⟩ := C
  exact pe_imp (pe_call F hr hg A.mg A.kp hb .nil pass0 ha hdb he hpl) (tCallP_of (fun _ _ => .nil) hn)
/-- a call that raises nothing of a def that may raise -/
def eOk (φ : FnX) : Fn := fun xs w => match φ xs w with
  | some (.ok d, w') => some (d, w')
  | _ => none
theorem tCallOk_of {fs : List E} (hds : ∀ G H, Reps (tx X) G H dvs dds) (hn : fs.length + dds.length = n) : ∀ σ H Q, tD (tx X) (eCall (eOk φ) fs dds) σ H Q → tCall (spX (tx X) n φ) dvs (fun _ _ _ => False) (tDA (tx X) (aL fs)) σ H Q := fun σ H Q ⟨G, B, env, w, d, w', hd, e, k⟩ => by
  obtain ⟨xs, w1, e1, e2⟩ := eApp_some e
  unfold eOk at e2
  split at e2
  · rename_i d' w2 e3
    cases e2
    refine ⟨G, B, env, w, xs, w1, hd, e1, fun vs H1 s1 h1 r1 => ⟨G, xs ++ dds, w1, _, _, r1.append (hds G H1), h1.draw, ?_, e3, fun v H' s dr r => k v H' (s1.trans s) (h1.go s dr) r⟩⟩
    rw [List.length_append, aL_len e1]; exact hn
  · cases e2
theorem de_calX {fs : List E} (C : CalX X.prog X.w X.K X.mg X.base x k ps φ) (hr : Room k X.A) (hg : Gl X x)
    (ha : DA X (e :: es) (aL fs)) (hn : fs.length = ps.length := by rfl) (hdb : (x == ("__debug__" : Str)) = false := by decide) (he : starEach (e :: es) X.env = (false, eval e X.env) :: starEach es X.env := by rfl) (hpl : (backTo pos (starEach es X.env)).any (·.1) = false := by rfl) :
    DE X (.Call (.Name x p) (e :: es) [] pos) (eCall (eOk φ) fs []) := by
  obtain ⟨f, fd, A, F, hb⟩ := C
  exact pe_imp (pe_call F hr hg A.mg A.kp hb .nil passesF ha hdb he hpl) (tCallOk_of (fun _ _ => .nil) hn)
end
/-! ### methods -/
def CalMX (P : Program) (w : World) (K : PySem.W.Frag) (mg : Str → Option Value) (base : Heap) (c m : Str) (k : Nat) (ps : List Str) (φ : FnX) : Prop :=
  ∃ C f fd, mg c = some (.ref C) ∧ Cls K C ∧ Meth K C m f ∧ FnOk P w K mg base (L2.CX P w) k f fd ps (spX ⟨K, mg, P, w⟩ ps.length φ) ∧ Binds K fd ps []
/-- o.m(e, ..), o and the arguments raising nothing -/
def eMethX (c m : Str) (φ : FnX) (a : E) (fs : List E) (dds : List D) : EX := fun env w => match a env w with
  | some (.obj c' gs, w1) => if c' = c ∧ gs.lookup m = none then match aL fs env w1 with
    | some (xs, w2) => φ (.obj c' gs :: (xs ++ dds)) w2
    | none => none else none
  | _ => none
section
variable {X : Cx} {Z : XK} {φ : FnX} {fs : List E} {fo : E} {dds : List D} {dvs : List V} {n k : Nat} {x c m : Str} {p pos apos : Pos} {e o : Expr} {es : List Expr} {ps : List Str} {C : Addr}
theorem tMethX_of (hc : X.mg c = some (.ref C)) (hds : ∀ G H, Reps (tx X) G H dvs dds) (hn : fs.length + dds.length + 1 = n) {ta : TA} (hta : ∀ σ H Q, tDA (tx X) (aL fs) σ H Q → ta σ H Q) : ∀ σ H Q, tDX (tx X) Z (eMethX c m φ fo fs dds) σ H Q → tMeth C m (spX (tx X) n φ) dvs Z (tD (tx X) fo) ta σ H Q := fun σ H Q ⟨G, B, env, w, d, w', hd, e, k⟩ => by
  unfold eMethX at e
  split at e
  · rename_i c' gs w1 ea
    split at e
    · rename_i hcc
      obtain ⟨rfl, hl⟩ := hcc
      split at e
      · rename_i xs w2 e2
        refine ⟨G, B, env, w, _, w1, hd, ea, fun v H1 s1 h1 r => ?_⟩
        cases r with
        | obj m' h dn q rr =>
          have m'' : X.mg c' = some (.ref _) := m'
          rw [hc] at m''; cases m''
          refine ⟨_, _, _, rfl, h, look_none q hl, hta σ H1 _ ⟨G, B, env, w1, xs, w2, h1, e2, fun vs H2 s2 h2 r2 => ?_⟩⟩
          refine ⟨G, _, w2, d, w', .cons ((Rep.obj m' h dn q rr).keep (s2.keep h1.draw)) (r2.append (hds G H2)), h2.draw, ?_, e, rsD_call (s1.trans s2) h2 k⟩
          simp only [List.length_cons, List.length_append, aL_len e2]; exact hn
      · cases e
    · cases e
  · cases e
theorem dex_calM {pl : Sem Bool} (M : CalMX X.prog X.w X.K X.mg X.base c m k ps φ) (px : Tks X Z) (hr : Room k X.A) (ho : DE X o fo) (ha : DA X (e :: es) (aL fs)) (hn : fs.length + 1 = ps.length := by rfl)
    (hst : starEach (e :: es) X.env = (false, eval e X.env) :: starEach es X.env := by rfl) (hpl : (backTo pos (starEach es X.env)).any (·.1) = false := by rfl)
    (ht : eval (.Call (.Attribute o m apos) (e :: es) [] pos) X.env = (do
      let ov ← eval o X.env
      standAt apos.atName
      let (f, first) ← holding [ov] (getMethod ov m pl)
      callWith pos f first (backTo pos (starEach (e :: es) X.env)) (backToKw pos (keywordEach [] X.env))) := by rfl) :
    DEX X Z (.Call (.Attribute o m apos) (e :: es) [] pos) (eMethX c m φ fo fs []) := by
  obtain ⟨C, f, fd, h1, h2, h3, F, hb⟩ := M
  exact pe_imp (pe_meth ho h2 h3 F hr hb .nil px.passes ha hst hpl ht) (tMethX_of (dds := []) h1 (fun _ _ => .nil) hn fun _ _ _ h => h)
end
/-! ### statements -/
def xS (f : S) : SX := fun env w => match f env w with
  | some (fl, w') => some (.fl fl, w')
  | none => none
def sSeqX (a b : SX) : SX := fun env w => match a env w with
  | some (.fl (.nx env1), w1) => b env1 w1
  | r => r
def sIfX (t : E) (a b : SX) : SX := fun env w => match t env w with
  | some (.bl true, w1) => a env w1
  | some (.bl false, w1) => b env w1
  | _ => none
def sRetX (e : EX) : SX := fun env w => match e env w with
  | some (.ok d, w1) => some (.fl (.rt d), w1)
  | some (.ex x, w1) => some (.ex x, w1)
  | none => none
def sSetX' (i : Nat) (e : EX) : SX := fun env w => match e env w with
  | some (.ok d, w1) => some (.fl (.nx (env.set i (.sh d))), w1)
  | some (.ex x, w1) => some (.ex x, w1)
  | none => none
def sDropX (e : EX) : SX := fun env w => match e env w with
  | some (.ok _, w1) => some (.fl (.nx env), w1)
  | some (.ex x, w1) => some (.ex x, w1)
  | none => none
/-- raise c(e) -/
def sRz1 (c f : Str) (e : E) : SX := fun env w => match e env w with
  | some (d, w1) => some (.ex (.exc c [(f, d)]), w1)
  | none => none
/-- raise c(text) -/
def sRz0 (c : Str) : SX := fun _ w => some (.ex (.exc c []), w)
theorem endDX_mono {T : Tx} {G : Gd} {B H H1 : Hp} {E : XK} {D : Ends} {fl : FX} {w : Dr} (k : Keep H H1) (h : endDX T G B H E D fl w) : endDX T G B H1 E D fl w := by
  cases fl with
  | fl fl => exact endD_mono k h
  | ex x => exact h
section
variable {X : Cx} {Z : XK} {pos : Pos} {st : Stmt} {rest sa sb : List Stmt} {e c : Expr} {f fc : E} {fe : EX} {fa fb : SX}
theorem dsx_ds {g : S} (h : DS X st g) : DSX X Z st (xS g) := ps_imp h fun D σ H ⟨G, B, env, w, fl, w', hd, e, k⟩ => by
  unfold xS at e
  split at e
  · cases e; exact ⟨G, B, env, w, _, _, hd, ‹_›, k⟩
  · cases e
theorem dssx_dss {g : S} (h : DSs X sa g) : DSsX X Z sa (xS g) := pss_imp h fun D σ H ⟨G, B, env, w, fl, w', hd, e, k⟩ => by
  unfold xS at e
  split at e
  · cases e; exact ⟨G, B, env, w, _, _, hd, ‹_›, k⟩
  · cases e
theorem dssx_one (h1 : DSX X Z st fa) : DSsX X Z [st] fa := pss_one h1
theorem dssx_cons (h1 : DSX X Z st fa) (h2 : DSsX X Z rest fb) : DSsX X Z (st :: rest) (sSeqX fa fb) := pss_imp (pss_cons h1 h2) fun D σ H ⟨G, B, env, w, fl, w', hd, e, k⟩ => by
  unfold sSeqX at e
  split at e
  · rename_i env1 w1 ea
    refine ⟨G, B, env, w, .fl (.nx env1), w1, hd, ea, fun σ1 H1 k1 h1 => ?_⟩
    exact ⟨G, B, env1, w1, fl, w', h1, e, endDX_mono k1 k⟩
  · rename_i hn
    refine ⟨G, B, env, w, fl, w', hd, e, ?_⟩
    cases fl with
    | fl fl => exact endD_seq (show endD (tx X) G B H D fl w' from k) (fun env' z => by subst z; exact hn env' w' e) rfl rfl rfl
    | ex x => exact k
theorem dsx_if (hc : DT X c fc) (ha : DSsX X Z sa fa) (hb : DSsX X Z sb fb) : DSX X Z (.If c sa sb pos) (sIfX fc fa fb) := ps_imp (ps_if hc ha hb) fun D σ H ⟨G, B, env, w, fl, w', hd, e, k⟩ => by
  unfold sIfX at e
  split at e
  · rename_i w1 ea
    refine ⟨G, B, env, w, true, w1, hd, ea, fun H1 s1 h1 => iteT ?_⟩
    exact ⟨G, B, env, w1, fl, w', h1, e, endDX_mono (s1.keep hd.draw) k⟩
  · rename_i w1 ea
    refine ⟨G, B, env, w, false, w1, hd, ea, fun H1 s1 h1 => iteF ?_⟩
    exact ⟨G, B, env, w1, fl, w', h1, e, endDX_mono (s1.keep hd.draw) k⟩
  · cases e
theorem dsx_ret (he : DEX X Z e fe) : DSX X Z (.Return (some e) pos) (sRetX fe) := ps_imp (ps_ret he) fun D σ H ⟨G, B, env, w, fl, w', hd, e, k⟩ => by
  unfold sRetX at e
  split at e
  · rename_i d w1 ea
    cases e
    exact ⟨G, B, env, w, _, _, hd, ea, fun v H1 s1 h1 r => k v H1 h1.same h1.draw r⟩
  · rename_i x w1 ea
    cases e
    exact ⟨G, B, env, w, _, _, hd, ea, k⟩
  · cases e
theorem dsx_expr (he : DEX X Z e fe) (hs : swapsWith e none pos.line X.env = pure false := by rfl) : DSX X Z (.Expr e pos) (sDropX fe) := ps_imp (ps_expr he hs) fun D σ H ⟨G, B, env, w, fl, w', hd, e, k⟩ => by
  unfold sDropX at e
  split at e
  · rename_i d w1 ea
    cases e
    exact ⟨G, B, env, w, _, _, hd, ea, fun v H1 s1 h1 r => k σ H1 (s1.keep hd.draw) h1⟩
  · rename_i x w1 ea
    cases e
    exact ⟨G, B, env, w, _, _, hd, ea, k⟩
  · cases e
theorem dsx_set {i : Nat} {x : Str} {pos' : Pos} (hN : X.N.Nodup) (hi : X.N[i]? = some x) (hx : Loc X.env.scope x) (he : DEX X Z e fe) (hs : swapsWith e (some (.Name x pos')) pos.line X.env = pure false := by rfl) (hf : X.fn x = true ∨ X.env.scope.names.lookup x = some .local := by first | exact .inl rfl | exact .inr rfl | assumption) :
    DSX X Z (.Assign [.Name x pos'] e pos) (sSetX' i fe) := by
  refine ⟨fun pins s σ H D I h => (ps_set hN hi hx he hs hf).run pins s σ H D I ?_⟩
  have hl : i < σ.length := by rw [I.len]; exact (List.getElem?_eq_some_iff.mp hi).1
  obtain ⟨G, B, env, w, fl, w', hd, e, k⟩ := h
  unfold sSetX' at e
  split at e
  · rename_i d w1 ea
    cases e
    exact ⟨G, B, env, w, _, _, hd, ea, fun v H1 s1 h1 r => k _ H1 (s1.keep hd.draw) (h1.setSh r hl)⟩
  · rename_i y w1 ea
    cases e
    exact ⟨G, B, env, w, _, _, hd, ea, k⟩
  · cases e
/-- an error class with one field -/
def SupN (K : PySem.W.Frag) (mg : Str → Option Value) (P : Program) (c f : Str) : Prop := ∃ C fI, mg c = some (.ref C) ∧ SupC K P C fI f
theorem dsx_raise1 {cn fl : Str} {p pos' : Pos} {k : Nat} (S : SupN X.K X.mg X.prog cn fl) (tk : Tks X Z) (hc : X.calm = true) (hr : Room (k + 1) X.A) (hg : Gl X cn) (hs : X.mg "super" = none) (he : DE X e f) (hdb : (cn == ("__debug__" : Str)) = false := by decide)
    (hst : starEach [e] X.env = (false, eval e X.env) :: starEach [] X.env := by rfl) : DSX X Z (.Raise (some (.Call (.Name cn p) [e] [] pos')) none pos) (sRz1 cn fl f) := by
  obtain ⟨C, fI, hm, S⟩ := S
  exact ps_imp (ps_raise hc tk (pmk_sup S hr hg hm hs he hdb hst)) fun D σ H ⟨G, B, env, w, fx, w', hd, e, kk⟩ => by
    unfold sRz1 at e
    split at e
    · rename_i d w1 ea
      cases e
      refine ⟨G, B, env, w, d, _, hd, ea, fun v H1 s1 h1 r dd nd => kk _ _ _ ((h1.new _ nd).same) (h1.new _ nd).draw ⟨cn, [(fl, d)], C, [(fl, v)], rfl, hm, rfl, .inr ⟨dd, rfl, upd_same⟩, rfl, ?_⟩⟩
      exact .cons (r.keep (Keep.new _ nd)) .nil
    · cases e
/-- an error class without a field of its own -/
def OwnN (K : PySem.W.Frag) (mg : Str → Option Value) (c : Str) : Prop := ∃ C, mg c = some (.ref C) ∧ PySem.W.excIn K C PySem.HandSPX.veTail "ValueError.__new__" = true ∧ PySem.W.keepIn K (.ref C) = true ∧ PySem.W.subIn K (.ref C) (.type "BaseException") = some true ∧ PySem.W.typeIn K (.ref C) = some (.type "type")
theorem dsx_raise0 {cn m : Str} {j : Nat} {p p2 pos' : Pos} (S : OwnN X.K X.mg cn) (tk : Tks X Z) (hc : X.calm = true) (hg : Gl X cn) (hdb : (cn == ("__debug__" : Str)) = false := by decide) :
    DSX X Z (.Raise (some (.Call (.Name cn p) [.Constant (.str m) j p2] [] pos')) none pos) (sRz0 cn) := by
  obtain ⟨C, hm, h1, h2, h3, h4⟩ := S
  exact ps_imp (ps_raise hc tk (pmk_own F.excBase_ValueError h1 hm h2 (raises_own h3 h4) hg hdb)) fun D σ H ⟨G, B, env, w, fx, w', hd, e, kk⟩ => by
    cases e
    exact kk _ _ _ hd.same hd.draw ⟨cn, [], C, [], rfl, hm, rfl, .inl ⟨rfl, rfl⟩, rfl, .nil⟩
end
/-! ### for -/
def forX (p : Pat) (body : SX) : List D → Env → Dr → Option (FX × Dr)
  | [], env, w => some (.fl (.nx env), w)
  | d :: ds, env, w => match asgP p d env with
    | none => none
    | some env1 => match body env1 w with
      | some (.fl (.nx env2), w2) => forX p body ds env2 w2
      | some (.fl (.ct env2), w2) => forX p body ds env2 w2
      | some (.fl (.bk env2), w2) => some (.fl (.nx env2), w2)
      | some (.fl (.rt d), w2) => some (.fl (.rt d), w2)
      | some (.fl (.ro d), w2) => some (.fl (.ro d), w2)
      | some (.ex x, w2) => some (.ex x, w2)
      | none => none
def sForX (p : Pat) (it : EA) (body : SX) : SX := fun env w => match it env w with
  | some (ds, w1) => forX p body ds env w1
  | none => none
section
variable {X : Cx} {Z : XK} {pos : Pos} {tg iter c : Expr} {body : List Stmt} {p : Pat} {fi : EA} {fb : SX}
theorem dsx_for (hp : PassesOwn (model X.prog X.w) X.A X.env X.xe) (hc : X.calm = true) (hi : DI X tg iter fi) (hg : DG X tg p) (hb : DSsX X Z body fb) (hs : ∀ x, foldedSetIterable iter X.env x = pure x := by intro _; rfl) : DSX X Z (.For tg iter body [] pos) (sForX p fi fb) :=
  ps_imp (ps_for hp hc hi hg hb hs) fun D σ H ⟨G, B, env, w, fl, w', hd, e, k⟩ => by
  unfold sForX at e
  split at e
  · rename_i ds w1 ea
    refine ⟨G, B, env, w, ds, w1, hd, ea, fun J H1 s1 h1 it => ?_⟩
    have k1 := endDX_mono (s1.keep hd.draw) k
    clear k
    refine ⟨fun i m σ H => m = ds.length - i ∧ i ≤ ds.length ∧ Keep H1 H ∧ ∃ env w, Hold (tx X) G B σ H env w ∧ forX p fb (ds.drop i) env w = some (fl, w'), ⟨ds.length, by simp, Nat.zero_le _, .refl _, env, w1, h1, by simpa using e⟩, ?_⟩
    rintro i m σ2 H2 ⟨rfl, hi, k2, env2, w2, h2, e2⟩
    obtain ⟨hlen, it⟩ := it
    obtain ⟨it1, it2⟩ := it i H2 k2
    by_cases hlt : i < ds.length
    · refine .inr ?_
      obtain ⟨go, yl⟩ := it1 ds[i] (by simp [hlt])
      refine ⟨go, fun σ' H' => i + 1 ≤ ds.length ∧ Keep H1 H' ∧ ∃ env w, Hold (tx X) G B σ' H' env w ∧ forX p fb (ds.drop (i + 1)) env w = some (fl, w'), fun σ' H' ⟨n1, n2, n3⟩ => ⟨ds.length - (i + 1), by omega, rfl, n1, n2, n3⟩, fun x H3 hy => ?_⟩
      obtain ⟨sm, rp⟩ := yl x H3 hy
      rw [List.drop_eq_getElem_cons hlt] at e2
      unfold forX at e2
      have h3 := h2.go (.of sm) (h2.draw.go sm)
      have k3 : Keep H1 H3 := k2.trans ((SameD.of (G := G) sm).keep h2.draw)
      split at e2
      · cases e2
      · rename_i env3 ea3
        refine ⟨G, B, env2, w2, _, env3, h3, rp, ea3, fun σ4 _ h4 => ?_⟩
        split at e2
        · rename_i env5 w5 eb
          exact ⟨G, B, env3, w2, _, _, h4, eb, fun σ' H' k' h' => ⟨hlt, k3.trans k', env5, w5, h', e2⟩⟩
        · rename_i env5 w5 eb
          exact ⟨G, B, env3, w2, _, _, h4, eb, fun σ' H' k' h' => ⟨hlt, k3.trans k', env5, w5, h', e2⟩⟩
        · rename_i env5 w5 eb
          cases e2
          exact ⟨G, B, env3, w2, _, _, h4, eb, fun σ' H' k' h' => k1 σ' H' (k3.trans k') h'⟩
        · rename_i d5 w5 eb
          cases e2
          exact ⟨G, B, env3, w2, _, _, h4, eb, fun v H' s dr r => k1 v H' s dr r⟩
        · rename_i d5 w5 eb
          cases e2
          exact ⟨G, B, env3, w2, _, _, h4, eb, fun v H' nb s dr r => k1 v H' nb s dr r⟩
        · rename_i d5 w5 eb
          cases e2
          exact ⟨G, B, env3, w2, _, _, h4, eb, k1⟩
        · cases e2
    · have hi' : i = ds.length := by omega
      refine .inl ⟨it2 (by omega), ?_⟩
      rw [hi', List.drop_length] at e2
      simp only [forX, Option.some.injEq, Prod.mk.injEq] at e2
      obtain ⟨rfl, rfl⟩ := e2
      exact k1 σ2 H2 k2 h2
  · cases e
end
end Dl
set_option Elab.async false
set_option linter.all false
set_option maxRecDepth 100000
set_option maxHeartbeats 4000000
/-! D54: try: .. / except c as n: t = n, where the clause catches: the error is tracked from then on. -/
namespace Dl
open PySem PySem.Spec L2
open PyProof.Rows (AllBare)
/-- a caught error at a: nothing of ours stands there, and it came into being since the frame's entry -/
structure Caught (X : Cx) (pins : List (Addr × Obj)) (σ : St) (H : Hp) (a : Addr) (oe : Obj) (s : Shared) : Prop where
  inv : Inv X pins σ H s
  obj : s.heap.get? a = some oe
  rec_ : ∃ fv, oe.data = .fields fv
  un : H a = none
  old : X.s_0.heap.get? a = none
  far : a ∉ frs X.stack
  pins : ∀ p ∈ X.pn ++ pins, p.1 ≠ a
variable {X : Cx} {pins : List (Addr × Obj)} {σ : St} {H : Hp} {a : Addr} {oe : Obj} {s : Shared}
/-- no object with fields is the frame's namespace or a cell -/
theorem Caught.local_ (c : Caught X pins σ H a oe s) : X.env.locals ≠ a := by
  rintro rfl
  obtain ⟨_, ⟨o, _, _, eo, dd, _⟩, _⟩ := c.inv.loc
  obtain ⟨fv, df⟩ := c.rec_
  have := eo.symm.trans c.obj
  cases this
  rw [df] at dd
  cases dd
theorem Caught.cell_ (c : Caught X pins σ H a oe s) {y : Str} {b : Addr} (hb : X.env.cells.lookup y = some b) : b ≠ a := by
  rintro rfl
  obtain ⟨_, o, eo, dd⟩ := c.inv.cell y b hb
  obtain ⟨fv, df⟩ := c.rec_
  have := eo.symm.trans c.obj
  cases this
  rw [df] at dd
  cases dd
/-- what the abstract heap says of it from now on -/
abbrev excH (a : Addr) (oe : Obj) : HO := .frz oe (.ext fun h => h.get? a = some oe)
theorem Caught.track (c : Caught X pins σ H a oe s) : Inv X pins σ (upd H a (excH a oe)) s := by
  have side : ∀ {b : Addr} {u : HO}, H b = some u → upd H a (excH a oe) b = some u := fun {b u} z => (upd_ne (ne_of_none z c.un)).trans z
  have I := c.inv
  exact {
    ok := I.ok, os := I.os, bare := I.bare, loc := I.loc, cell := I.cell, len := I.len
    free := (upd_ne c.local_).trans I.free
    freeC := fun y b hb => (upd_ne (c.cell_ hb)).trans (I.freeC y b hb)
    pin := fun p hp => ⟨(I.pin p hp).1, (upd_ne (c.pins p hp)).trans (I.pin p hp).2.1, (I.pin p hp).2.2⟩
    base := {
      keep := I.base.keep, slot := I.base.slot, there := I.base.there
      free := fun b o hb h0 hx => by
        by_cases hab : b = a
        · rw [hab, c.old] at hb; cases hb
        · exact (upd_ne hab).trans (I.base.free b o hb h0 hx)
      tups := fun b xs z => side (I.base.tups b xs z)
      frzs := fun b o v z => side (I.base.frzs b o v z)
      tbls := fun b ps z => (I.base.tbls b ps z).imp fun more q => side q }
    hok := fun b u z => by
      by_cases hab : b = a
      · subst hab
        cases (upd_same.symm.trans z)
        exact ⟨c.obj, c.obj, ⟨oe, c.obj⟩, fun h1 h2 z1 z2 => z2 oe z1⟩
      · exact (I.hok b u ((upd_ne hab).symm.trans z)).stay (fun _ _ _ q => q) (fun b q => side q) fun b xs q => side q }
/-- from the air to the ground: at any heap in which the error flies or has landed, it is caught -/
theorem Caught.land {B h : Heap} {sI s' : Shared} {cls : Value} {d : Option Addr} (I : Inv X pins σ H sI) (nb : ∀ b o, sI.heap.get? b = some o → b ∉ frs X.stack → B.get? b = some o) (na : H a = none) (os : s'.os = sI.os) (ag : AllBare s'.gens) (hex : X.ex = [])
    (fly : HandSPX.FlyingZ B X.stack a (Zc cls d) h) (up : sI.heap.UpToSlots h) : ∃ oe, Caught X pins σ H a oe { s' with heap := h } ∧ Zc cls d oe := by
  obtain ⟨oe, fv, ho, hz, hd⟩ := fly.there
  obtain ⟨ground, fresh, frames, _⟩ := id fly
  have far : a ∉ frs X.stack := fun hm => (frames.mem hm).elim fun _ z => z.elim fun o q => by
    cases q.1.symm.trans ho
    exact q.2 fv hd
  have gone : sI.heap.get? a = none := by
    cases z : sI.heap.get? a with
    | none => rfl
    | some o => exact absurd (nb a o z far) (by rw [fresh]; simp)
  refine ⟨oe, { inv := I.landed (s' := { s' with heap := h }) nb ground up os ag, obj := ho, rec_ := ⟨fv, hd⟩, un := na, far := far, old := ?_, pins := fun p hp z => ?_ }, hz⟩
  · cases z : X.s_0.heap.get? a with
    | none => rfl
    | some o =>
      obtain ⟨o', q⟩ := I.base.there a o z (hex ▸ List.not_mem_nil)
      rw [gone] at q
      cases q
  · have q := (I.pin p hp).1
    rw [z, gone] at q
    cases q
/-- the pin of the error is kept while the suite runs and while its name goes -/
theorem Caught.pinned (c : Caught X pins σ H a oe s) : Inv X ((a, oe) :: pins) σ H s := by
  have I := c.inv
  have one : s.heap.get? a = some oe ∧ H a = none ∧ a ≠ X.env.locals ∧ a ∉ X.fs ∧ ∀ v, oe.data ≠ .cell v := by
    refine ⟨c.obj, c.un, Ne.symm c.local_, fun hm => c.far ?_, fun v z => ?_⟩
    · rcases I.ok.stk with e | ⟨e, _⟩
      · rw [e]; exact hm
      · rw [e]
        obtain ⟨env, h1, h2⟩ := List.mem_filterMap.mp hm
        exact List.mem_filterMap.mpr ⟨env, .tail _ h1, h2⟩
    · obtain ⟨fv, df⟩ := c.rec_
      rw [df] at z
      cases z
  exact { I with pin := fun p hp => (List.mem_append.mp hp).elim (fun q => I.pin p (List.mem_append_left _ q)) fun q => (List.mem_cons.mp q).elim (fun e => by subst e; exact one) fun q => I.pin p (List.mem_append_right _ q) }
theorem Caught.of_pin {σ' : St} {s' : Shared} (c : Caught X pins σ H a oe s) (I : Inv X ((a, oe) :: pins) σ' H s') : Caught X pins σ' H a oe s' where
  inv := { I with pin := fun p hp => I.pin p ((List.mem_append.mp hp).elim (List.mem_append_left _) fun q => List.mem_append_right _ (.tail _ q)) }
  obj := (I.pin (a, oe) (List.mem_append_right _ (.head _))).1
  rec_ := c.rec_
  un := c.un
  old := c.old
  far := c.far
  pins := c.pins
/-- except c as n: t = n, of an error that the clause catches; slots i of n, j of t -/
def wKeep (K : PySem.W.Frag) (c : Value) (i j : Nat) (D : Ends) : WX := fun cls d σ H => PySem.W.exmOne K cls c = some true ∧
  ∀ a oe, H a = none → Zc cls d oe → (∃ fv, oe.data = .fields fv) → D.nx (((σ.set i (some (.ref a))).set j (some (.ref a))).set i none) (upd H a (excH a oe))
variable {x n t : Str} {c : Value} {i j : Nat} {body : List Stmt} {np pt pn ps pos pos' : Pos} {tb : WX → TS}
abbrev keepH (x n t : Str) (np pt pn ps pos' : Pos) : ExceptHandler := .ExceptHandler (some (.Name x np)) (some n) [.Assign [.Name t pt] (.Name n pn) ps] pos'
/-- the clause, run on a caught error -/
theorem clause_keep {D : Ends} {cls : Value} {d : Option Addr} (hf : X.env.frame = some X.env.locals) (hN : X.N.Nodup) (hi : X.N[i]? = some n) (hln : X.env.kindOf n = some .local) (hj : X.N[j]? = some t) (hlt : X.env.kindOf t = some .local) (hc : Names X x c)
    (hd1 : (n == ("__debug__" : Str)) = false) (hd2 : (n == ("__classdict__" : Str)) = false) (C : Caught X pins σ H a oe s) (hz : Zc cls d oe) (hm : PySem.W.exmOne X.K cls c = some true)
    (again : ∀ {Q : Unit → Shared → Prop} {E : Value → Shared → Prop}, (∀ s' oe', Caught X pins σ H a oe' s' → Zc cls d oe' → Q () s') → wpAny (model X.prog X.w) (X.A.mark (some (.ref a))) (setFlight (.ref a) none) Q E s)
    (k : ∀ oe', Zc cls d oe' → (∃ fv, oe'.data = .fields fv) → D.nx (((σ.set i (some (.ref a))).set j (some (.ref a))).set i none) (upd H a (excH a oe'))) :
    wpAny (model X.prog X.w) X.A (handleBy (.ref a) X.env [keepH x n t np pt pn ps pos']) (SP X pins D) X.xe s := by
  obtain ⟨fv, hd⟩ := C.rec_
  have nF : a ∉ X.fs := (C.pinned.pin (a, oe) (List.mem_append_right _ (.head _))).2.2.2.1
  have U := C.inv.suite C.obj hd C.un (Ne.symm C.local_) nF
  have ty : PySem.W.Looks (model X.prog X.w) s.heap (typeOf (.ref a)) cls := fun _ _ _ _ z q => wpAny_typeOf_ref (z _ _ C.obj) (hz.1 ▸ q)
  refine wpAny_handleBy_cons (codeAny_handlers_test ?_) (fun q => nomatch q)
  have nm : ∀ {Q : Value → Shared → Prop} {E : Value → Shared → Prop}, Q c s → wpAny (model X.prog X.w) (X.A.mark (some (.ref a))) (eval (.Name x np) X.env) Q E s := fun {Q E} q =>
    hc.2.2.elim (fun e => ld_glob U hc.1 e q hc.2.1) fun e => ld_blt U hc.1 e.1 e.2.1 q e.2.2 hc.2.1
  refine nm ((PySem.W.exm_one (M := model X.prog X.w) C.inv.kIn ty hm).here (codeAny_handlers_suite_as (again fun s1 o1 C1 z1 => ?_)))
  obtain ⟨fv1, hd1'⟩ := C1.rec_
  have nF1 : a ∉ X.fs := nF
  have U1 := C1.inv.suite C1.obj hd1' C1.un (Ne.symm C1.local_) nF1
  have li : i < σ.length := C.inv.len ▸ (List.getElem?_eq_some_iff.mp hi).1
  let Y : Cx := X.suite a ((a, o1) :: (X.pn ++ pins))
  refine store_ok (X := Y) (v := .ref a) U1 hN hi (.inl hln) rfl (fun s2 U2 => ?_) (.inr hln)
  have step : PSs Y [.Assign [.Name t pt] (.Name n pn) ps] (tAsg (tVar i) (gName j)) := pss_one (ps_set (X := Y) hN hj (.inl hlt) (pe_var (X := Y) hi (.inl hln) hd1 hd2) rfl (.inr hlt))
  refine wpAny_mono (step.run [] s2 _ H { nx := fun σ3 H3 => σ3 = (σ.set i (some (.ref a))).set j (some (.ref a)) ∧ H3 = H, rt := fun _ _ => False } U2 ⟨.ref a, List.getElem?_set_self li, rfl, rfl⟩) (fun fl s3 out => ?_) (fun _ _ z => z.elim)
  match fl, out with
  | .next, ⟨_, _, U3, rfl, rfl⟩ =>
    have P3 : Inv X ((a, o1) :: pins) ((σ.set i (some (.ref a))).set j (some (.ref a))) H s3 := { U3 with
      ok := C.inv.ok
      pin := fun p hp => U3.pin p (List.mem_append_left _ ((List.mem_append.mp hp).elim (fun q => .tail _ (List.mem_append_left _ q)) fun q => (List.mem_cons.mp q).elim (fun e => e ▸ .head _) fun q => .tail _ (List.mem_append_right _ q))) }
    exact gone_ok P3 hN hi hln fun s4 P4 => ⟨_, _, (C1.of_pin P4).track, k o1 z1 C1.rec_⟩
  | .brk, ⟨_, _, _, q⟩ => exact q.elim
  | .cont, ⟨_, _, _, q⟩ => exact q.elim
  | .ret _, ⟨_, _, _, _, _, q⟩ => exact q.elim
theorem ps_try_keep (hs : X.stack = X.env :: X.outer) (hf : X.env.frame = some X.env.locals) (hex : X.ex = []) (hN : X.N.Nodup) (hi : X.N[i]? = some n) (hln : X.env.kindOf n = some .local) (hj : X.N[j]? = some t) (hlt : X.env.kindOf t = some .local) (hc : Names X x c)
    (hb : ∀ (W : WX) (pl : List (Addr × Obj)) (xe : Value → Shared → Prop), Takes (X.tr pl xe) W → PassesOwn (model X.prog X.w) X.A X.env xe → PSs (X.tr pl xe) body (tb W)) (hd1 : (n == ("__debug__" : Str)) = false := by decide) (hd2 : (n == ("__classdict__" : Str)) = false := by decide) :
    PS X (.Try body [keepH x n t np pt pn ps pos'] [] [] pos) (fun D σ H => tb (wKeep X.K c i j D) D σ H) := by
  refine ⟨fun pins s σ H D I h => wpAny_Try_except ?_⟩
  have fr : X.A.frames = some (X.env :: X.outer) := hs ▸ I.ok.frames
  have caught : Takes (X.tr (X.pn ++ pins) fun u s1 => wpAny (model X.prog X.w) X.A (noteFrame u X.env) (fun _ s2 => wpAny (model X.prog X.w) X.A (setFlight u none) (fun _ s3 => wpAny (model X.prog X.w) X.A (handleBy u X.env [keepH x n t np pt pn ps pos']) (SP X pins D) X.xe s3) X.xe s2) X.xe s1) (wKeep X.K c i j D) := by
    rintro u s1 ⟨a, B, sI, pl, σ1, H1, cls, d, rfl, T1, nb, up, sky, na, os, ag, hm, k⟩
    have I1 : Inv X pins σ1 H1 sI := T1.ofTry I.ok
    refine Sky.land Zc.steady fr hf (hs ▸ sky) fun h2 fly2 up2 => ?_
    obtain ⟨oe, C2, z2⟩ := Caught.land (s' := s1) I1 nb na os ag hex (hs.symm ▸ fly2) (up.trans up2)
    refine clause_keep hf hN hi hln hj hlt hc hd1 hd2 C2 z2 hm (fun {Q E} q => HandSPX.lands_againZ fly2 fun h3 fly3 up3 => ?_) fun oe' z' f' => k a oe' na z' f'
    obtain ⟨oe3, C3, z3⟩ := Caught.land (s' := s1) I1 nb na os ag hex (hs.symm ▸ fly3) ((up.trans up2).trans up3)
    exact q _ oe3 C3 z3
  refine wpAny_mono ((hb _ (X.pn ++ pins) _ caught PassesOwn.looking).run [] s σ H D (I.toTry _) h) (fun fl s1 out => ?_) fun _ _ z => z
  match fl, out with
  | .next, ⟨σ1, H1, T1, q⟩ => exact wpAny_execs_nil ⟨σ1, H1, T1.ofTry I.ok, q⟩
  | .brk, ⟨σ1, H1, T1, q⟩ => exact ⟨σ1, H1, T1.ofTry I.ok, q⟩
  | .cont, ⟨σ1, H1, T1, q⟩ => exact ⟨σ1, H1, T1.ofTry I.ok, q⟩
  | .ret u, ⟨v, σ1, H1, T1, r, q⟩ => exact ⟨v, σ1, H1, T1.ofTry I.ok, r, q⟩
end Dl
set_option Elab.async false
set_option linter.all false
set_option maxRecDepth 100000
set_option maxHeartbeats 4000000
/-! D55: x(lambda: e), x a def that tries what it got. -/
namespace Dl
open PySem PySem.Spec L2 LamX
theorem takes_len {X : Cx} {W : WX} (t : Takes X W) : Takes X (fun cls d σ H => σ.length = X.N.length → W cls d σ H) := fun u s' ⟨a, B, sI, pins, σ, H, cls, d, e, I, nb, up, sky, na, os, ag, w⟩ =>
  t u s' ⟨a, B, sI, pins, σ, H, cls, d, e, I, nb, up, sky, na, os, ag, w I.len⟩
theorem hold_un {T : Tx} {G : Gd} {B : Hp} {σ : St} {H : Hp} {w : Dr} {n : Nat} (hl : σ.length = n) (s : SameD G B H) (dr : DrawAt G H w) : Hold T G B σ H (List.replicate n .un) w := by
  have no : ∀ (i : Nat) (s : Slot), (List.replicate n Slot.un)[i]? = some s → s = .un := fun i s e => by
    have := List.mem_of_getElem? e
    exact (List.mem_replicate.mp this).2
  refine ⟨by simp [hl], fun i d e => ?_, fun i d e => ?_, fun i j d e a q => ?_, s, dr, .none fun i d e => ?_⟩
  · cases no _ _ e
  · cases no _ _ e
  · cases no _ _ q
  · cases no _ _ e
theorem set_self {α : Type} {l : List α} {i : Nat} {v : α} (h : l[i]? = some v) : l.set i v = l := by
  apply List.ext_getElem?
  intro k
  by_cases hk : i = k
  · subst hk
    rw [List.getElem?_set_self (List.getElem?_eq_some_iff.mp h).1, h]
  · rw [List.getElem?_set_ne hk]
/-- what the def makes of the outcome of the lambda, if it is known what it does behind the try -/
def finD : Option (Fl × Dr) → Option (D × Dr)
  | some (.rt d, w) => some (d, w)
  | some (.nx _, w) => some (.non, w)
  | _ => none
def unE (n : Nat) : Env := List.replicate n .un
def gA (n k j : Nat) (cat : Str → Bool) (f : S) : Rs → Dr → Option (D × Dr)
  | .ok d, w => finD (f (((unE n).set j (.sh .non)).set k (.sh d)) w)
  | .ex (.exc c fs), w => if cat c = true then finD (f ((unE n).set j (.sh (.exc c fs))) w) else none
  | _, _ => none
/-- the same, where the value is dropped -/
def gB (n j : Nat) (cat : Str → Bool) (f : S) : Rs → Dr → Option (D × Dr)
  | .ok _, w => finD (f ((unE n).set j (.sh .non)) w)
  | .ex (.exc c fs), w => if cat c = true then finD (f ((unE n).set j (.sh (.exc c fs))) w) else none
  | _, _ => none
/-- all that stood stands -/
def Ext (H H' : Hp) : Prop := ∀ b o, H b = some o → H' b = some o
theorem Ext.same {G : Gd} {H H' : Hp} (e : Ext H H') : SameD G H H' := fun a o h _ _ _ => e a o h
theorem Ext.draw {G : Gd} {H H' : Hp} {w : Dr} (e : Ext H H') (d : DrawAt G H w) : DrawAt G H' w := ⟨e _ _ d.dd, e _ _ d.dl, d.dc.imp fun _ h => e _ _ h, d.tb.ext e⟩
/-- the reading of such a def: tl is that of the lambda -/
def TTg (T : Tx) (mg : Rs → Dr → Option (D × Dr)) : (XK → Hp → VK → Prop) → Hp → VK → Prop := fun tl H Q => ∃ G w r w1 d w2, DrawAt G H w ∧ mg r w1 = some (d, w2) ∧
  (∀ H', Ext H H' → ∀ E Q', rsC T G H' w1 E Q' r → tl E H' Q') ∧ ∀ v H', SameD G H H' → DrawAt G H' w2 → Rep T G H' v d → Q v H'
/-- the classes of errors that an except clause catches -/
def Cats (K : PySem.W.Frag) (mg : Str → Option Value) (cat : Str → Bool) (cls : Value) : Prop := ∀ cn C, cat cn = true → mg cn = some (.ref C) → PySem.W.exmOne K (.ref C) cls = some true
section
variable {T : Tx} {G : Gd} {B H : Hp} {w w2 : Dr} {fl : Option (Fl × Dr)} {d : D} {Q : VK}
theorem fin_end {f : S} {env : Env} {Q : VK} {H0 : Hp} {σ : St} (hd : Hold T G B σ H env w) (e : finD (f env w) = some (d, w2)) (hq : ∀ v H', SameD G B H' → DrawAt G H' w2 → Rep T G H' v d → Q v H') :
    tDS T f { nx := fun _ H' => Q .non H', rt := Q } σ H := by
  unfold finD at e
  split at e
  · rename_i d' w' ef
    cases e
    exact ⟨G, B, env, w, _, _, hd, ef, fun v H' s dr r => hq v H' s dr r⟩
  · rename_i env' w' ef
    cases e
    exact ⟨G, B, env, w, _, _, hd, ef, fun σ' H' _ h' => hq _ H' h'.same h'.draw .non⟩
  · cases e
/-- behind the except suite -/
theorem exc_end {f : S} {i j n : Nat} {cls : Value} {dd : Option Addr} {a : Addr} {oe : Obj} {σ : St} {c : Str} {fs : List (Str × Dl.D)} (hij : i ≠ j) (hj : j < n) (hl : σ.length = n) (sm : SameD G B H) (dr : DrawAt G H w) (ex : ExR T G H cls dd (.exc c fs)) (na : H a = none) (hz : Zc cls dd oe) (hf : ∃ vs, oe.data = .fields vs)
    (e : finD (f ((unE n).set j (.sh (.exc c fs))) w) = some (d, w2)) (hq : ∀ v H', SameD G B H' → DrawAt G H' w2 → Rep T G H' v d → Q v H') :
    tDS T f { nx := fun _ H' => Q .non H', rt := Q } (((σ.set i (some (.ref a))).set j (some (.ref a))).set i none) (upd H a (excH a oe)) := by
  have sm2 : SameD G B (upd H a (excH a oe)) := sm.trans (.new _ na)
  have dr2 : DrawAt G (upd H a (excH a oe)) w := dr.go (same_new _ na)
  have hl2 : (((σ.set i (some (.ref a))).set j (some (.ref a))).set i none).length = n := by simp [hl]
  have hjv : (((σ.set i (some (V.ref a))).set j (some (.ref a))).set i none)[j]? = some (some (.ref a)) := by
    rw [List.getElem?_set_ne hij, List.getElem?_set_self (by simp [hl, hj])]
  have h0 : Hold T G B (((σ.set i (some (.ref a))).set j (some (.ref a))).set i none) (upd H a (excH a oe)) (unE n) w := hold_un hl2 sm2 dr2
  obtain ⟨c', fs', C, vs, e1, e2, e3, e4, e5, e6⟩ := ex
  cases e1
  have hr : Rep T G (upd H a (excH a oe)) (.ref a) (.exc c fs) := .exc (C := C) (d := dd) (vs := vs) e2 upd_same (hz.1.trans e3) hz.2 hf (e4.imp id fun ⟨dd, q1, q2⟩ => ⟨dd, q1, by rw [upd_ne (ne_of_none q2 na)]; exact q2⟩) e5 (e6.keep (Keep.new _ na))
  have h1 := h0.setSh (i := j) hr (by rw [hl2]; exact hj)
  rw [set_self hjv] at h1
  exact fin_end (H0 := H) h1 e hq
end
section
variable {X : Cx} {Ng : List Str} {x a q n t xc : Str} {sg : Scope} {g : Addr} {cdg : Value} {st0 : Stmt} {rest : List Stmt} {i j k : Nat} {cls : Value} {cat : Str → Bool} {fr : S} {t0 : TS} {np pt pn' ps pos pos' p1 p2 p3 p4 : Pos}
abbrev Xg (X : Cx) (Ng : List Str) (x : Str) (sg : Scope) (g : Addr) (cdg : Value) (s : Shared) (H : Hp) : Cx := (cxOf C8.CX0 X.prog X.w X.K X.mg X.base Ng x sg g cdg X.A X.stack s H C8.E0).nox
/-- a def: st0 / try: f = a() / except c as n: t = n / rest -/
theorem gives_A (hS : FnScope Ng [a] sg) (hi : Ng[i]? = some n) (hj : Ng[j]? = some t) (hk : Ng[k]? = some xc) (hij : i ≠ j) (h0 : 0 ≠ i ∧ 0 ≠ j ∧ 0 ≠ k) (hjk : j ≠ k) (hln : sg.names.lookup n = some .local) (hlt : sg.names.lookup t = some .local) (hlx : sg.names.lookup xc = some .local)
    {ce : Str} (hc : sg.names.lookup ce = some .globalImplicit) (hcd : (ce == ("__debug__" : Str)) = false) (hcm : X.mg ce = some cls) (hcat : Cats X.K X.mg cat cls)
    (hp0 : ∀ (s : Shared) (H : Hp), PS (Xg X Ng x sg g cdg s H) st0 t0) (ht0 : ∀ D σ H, (∀ H', Ext H H' → D.nx ((σ.set k (some .non)).set j (some .non)) H') → t0 D σ H)
    (hrest : ∀ (s : Shared) (H : Hp), DSs (Xg X Ng x sg g cdg s H) rest fr) (hd1 : (n == ("__debug__" : Str)) = false := by decide) (hd2 : (n == ("__classdict__" : Str)) = false := by decide) :
    GivesTo X Ng x sg g cdg (st0 :: .Try [.Assign [.Name xc p3] (.Call (.Name a p1) [] [] p2) p4] [.ExceptHandler (some (.Name ce np)) (some n) [.Assign [.Name t pt] (.Name n pn') ps] pos'] [] [] pos :: rest) a q (TTg (tx X) (gA Ng.length k j cat fr)) := by
  intro f c' s H Q tl act hco h
  obtain ⟨G, w, r, w1, d, w2, dr, em, hl, hq⟩ := h
  have ln : (L2.start Ng [V.ref f]).length = Ng.length := by
    have h1 : 1 ≤ Ng.length := by have := (List.getElem?_eq_some_iff.mp hi).1; omega
    simp [L2.start]; omega
  have hjl : j < Ng.length := (List.getElem?_eq_some_iff.mp hj).1
  have hkl : k < Ng.length := (List.getElem?_eq_some_iff.mp hk).1
  refine ⟨_, pss_cons (hp0 s H) (pss_cons (ps_try_keep (X := Xg X Ng x sg g cdg s H) (i := i) (j := j) (c := cls)
      (tb := fun W => tAsg (fun σZ HZ Q => σZ[0]? = some (some (.ref f)) ∧ HZ c' = some (CodeO c' q) ∧ tl (fun cls d H => ∀ σ', σ'.length = Ng.length → W cls d σ' H) HZ Q) (gName k))
      rfl rfl rfl hS.nd hi hln hj hlt ⟨hc, hcd, .inl hcm⟩ (fun W pn xe tk hpo => ?_) hd1 hd2) (hrest s H)), ?_⟩
  · exact pss_one (ps_set (X := (Xg X Ng x sg g cdg s H).tr pn xe) hS.nd hk (.inl hlx) (act (fun cls d σ H => σ.length = Ng.length → W cls d σ H) pn xe (fun cls d H => ∀ σ', σ'.length = Ng.length → W cls d σ' H) p1 p2 (takes_len (X := (Xg X Ng x sg g cdg s H).tr pn xe) tk) (fun cls d σ' H' h hl => h σ' hl)) rfl (.inr hlx))
  · refine ht0 _ _ _ fun H0 x0 => ?_
    have hq : ∀ v H', SameD G H0 H' → DrawAt G H' w2 → Rep (tx X) G H' v d → Q v H' := fun v H' s => hq v H' (x0.same.trans s)
    have s0 : (((L2.start Ng [V.ref f]).set k (some .non)).set j (some .non))[0]? = some (some (V.ref f)) := by
      rw [List.getElem?_set_ne (Ne.symm h0.2.1), List.getElem?_set_ne (Ne.symm h0.2.2)]; rfl
    refine ⟨s0, x0 _ _ hco, hl H0 x0 _ _ ?_⟩
    cases r with
    | ok d0 =>
      intro v H' sm dr' rv
      have h0 : Hold (tx X) G H0 ((((L2.start Ng [V.ref f]).set k (some .non)).set j (some .non)).set k (some v)) H' (unE Ng.length) w1 := hold_un (by simp [ln]) sm dr'
      have h1 := h0.setSh (i := j) (v := .non) .non (by simp [ln, hjl])
      rw [set_self (by rw [List.getElem?_set_ne (Ne.symm hjk), List.getElem?_set_self (by simp [ln, hjl])])] at h1
      have h2 := h1.setSh (i := k) (v := v) rv (by simp [ln, hkl])
      rw [List.set_set] at h2
      exact fin_end (H0 := H0) h2 em hq
    | ex x0 =>
      cases x0 with
      | exc c fs =>
        simp only [gA] at em
        split at em
        · rename_i hcc
          intro cls' dd H' sm dr' ex σ' hl'
          obtain ⟨c2, fs2, C, vs, e1, e2, e3, e4⟩ := id ex
          cases e1
          exact ⟨by rw [e3]; exact hcat c C hcc e2, fun a oe na hz hf => exc_end hij hjl hl' sm dr' ex na hz hf em hq⟩
        · cases em
      | _ => cases em
/-- a def: st0 / try: a() / except c as n: t = n / rest -/
theorem gives_B (hS : FnScope Ng [a] sg) (hi : Ng[i]? = some n) (hj : Ng[j]? = some t) (hij : i ≠ j) (h0 : 0 ≠ i ∧ 0 ≠ j) (hln : sg.names.lookup n = some .local) (hlt : sg.names.lookup t = some .local)
    {ce : Str} (hc : sg.names.lookup ce = some .globalImplicit) (hcd : (ce == ("__debug__" : Str)) = false) (hcm : X.mg ce = some cls) (hcat : Cats X.K X.mg cat cls)
    (hp0 : ∀ (s : Shared) (H : Hp), PS (Xg X Ng x sg g cdg s H) st0 t0) (ht0 : ∀ D σ H, (∀ H', Ext H H' → D.nx (σ.set j (some .non)) H') → t0 D σ H)
    (hrest : ∀ (s : Shared) (H : Hp), DSs (Xg X Ng x sg g cdg s H) rest fr) (hd1 : (n == ("__debug__" : Str)) = false := by decide) (hd2 : (n == ("__classdict__" : Str)) = false := by decide) :
    GivesTo X Ng x sg g cdg (st0 :: .Try [.Expr (.Call (.Name a p1) [] [] p2) p4] [.ExceptHandler (some (.Name ce np)) (some n) [.Assign [.Name t pt] (.Name n pn') ps] pos'] [] [] pos :: rest) a q (TTg (tx X) (gB Ng.length j cat fr)) := by
  intro f c' s H Q tl act hco h
  obtain ⟨G, w, r, w1, d, w2, dr, em, hl, hq⟩ := h
  have ln : (L2.start Ng [V.ref f]).length = Ng.length := by
    have h1 : 1 ≤ Ng.length := by have := (List.getElem?_eq_some_iff.mp hi).1; omega
    simp [L2.start]; omega
  have hjl : j < Ng.length := (List.getElem?_eq_some_iff.mp hj).1
  refine ⟨_, pss_cons (hp0 s H) (pss_cons (ps_try_keep (X := Xg X Ng x sg g cdg s H) (i := i) (j := j) (c := cls)
      (tb := fun W D σ H => σ[0]? = some (some (.ref f)) ∧ H c' = some (CodeO c' q) ∧ tl (fun cls d H => ∀ σ', σ'.length = Ng.length → W cls d σ' H) H (fun _ H1 => D.nx σ H1))
      rfl rfl rfl hS.nd hi hln hj hlt ⟨hc, hcd, .inl hcm⟩ (fun W pn xe tk hpo => ?_) hd1 hd2) (hrest s H)), ?_⟩
  · exact pss_one (ps_expr (X := (Xg X Ng x sg g cdg s H).tr pn xe) (act (fun cls d σ H => σ.length = Ng.length → W cls d σ H) pn xe (fun cls d H => ∀ σ', σ'.length = Ng.length → W cls d σ' H) p1 p2 (takes_len (X := (Xg X Ng x sg g cdg s H).tr pn xe) tk) (fun cls d σ' H' h hl => h σ' hl)) rfl)
  · refine ht0 _ _ _ fun H0 x0 => ?_
    have hq : ∀ v H', SameD G H0 H' → DrawAt G H' w2 → Rep (tx X) G H' v d → Q v H' := fun v H' s => hq v H' (x0.same.trans s)
    have s0 : ((L2.start Ng [V.ref f]).set j (some .non))[0]? = some (some (V.ref f)) := by
      rw [List.getElem?_set_ne (Ne.symm h0.2)]; rfl
    refine ⟨s0, x0 _ _ hco, hl H0 x0 _ _ ?_⟩
    cases r with
    | ok d0 =>
      intro v H' sm dr' rv
      have h0 : Hold (tx X) G H0 ((L2.start Ng [V.ref f]).set j (some .non)) H' (unE Ng.length) w1 := hold_un (by simp [ln]) sm dr'
      have h1 := h0.setSh (i := j) (v := .non) .non (by simp [ln, hjl])
      rw [List.set_set] at h1
      exact fin_end (H0 := H0) h1 em hq
    | ex x0 =>
      cases x0 with
      | exc c fs =>
        simp only [gB] at em
        split at em
        · rename_i hcc
          intro cls' dd H' sm dr' ex σ' hl'
          obtain ⟨c2, fs2, C, vs, e1, e2, e3, e4⟩ := id ex
          cases e1
          exact ⟨by rw [e3]; exact hcat c C hcc e2, fun a oe na hz hf => exc_end hij hjl hl' sm dr' ex na hz hf em hq⟩
        · cases em
      | _ => cases em
end
end Dl
set_option Elab.async false
set_option linter.all false
set_option maxRecDepth 100000
set_option maxHeartbeats 4000000
/-! D56: x(lambda: e). -/
namespace Dl
open PySem PySem.Spec L2 LamX
/-- what a lambda sees of the frame in which it is made: shared data -/
def roS : Slot → Slot
  | .sh d => .sh d
  | _ => .un
def ro (env : Env) : Env := env.map roS
theorem ro_sh {env : Env} {i : Nat} {d : D} (h : (ro env)[i]? = some (.sh d)) : env[i]? = some (.sh d) := by
  unfold ro at h
  rw [List.getElem?_map] at h
  cases e : env[i]? with
  | none => rw [e] at h; cases h
  | some s => rw [e] at h; cases s <;> cases h; rfl
theorem ro_not {env : Env} {i : Nat} {s : Slot} (h : (ro env)[i]? = some s) : (∃ d, s = .sh d) ∨ s = .un := by
  unfold ro at h
  rw [List.getElem?_map] at h
  cases e : env[i]? with
  | none => rw [e] at h; cases h
  | some t =>
    rw [e] at h
    cases t <;> cases h
    · exact .inr rfl
    · exact .inl ⟨_, rfl⟩
    · exact .inr rfl
    · exact .inr rfl
theorem hold_ro {T : Tx} {G : Gd} {B : Hp} {σ : St} {H : Hp} {env : Env} {w : Dr} (h : Hold T G B σ H env w) : Hold T G H σ H (ro env) w := by
  refine ⟨by simp [ro, h.len], fun i d e => h.sh i d (ro_sh e), fun i d e => ?_, fun i j d e a q => ?_, .refl _ _, h.draw, .none fun i d e => ?_⟩
  · rcases ro_not e with ⟨_, z⟩ | z <;> cases z
  · rcases ro_not q with ⟨_, z⟩ | z <;> cases z
  · rcases ro_not e with ⟨_, z⟩ | z <;> cases z
/-- i: the slot of the law's draw, which tells where the tables stand; n: the def in which the lambda is made -/
def eLam (i : Nat) (n : Str) (mg : Rs → Dr → Option (D × Dr)) (fb : EX) : E := fun env w => match env[i]? with
  | some (.sh (.drt ns)) => if n ∈ ns then match fb (ro env) w with
    | some (r, w1) => mg r w1
    | none => none else none
  | _ => none
theorem same_ext {G : Gd} {H H1 : Hp} (e : ExtN H H1) : SameD G H H1 := fun a o h _ _ t => e a o h fun ps z => by subst z; cases t
theorem draw_ext {G : Gd} {H H1 : Hp} {w : Dr} (d : DrawAt G H w) (e : ExtN H H1) (t : Tabs G.tb H1) : DrawAt G H1 w :=
  ⟨e _ _ d.dd (fun _ z => by cases z), e _ _ d.dl (fun _ z => by cases z), d.dc.imp fun o h => e _ _ h (fun _ z => by cases z), t⟩
section
variable {X : Cx}
theorem lam_tks {X : Cx} {A : Around} {outer : List PySem.Env} {s : Shared} {H : Hp} {E : XK} {scope : Scope} {f c' : Addr} : Tks (lamCx X A outer s H E scope f c') E := takes_of (E₁ := fun e' s'' => L2.CX X.prog X.w outer H s E e' s'') rfl rfl rfl rfl
/-- the facts of a def to which a lambda is handed -/
def LamTo (X : Cx) (x : Str) (mg : Rs → Dr → Option (D × Dr)) : Prop := ∃ (a : Str) (g : Addr) (pg : Arguments) (bg : List Stmt) (sg : Scope) (dV kV doc pm cdv ct oc : Value) (an od : Option Addr) (osl : Array (Option Value)) (Ng : List Str),
  X.mg x = some (.ref g) ∧ PySem.W.keepIn X.K (.ref g) = true ∧ X.K.lookup g = some ⟨oc, od, .func (PySem.W.fnOf x x pg bg sg dV kV doc pm an cdv ct), osl⟩ ∧ PySem.W.codeIn X.K cdv x = true ∧ L2.Binds X.K (PySem.W.fnOf x x pg bg sg dV kV doc pm an cdv ct) [a] [] ∧ FnScope Ng [a] sg ∧ Ng[0]? = some a ∧ Vis sg a ∧
  GivesTo X Ng x sg g cdv bg a (X.env.qual ++ "<lambda>") (TTg (tx X) mg) ∧ (x == ("__debug__" : Str)) = false ∧ (a == ("__debug__" : Str)) = false ∧ (a == ("__classdict__" : Str)) = false
theorem de_lam {i : Nat} {n x : Str} {mg : Rs → Dr → Option (D × Dr)} {fb : EX} {c P : Addr} {k : Nat} {params : Arguments} {body : Expr} {scope : Scope} {p lpos pos : Pos}
    (hL : LamTo X x mg) (hg : Gl X x) (TB : TabB X.base X.mg c P) (hcode : X.env.code = .ref c) (hP : tabOf (tx X) n = (P, X.env.qual ++ "<lambda>")) (hr : Room (k + 2) X.A) (L : LamS X.env.scope scope) (hdef : defaultsOf params X.env = ([], []))
    (hbind : ∀ (q : Str) (cl : List (Str × Addr)) (pm cv ctv : Value), bindArgs (PySem.W.kla_fn "<lambda>" q params body scope cl pm cv ctv) ⟨[], []⟩ = pure [])
    (hbody : ∀ (A : Around) (outer : List PySem.Env) (s : Shared) (H : Hp) (E : XK) (f c' : Addr), Room k (A.deeper (lamEnv X scope s.heap.objs.size f c')) → DEX (lamCx X A outer s H E scope f c') E body fb) :
    DE X (.Call (.Name x p) [.Lambda params body scope lpos] [] pos) (eLam i n mg fb) := by
  obtain ⟨a, g, pg, bg, sg, dV, kV, doc, pm, cdv, ct, oc, an, od, osl, Ng, hm, hk, lk, hcg, hb, Sg, hNg, hva, hG, hdb, hd, hcd⟩ := hL
  refine ⟨fun pins s σ H Q I h => ?_⟩
  obtain ⟨G, B, env, w, d, w', hd0, e, kk⟩ := h
  unfold eLam at e
  split at e
  · rename_i ns en
    split at e
    · rename_i hn
      split at e
      · rename_i r w1 eb
        obtain ⟨v, _, rv⟩ := hd0.sh _ _ en
        cases rv with
        | drw ht =>
          obtain ⟨t1, t2⟩ := ht n hn
          rw [hP] at t1 t2
          refine (pe_lamcall (T := G.tb) (TT := TTg (tx X) mg) (t := fun E => tDX (tx X) E fb) hg hm hk lk hcg hb Sg hNg hva hG TB hcode t1 t2 hr L hdef hbind hbody hdb hd hcd).run pins s σ H Q I ⟨hd0.draw.tb, fun H1 eN T1 => ?_⟩
          have sm := same_ext (G := G) eN
          have dr1 := draw_ext hd0.draw eN T1
          have h1 := hd0.go sm dr1
          refine ⟨G, w, r, w1, d, w', dr1, e, fun H2 x2 E Q' hr => ?_, fun v H' s2 dr2 r2 => kk v H' (sm.trans s2) (h1.go s2 dr2) r2⟩
          refine ⟨G, H2, ro env, w, r, w1, hold_ro (h1.go x2.same (x2.draw dr1)), eb, ?_⟩
          cases r with
          | ok d0 => exact fun v H' s2 h2 r2 => hr v H' s2 h2.draw r2
          | ex x0 => exact hr
      · cases e
    · cases e
  · cases e
end
end Dl
set_option Elab.async false
set_option linter.all false
set_option maxRecDepth 100000
set_option maxHeartbeats 4000000
/-! D57: an error that is held: its fields, its classes. -/
namespace Dl
open PySem PySem.Spec L2
/-- what is asked of an error class of the program -/
def xcB (K : PySem.W.Frag) (C : Addr) : Bool :=
  xfB K C && (PySem.W.clsIn K C).isSome && decide (PySem.W.findIn K (.ref C) "__class__" = some (some (.builtin "object.__class__"))) && decide (PySem.W.specialIn K (.builtin "object.__class__") "__get__" = some (some (.builtin "getset_descriptor.__get__"))) &&
  decide (PySem.W.takesIn K (.builtin "object.__class__") = some true) && decide (PySem.W.mroIn K C (.type "object") = some true)
/-- the instance that a datum stands for, in the heap itself -/
theorem exc_inst {X : Cx} {pins : List (Addr × Obj)} {σ : St} {H : Hp} {s : Shared} {G : Gd} {v : V} {u : Value} {c : Str} {fs : List (Str × D)} {C : Addr} (I : Inv X pins σ H s) (r : Rep (tx X) G H v (.exc c fs)) (rv : RelV v u) (hC : X.mg c = some (.ref C)) :
    ∃ a oe od vs, v = .ref a ∧ u = .ref a ∧ PySem.W.InstAt s.heap a oe C od ∧ fs.map (·.1) = vs.map (·.1) ∧ Reps (tx X) G H (vs.map (·.2)) (fs.map (·.2)) ∧ ((od = none ∧ vs = []) ∨ ∃ (o : Obj) (mA : Str → Option Value), od = some o ∧ (∀ f, PySem.W.lookIn f o = some (mA f)) ∧ ∀ f, RelO (vs.lookup f) (mA f)) := by
  cases r with
  | exc m h hc hq hf ho e rr =>
    rename_i a C' oe u' d vs
    have e0 : C = C' := by
      have m' : X.mg c = some (.ref C') := m
      rw [hC] at m'; cases m'; rfl
    subst e0
    obtain ⟨fv, hf⟩ := hf
    have hg : s.heap.get? a = some oe := (I.hok a _ h).1
    have nc : PySem.W.notCls oe = true := by unfold PySem.W.notCls; rw [hf]
    rcases ho with ⟨d0, v0⟩ | ⟨dd, d0, hx⟩
    · exact ⟨a, oe, none, vs, rfl, rv, ⟨hg, hc, nc, by rw [hq, d0]; trivial⟩, e, rr, .inl ⟨rfl, v0⟩⟩
    · obtain ⟨mA, n, q⟩ := I.hok dd _ hx
      obtain ⟨o, ho, l⟩ := lookIn_ns n
      exact ⟨a, oe, some o, vs, rfl, rv, ⟨hg, hc, nc, by rw [hq, d0]; exact ho⟩, e, rr, .inr ⟨o, mA, rfl, l, q⟩⟩
/-- error classes and whether each is below the class t -/
def IsXs (K : PySem.W.Frag) (mg : Str → Option Value) (t : Str) (tab : List (Str × Bool)) : Prop := ∃ Ct, mg t = some (.ref Ct) ∧ ∀ p ∈ tab, ∃ C, mg p.1 = some (.ref C) ∧ xcB K C = true ∧ PySem.W.kitOne K (.ref C) (.ref Ct) = some p.2
/-- error classes with instances that have the field f -/
def FdXs (K : PySem.W.Frag) (mg : Str → Option Value) (f : Str) (cs : List Str) : Prop := ∀ c ∈ cs, ∃ C, mg c = some (.ref C) ∧ xcB K C = true ∧ PySem.W.findIn K (.ref C) f = some none
def isX (tab : List (Str × Bool)) : D → Option D
  | .exc c _ => match tab.lookup c with
    | some b => some (.bl b)
    | none => none
  | _ => none
def fdX (cs : List Str) (f : Str) : D → Option D
  | .exc c fs => if c ∈ cs then fs.lookup f else none
  | _ => none
section
variable {X : Cx} {e : Expr} {fe : E} {pos : Pos}
theorem de_fdX {f : Str} {cs : List Str} (F : FdXs X.K X.mg f cs) (he : DE X e fe) (hb : attributeBase e f X.env (eval e X.env) = eval e X.env := by rfl) : DE X (.Attribute e f pos) (e1 (fdX cs f) fe) := by
  refine ⟨fun pins s σ H Q I ⟨G, B, env, w, d, w', hd, ee, k⟩ => ?_⟩
  obtain ⟨x, ex, eg⟩ := e1_some ee
  refine attr_of hb (thn (he.run pins s σ H (fun v H1 => SameD G H H1 ∧ Hold (tx X) G B σ H1 env w' ∧ Rep (tx X) G H1 v x) I ⟨G, B, env, w, x, w', hd, ex, fun v H1 s1 h1 r => ⟨s1, h1, r⟩⟩) fun u s1 ⟨v, H1, I1, rv, sm, h1, r⟩ => ?_)
  unfold fdX at eg
  split at eg
  · rename_i c fs _
    split at eg
    · rename_i hc
      obtain ⟨C, hC, xc, nf⟩ := F c hc
      obtain ⟨a, oe, od, vs, rfl, rfl, J, em, rr, hod⟩ := exc_inst I1 r rv hC
      have xf := xfB_ok (Bool.and_eq_true_iff.mp (Bool.and_eq_true_iff.mp (Bool.and_eq_true_iff.mp (Bool.and_eq_true_iff.mp (Bool.and_eq_true_iff.mp xc).1).1).1).1).1
      obtain ⟨v, lv, rv'⟩ := Reps.look em rr eg
      rcases hod with ⟨_, z⟩ | ⟨o, mA, rfl, l, q⟩
      · subst z; cases lv
      · obtain ⟨u, hu, ru⟩ := RelO.some_of (v := v) (o := mA f) (by rw [← lv]; exact q f)
        exact HandSPX.exc_get I1.kIn J xf.ga xf.gg xf.exC (PySem.W.findObj_own xf.hdC nf rfl (by rw [l, hu])) (handed_of ru) ⟨v, H1, I1.tok _, ru, k v H1 sm h1 rv'⟩
    · cases eg
  · cases eg
/-- the reading of isinstance(x, t), x an error -/
def rIsX (X : Cx) (tab : List (Str × Bool)) (Ct : Addr) : List V → Hp → VK → Prop := fun xs H Q => ∃ (G : Gd) (v : V) (c : Str) (fs : List (Str × D)) (b : Bool), xs = [v, .ref Ct] ∧ Rep (tx X) G H v (.exc c fs) ∧ tab.lookup c = some b ∧ Q (.bl b) H
theorem call_isX {t : Str} {tab : List (Str × Bool)} {Ct : Addr} (hT : ∀ p ∈ tab, ∃ C, X.mg p.1 = some (.ref C) ∧ xcB X.K C = true ∧ PySem.W.kitOne X.K (.ref C) (.ref Ct) = some p.2) : CallR X (.builtin "isinstance") (rIsX X tab Ct) := by
  intro pins s σ H xs us Q I r ⟨G, v, c, fs, b, hx, rp, hl, q⟩
  subst hx
  cases r with
  | cons r1 r2 =>
    cases r2 with
    | cons r2 r3 =>
      cases r3
      obtain rfl := (show _ = Value.ref Ct from r2)
      obtain ⟨C, hC, xc, kt⟩ := hT _ (PySem.mem_of_lookup hl)
      obtain ⟨a, oe, od, vs, rfl, rfl, J, _⟩ := exc_inst I rp r1 hC
      simp only [xcB, Bool.and_eq_true, decide_eq_true_eq] at xc
      obtain ⟨⟨⟨⟨⟨xf, hcl⟩, ha⟩, hn⟩, htk⟩, hm⟩ := xc
      have xf := xfB_ok xf
      exact PySem.W.kia_one (PySem.W.kitx_exc hcl xf.ga xf.gg xf.exC ha hn htk hm) I.kIn J kt (fun z => nomatch z) fun tk => ⟨.bl b, H, I.kept (t' := tk) fun _ _ z => z, rfl, q⟩
theorem de_isX {t : Str} {tab : List (Str × Bool)} {p p2 : Pos} (hg : Gl X "isinstance") (hm : X.mg "isinstance" = none) (hg2 : Gl X t) (hT : IsXs X.K X.mg t tab) (he : DE X e fe) (hx2 : (t == ("__debug__" : Str)) = false := by decide)
    (hs1 : starEach (e :: [.Name t p2]) X.env = (false, eval e X.env) :: starEach [.Name t p2] X.env := by rfl) (hs2 : starEach (.Name t p2 :: []) X.env = (false, eval (.Name t p2) X.env) :: starEach [] X.env := by rfl) (hpl : (backTo pos (starEach [.Name t p2] X.env)).any (·.1) = false := by rfl) :
    DE X (.Call (.Name "isinstance" p) [e, .Name t p2] [] pos) (e1 (isX tab) fe) := by
  obtain ⟨Ct, h1, hT⟩ := hT
  refine pe_imp (pe_callB (call_isX (t := t) hT) hg hm PyProof.Rows.boot_isinstance (pa_cons he (pa_cons (pe_glob (v := .ref Ct) hg2 h1 rfl hx2) pa_nil hs2) hs1) (by decide) (by decide) hs1 hpl) fun σ H Q ⟨G, B, env, w, d, w', hd, ee, k⟩ => ?_
  obtain ⟨x, ex, eg⟩ := e1_some ee
  refine ⟨G, B, env, w, x, w', hd, ex, fun v H1 s1 h1 r => ?_⟩
  unfold isX at eg
  split at eg
  · split at eg
    · cases eg
      exact ⟨G, v, _, _, _, rfl, r, ‹_›, k _ H1 s1 h1 (.bl _)⟩
    · cases eg
  · cases eg
end
end Dl
set_option Elab.async false
set_option linter.all false
set_option maxRecDepth 100000
set_option maxHeartbeats 4000000
/-! D58: x in y by an own __contains__; o.m(k = v, ..). -/
namespace Dl
open PySem PySem.Spec L2
/-! ### in -/
structure InC (K : PySem.W.Frag) (C f : Addr) : Prop where
  has : PySem.W.findIn K (.ref C) "__contains__" = some (some (.ref f))
  fn : PySem.W.isFn K (.ref f) = true
def CalH (P : Program) (w : World) (K : PySem.W.Frag) (mg : Str → Option Value) (base : Heap) (c : Str) (k : Nat) (ps : List Str) (φ : Fn) : Prop :=
  ∃ C f fd, mg c = some (.ref C) ∧ InC K C f ∧ FnOk P w K mg base CX0 k f fd ps (spD ⟨K, mg, P, w⟩ 2 φ) ∧ Binds K fd ps []
def eInO (c : Str) (φ : Fn) (neg : Bool) (a b : E) : E := fun env w => match a env w with
  | some (x, w1) => match b env w1 with
    | some (.obj c' gs, w2) => if c' = c then match φ [.obj c' gs, x] w2 with
      | some (.bl r, w3) => some (.bl (r != neg), w3)
      | _ => none else none
    | _ => none
  | none => none
section
variable {X : Cx} {C f : Addr} {fd : FuncData} {ps : List Str} {φ : Fn} {k : Nat}
def rInO (X : Cx) (C : Addr) (φ : Fn) (neg : Bool) : R2 := fun x y H Q => ∃ b dy gs, y = .ref b ∧ H b = some (.ins C dy gs) ∧ spD (tx X) 2 φ [.ref b, x] H (fun v H' => ∃ r, v = .bl r ∧ Q (.bl (r != neg)) H') E0
theorem op_inO (neg : Bool) (c : InC X.K C f) (F : FnOk X.prog X.w X.K X.mg X.base CX0 k f fd ps (spD (tx X) 2 φ)) (hb : Binds X.K fd ps []) (hr : Room k X.A) : OpR X (compareOp (if neg = true then .NotIn else .In)) (rInO X C φ neg) := by
  intro pins s σ H x y u v Q I rx ry ⟨b, dy, gs, ey, hb', hsp⟩
  subst ey
  cases ry
  obtain ⟨mB, J, _⟩ := ins_get I.hok hb'
  obtain ⟨od, J, _⟩ := J.look
  obtain ⟨m, hF⟩ := I.fr
  have asked : ∀ {R : Value → Shared → Prop}, (∀ r H' s', Inv X pins σ H' s' → Q (.bl (r != neg)) H' → wpAny (model X.prog X.w) X.A (truthy (.bool r)) (fun z => R (.bool (z != neg))) X.xe s') →
      wpAny (model X.prog X.w) X.A (call (.ref f) [.ref b, u]) (fun r s' => wpAny (model X.prog X.w) X.A (truthy r) (fun z => R (.bool (z != neg))) X.xe s') X.xe s := fun {R} hR =>
    wpAny_mono (run_fn (E := E0) (vs := [.ref b, x]) F hr hb .nil pass0 I (.cons rfl (.cons rx .nil)) hsp) (fun _ s' ⟨_, H', I', rz, r, ez, q⟩ => by
      subst ez; cases rz
      exact hR r H' s' I' q) fun _ _ z => z
  have fin : ∀ r H' s', Inv X pins σ H' s' → Q (.bl (r != neg)) H' → wpAny (model X.prog X.w) X.A (truthy (.bool r)) (fun z => EP X pins σ Q (.bool (z != neg))) X.xe s' := fun r H' s' I' q => wpAny_truthy_bool ⟨.bl (r != neg), H', I', rfl, q⟩
  cases neg with
  | false =>
    refine PySem.W.in_K hF I.ok.mod.kin J c.has c.fn (wpAny_mono (asked fin) (fun _ _ z => wpAny_mono z (fun t _ z => ?_) fun _ _ z => z) fun _ _ z => z)
    cases t <;> exact z
  | true =>
    refine PySem.W.notIn_K hF I.ok.mod.kin J c.has c.fn (wpAny_mono (asked fin) (fun _ _ z => wpAny_mono z (fun t _ z => ?_) fun _ _ z => z) fun _ _ z => z)
    cases t <;> exact z
theorem tInO_of {c : Str} {neg : Bool} {fa fb : E} (hc : X.mg c = some (.ref C)) : ∀ σ H Q, tD (tx X) (eInO c φ neg fa fb) σ H Q → tOp (rInO X C φ neg) (tD (tx X) fa) (tD (tx X) fb) σ H Q := fun σ H Q ⟨G, B, env, w, d, w', hd, e, k⟩ => by
  unfold eInO at e
  split at e
  · rename_i x w1 ea
    split at e
    · rename_i c2 gs w2 eb
      split at e
      · rename_i hcc
        subst hcc
        split at e
        · rename_i r w3 eφ
          cases e
          refine ⟨G, B, env, w, _, w1, hd, ea, fun v H1 s1 h1 rv => ⟨G, B, env, w1, _, w2, h1, eb, fun u H2 s2 h2 ru => ?_⟩⟩
          have ru' := ru
          cases ru with
          | obj m hx dn q rr =>
            have m' : X.mg c2 = some (.ref _) := m
            rw [hc] at m'
            cases m'
            refine ⟨_, _, _, rfl, hx, G, _, w2, .bl r, _, .cons ru' (.cons (rv.keep (s2.keep h1.draw)) .nil), h2.draw, rfl, eφ, fun v H' s dr rb => ?_⟩
            cases rb
            exact ⟨r, rfl, k _ H' ((s1.trans s2).trans s) (h2.go s dr) (.bl _)⟩
        · cases e
      · cases e
    · cases e
  · cases e
variable {a b : Expr} {fa fb : E} {pos : Pos} {c : Str}
theorem de_calIn (h : CalH X.prog X.w X.K X.mg X.base c k ps φ) (hr : Room k X.A) (ha : DE X a fa) (hbx : DE X b fb) (hm : behindInMarks .In b = false := by rfl) : DE X (.Compare a [.In] [b] pos) (eInO c φ false fa fb) := let ⟨_, _, _, h1, h2, h3, h4⟩ := h; pe_imp (pe_cmpR (op_inO false h2 h3 h4 hr) ha hbx hm) (tInO_of h1)
theorem de_calNi (h : CalH X.prog X.w X.K X.mg X.base c k ps φ) (hr : Room k X.A) (ha : DE X a fa) (hbx : DE X b fb) (hm : behindInMarks .NotIn b = false := by rfl) : DE X (.Compare a [.NotIn] [b] pos) (eInO c φ true fa fb) := let ⟨_, _, _, h1, h2, h3, h4⟩ := h; pe_imp (pe_cmpR (op_inO true h2 h3 h4 hr) ha hbx hm) (tInO_of h1)
theorem dt_calIn (h : CalH X.prog X.w X.K X.mg X.base c k ps φ) (hr : Room k X.A) (ha : DE X a fa) (hbx : DE X b fb) (hm : behindInMarks .In b = false := by rfl) : DT X (.Compare a [.In] [b] pos) (eInO c φ false fa fb) := let ⟨_, _, _, h1, h2, h3, h4⟩ := h; pt_imp (pt_cmpR (op_inO false h2 h3 h4 hr) ha hbx hm) (tTest_of (tInO_of h1))
theorem dt_calNi (h : CalH X.prog X.w X.K X.mg X.base c k ps φ) (hr : Room k X.A) (ha : DE X a fa) (hbx : DE X b fb) (hm : behindInMarks .NotIn b = false := by rfl) : DT X (.Compare a [.NotIn] [b] pos) (eInO c φ true fa fb) := let ⟨_, _, _, h1, h2, h3, h4⟩ := h; pt_imp (pt_cmpR (op_inO true h2 h3 h4 hr) ha hbx hm) (tTest_of (tInO_of h1))
end
/-! ### methods by keywords -/
/-- is: where each parameter behind self is taken from -/
def CalMK (P : Program) (w : World) (K : PySem.W.Frag) (mg : Str → Option Value) (base : Heap) (c m : Str) (k : Nat) (ks : List Str) (is : List Nat) (φ : FnX) : Prop :=
  ∃ C f fd ps g, mg c = some (.ref C) ∧ Cls K C ∧ Meth K C m f ∧ FnOk P w K mg base (L2.CX P w) k f fd ps (spX ⟨K, mg, P, w⟩ is.length φ) ∧ KBn K fd ps 1 ks g (fun vs zs => pickA is (vs ++ zs ++ []))
def eMethK (c m : Str) (φ : FnX) (is : List Nat) (a : E) (fk : List E) : EX := fun env w => match a env w with
  | some (.obj c' gs, w1) => if c' = c ∧ gs.lookup m = none then match aL fk env w1 with
    | some (ys, w2) => if (pickA is (.obj c' gs :: ys)).length = is.length then φ (pickA is (.obj c' gs :: ys)) w2 else none
    | none => none else none
  | _ => none
section
variable {X : Cx} {Z : XK} {c m : Str} {k : Nat} {ks : List Str} {is : List Nat} {φ : FnX} {pos apos : Pos} {o : Expr} {kws : List Keyword} {fo : E} {fk : List E}
theorem dex_calMK {pl : Sem Bool} (M : CalMK X.prog X.w X.K X.mg X.base c m k ks is φ) (px : Tks X Z) (hr : Room k X.A) (ho : DE X o fo) (hkw : DK X kws (aL fk)) (hl : fk.length = ks.length := by rfl)
    (hall : (backToKw pos (keywordEach kws X.env)).all (·.1.isSome) = true := by rfl) (hks : (backToKw pos (keywordEach kws X.env)).filterMap (·.1) = ks := by rfl) (hpl : (backToKw pos (keywordEach kws X.env)).any (·.1.isNone) = false := by rfl)
    (ht : eval (.Call (.Attribute o m apos) [] kws pos) X.env = (do
      let ov ← eval o X.env
      standAt apos.atName
      let (f, first) ← holding [ov] (getMethod ov m pl)
      callWith pos f first (backTo pos (starEach [] X.env)) (backToKw pos (keywordEach kws X.env))) := by rfl) :
    DEX X Z (.Call (.Attribute o m apos) [] kws pos) (eMethK c m φ is fo fk) := by
  obtain ⟨C, f, fd, ps, g, hC, cl, me, F, kb⟩ := M
  refine ⟨fun pins s σ H Q I ⟨G, B, env, w, r, w', hd, e, kk⟩ => ?_⟩
  unfold eMethK at e
  split at e
  · rename_i c' gs w1 ea
    split at e
    · rename_i hcc
      obtain ⟨rfl, hn⟩ := hcc
      split at e
      · rename_i ys w2 eb
        split at e
        · rename_i hln
          refine PySem.W.methodCall_KW (pl := pl) (thn (ho.run pins s σ H (fun v H1 => SameD G H H1 ∧ Hold (tx X) G B σ H1 env w1 ∧ Rep (tx X) G H1 v (.obj c' gs)) I ⟨G, B, env, w, _, w1, hd, ea, fun v H1 s1 h1 rv => ⟨s1, h1, rv⟩⟩) fun u s1 ⟨v, H1, I1, ru, sm, h1, rv⟩ => ?_) ht
          have rv0 := rv
          cases rv with
          | obj m' hx dn q rr =>
            have m2 : X.mg c' = some (.ref _) := m'
            rw [hC] at m2
            cases m2
            obtain rfl := (show u = Value.ref _ from ru)
            refine getmeth_ok I1 hx cl me (look_none q hn) (PySem.W.callWith_KW0 (first := [.ref _]) (h₀ := X.base) I.ok.mod.kin me.kp hall (thn (hkw.run pos pins s1 σ H1 (fun zs H2 => zs.length = ks.length ∧ SameD G H1 H2 ∧ Hold (tx X) G B σ H2 env w2 ∧ Reps (tx X) G H2 zs ys) I1 ⟨G, B, env, w1, ys, w2, h1, eb, fun zs H2 s2 h2 rz => ⟨by rw [rz.length, aL_len eb]; exact hl, s2, h2, rz⟩⟩) fun ws s2 ⟨zs, H2, I2, rz, lz, sm2, h2, rzs⟩ => ⟨I2.kIn, ?_⟩) hpl)
            rw [hks]
            refine run_fnN (us := [.ref _]) (vs := [.ref _]) F hr kb px.passes I2 (.cons rfl .nil) rz rfl lz ⟨G, _, w2, r, w', reps_pick is (.cons (rv0.keep (sm2.keep h1.draw)) (rzs.append .nil)), h2.draw, by rw [List.append_nil]; exact hln, by rw [List.append_nil]; exact e, rsD_call (sm.trans sm2) h2 kk⟩
        · cases e
      · cases e
    · cases e
  · cases e
end
end Dl
set_option Elab.async false
set_option linter.all false
set_option maxRecDepth 100000
set_option maxHeartbeats 4000000
/-! D63: x[a], x[b] = x[b], x[a]. -/
namespace Dl
open PySem PySem.Spec L2
def sSwap (i ia ib : Nat) : S := fun env w => match env[i]?, env[ia]?, env[ib]? with
  | some (.ow (.lst ds)), some (.sh (.int a)), some (.sh (.int b)) => match ixN ds.length a, ixN ds.length b with
    | some ja, some jb => match ds[ja]?, ds[jb]? with
      | some da, some db => some (.nx (env.set i (.ow (.lst ((ds.set ja db).set jb da)))), w)
      | _, _ => none
    | _, _ => none
  | _, _, _ => none
theorem ds_swap {X : Cx} (i ia ib : Nat) {x a b : Str} {kt k2 : Nat} {p1 p2 p3 p4 p5 p6 p7 p8 p9 p10 p11 p12 pt pt2 pos : Pos} (hc : X.calm = true) (hx : ∀ p, PE X (.Name x p) (tVar i)) (ha : ∀ p, PE X (.Name a p) (tVar ia)) (hb : ∀ p, PE X (.Name b p) (tVar ib))
    (hw : swappedStores [.Tuple [.Subscript (.Name x p1) (.Name a p2) p3, .Subscript (.Name x p4) (.Name b p5) p6] kt pt] (.Tuple [.Subscript (.Name x p7) (.Name b p8) p9, .Subscript (.Name x p10) (.Name a p11) p12] k2 pt2) X.env = pure none := by rfl)
    (hs : swapsWithSole [.Tuple [.Subscript (.Name x p1) (.Name a p2) p3, .Subscript (.Name x p4) (.Name b p5) p6] kt pt] (.Tuple [.Subscript (.Name x p7) (.Name b p8) p9, .Subscript (.Name x p10) (.Name a p11) p12] k2 pt2) pos.line X.env = pure false := by rfl) :
    DS X (.Assign [.Tuple [.Subscript (.Name x p1) (.Name a p2) p3, .Subscript (.Name x p4) (.Name b p5) p6] kt pt] (.Tuple [.Subscript (.Name x p7) (.Name b p8) p9, .Subscript (.Name x p10) (.Name a p11) p12] k2 pt2) pos) (sSwap i ia ib) := by
  refine ps_imp (ps_asg (pe_tup (pa_cons (pe_ix ix_seq (hx _) (hb _) (fun _ _ => rfl)) (pa_cons (pe_ix ix_seq (hx _) (ha _) (fun _ _ => rfl)) pa_nil))) (pg_tup (n := 2) hc (pgs_cons (pg_sub (hx _) (ha _) L2.set_list) (pgs_cons (pg_sub (hx _) (hb _) L2.set_list) pgs_nil))) hs hw) fun D σ H ⟨G, B, env, w, fl, w', hd, e, k⟩ => ?_
  unfold sSwap at e
  split at e
  · rename_i ds va vb e1 e2 e3
    split at e
    · rename_i ja jb i1 i2
      split at e
      · rename_i da db g1 g2
        cases e
        obtain ⟨p, s1, nb, n1, n2, ow⟩ := hd.ow i _ e1
        obtain ⟨u2, s2, r2⟩ := hd.sh ia _ e2
        obtain ⟨u3, s3, r3⟩ := hd.sh ib _ e3
        cases r2
        cases r3
        cases ow with
        | lst h z r =>
          rename_i xs
          have hl := r.length
          obtain ⟨xa, ga, ra⟩ := r.get g1
          obtain ⟨xb, gb, rb⟩ := r.get g2
          have iA : ixN xs.length va = some ja := by rw [hl]; exact i1
          have iB : ixN xs.length vb = some jb := by rw [hl]; exact i2
          refine ⟨_, s1, _, s3, .inl ⟨p, xs, vb, xb, rfl, rfl, SqL.of h, by unfold atI; rw [iB]; exact gb, _, s1, _, s2, .inl ⟨p, xs, va, xa, rfl, rfl, SqL.of h, by unfold atI; rw [iA]; exact ga, (show 2 ≤ sizeLine by decide), fun q nq => ?_⟩⟩⟩
          have np : p ≠ q := ne_of_none h nq
          refine ⟨q, [xb, xa], rfl, .inl (.inl upd_same), rfl, xb, [xa], rfl, _, s1, _, s2, p, xs, va, ja, rfl, rfl, by rw [upd_ne np]; exact h, iA, xa, [], rfl, _, s1, _, s3, p, _, vb, jb, rfl, rfl, upd_same, by rw [List.length_set]; exact iB, rfl, ?_⟩
          have h1 := hd.new (.tup [xb, xa]) nq
          have k1 : Keep H (upd H q (.tup [xb, xa])) := Keep.new _ nq
          have hp1 : upd H q (.tup [xb, xa]) p = some (.lst xs) := by rw [upd_ne np]; exact h
          rw [upd_upd]
          have k2 : Keep (upd H q (.tup [xb, xa])) (upd (upd H q (.tup [xb, xa])) p (.lst ((xs.set ja xb).set jb xa))) := Keep.mut _ hp1 rfl
          refine k σ _ (k1.trans k2) (h1.mutOw e1 s1 (fun u hu => by rw [hp1] at hu; cases hu; rfl) (.lst upd_same (by simpa using z) ?_))
          exact ((r.keep (k1.trans k2)).set ja (rb.keep (k1.trans k2))).set jb (ra.keep (k1.trans k2))
      · cases e
    · cases e
  · cases e
end Dl
set_option Elab.async false
set_option linter.all false
set_option maxRecDepth 100000
set_option maxHeartbeats 4000000
/-! D66: repr of a pair of a text and the empty dict. -/
namespace Dl
open PySem PySem.Spec L2 PyProof.Rows
def pyE (x : Str) : PyData := .tuple [.str x, .dict []]
def rReprE (R : List V → Hp → VK → Prop) : List V → Hp → VK → Prop := fun xs H Q => R xs H Q ∨ ∃ (a b : Addr) (x : Str) (o : Obj), xs = [.ref a] ∧ H a = some (.tup [.str x, .ref b]) ∧ H b = some (.frz o (.dK [])) ∧ (pyE x).shown.length ≤ sizeLine ∧ Q (.str (pyE x).shown) H
theorem call_reprE {X : Cx} {R : List V → Hp → VK → Prop} (hR : CallR X (.builtin "repr") R) (hg : X.A.guards = some []) (hu : X.A.units + 64 < cLine) : CallR X (.builtin "repr") (rReprE R) := by
  intro pins s σ H xs us Q I r h
  rcases h with h | ⟨a, b, x, o, rfl, ha, hb, hz, q⟩
  · exact hR _ _ _ _ _ _ _ I r h
  · cases r with
    | cons rx rt =>
      cases rt
      cases rx
      obtain ⟨its, rv, ⟨o1, e1, e2, n, e3⟩, _⟩ := I.tuple (SqT.of ha)
      obtain ⟨_, ns, vs, kv, o2, es, ep, d1, d2, d3, _, d5, _⟩ := dk_rd I.hok (.inr ⟨o, hb⟩)
      cases kv
      have en : es.toList = [] := by
        cases h : es.toList with
        | nil => rfl
        | cons y ys => rw [h] at d5; cases d5
      cases rv with
      | cons r1 rv =>
        cases rv with
        | cons r2 rv =>
          cases rv
          obtain ⟨t, rfl⟩ := r1
          cases r2
          have rd : Reads s.heap (.ref b) (.dict []) (b :: [] ++ []) := .dict d1 d2.1 d3 (by rw [en]; exact .nil) (by rw [en]; exact .nil)
          have rt : Reads s.heap (.ref a) (pyE x) ([] ++ ((b :: [] ++ []) ++ [])) := .tuple e1 e2 e3 (.cons (.str x t) (.cons rd .nil))
          refine repr_of_reads' rt rfl (fun _ hm => ?_) hg ?_ (fun _ _ e => e) (fun h' u tk k => ⟨.str (pyE x).shown, H, I.kept k, ⟨u, rfl⟩, q⟩) hz
          · have : sysModules = b := by simpa using hm
            rw [this] at ns
            simp at ns
          · show X.A.units + 3 < cLine
            omega
/-- repr(x), x plain data, or a pair of a text and the empty dict -/
def reprE : List D → Option D
  | [.tup [.str x, .dic []]] => if sB (pyE x).shown = true then some (.str (pyE x).shown) else none
  | l => reprD l
theorem c1_reprE {X : Cx} (hg : X.A.guards = some []) (hu : X.A.units + 64 < cLine) : Call1 X (.builtin "repr") reprE := by
  obtain ⟨R, hc, hR⟩ := c1_repr hg hu
  exact ⟨_, call_reprE hc hg hu, fun G H w vs ds d Q dr r e k => by
    unfold reprE at e
    split at e
    · rename_i x
      split at e
      · rename_i hs
        cases e
        cases r with
        | cons r rr =>
          cases rr
          cases r with
          | tup h1 h2 h3 =>
            cases h3 with
            | cons ra h3 =>
              cases h3 with
              | cons rb h3 =>
                cases h3
                cases ra
                cases rb with
                | dicK hb hl hm hr =>
                  rename_i ps
                  have : ps = [] := by simpa using hm.symm
                  subst this
                  exact .inr ⟨_, _, _, _, rfl, h1, hb, sOk.len hs, k _ H (.refl _) (.str hs)⟩
      · cases e
    · exact .inl (hR G H w vs ds d Q dr r e k)⟩
end Dl
set_option Elab.async false
set_option linter.all false
set_option maxRecDepth 100000
set_option maxHeartbeats 4000000
/-! D67: a list that is held, so many times. -/
namespace Dl
open PySem PySem.Spec L2 PyProof.Rows
def mulL : D → D → Option D
  | .lst xs, .int k => if xs.length * k.toNat ≤ 1000 ∧ 0 ≤ k ∧ k ≤ 1000 then some (.lst (List.replicate k.toNat xs).flatten) else none
  | _, _ => none
section
variable {X : Cx}
def rMulF : R2 := fun x y H Q => ∃ l k xs, x = .ref l ∧ y = .int k ∧ Rd H l (.lst xs) ∧ xs.length * k.toNat ≤ 1000 ∧ 0 ≤ k ∧ k ≤ 1000 ∧ ∀ p, H p = none → Q (.ref p) (upd H p (.lst (List.replicate k.toNat xs).flatten))
theorem op_mulF : OpR X (binaryOp .Mult) rMulF := by
  intro pins s σ H x y v u Q I rx ry ⟨l, k, xs, ex, ey, hH, hz, k0, k1, q⟩
  subst ex ey
  cases rx
  obtain ⟨t, rfl⟩ := ry
  obtain ⟨z, its, n, r, e⟩ := rdL I.hok hH
  have hl := r.length
  have sz : (1000 : Nat) ≤ sizeLine := by decide
  have hs : its.toArray.size * k.toNat ≤ 1000 := by rw [List.size_toArray, ← hl]; exact hz
  have tl : s.TypeIs (.ref l) "list" := ⟨_, e, rfl⟩
  have ti : ∀ s' : Shared, s'.TypeIs (.int k t) "int" := fun s' => typeIs_int s' k t
  have c1 := lm_int_rmul_list_any k t l its.toArray n none #[]
  have c2 := lm_list_mul_any l its.toArray n none #[] k t (by unfold Builtin.List.listFitsIndex; simp; omega) (by omega) (by rw [notLongL (by omega)]; exact Bool.false_ne_true)
  refine wpAny_binaryOp_repeat_ref (by decide) tl ti noFill_list_mul F.fills_int_mul F.slot_int_rmul repeat_list F.slot_int_index.lookup ?_
  refine call_meets F.slot_int_rmul (ti s) F.entry_int_rmul (F.args_int_rmul_2 _ _) c1 ⟨e, rfl, tl, ?_⟩
  refine call_meets F.slot_list_mul tl F.entry_list_mul (F.args_list_mul_2 _ _) c2 ⟨e, ?_⟩
  rw [listMul_foldl_if]
  exact ⟨.ref _, _, I.lnew (t' := s.toks) (r.rep k.toNat) (by rw [lm_len_rep_flat, Nat.mul_comm]; omega), rfl, q _ I.fresh⟩
variable {pos : Pos} {a b : Expr} {fa fb : E}
theorem Reps.rep {T : Tx} {G : Gd} {H : Hp} {xs : List V} {ds : List D} (h : Reps T G H xs ds) : ∀ k : Nat, Reps T G H (List.replicate k xs).flatten (List.replicate k ds).flatten
  | 0 => .nil
  | k + 1 => by simp only [List.replicate_succ, List.flatten_cons]; exact h.append (h.rep k)
theorem do_mul (ha : DE X a fa) (hb : DE X b fb) : DO X (.BinOp a .Mult b pos) (e2 mulL fa fb) := pe_imp (pe_op op_mulF ha hb) fun σ H Q ⟨G, B, env, w, d, w', hd, e, k⟩ => by
  obtain ⟨x, w1, y, ea, eb, eg⟩ := e2_some e
  refine ⟨G, B, env, w, x, w1, hd, ea, fun v1 H1 s1 h1 r1 => ⟨G, B, env, w1, y, w', h1, eb, fun v2 H2 s2 h2 r2 => ?_⟩⟩
  unfold mulL at eg
  split at eg
  · rename_i xs i
    split at eg
    · rename_i hl
      cases eg
      have r1' := r1.keep (s2.keep h1.draw)
      cases r2
      cases r1' with
      | lst f1 z1 q1 =>
        have hl' := hl.1
        rw [← q1.length] at hl'
        have sz : (1000 : Nat) ≤ sizeLine := by decide
        refine ⟨_, _, _, rfl, rfl, .inr f1, hl', hl.2.1, hl.2.2, fun p np => k p _ (h1.back s1 (h2.back s2 np)) ((s1.trans s2).trans (.new _ np)) (h2.new _ np) (.lst upd_same (by rw [lm_len_rep_flat, Nat.mul_comm]; omega) ((q1.rep _).keep (Keep.new _ np)))⟩
    · cases eg
  · cases eg
theorem cf_mul {a b : E} : ∀ env w d w', e2 mulL a b env w = some (d, w') → cont d = true := fun env w d w' h => by
  obtain ⟨x, w1, y, _, _, e⟩ := e2_some h
  unfold mulL at e
  split at e
  · split at e
    · cases e; rfl
    · cases e
  · cases e
end
end Dl
set_option Elab.async false
set_option linter.all false
set_option maxRecDepth 100000
set_option maxHeartbeats 4000000
/-! P5: what mirrors with errors and lambdas answer. -/
namespace Dl
open PySem L2
section
variable {env : Env} {w : Dr} {Q : D → Dr → Prop} {QS : Fl → Dr → Prop} {QX : FX → Dr → Prop} {QR : Rs → Dr → Prop}
@[simp] theorem W_xS (f : S) : W (xS f env w) QX ↔ W (f env w) fun fl w1 => QX (.fl fl) w1 := by
  unfold xS
  cases f env w with
  | none => simp [W_none]
  | some p => obtain ⟨fl, w1⟩ := p; simp [W_some]
@[simp] theorem W_xE (f : E) : W (xE f env w) QR ↔ W (f env w) fun d w1 => QR (.ok d) w1 := by
  unfold xE
  cases f env w with
  | none => simp [W_none]
  | some p => obtain ⟨fl, w1⟩ := p; simp [W_some]
@[simp] theorem W_sSeqX (a b : SX) : W (sSeqX a b env w) QX ↔ W (a env w) fun fl w1 => match fl with
    | .fl (.nx env1) => W (b env1 w1) QX
    | r => QX r w1 := by
  unfold sSeqX
  cases a env w with
  | none => simp [W_none]
  | some p =>
    obtain ⟨fl, w1⟩ := p
    simp only [W_some]
    cases fl with
    | ex x => simp [W_some]
    | fl fl => cases fl <;> simp [W_some]
@[simp] theorem W_sIfX (t : E) (a b : SX) : W (sIfX t a b env w) QX ↔ W (t env w) fun x w1 => ∃ t, x = .bl t ∧ if t = true then W (a env w1) QX else W (b env w1) QX := by
  unfold sIfX
  cases t env w with
  | none => simp [W_none]
  | some p =>
    obtain ⟨x, w1⟩ := p
    simp only [W_some]
    cases x with
    | bl t => cases t <;> simp
    | _ => simp [W_none]
@[simp] theorem W_sRz1 (c f : Str) (e : E) : W (sRz1 c f e env w) QX ↔ W (e env w) fun d w1 => QX (.ex (.exc c [(f, d)])) w1 := by
  unfold sRz1
  cases e env w with
  | none => simp [W_none]
  | some p => obtain ⟨fl, w1⟩ := p; simp [W_some]
@[simp] theorem W_sRz0 (c : Str) : W (sRz0 c env w) QX ↔ QX (.ex (.exc c [])) w := W_some _ _
@[simp] theorem W_bodyX (n : Nat) (f : SX) (ds : List D) : W (bodyX n f ds w) QR ↔ W (f (env0 n ds) w) fun fl w' => match fl with
    | .fl (.rt d) => QR (.ok d) w'
    | .fl (.nx _) => QR (.ok .non) w'
    | .ex x => QR (.ex x) w'
    | _ => False := by
  unfold bodyX
  cases f (env0 n ds) w with
  | none => simp [W_none]
  | some q =>
    obtain ⟨fl, w1⟩ := q
    simp only [W_some]
    cases fl with
    | ex x => simp [W_some]
    | fl fl => cases fl <;> simp [W_some, W_none]
@[simp] theorem W_eInO (c : Str) (φ : Fn) (neg : Bool) (a b : E) : W (eInO c φ neg a b env w) Q ↔ W (a env w) fun x w1 => W (b env w1) fun y w2 => ∃ gs, y = .obj c gs ∧ W (φ [.obj c gs, x] w2) fun r w3 => ∃ t, r = .bl t ∧ Q (.bl (t != neg)) w3 := by
  unfold eInO
  cases a env w with
  | none => simp [W_none]
  | some p =>
    obtain ⟨x, w1⟩ := p
    simp only [W_some]
    cases b env w1 with
    | none => simp [W_none]
    | some p =>
      obtain ⟨y, w2⟩ := p
      simp only [W_some]
      cases y with
      | obj c' gs =>
        simp only [W_if]
        constructor
        · rintro ⟨rfl, q⟩
          refine ⟨gs, rfl, ?_⟩
          cases e : φ [.obj c' gs, x] w2 with
          | none => rw [e] at q; exact (W_none.mp q).elim
          | some p =>
            obtain ⟨r, w3⟩ := p
            rw [e] at q
            cases r <;> first | exact (W_none.mp q).elim | exact (W_some _ _).mpr ⟨_, rfl, (W_some _ _).mp q⟩
        · rintro ⟨gs', e, q⟩
          cases e
          refine ⟨rfl, ?_⟩
          obtain ⟨r, w3, e, t, rfl, q⟩ := q
          rw [e]
          exact (W_some _ _).mpr q
      | _ => simp [W_none]
theorem eMethX_eq (c m : Str) (φ : FnX) (a : E) (fs : List E) {gs : List (Str × D)} {w1 w2 : Dr} {xs : List D} (h1 : a env w = some (.obj c gs, w1)) (h2 : gs.lookup m = none) (h3 : aL fs env w1 = some (xs, w2)) : eMethX c m φ a fs [] env w = φ (.obj c gs :: xs) w2 := by
  unfold eMethX
  rw [h1]
  simp [h2, h3]
@[simp] theorem W_eMethX (c m : Str) (φ : FnX) (a : E) (fs : List E) (dds : List D) : W (eMethX c m φ a fs dds env w) QR ↔ W (a env w) fun x w1 => ∃ gs, x = .obj c gs ∧ gs.lookup m = none ∧ W (aL fs env w1) fun xs w2 => W (φ (.obj c gs :: (xs ++ dds)) w2) QR := by
  unfold eMethX
  cases a env w with
  | none => simp [W_none]
  | some p =>
    obtain ⟨x, w1⟩ := p
    simp only [W_some]
    cases x with
    | obj c' gs =>
      simp only [W_if]
      constructor
      · rintro ⟨⟨rfl, h⟩, q⟩
        refine ⟨gs, rfl, h, ?_⟩
        cases e : aL fs env w1 with
        | none => rw [e] at q; exact (W_none.mp q).elim
        | some p => rw [e] at q; exact (W_some _ _).mpr q
      · rintro ⟨gs', e, h, q⟩
        cases e
        refine ⟨⟨rfl, h⟩, ?_⟩
        obtain ⟨xs, w2, e, q⟩ := q
        rw [e]
        exact q
    | _ => simp [W_none]
@[simp] theorem W_eMethK (c m : Str) (φ : FnX) (is : List Nat) (a : E) (fk : List E) : W (eMethK c m φ is a fk env w) QR ↔ W (a env w) fun x w1 => ∃ gs, x = .obj c gs ∧ gs.lookup m = none ∧ W (aL fk env w1) fun ys w2 => (pickA is (.obj c gs :: ys)).length = is.length ∧ W (φ (pickA is (.obj c gs :: ys)) w2) QR := by
  unfold eMethK
  cases a env w with
  | none => simp [W_none]
  | some p =>
    obtain ⟨x, w1⟩ := p
    simp only [W_some]
    cases x with
    | obj c' gs =>
      simp only [W_if]
      constructor
      · rintro ⟨⟨rfl, h⟩, q⟩
        refine ⟨gs, rfl, h, ?_⟩
        cases e : aL fk env w1 with
        | none => rw [e] at q; exact (W_none.mp q).elim
        | some p => rw [e] at q; exact (W_some _ _).mpr (W_if.mp q)
      · rintro ⟨gs', e, h, q⟩
        cases e
        refine ⟨⟨rfl, h⟩, ?_⟩
        obtain ⟨xs, w2, e, q⟩ := q
        rw [e]
        exact W_if.mpr q
    | _ => simp [W_none]
@[simp] theorem W_eCallX (φ : FnX) (fs : List EX) (dds : List D) : W (eCallX φ fs dds env w) QR ↔ W (aLX fs env w) fun r w1 => match r with
    | .ok xs => W (φ (xs ++ dds) w1) QR
    | .ex x => QR (.ex x) w1 := by
  unfold eCallX eAppX
  cases aLX fs env w with
  | none => simp [W_none]
  | some p => obtain ⟨r, w1⟩ := p; cases r <;> simp [W_some]
@[simp] theorem W_eLam (i : Nat) (n : Str) (mg : Rs → Dr → Option (D × Dr)) (fb : EX) : W (eLam i n mg fb env w) Q ↔ ∃ ns, env[i]? = some (.sh (.drt ns)) ∧ n ∈ ns ∧ W (fb (ro env) w) fun r w1 => W (mg r w1) Q := by
  unfold eLam
  split
  · rename_i ns e
    rw [W_if]
    constructor
    · rintro ⟨h, q⟩
      refine ⟨ns, e, h, ?_⟩
      cases e2 : fb (ro env) w with
      | none => rw [e2] at q; exact (W_none.mp q).elim
      | some p => rw [e2] at q; exact (W_some _ _).mpr q
    · rintro ⟨ns', e', h, q⟩
      rw [e] at e'
      cases e'
      refine ⟨h, ?_⟩
      obtain ⟨r, w1, e2, q⟩ := q
      rw [e2]
      exact q
  · rename_i h
    rw [W_none]
    constructor
    · exact False.elim
    · rintro ⟨ns, e, _⟩; exact h ns e
theorem W_finD (o : Option (Fl × Dr)) : W (finD o) Q ↔ W o fun fl w' => match fl with
    | .rt d => Q d w'
    | .nx _ => Q .non w'
    | _ => False := by
  cases o with
  | none => simp [finD, W_none]
  | some q =>
    obtain ⟨fl, w1⟩ := q
    cases fl <;> simp [finD, W_some, W_none]
@[simp] theorem W_gA_ok (n k j : Nat) (cat : Str → Bool) (f : S) (d : D) : W (gA n k j cat f (.ok d) w) Q ↔ W (f (((unE n).set j (.sh .non)).set k (.sh d)) w) fun fl w' => match fl with
    | .rt d => Q d w'
    | .nx _ => Q .non w'
    | _ => False := W_finD _
@[simp] theorem W_gA_ex (n k j : Nat) (cat : Str → Bool) (f : S) (c : Str) (fs : List (Str × D)) : W (gA n k j cat f (.ex (.exc c fs)) w) Q ↔ cat c = true ∧ W (f ((unE n).set j (.sh (.exc c fs))) w) fun fl w' => match fl with
    | .rt d => Q d w'
    | .nx _ => Q .non w'
    | _ => False := W_if.trans (and_congr Iff.rfl (W_finD _))
@[simp] theorem W_gB_ok (n j : Nat) (cat : Str → Bool) (f : S) (d : D) : W (gB n j cat f (.ok d) w) Q ↔ W (f ((unE n).set j (.sh .non)) w) fun fl w' => match fl with
    | .rt d => Q d w'
    | .nx _ => Q .non w'
    | _ => False := W_finD _
@[simp] theorem W_gB_ex (n j : Nat) (cat : Str → Bool) (f : S) (c : Str) (fs : List (Str × D)) : W (gB n j cat f (.ex (.exc c fs)) w) Q ↔ cat c = true ∧ W (f ((unE n).set j (.sh (.exc c fs))) w) fun fl w' => match fl with
    | .rt d => Q d w'
    | .nx _ => Q .non w'
    | _ => False := W_if.trans (and_congr Iff.rfl (W_finD _))
@[simp] theorem ro_cons (s : Slot) (e : Env) : ro (s :: e) = roS s :: ro e := rfl
@[simp] theorem ro_nil : ro [] = [] := rfl
@[simp] theorem roS_sh (d : D) : roS (.sh d) = .sh d := rfl
@[simp] theorem roS_ow (d : D) : roS (.ow d) = .un := rfl
@[simp] theorem roS_un : roS .un = .un := rfl
end
end Dl
set_option Elab.async false
set_option linter.all false
set_option maxRecDepth 100000
set_option maxHeartbeats 4000000
/-! D68: {k: v}; x.insert(i, e). -/
namespace Dl
open PySem PySem.Spec L2 PyProof.Rows
def eDct1 (fk fv : E) : E := fun env w => match fk env w with
  | none => none
  | some (kd, w1) => match fv env w1 with
    | none => none
    | some (d, w2) => match keyOf kd with
      | some _ => some (.dic [(kd, d)], w2)
      | none => none
section
variable {X : Cx} {pos : Pos}
theorem do_dct1 {ke ve : Expr} {fk fv : E} (hk : DE X ke fk) (hv : DE X ve fv) : DO X (.Dict [some ke] [ve] pos) (eDct1 fk fv) :=
  pe_imp (pe_disp (pps_cons hk hv pps_nil) rfl rfl (List.cons_ne_nil _ _) (by show 1 ≤ 15; decide)) fun σ H Q ⟨G, B, env, w, d, w', hd, e, k⟩ => by
  intro p np
  unfold eDct1 at e
  split at e
  · cases e
  · rename_i kd w1 ek
    split at e
    · cases e
    · rename_i dv w2 ev
      split at e
      · rename_i kk hkey
        cases e
        obtain ⟨nb, n1, n2⟩ := hd.nb np
        have s0 : SameD G H (upd H p (.dK [])) := .new _ np
        refine ⟨G, B, env, w, kd, w1, hd.new _ np, ek, fun x H1 s1 h1 rx => ⟨G, B, env, w1, dv, _, h1, ev, fun y H2 s2 h2 ry => ?_⟩⟩
        have hp : H2 p = some (.dK []) := (s1.trans s2) p _ upd_same n1 n2 rfl
        obtain ⟨ex, ok⟩ := rx.key hkey
        have s02 : SameD G H H2 := (s0.trans s1).trans s2
        have kp : Keep H2 (upd H2 p (.dK [(kk, y)])) := Keep.mut _ hp rfl
        refine ⟨hp, [(kk, y)], by rw [ex]; rfl, by show 1 ≤ 15; decide, ?_⟩
        refine k p _ (Fre.of np) (fun a o ha na nl nt => ?_) (h2.side (.dK [(kk, y)]) hp noCode_dK rfl (hd.apart np) nb n1 n2 (hd.apartT s02 np)) (.dicK (ps := [(kk, y)]) upd_same ⟨by show 1 ≤ sizeLine; rw [PySem.sizeLine_eq]; omega, fun q hq => ?_⟩ ?_ ?_)
        · exact (upd_ne (fun z => by rw [z, np] at ha; cases ha)).trans (s02 a o ha na nl nt)
        · rw [List.mem_singleton] at hq; subst hq; exact ok
        · show [kd] = [dKey kk]; rw [dKey_of hkey]
        · exact .cons (ry.keep kp) .nil
      · cases e
theorem cf_dct1 {a b : E} : ∀ env w d w', eDct1 a b env w = some (d, w') → cont d = true := fun env w d w' h => by
  unfold eDct1 at h
  split at h
  · cases h
  · split at h
    · cases h
    · split at h
      · cases h; rfl
      · cases h
/-- x.insert(j, e) -/
def sIns (i : Nat) (fj fe : E) : S := fun env w => match aL [fj, fe] env w with
  | some ([.int j, d], w1) => match env[i]? with
    | some (.ow (.lst ds)) => if ds.length < sizeLine ∧ 0 ≤ j ∧ j < 2 ^ 63 then some (.nx (env.set i (.ow (.lst (ds.take j.toNat ++ [d] ++ ds.drop j.toNat)))), w1) else none
    | _ => none
  | _ => none
variable {ej e : Expr} {fj f : E} {x : Str} {p apos cpos : Pos}
theorem ds_insert (i : Nat) (hi : PE X (.Name x p) (tVar i)) (hj : DE X ej fj) (he : DE X e f)
    (hbase : attributeBase (.Name x p) "insert" X.env (eval (.Name x p) X.env) = eval (.Name x p) X.env := by rfl)
    (hfew : ((backTo cpos (starEach [ej, e] X.env)).all (fun x => !x.1) && (backToKw cpos (keywordEach [] X.env)).all (fun x => x.1.isSome)
      && decide ([ej, e].length + ([] : List Keyword).length + (if ([] : List Keyword).isEmpty then 0 else 1) < 30)) = true := by rfl)
    (hline : (apos.endLine == cpos.line) = true := by rfl) (hs : starEach [ej, e] X.env = (false, eval ej X.env) :: starEach [e] X.env := by rfl) (hs2 : starEach [e] X.env = (false, eval e X.env) :: starEach [] X.env := by rfl) (hplain : (backTo cpos (starEach [e] X.env)).any (·.1) = false := by rfl)
    (hsw : swapsWith (.Call (.Attribute (.Name x p) "insert" apos) [ej, e] [] cpos) none pos.line X.env = pure false := by rfl) :
    DS X (.Expr (.Call (.Attribute (.Name x p) "insert" apos) [ej, e] [] cpos) pos) (sIns i fj f) :=
  ps_imp (ps_expr (pe_bm PySem.F.plainAttrs_list PySem.F.slot_list_insert PySem.F.type_list_insert mt_insert hi (da_cons hj (da_cons he da_nil hs2) hs) hbase hfew hline hs hplain) hsw) fun D σ H ⟨G, B, env, w, fl, w', hd, e, k⟩ => by
  unfold sIns at e
  split at e
  · rename_i j d w1 ea
    split at e
    · rename_i ds hs
      split at e
      · rename_i hlt
        cases e
        obtain ⟨a, h1, nb, n1, n2, ow⟩ := hd.ow i _ hs
        refine ⟨_, h1, ?_, ?_⟩
        · cases ow with
          | lst h z r => exact .inl ⟨rfl, _, SqL.of h⟩
        · refine ⟨G, B, env, w, _, _, hd, ea, fun vs H1 s1 h2 rvs => ?_⟩
          obtain ⟨a', h1', _, _, _, ow'⟩ := h2.ow i _ hs
          rw [h1] at h1'
          cases h1'
          cases rvs with
          | cons rj rvs =>
            cases rvs with
            | cons rv rvs =>
              cases rvs
              cases rj
              cases ow' with
              | lst h z r =>
                have hl := r.length
                refine ⟨_, _, _, _, rfl, rfl, h, by omega, hlt.2.1, hlt.2.2, k σ _ ((s1.keep hd.draw).trans (Keep.mut _ h rfl)) (h2.mutOw hs h1 (fun u hu => by rw [h] at hu; cases hu; rfl) (.lst upd_same ?_ ((((r.take _).snoc rv).append (r.drop _)).keep (Keep.mut _ h rfl))))⟩
                simp only [List.length_append, List.length_take, List.length_drop, List.length_cons, List.length_nil]
                omega
      · cases e
    · cases e
  · cases e
end
end Dl
set_option Elab.async false
set_option linter.all false
set_option maxRecDepth 100000
set_option maxHeartbeats 4000000
/-! D69: a pair, turned about: x[::-1]. -/
namespace Dl
open PySem PySem.Spec L2 PyProof.Rows Builtin
theorem pair_back (t sl : Addr) (a b : Value) (n : Nat) (dd : Option Addr) (slt : Array (Option Value)) (u : Tok) :
    Meets (Builtin.«tuple.__getitem__» ⟨[.ref t, .ref sl], []⟩) (fun _ R s => s.heap.get? t = some { cls := .type "tuple", dict := dd, data := .seq #[a, b] n, slots := slt } ∧ s.heap.get? sl = some { cls := .type "slice", data := .fields #[.none, .none, .int (-1) u] } ∧
      R (.ok (.ret (Value.ref s.heap.objs.size))) { s with heap := s.heap.push { cls := Value.type "tuple", data := Data.seq #[b, a] } }) :=
  .of_wp fun prog w A R s h => by
    obtain ⟨hp, g, d, tk, os⟩ := s
    obtain ⟨h1, h2, h⟩ := h
    wp_walk
    refine wpAny_of_eq int_index ?_
    wp_walk
    have e1 : Slice.sliceAdjust none none ((some (-1 : Int)).getD 1) ((#[a, b] : Array Value).size : Int) = (1, -1) := rfl
    have e2 : Slice.slicePlaces 1 (-1) ((some (-1 : Int)).getD 1) = 2 := rfl
    have e3 : (List.filterMap (fun k : Nat => (#[a, b] : Array Value)[((1 : Int) + (k : Int) * (some (-1 : Int)).getD 1).toNat]?) (List.range 2)).toArray = #[b, a] := rfl
    rw [e1, e2, e3]
    refine wpAny_ite_false (decide_eq_false (by show ¬ 2 > sizeLine; rw [PySem.sizeLine_eq]; omega)) ?_
    wp_walk
    exact ⟨_, rfl, h⟩
/-- a pair turned about -/
def tBackT (K : PySem.W.Frag) (te : TE) : TE := fun σ H Q => te σ H fun x H1 => ∃ a y z, x = .ref a ∧ SqT K H1 a [y, z] ∧ ∀ p, H1 p = none → Q (.ref p) (upd H1 p (.tup [z, y]))
theorem pe_backT {X : Cx} {e : Expr} {te : TE} {k : Nat} {p1 p2 p3 pos : Pos} (he : PE X e te) : PE X (.Subscript e (.Slice none none (some (.UnaryOp .USub (.Constant (.int 1) k p1) p2)) p3) pos) (tBackT X.K te) := by
  refine ⟨fun pins s σ H Q I h => Subscript_ (thn (he.run pins s σ H _ I h) fun v s1 ⟨x, H1, I1, r1, a, y, z, ex, hx, q⟩ => ?_)⟩
  subst ex
  cases r1
  have neg : PO X (some (.UnaryOp .USub (.Constant (.int 1) k p1) p2)) (tPart (tUn (rU fun i => .int (-i)) (tC (.int 1)))) := po_some (pe_un un_neg pe_int)
  refine wpAny_Slice (thn (po_none.run pins s1 σ H1 (fun o H2 => o = none ∧ H2 = H1) I1 ⟨rfl, rfl⟩) fun vl s2 ⟨_, _, I2, pl, rfl, rfl⟩ => thn (po_none.run pins s2 σ H1 (fun o H3 => o = none ∧ H3 = H1) I2 ⟨rfl, rfl⟩) fun vu s3 ⟨_, _, I3, pu, rfl, rfl⟩ => thn (neg.run pins s3 σ H1 (fun o H4 => o = some (-1) ∧ H4 = H1) I3 ⟨1, rfl, -1, rfl, rfl, rfl⟩) fun vs s4 ⟨_, _, I4, ps, rfl, rfl⟩ => ?_)
  cases pl
  cases pu
  cases ps with
  | int i t =>
    let sq : Obj := { cls := .type "slice", data := .fields #[.none, .none, .int (-1) t] }
    have I5 : Inv X pins σ H1 { s4 with heap := s4.heap.push sq } := I4.kept (t' := s4.toks) fun b ob q => Heap.get?_push_of_some _ q
    obtain ⟨its, r, ⟨o, e1, e2, n, e3⟩, hz⟩ := I5.tuple hx
    cases r with
    | cons ry r =>
      cases r with
      | cons rz r =>
        cases r
        rename_i uy uz
        obtain ⟨oc, od, odt, osl⟩ := o
        dsimp only at e2 e3
        subst e2 e3
        have ty : ({ s4 with heap := s4.heap.push sq } : Shared).TypeIs (.ref a) "tuple" := ⟨_, e1, rfl⟩
        show wpAny (model X.prog X.w) X.A (subscriptTail e (.Slice none none (some (.UnaryOp .USub (.Constant (.int 1) k p1) p2)) p3) (.ref a) (.ref s4.heap.objs.size)) (EP X pins σ Q) X.xe { s4 with heap := s4.heap.push sq }
        refine tail_any (ops := [.ref a, .ref s4.heap.objs.size]) ty PyProof.Rows.slot_tuple_getitem.lookup ?_ (by with_unfolding_all rfl)
        refine getItem_meets ty (by decide) PyProof.Rows.slot_tuple_getitem entry_tuple_getitem (args_tuple_getitem _ _) (pair_back a s4.heap.objs.size uy uz n od osl t) ⟨e1, Heap.get?_push_size _ rfl, ?_⟩
        refine ⟨.ref _, _, I5.laid (t' := s4.toks) (o := .tup [z, y]) (fun b ob q => Heap.get?_push_of_some _ q) (Nat.le_refl _) ?_, rfl, q _ (I5.hok.fresh (Nat.le_refl _))⟩
        exact ⟨by show 2 ≤ sizeLine; rw [PySem.sizeLine_eq]; omega, [uz, uy], .cons rz (.cons ry .nil), _, Heap.get?_push_size _ rfl, rfl, 0, rfl⟩
section
variable {X : Cx} {a : Expr} {fa : E} {pos : Pos}
def backT : D → Option D
  | .tup [x, y] => some (.tup [y, x])
  | _ => none
theorem de_backT {k0 : Nat} {p1 p2 p3 : Pos} (ha : DE X a fa) : DE X (.Subscript a (.Slice none none (some (.UnaryOp .USub (.Constant (.int 1) k0 p1) p2)) p3) pos) (e1 backT fa) := pe_imp (pe_backT ha) fun σ H Q ⟨G, B, env, w, d, w', hd, e, k⟩ => by
  obtain ⟨x, ea, eg⟩ := e1_some e
  refine ⟨G, B, env, w, x, w', hd, ea, fun v1 H1 s1 h1 r1 => ?_⟩
  unfold backT at eg
  split at eg
  · cases eg
    cases r1 with
    | tup h z rr =>
      cases rr with
      | cons ra rr =>
        cases rr with
        | cons rb rr =>
          cases rr
          refine ⟨_, _, _, rfl, SqT.of h, fun p np => ?_⟩
          exact k _ _ (s1.trans (.new _ np)) (h1.new _ np) (.tup upd_same (by show 2 ≤ sizeLine; rw [PySem.sizeLine_eq]; omega) ((Reps.cons rb (.cons ra .nil)).keep (Keep.new _ np)))
  · cases eg
end
end Dl
set_option Elab.async false
set_option linter.all false
set_option maxRecDepth 100000
set_option maxHeartbeats 4000000
/-! D59: the law's end where the law itself makes lambdas. -/
namespace Dl
open PySem PySem.Spec L2 PyProof.Rows LamX
theorem mem_look {β : Type} {a : Addr} {b : β} : ∀ {l : List (Addr × β)}, l.lookup a = some b → (a, b) ∈ l
  | [], e => by cases e
  | (x, y) :: l, e => by
    rw [List.lookup_cons] at e
    cases q : (a == x) with
    | true => rw [q] at e; cases e; rw [eq_of_beq q]; exact List.mem_cons_self
    | false => rw [q] at e; exact List.mem_cons_of_mem _ (mem_look e)
/-! ### the head's hook: no table is among what is known for good -/
def isTabO (o : Obj) : Bool := match o with
  | ⟨.none, _, .fields _, _⟩ => true
  | _ => false
def cutK (K : PySem.W.Frag) : PySem.W.Frag := K.filter fun p => !isTabO p.2
def NoTab (K : PySem.W.Frag) : Prop := ∀ p ∈ K, isTabO p.2 = false
theorem cutK_no (K : PySem.W.Frag) : NoTab (cutK K) := fun p hp => by
  have := (List.mem_filter.mp hp).2
  simpa using this
theorem cutK_in {as : List Addr} {h : Heap} : (cutK (He.frG h.get? as)).In h := fun a o e => by
  have m := (List.mem_filter.mp (mem_look e)).1
  obtain ⟨b, _, e2⟩ := List.mem_filterMap.mp m
  cases e3 : h.get? b with
  | none => rw [e3] at e2; cases e2
  | some ob => rw [e3] at e2; cases e2; exact e3
def obsTG (n : Nat) (fa : List He.Fa) (fn : List DefY) (ex : List (PySem.W.Frag → Bool)) (g : Addr → Option Obj) : AlY := obsY fa fn ex (cutK (He.frG g (He.asD g n)))
def hookT (n : Nat) (fa : List He.Fa) (fn : List DefY) (ex : List (PySem.W.Frag → Bool)) : PySem.W.Hook where
  α := AlY
  obs := fun s => obsTG n fa fn ex s.heap.get?
  val := fun _ => valY fn
  says := fun _ h => ∃ K : PySem.W.Frag, K.In h ∧ NoTab K ∧ SaysY fa fn ex K
  of := fun _ _ e => ⟨_, cutK_in, cutK_no _, e⟩
  keeps := fun _ _ _ ⟨K, hK, t, c⟩ k => ⟨K, PySem.W.Frag.In.keeps hK k, t, c⟩
theorem obsTG_eq {n : Nat} {fa : List He.Fa} {fn : List DefY} {ex : List (PySem.W.Frag → Bool)} {g : Addr → Option Obj} {s : Shared} (h : ∀ a, g a = s.heap.get? a) : obsTG n fa fn ex g = (hookT n fa fn ex).obs s := by
  obtain rfl : g = s.heap.get? := funext h
  rfl
section
variable {P : Program} {w : World} {K : PySem.W.Frag} {mg mb : Str → Option Value} {fa a c tb : Addr} {fd : FuncData} {x : Str} {sp : List V → Hp → VK → Prop} {s : Shared} {vs : List Value} {ns : List Int}
/-- what is tracked at the beginning: the table, and the script unless it is known for good -/
structure OnlyT (H : Hp) (a tb : Addr) : Prop where
  tab : H tb = some (.tbl #[])
  oth : ∀ b, b ≠ tb → H b = none ∨ (b = a ∧ ∃ o xs, H b = some (.frz o (.lst xs)))
abbrev BmAt (mg : Str → Option Value) (h : Heap) : Prop := ∃ (bm : Addr) (ob : Obj), mg "__builtins__" = some (.ref bm) ∧ bm ≠ builtinsNs ∧ h.get? bm = some ob ∧ ob.cls = .type "module" ∧ ob.dict = some builtinsNs ∧ ob.data = .plain
theorem law_atT {H : Hp} (KX : K.In s.heap) (hns : s.heap.Ns mainGlobals mg) (hb : s.heap.Ns builtinsNs mb) (hbb : ∀ x : Str, x ≠ "__name__" → mb x = bootBuiltins x) (hlim : s.heap.NoLimit) (hg : s.gens = #[])
    (ha : s.heap.get? a = some { cls := .type "list", data := .seq vs.toArray }) (ht : s.heap.get? tb = some { cls := .none, data := .fields #[] }) (hC : PySem.W.CodeHd s.heap c tb) (hbm : BmAt mg s.heap) (hKt : K.lookup tb = none)
    (F : ∀ base : Heap, TabB base mg c tb → FnC P w K mg base fa fd [x] sp) (hbind : ∀ (s : Shared) (u : Value), BindsTo s fd ⟨[u], []⟩ [(x, u)])
    (hO : OnlyT H a tb) (hok : HOk P w H s.heap) (hK : H a ≠ none → K.lookup a = none) (hsp : sp [.ref a] H (fun v _ => v = .bl true)) : LawGoal P w fa a s := by
  -- what is no list and no empty record is not tracked
  have loose : ∀ {b : Addr} {o : Obj}, s.heap.get? b = some o → (match o.data with | .seq _ _ => false | .fields us => decide (0 < us.size) | _ => true) = true → H b = none := by
    intro b o e d
    by_cases hbt : b = tb
    · subst hbt; rw [ht] at e; cases e; cases d
    · rcases hO.oth b hbt with z | ⟨rfl, _⟩
      · exact z
      · rw [ha] at e; cases e; cases d
  have lift : ∀ {b : Addr} {m : Str → Option Value}, s.heap.Ns b m → (hidT s.heap H).Ns b m := by
    rintro b m ⟨o, es, ep, e, d, r⟩
    exact ⟨o, es, ep, hidT_get e (loose e (by rw [d])), d, r⟩
  have inK : K.In (hidT s.heap H) := by
    intro b o e
    by_cases hbt : b = tb
    · subst hbt; rw [hKt] at e; cases e
    · rcases hO.oth b hbt with z | ⟨rfl, o', xs, z⟩
      · exact hidT_get (KX b o e) z
      · rw [hK (by rw [z]; simp)] at e; cases e
  have md : Mod K mg (hidT s.heap H) := ⟨inK, lift hns, ⟨mb, lift hb, hbb⟩, (by obtain ⟨mc, z1, z2⟩ := hlim; exact ⟨mc, lift z1, z2⟩)⟩
  have notMain : ∀ {b : Addr} {o : Obj}, s.heap.get? b = some o → (match o.data with | .dict _ _ => false | _ => true) = true → b ≠ mainGlobals := by
    intro b o e d z
    obtain ⟨o', es, ep, e', d', _⟩ := hns
    rw [z, e'] at e
    cases e
    rw [d'] at d
    cases d
  have T0 : TabB (hidT s.heap H) mg c tb := by
    refine ⟨?_, ?_, fun z => notMain ht rfl z.symm⟩
    · obtain ⟨o, us, file, tf, flags, tg, inF, text, tt, e1, e2, e3, e4, r⟩ := hC
      refine ⟨o, us, file, tf, flags, tg, inF, text, tt, hidT_get e1 (loose e1 ?_), e2, e3, e4, r⟩
      rw [e3]
      have := (Array.getElem?_eq_some_iff.mp e4).1
      simp only [decide_eq_true_eq]
      omega
    · obtain ⟨bm, ob, b1, b2, b3, b4, b5, b6⟩ := hbm
      refine ⟨bm, ob, b1, b2, notMain b3 (by rw [b6]), fun z => ?_, hidT_get b3 (loose b3 (by rw [b6])), b4, b5, b6⟩
      rw [z, ht] at b3
      cases b3
      cases b6
  have nil : ∀ b : Addr, ¬ b ∈ ([] : List Addr) := fun b z => by cases z
  have e0 : Env0 P w K mg (hidT s.heap H) callerA [] s H := ⟨rfl, md, fun b o e => of_hidT e, Nat.le_of_eq (hidT_size _ _), trivial, fun b hb => absurd hb (nil b), hok, .of_eq hg⟩
  refine codeAny_mono (F _ T0 [] s H ⟨[.ref a], []⟩ [.ref a] [.ref a] _ e0 (hbind s (.ref a)) (.cons rfl .nil) hsp) fun r s' h => ?_
  match r, h with
  | .error e, h => exact False.elim h
  | .ok .next, h => exact False.elim h
  | .ok .brk, h => exact False.elim h
  | .ok .cont, h => exact False.elim h
  | .ok (.ret u), ⟨v, H', os, bare, un, hok', rv, q⟩ =>
    obtain rfl : v = .bl true := q
    obtain rfl : u = Value.bool true := rv
    obtain ⟨more, ht'⟩ := un.tbls tb #[] hO.tab
    have ht2 : s'.heap.get? tb = some { cls := .none, data := .fields (#[] ++ more) } := hok' tb _ ht'
    have rest : ∀ b o, b ≠ tb → s.heap.get? b = some o → s'.heap.get? b = some o := fun b o n e => by
      rcases hO.oth b n with z | ⟨_, ob, xs, z⟩
      · exact un.keep b o e z (nil b) (by simp)
      · have e1 := (hok b _ z).1
        have e2 := (hok' b _ (un.frzs b ob _ z)).1
        rw [e] at e1
        cases e1
        exact e2
    refine ⟨rfl, ⟨fun b o e => ?_, fun b o e => ?_⟩, os, bare⟩
    · by_cases hbt : b = tb
      · subst hbt
        rw [ht] at e
        cases e
        exact .inr (.inl ⟨(hC.tab ht).isCodeTable, rfl, #[], more, rfl, ht2⟩)
      · exact .inl (rest b o hbt e)
    · by_cases hbt : b = tb
      · subst hbt; exact ⟨_, ht2⟩
      · exact ⟨o, rest b o hbt e⟩
theorem law_finT (KX : K.In s.heap) (NT : NoTab K) (hns : s.heap.Ns mainGlobals mg) (hb : s.heap.Ns builtinsNs mb) (hbb : ∀ x : Str, x ≠ "__name__" → mb x = bootBuiltins x) (hlim : s.heap.NoLimit) (hg : s.gens = #[])
    (ha : s.heap.get? a = some { cls := .type "list", data := .seq vs.toArray }) (ht : s.heap.get? tb = some { cls := .none, data := .fields #[] }) (hC : PySem.W.CodeHd s.heap c tb) (hbm : BmAt mg s.heap) (hi : IntsAre vs ns) (hl : ns.length ≤ sizeLine)
    (F : ∀ base : Heap, TabB base mg c tb → FnC P w K mg base fa fd [x] sp) (hbind : ∀ (s : Shared) (u : Value), BindsTo s fd ⟨[u], []⟩ [(x, u)])
    (hsp : ∀ H : Hp, OnlyT H a tb → ScriptAt K H a ns → sp [.ref a] H (fun v _ => v = .bl true)) : LawGoal P w fa a s := by
  have rv := vals_ints hi
  have nat : a ≠ tb := fun z => by rw [z, ht] at ha; cases ha
  have hKt : K.lookup tb = none := by
    cases q : K.lookup tb with
    | none => rfl
    | some o =>
      have e := KX _ _ q
      rw [ht] at e
      cases e
      have := NT _ (mem_look q)
      cases this
  by_cases hk : K.lookup a = none
  · let H : Hp := fun b => if b = tb then some (.tbl #[]) else if b = a then some (.frz { cls := .type "list", data := .seq vs.toArray } (.lst (ns.map V.int))) else none
    have Ht : H tb = some (.tbl #[]) := if_pos rfl
    have Ha : H a = some (.frz { cls := .type "list", data := .seq vs.toArray } (.lst (ns.map V.int))) := (if_neg nat).trans (if_pos rfl)
    have Hn : ∀ b, b ≠ tb → b ≠ a → H b = none := fun b y z => (if_neg y).trans (if_neg z)
    have hO : OnlyT H a tb := ⟨Ht, fun b n => by
      by_cases z : b = a
      · subst z; exact .inr ⟨rfl, _, _, Ha⟩
      · exact .inl (Hn b n z)⟩
    refine law_atT KX hns hb hbb hlim hg ha ht hC hbm hKt F hbind hO (fun b u z => ?_) (fun _ => hk) (hsp H hO (.inl ⟨_, Ha⟩))
    by_cases y : b = tb
    · subst y; rw [Ht] at z; cases z; exact ht
    · by_cases y2 : b = a
      · subst y2
        rw [Ha] at z
        cases z
        exact ⟨ha, by rw [List.length_map]; exact hl, vs, _, rv, ha⟩
      · rw [Hn b y y2] at z; cases z
  · obtain ⟨o, ho⟩ := Option.ne_none_iff_exists'.mp hk
    have e := KX a o ho
    rw [ha] at e
    cases e
    let H : Hp := fun b => if b = tb then some (.tbl #[]) else none
    have Ht : H tb = some (.tbl #[]) := if_pos rfl
    have Hn : ∀ b, b ≠ tb → H b = none := fun b y => if_neg y
    have hO : OnlyT H a tb := ⟨Ht, fun b n => .inl (Hn b n)⟩
    refine law_atT KX hns hb hbb hlim hg ha ht hC hbm hKt F hbind hO (fun b u z => ?_) (fun z => absurd (Hn a nat) z) (hsp _ hO (.inr ⟨_, vs.toArray, _, ho, rfl, rfl, rfl, ?_, by simpa using rv⟩))
    · by_cases y : b = tb
      · subst y; rw [Ht] at z; cases z; exact ht
      · rw [Hn b y] at z; cases z
    · rw [List.size_toArray, hi.length]
      exact hl
end
/-- the def's code object and its table, by what is known for good -/
theorem law_tab {K : PySem.W.Frag} {mg : Str → Option Value} {h : Heap} {n : Str} {params : Arguments} {body : List Stmt} {scope : Scope} {fa c tb : Addr} {fd : FuncData} (KX : K.In h) (F : FunD K n n params body scope [] [] fa fd) (hmg : mg n = some (.ref fa)) (t : h.TableAt c tb #[])
    (hc : ∃ o fd, h.get? fa = some o ∧ o.data = .func fd ∧ fd.code = .ref c) : (∀ cdv, CodeAt K fa cdv → cdv = .ref c) ∧ ∀ (P : Program) (w : World), tabOf ⟨K, mg, P, w⟩ n = (tb, n ++ ".<locals>." ++ "<lambda>") := by
  obtain ⟨o, z, h1, h2, h3⟩ := hc
  have one : ∀ cdv, CodeAt K fa cdv → cdv = .ref c := by
    rintro cdv ⟨o', z', k1, k2, k3⟩
    have e := KX _ _ k1
    rw [h1] at e
    cases e
    rw [h2] at k2
    cases k2
    rw [← k3, h3]
  refine ⟨one, fun P w => ?_⟩
  obtain ⟨oc, od, dV, kV, doc, pm, an, cdv, ct, osl, rfl, lk, hcd, _, _⟩ := F.ex
  have e0 : cdv = .ref c := one cdv ⟨_, PySem.W.fnOf n n params body scope dV kV doc pm an cdv ct, lk, rfl, rfl⟩
  subst e0
  obtain ⟨⟨oo, us, g1, _, g3, g4⟩, _⟩ := t
  have lc : ∃ cl d sl, K.lookup c = some ⟨cl, d, .fields us, sl⟩ := by
    unfold PySem.W.codeIn at hcd
    dsimp only at hcd
    split at hcd
    · rename_i cl d vs sl q
      have e := KX _ _ q
      rw [g1] at e
      cases e
      cases g3
      exact ⟨_, _, _, q⟩
    · cases hcd
  obtain ⟨cl, d, sl, lc⟩ := lc
  unfold tabOf
  simp only [hmg, lk, PySem.W.fnOf, lc, g4]
/-- the law's promise where it alone makes lambdas -/
theorem spLawT_of {T : Tx} {m : Nat} {f : S} {vs : List V} {H : Hp} {Q : VK} {n y : Str} {tb : Addr} (hH : H tb = some (.tbl #[])) (e : tabOf T n = (tb, y)) (h : ∃ (a : Addr) (ns : List Int), vs = [.ref a] ∧ ScriptAt T.K H a ns ∧ ns.length ≤ sizeLine ∧
  (∀ sd, sd = D.lst (ns.map .int) ∨ sd = D.klt (ns.map .int) → ∃ w', f (.sh sd :: .sh (.drt [n]) :: List.replicate m .un) ⟨bigOf ns, ns, 0, 0, 7⟩ = some (.rt (.bl true), w')) ∧ ∀ H', Q (.bl true) H') : spLawT T [n] m f vs H Q := by
  refine ⟨fun p hp => ?_, fun x hx p hp _ => ?_, h⟩
  · rw [List.map_singleton, List.mem_singleton] at hp
    rw [hp, e]
    exact .nil hH
  · rw [List.map_singleton, List.mem_singleton] at hp
    rw [List.mem_singleton] at hx
    rw [hp, hx]
theorem walk_ofT {l : PySem.W.OpenLaw} {n : Nat} {q : Program} {loose : List Str} {XP : (Str → Option Value) → Heap → Prop} {YP : World → Heap → Prop} {d : DefRec} {x : Str} (hn : l.most = some n) (hn2 : n ≤ sizeLine) (hdf : d.params.defaults = []) (hr : d ∈ recsOf q)
    (F : ∀ (w : World) (mg : Str → Option Value) (fa c tb : Addr) (h : Heap), YP w h → h.Ns mainGlobals mg → mg d.name = some (.ref fa) → h.TableAt c tb #[] → (∃ o fd, h.get? fa = some o ∧ o.data = .func fd ∧ fd.code = .ref c) →
      ∃ (K : PySem.W.Frag) (fd : FuncData) (sp : List V → Hp → VK → Prop), K.In h ∧ NoTab K ∧ (∀ (s : Shared) (u : Value), BindsTo s fd ⟨[u], []⟩ [(x, u)]) ∧
        (∀ (H : Hp) (a : Addr) (ns : List Int), ns.length ≤ n → OnlyT H a tb → ScriptAt K H a ns → sp [.ref a] H (fun v _ => v = .bl true)) ∧ ∀ base : Heap, TabB base mg c tb → FnC l.prog w K mg base fa fd [x] sp) :
    PySem.W.WalkO q loose XP YP l.row.toRowW d [] (fun f vs => PySem.call f vs) := by
  refine Att.attach_call hn hdf fun w s₀ s₁ mg mb fa o pm cd doc a vs ns G Y ho hd hcd hmg hobj hints hlen hg => ?_
  obtain ⟨f', o', fd', c, tb, t1, t2, t3, t4, t5, t6⟩ := G.T.tab d hr
  rw [hmg] at t1
  cases t1
  obtain ⟨K, fd, sp, KX, NT, hb, hsp, hF⟩ := F w mg fa c tb _ Y G.T.g hmg t6 ⟨o', fd', t2, t3, t4⟩
  exact law_finT KX NT G.T.g G.T.b G.T.builtins G.T.nolimit hg hobj t6.2 (.of t5 t6) G.T.bmain hints (Nat.le_trans hlen hn2) hF hb fun H hO hS => hsp H a ns hlen hO hS
end Dl
set_option Elab.async false
set_option linter.all false
set_option maxRecDepth 100000
set_option maxHeartbeats 4000000
/-! D60: what the head's run tells of error classes. -/
namespace Dl
open PySem PySem.Spec L2 PyProof.Rows
/-- an error class with one field: its __init__ -/
structure ErrY where
  cls : Str
  fl : Str
  qual : Str
  params : Arguments
  body : List Stmt
  scope : Scope
abbrev FnS : Type := Option (Str × Str × Arguments × FuncBody × Scope × Addr × List Str × Addr)
def fnS (K : PySem.W.Frag) (a : Addr) : FnS := match K.lookup a with
  | some ⟨_, _, .func d, _⟩ => some (d.name, d.qualname, d.params, d.body, d.scope, d.globals, d.closure.map (·.1), d.builtins)
  | _ => none
def ErrY.ad (d : ErrY) (K : PySem.W.Frag) : Addr := He.ma K (He.ga K d.cls) "__init__"
def ErrY.val (d : ErrY) : FnS := some ("__init__", d.qual, d.params, .stmts d.body, d.scope, mainGlobals, ["__class__"], builtinsNs)
def oexB (K : PySem.W.Frag) (C : Addr) : Bool := (match K.lookup C with
  | some ⟨.type t, _, .cls cd, sl⟩ => (match cd.mro, sl with
    | .ref C' :: bm, ⟨[_, _, _, _, some (.builtin i), _]⟩ => decide (t = "type") && decide (C' = C) && decide (i = "ValueError.__new__") && cd.hasDict && !cd.hasDel && PySem.HandSPX.refsVE bm
    | _, _ => false)
  | _ => false) && decide (PySem.W.findIn K (.ref C) "__setattr__" = some (some (.builtin "object.__setattr__"))) && decide (PySem.W.subIn K (.ref C) (.type "BaseException") = some true) && decide (PySem.W.typeIn K (.ref C) = some (.type "type")) && PySem.W.keepIn K (.ref C)
theorem oexB_ok {K : PySem.W.Frag} {C : Addr} (h : oexB K C = true) : OexC K C := by
  unfold oexB at h
  simp only [Bool.and_eq_true, decide_eq_true_eq] at h
  obtain ⟨⟨⟨⟨h0, h1⟩, h2⟩, h3⟩, h4⟩ := h
  refine ⟨?_, h1, h2, h3, h4⟩
  split at h0
  · rename_i t dd cd sl q
    split at h0
    · rename_i C' bm k0 k1 k2 k3 i k5 em
      simp only [Bool.and_eq_true, decide_eq_true_eq, Bool.not_eq_true'] at h0
      obtain ⟨⟨⟨⟨⟨e1, e2⟩, e3⟩, e4⟩, e5⟩, e6⟩ := h0
      obtain ⟨n, bs, mro, nsx, qn, hd, sn, sb, ab, co, hdel⟩ := cd
      dsimp only at em e4 e5
      subst em e1 e2 e3 e4 e5
      exact ⟨n, qn, nsx, bs, bm, sn, sb, ab, co, dd, k0, k1, k2, k3, k5, q, e6⟩
    · cases h0
  · cases h0
def supFn (K : PySem.W.Frag) (C f : Addr) (qual file : Str) : Bool := match K.lookup f with
  | some ⟨_, _, .func z, _⟩ => (match z.defaults, z.code, z.closure with
    | .none, .ref cda, [(_, cc)] => PySem.W.codeIn K (.ref cda) qual && (match K.lookup cda with
        | some ⟨_, _, .fields vs, _⟩ => (match (vs[2]? : Option Value) with
          | some (.str y _) => file == y
          | _ => false)
        | _ => false) && (match K.lookup cc with
        | some ⟨_, _, .cell (some (.ref C')), _⟩ => decide (C' = C)
        | _ => false)
    | _, _, _ => false)
  | _ => false
def ErrY.ok (K : PySem.W.Frag) (file : Str) (d : ErrY) : Bool :=
  oexB K (He.ga K d.cls) && decide (PySem.W.findIn K (.ref (He.ga K d.cls)) "__init__" = some (some (.ref (d.ad K)))) && decide (PySem.W.typeIn K (.ref (d.ad K)) = some (.type "function")) && supFn K (He.ga K d.cls) (d.ad K) d.qual file &&
  decide (PySem.W.mroIn K (He.ga K d.cls) (.ref (He.ga K d.cls)) = some true) && decide (PySem.W.nsIn K cStatics "thirdparty.any" = some none) && decide (PySem.W.ks_superIn K (He.ga K d.cls) (He.ga K d.cls) "__init__" = some (some (.builtin "ValueError.__init__"))) &&
  decide (PySem.W.subIn K (.ref (He.ga K d.cls)) (.type "ValueError") = some true) && decide (PySem.W.findIn K (.ref (He.ga K d.cls)) d.fl = some none) && PySem.W.excInitIn K (He.ga K d.cls) [.type "ValueError", .type "Exception", .type "BaseException", .type "object"] "ValueError.__new__"
/-- what is asked of the text of the class -/
structure ErrTxt (P : Program) (d : ErrY) : Prop where
  body : ∃ p0 p1 apos pc pos ps p' pn po ps2 j txt, d.body = supBody p0 p1 apos pc pos ps p' pn po ps2 j txt d.fl ∧ (apos.endLine == pos.line) = true
  self : ∃ ar, (d.params.posonlyargs ++ d.params.args).head? = some ar ∧ ar.arg = "self"
  bind : ∀ (kV doc pm : Value) (an : Option Addr) (cdv ct : Value) (cc e : Addr) (u : Value), bindArgs (PySem.W.ksFn "__init__" d.qual d.params d.body d.scope .none kV doc pm an cdv ct cc) ⟨[.ref e, u], []⟩ = pure [(("self" : Str), .ref e), (d.fl, u)] ∧ bindArgs (PySem.W.ksFn "__init__" d.qual d.params d.body d.scope .none kV doc pm an cdv ct cc) ⟨[.ref e], [(d.fl, u)]⟩ = pure [(("self" : Str), .ref e), (d.fl, u)]
  names : d.scope.names.lookup ("super" : Str) = some .globalImplicit ∧ d.scope.names.lookup ("__class__" : Str) = some .free ∧ d.scope.names.lookup ("self" : Str) = some .local ∧ d.scope.names.lookup d.fl = some .local ∧ d.scope.kind = .function ∧ d.scope.isCoroutine = false ∧ d.scope.isGenerator = false ∧ (∀ x ∈ d.scope.names, x.2 ≠ .cell)
  nself : d.fl ≠ "self"
  fdb : (d.fl == ("__debug__" : Str)) = false
  top : (P.main.scope.names.lookup ("super" : Str)).isSome = false
theorem ErrY.sup {K : PySem.W.Frag} {P : Program} {d : ErrY} (hv : fnS K (d.ad K) = d.val) (ho : d.ok K P.main.file = true) (t : ErrTxt P d) : SupC K P (He.ga K d.cls) (d.ad K) d.fl := by
  unfold ErrY.ok at ho
  simp only [Bool.and_eq_true, decide_eq_true_eq] at ho
  obtain ⟨⟨⟨⟨⟨⟨⟨⟨⟨h1, h2⟩, h3⟩, h4⟩, h5⟩, h6⟩, h7⟩, h8⟩, h9⟩, h10⟩ := ho
  refine ⟨oexB_ok h1, h2, h3, ?_, t.nself, t.fdb, h5, t.top, h6, h7, h8, h9, h10⟩
  obtain ⟨p0, p1, apos, pc, pos, ps, p', pn, po, ps2, j, txt, eb, el⟩ := t.body
  unfold supFn at h4
  unfold fnS at hv
  split at h4
  · rename_i oc od z osl q
    rw [q] at hv
    obtain ⟨a1, a2, a3, a4, a5, a6, a7, a8, a9, a10, a11, a12, a13, a14, a15⟩ := z
    dsimp only at h4
    split at h4
    · rename_i cda nm cc
      have hv' : (some (a1, a2, a3, a4, a5, a6, [nm], a15) : FnS) = (some (("__init__" : Str), d.qual, d.params, .stmts d.body, d.scope, mainGlobals, [("__class__" : Str)], builtinsNs) : FnS) := hv
      cases hv'
      simp only [Bool.and_eq_true] at h4
      obtain ⟨⟨k1, k2⟩, k3⟩ := h4
      refine ⟨d.qual, d.params, p0, p1, apos, pc, pos, ps, p', pn, po, ps2, j, txt, d.scope, .none, a9, a10, a11, a12, cda, a14, cc, oc, od, osl, by rw [← eb]; exact q, k1, el, ?_, ?_, t.self, fun s e u as ha => ?_, t.names⟩
      · split at k2
        · split at k2
          · exact ⟨_, _, _, _, _, _, ‹_›, ‹_›, k2⟩
          · cases k2
        · cases k2
      · split at k3
        · have e := of_decide_eq_true k3
          subst e
          exact ⟨_, _, _, ‹_›⟩
        · cases k3
      · rw [← eb]
        rcases ha with rfl | rfl
        · exact .of_eq (t.bind _ _ _ _ _ _ _ _ _).1
        · exact .of_eq (t.bind _ _ _ _ _ _ _ _ _).2
    · cases h4
  · cases h4
/-- an error class without a field -/
def ownB (K : PySem.W.Frag) (c : Str) : Bool := PySem.W.excIn K (He.ga K c) PySem.HandSPX.veTail "ValueError.__new__" && PySem.W.keepIn K (.ref (He.ga K c)) && decide (PySem.W.subIn K (.ref (He.ga K c)) (.type "BaseException") = some true) && decide (PySem.W.typeIn K (.ref (He.ga K c)) = some (.type "type"))
theorem ownB_ok {K : PySem.W.Frag} {mg : Str → Option Value} {c : Str} (hm : mg c = some (.ref (He.ga K c))) (h : ownB K c = true) : OwnN K mg c := by
  simp only [ownB, Bool.and_eq_true, decide_eq_true_eq] at h
  exact ⟨_, hm, h.1.1.1, h.1.1.2, h.1.2, h.2⟩
/-! ### facts over lists of error classes -/
def Glos (K : PySem.W.Frag) (mg : Str → Option Value) (cs : List Str) : Prop := ∀ c ∈ cs, mg c = some (.ref (He.ga K c))
def catL (cs : List Str) (c : Str) : Bool := decide (c ∈ cs)
def catsB (K : PySem.W.Frag) (t : Str) (cs : List Str) : Bool := cs.all fun c => decide (PySem.W.exmOne K (.ref (He.ga K c)) (.ref (He.ga K t)) = some true)
theorem catsB_ok {K : PySem.W.Frag} {mg : Str → Option Value} {t : Str} {cs : List Str} (g : Glos K mg cs) (h : catsB K t cs = true) : Cats K mg (catL cs) (.ref (He.ga K t)) := fun cn C hc hm => by
  have hc := of_decide_eq_true hc
  rw [g cn hc] at hm
  cases hm
  exact of_decide_eq_true (List.all_eq_true.mp h cn hc)
def isXsB (K : PySem.W.Frag) (t : Str) (tab : List (Str × Bool)) : Bool := tab.all fun p => xcB K (He.ga K p.1) && decide (PySem.W.kitOne K (.ref (He.ga K p.1)) (.ref (He.ga K t)) = some p.2)
theorem isXsB_ok {K : PySem.W.Frag} {mg : Str → Option Value} {t : Str} {tab : List (Str × Bool)} (g : Glos K mg (tab.map (·.1))) (ht : mg t = some (.ref (He.ga K t))) (h : isXsB K t tab = true) : IsXs K mg t tab := ⟨_, ht, fun p hp => by
  have := Bool.and_eq_true_iff.mp (List.all_eq_true.mp h p hp)
  exact ⟨_, g _ (List.mem_map_of_mem hp), this.1, of_decide_eq_true this.2⟩⟩
def fdXsB (K : PySem.W.Frag) (f : Str) (cs : List Str) : Bool := cs.all fun c => xcB K (He.ga K c) && decide (PySem.W.findIn K (.ref (He.ga K c)) f = some none)
theorem fdXsB_ok {K : PySem.W.Frag} {mg : Str → Option Value} {f : Str} {cs : List Str} (g : Glos K mg cs) (h : fdXsB K f cs = true) : FdXs K mg f cs := fun c hc => by
  have := Bool.and_eq_true_iff.mp (List.all_eq_true.mp h c hc)
  exact ⟨_, g c hc, this.1, of_decide_eq_true this.2⟩
/-! ### the hook with error classes -/
def obsEG (n : Nat) (fa : List He.Fa) (fn : List DefY) (ex : List (PySem.W.Frag → Bool)) (er : List ErrY) (g : Addr → Option Obj) : AlY × List FnS :=
  (obsY fa fn ex (cutK (He.frG g (sysModules :: cStatics :: He.asD g n))), er.map fun d => fnS (cutK (He.frG g (sysModules :: cStatics :: He.asD g n))) (d.ad (cutK (He.frG g (sysModules :: cStatics :: He.asD g n)))))
def hookE (n : Nat) (fa : List He.Fa) (fn : List DefY) (ex : List (PySem.W.Frag → Bool)) (er : List ErrY) : PySem.W.Hook where
  α := AlY × List FnS
  obs := fun s => obsEG n fa fn ex er s.heap.get?
  val := fun _ => (valY fn, er.map ErrY.val)
  says := fun _ h => ∃ K : PySem.W.Frag, K.In h ∧ NoTab K ∧ SaysY fa fn ex K ∧ er.map (fun d => fnS K (d.ad K)) = er.map ErrY.val
  of := fun _ _ e => ⟨_, cutK_in, cutK_no _, (Prod.mk.inj e).1, (Prod.mk.inj e).2⟩
  keeps := fun _ _ _ ⟨K, hK, t, c⟩ k => ⟨K, PySem.W.Frag.In.keeps hK k, t, c⟩
theorem obsEG_eq {n : Nat} {fa : List He.Fa} {fn : List DefY} {ex : List (PySem.W.Frag → Bool)} {er : List ErrY} {g : Addr → Option Obj} {s : Shared} (h : ∀ a, g a = s.heap.get? a) : obsEG n fa fn ex er g = (hookE n fa fn ex er).obs s := by
  obtain rfl : g = s.heap.get? := funext h
  rfl
theorem err_at {er : List ErrY} {K : PySem.W.Frag} (h : er.map (fun d => fnS K (d.ad K)) = er.map ErrY.val) (i : Nat) {d : ErrY} (e : er[i]? = some d := by rfl) : fnS K (d.ad K) = d.val := by
  have e2 := congrArg (fun l => l[i]?) h
  simp only [List.getElem?_map, e] at e2
  exact Option.some.inj e2
end Dl
set_option Elab.async false
set_option linter.all false
set_option maxRecDepth 100000
set_option maxHeartbeats 4000000
/-! D70: repr of data with dicts. -/
namespace Dl
open PySem PySem.Spec L2 PyProof.Rows
/-! ### the dict of modules is none of ours -/
def SysD (K : PySem.W.Frag) : Prop := ∃ (o : Obj) (es : Array DictEntry) (n : Nat), K.lookup sysModules = some o ∧ o.data = .dict es n
def sysB (K : PySem.W.Frag) : Bool := match K.lookup sysModules with
  | some ⟨_, _, .dict _ _, _⟩ => true
  | _ => false
theorem sysB_ok {K : PySem.W.Frag} (h : sysB K = true) : SysD K := by
  unfold sysB at h
  split at h
  · exact ⟨_, _, _, ‹_›, rfl⟩
  · cases h
mutual
def toPyG : D → PyData
  | .bl b => .bool b
  | .int i => .int i
  | .str x => .str x
  | .tup ds => .tuple (toPyGs ds)
  | .ktp ds => .tuple (toPyGs ds)
  | .lst ds => .list (toPyGs ds)
  | .klt ds => .list (toPyGs ds)
  | .dic kvs => .dict (toPyKv kvs)
  | _ => .none
def toPyGs : List D → List PyData
  | [] => []
  | d :: ds => toPyG d :: toPyGs ds
def toPyKv : List (D × D) → List (PyData × PyData)
  | [] => []
  | (k, v) :: r => (toPyG k, toPyG v) :: toPyKv r
end
def okG : Nat → D → Bool
  | _, .non => true
  | _, .bl _ => true
  | _, .int _ => true
  | _, .str _ => true
  | n + 1, .tup ds => ds.all (okG n)
  | n + 1, .ktp ds => ds.all (okG n)
  | n + 1, .lst ds => ds.all (okG n)
  | n + 1, .klt ds => ds.all (okG n)
  | n + 1, .dic kvs => (kvs.map (·.2)).all (okG n)
  | _, _ => false
section
variable {X : Cx} {pins : List (Addr × Obj)} {σ : L2.St} {H : Hp} {s : Shared} {G : Gd}
structure Rdg (h : Heap) (u : Value) (d : PyData) (n : Nat) : Prop where
  rd : ∃ as, Reads h u d as ∧ sysModules ∉ as
  dep : d.depth ≤ n
structure Rdgs (h : Heap) (us : List Value) (ds : List PyData) (n : Nat) : Prop where
  rd : ∃ as, ReadsAll h us ds as ∧ sysModules ∉ as
  dep : PyData.depthAll ds ≤ n
theorem Rdgs.nil {h : Heap} {n : Nat} : Rdgs h [] [] n := ⟨⟨[], .nil, List.not_mem_nil⟩, Nat.zero_le _⟩
theorem Rdgs.cons {h : Heap} {u : Value} {us : List Value} {d : PyData} {ds : List PyData} {n : Nat} (a : Rdg h u d n) (b : Rdgs h us ds n) : Rdgs h (u :: us) (d :: ds) n := by
  obtain ⟨⟨as, r1, n1⟩, d1⟩ := a
  obtain ⟨⟨bs, r2, n2⟩, d2⟩ := b
  exact ⟨⟨as ++ bs, .cons r1 r2, fun z => (List.mem_append.mp z).elim n1 n2⟩, Nat.max_le.mpr ⟨d1, d2⟩⟩
theorem rdgs_of {n : Nat} (ih : ∀ (v : V) (d : D) (u : Value), Rep (tx X) G H v d → okG n d = true → RelV v u → Rdg s.heap u (toPyG d) n) : ∀ {vs : List V} {ds : List D} {us : List Value}, Reps (tx X) G H vs ds → ds.all (okG n) = true → Vals vs us → Rdgs s.heap us (toPyGs ds) n
  | _, _, _, .nil, _, .nil => .nil
  | _, _, _, .cons r t, o, .cons q qs => by
    rw [List.all_cons, Bool.and_eq_true] at o
    exact .cons (ih _ _ _ r o.1 q) (rdgs_of ih t o.2 qs)
theorem depthKv_le {n : Nat} : ∀ {kvs : List (D × D)}, (∀ q ∈ kvs, (toPyG q.1).depth ≤ n) → PyData.depthAll (toPyGs (kvs.map (·.2))) ≤ n → PyData.depthKv (toPyKv kvs) ≤ n
  | [], _, _ => Nat.zero_le _
  | (k, v) :: r, h1, h2 => by
    have h3 := Nat.max_le.mp (show max (toPyG v).depth (PyData.depthAll (toPyGs (r.map (·.2)))) ≤ n from h2)
    have h4 := depthKv_le (kvs := r) (fun q hq => h1 q (List.mem_cons_of_mem _ hq)) h3.2
    have h5 : (toPyG k).depth ≤ n := h1 (k, v) List.mem_cons_self
    simp only [toPyKv, PyData.depthKv]
    omega
theorem toPyKv_fst : ∀ kvs : List (D × D), (toPyKv kvs).map (·.1) = toPyGs (kvs.map (·.1))
  | [] => rfl
  | (k, v) :: r => by simp only [toPyKv, toPyGs, List.map_cons, toPyKv_fst r]
theorem toPyKv_snd : ∀ kvs : List (D × D), (toPyKv kvs).map (·.2) = toPyGs (kvs.map (·.2))
  | [] => rfl
  | (k, v) :: r => by simp only [toPyKv, toPyGs, List.map_cons, toPyKv_snd r]
theorem seq_ne (I : Inv X pins σ H s) (S : SysD X.K) {a : Addr} {o : Obj} {vs : Array Value} {n : Nat} (e : s.heap.get? a = some o) (d : o.data = .seq vs n) : a ≠ sysModules := by
  rintro rfl
  obtain ⟨o', es, n', k1, k2⟩ := S
  have := I.kIn _ _ k1
  rw [e] at this
  cases this
  rw [d] at k2
  cases k2
/-- keys and values of a tracked dict -/
theorem keys_read {P : Program} {w : World} {h : Heap} : ∀ {ps : List (Key × V)} {vs : List (Key × Value)} {es : List DictEntry} {ds : List D}, KV ps vs → Pairs (mixKind P w) es vs → ds = ps.map (fun p => dKey p.1) → ReadsAll h (es.map (·.key)) (toPyGs ds) []
  | _, _, _, _, .nil, .nil, e => by subst e; exact .nil
  | (k1, k2) :: _, _, en :: _, _, .cons r t, .cons k v p, e => by
    subst e
    have ih := keys_read (h := h) t p rfl
    refine ReadsAll.cons (as := []) (bs := []) ?_ ih
    have r1 := r.1
    dsimp only at r1
    rw [← r1] at k
    show Reads h en.key (toPyG (dKey k1)) []
    rcases keyIs_shape k with ⟨i, t, rfl, e⟩ | ⟨x, t, rfl, e⟩
    · rw [e]; exact .int i t
    · rw [e]; exact .str x t
theorem vals_read {P : Program} {w : World} : ∀ {ps : List (Key × V)} {vs : List (Key × Value)} {es : List DictEntry}, KV ps vs → Pairs (mixKind P w) es vs → Vals (ps.map (·.2)) (es.map (·.val))
  | _, _, _, .nil, .nil => .nil
  | _, _, _, .cons r t, .cons _ v p => by
    have ih := vals_read t p
    have q := r.2
    rw [← v] at q
    exact .cons q ih
theorem reads_of (I : Inv X pins σ H s) (S : SysD X.K) : ∀ (n : Nat) (v : V) (d : D) (u : Value), Rep (tx X) G H v d → okG n d = true → RelV v u → Rdg s.heap u (toPyG d) n := by
  intro n
  induction n with
  | zero =>
    intro v d u r o q
    cases r with
    | non => cases q; exact ⟨⟨_, .none, List.not_mem_nil⟩, Nat.zero_le _⟩
    | bl b => cases q; exact ⟨⟨_, .bool b, List.not_mem_nil⟩, Nat.zero_le _⟩
    | int i => obtain ⟨t, rfl⟩ := q; exact ⟨⟨_, .int i t, List.not_mem_nil⟩, Nat.zero_le _⟩
    | str h => obtain ⟨t, rfl⟩ := q; exact ⟨⟨_, .str _ t, List.not_mem_nil⟩, Nat.zero_le _⟩
    | _ => cases o
  | succ n ih =>
    intro v d u r o q
    have tup : ∀ {a : Addr} {xs : List V} {ds : List D}, SqT X.K H a xs → Reps (tx X) G H xs ds → ds.all (okG n) = true → Rdg s.heap (.ref a) (.tuple (toPyGs ds)) (n + 1) := fun h rs o => by
      obtain ⟨its, rv, ⟨ob, e1, e2, m, e3⟩, _⟩ := I.tuple h
      obtain ⟨⟨as, ra, na⟩, dp⟩ := rdgs_of ih rs o rv
      exact ⟨⟨as, .tuple e1 e2 e3 (by simpa using ra), na⟩, Nat.succ_le_succ dp⟩
    have lst : ∀ {a : Addr} {xs : List V} {ds : List D}, SqL X.K H a xs → Reps (tx X) G H xs ds → ds.all (okG n) = true → Rdg s.heap (.ref a) (.list (toPyGs ds)) (n + 1) := fun h rs o => by
      obtain ⟨its, rv, ⟨ob, m, e1, e2, _, e3⟩, _⟩ := I.list h
      obtain ⟨⟨as, ra, na⟩, dp⟩ := rdgs_of ih rs o rv
      exact ⟨⟨_, .list e1 e2 e3 (by simpa using ra), fun z => (List.mem_cons.mp z).elim (fun z => seq_ne I S e1 e3 z.symm) na⟩, Nat.succ_le_succ dp⟩
    cases r with
    | non => cases q; exact ⟨⟨_, .none, List.not_mem_nil⟩, Nat.zero_le _⟩
    | bl b => cases q; exact ⟨⟨_, .bool b, List.not_mem_nil⟩, Nat.zero_le _⟩
    | int i => obtain ⟨t, rfl⟩ := q; exact ⟨⟨_, .int i t, List.not_mem_nil⟩, Nat.zero_le _⟩
    | str h => obtain ⟨t, rfl⟩ := q; exact ⟨⟨_, .str _ t, List.not_mem_nil⟩, Nat.zero_le _⟩
    | tup h z rs => cases q; exact tup (SqT.of h) rs o
    | ktp h rs => cases q; exact tup h.sq rs o
    | lst h z rs => cases q; exact lst h.sq rs o
    | klt h rs => cases q; exact lst (.inr h) rs o
    | @dicK a ob ps kvs h z e rs =>
      cases q
      obtain ⟨_, ns, vs, kv, o2, es, ep, d1, d2, d3, _, d5, _⟩ := dk_rd I.hok (.inr ⟨ob, h⟩)
      have rk := keys_read (h := s.heap) kv d5 e
      obtain ⟨⟨as, ra, na⟩, dp⟩ := rdgs_of ih rs o (vals_read kv d5)
      refine ⟨⟨_, .dict (as := []) (bs := as) d1 d2.1 d3 (by rw [toPyKv_fst]; exact rk) (by rw [toPyKv_snd]; exact ra), fun hm => ?_⟩, ?_⟩
      · rcases List.mem_append.mp hm with hm | hm
        · have : sysModules = a := by simpa using hm
          rw [this] at ns
          simp at ns
        · exact na hm
      · refine Nat.succ_le_succ (depthKv_le (fun q hq => ?_) dp)
        have : q.1 ∈ ps.map (fun p => dKey p.1) := by rw [← e]; exact List.mem_map_of_mem hq
        obtain ⟨p, _, ep⟩ := List.mem_map.mp this
        rw [← ep]
        obtain ⟨k1, k2⟩ := p
        cases k1 <;> exact Nat.zero_le _
    | _ => cases o
variable (X) in
def rReprG : List V → Hp → VK → Prop := fun xs H Q => ∃ (G : Gd) (x : V) (d : D), xs = [x] ∧ Rep (tx X) G H x d ∧ okG 8 d = true ∧ (toPyG d).showable = true ∧ (toPyG d).shown.length ≤ sizeLine ∧ Q (.str (toPyG d).shown) H
theorem call_reprG (S : SysD X.K) (hg : X.A.guards = some []) (hu : X.A.units + 64 < cLine) : CallR X (.builtin "repr") (rReprG X) := by
  rintro pins s σ H xs us Q I r ⟨G, x, d, rfl, hx, hk, hs, hz, q⟩
  cases r with
  | cons rx rt =>
    cases rt
    rename_i u
    obtain ⟨⟨as, rd, na⟩, dp⟩ := reads_of I S 8 x d u hx hk rx
    generalize toPyG d = y at *
    have out : ∀ {h' : Heap} {tk : Nat} {t : Tok}, (∀ b o, s.heap.get? b = some o → h'.get? b = some o) → EP X pins σ Q (.str y.shown t) { s with heap := h', toks := tk } := fun {h' tk t} k => ⟨.str y.shown, H, I.kept k, ⟨t, rfl⟩, q⟩
    have big : ∀ {a : Addr}, Reads s.heap (.ref a) y as → wpAny (model X.prog X.w) X.A (call (.builtin "repr") [.ref a]) (EP X pins σ Q) X.xe s := fun rd => repr_of_reads' rd hs (fun _ => na) hg (by omega) (fun _ _ e => e) (fun h' u tk k => out k) hz
    cases rd with
    | none => exact PySem.P.repr_of_none (out (h' := s.heap) fun _ _ e => e)
    | bool b => exact PySem.P.repr_of_bool (out (h' := s.heap) fun _ _ e => e)
    | int i t => exact PySem.P.repr_of_int (of_decide_eq_true hs) (out (h' := s.heap) fun _ _ e => e)
    | str y t => exact PySem.P.repr_of_str (out (h' := s.heap) fun _ _ e => e) hz
    | list h1 h2 h3 h4 => exact big (.list h1 h2 h3 h4)
    | tuple h1 h2 h3 h4 => exact big (.tuple h1 h2 h3 h4)
    | dict h1 h2 h3 h4 h5 => exact big (.dict h1 h2 h3 h4 h5)
/-- repr(x), dicts too -/
def reprG : List D → Option D
  | [d] => if (okG 8 d && (toPyG d).showable && sB (toPyG d).shown) = true then some (.str (toPyG d).shown) else none
  | _ => none
theorem c1_reprG (S : SysD X.K) (hg : X.A.guards = some []) (hu : X.A.units + 64 < cLine) : Call1 X (.builtin "repr") reprG := ⟨_, call_reprG S hg hu, fun G H w vs ds d Q dr r e k => by
  unfold reprG at e
  split at e
  · split at e
    · rename_i hc
      cases e
      cases r with
      | cons r rr =>
        cases rr
        rw [Bool.and_eq_true, Bool.and_eq_true] at hc
        exact ⟨G, _, _, rfl, r, hc.1.1, hc.1.2, sOk.len hc.2, k _ H (.refl _) (.str hc.2)⟩
    · cases e
  · cases e⟩
end
end Dl
set_option Elab.async false
set_option linter.all false
set_option maxRecDepth 100000
set_option maxHeartbeats 4000000
/-! D71: defs that are called where nothing is being shown (repr within a def). -/
namespace Dl
open PySem PySem.Spec L2 PyProof.Rows
/-- the promise of a def, where nothing is being shown -/
def FnG (P : Program) (w : World) (K : PySem.W.Frag) (mg : Str → Option Value) (base : Heap) (k : Nat) (f : Addr) (fd : FuncData) (ps : List Str) (φ : Fn) : Prop :=
  ∀ A : Around, A.guards = some [] → Room k A → FnA A P w K mg base f fd ps fun vs H Q => spD ⟨K, mg, P, w⟩ ps.length φ vs H Q fun _ _ _ => False
section
variable {P : Program} {w : World} {K : PySem.W.Frag} {mg : Str → Option Value} {base : Heap} {x qual : Str} {params : Arguments} {body : List Stmt} {scope : Scope} {dvs : List V} {kws : List (Str × V)} {f : Addr} {fd : FuncData} {N ps : List Str} {k : Nat} {fb : S}
theorem fn_G (F : FunD K x qual params body scope dvs kws f fd) (S : FnScope N ps scope)
    (hb : ∀ (cdv : Value) (A : Around) (outer : List PySem.Env) (s : Shared) (H : Hp) (E : XK), A.guards = some [] → Room k (A.deeper (PyProof.Rows.envOfC qual scope s.heap.objs.size f cdv)) → DSs (cxOf CX0 P w K mg base N qual scope f cdv A outer s H E).nox body fb) :
    FnG P w K mg base (k + 1) f fd ps (bodyD N.length fb) := fun A hA hr => by
  refine fn_AT F S hr (fun vs H Q h => ?_) (fun cdv _ outer s H vs Q hr2 h => ⟨_, PSs.nox (hb cdv A outer s H _ hA hr2), ?_⟩)
  · obtain ⟨G, ds, w, d, w', r, _, hl, _⟩ := h
    rw [r.length]; exact hl
  · obtain ⟨G, ds, w0, d, w', r, dr, hl, e, kk⟩ := h
    unfold bodyD at e
    split at e
    · rename_i d' w1 eb
      cases e
      exact ⟨G, H, _, w0, _, _, hold_start r dr, eb, fun v H' s dr r => kk v H' s dr r⟩
    · rename_i env' w1 eb
      cases e
      exact ⟨G, H, _, w0, _, _, hold_start r dr, eb, fun σ' H' _ h' => kk _ H' h'.same h'.draw .non⟩
    · cases e
def CalG (P : Program) (w : World) (K : PySem.W.Frag) (mg : Str → Option Value) (base : Heap) (x : Str) (k : Nat) (ps : List Str) (φ : Fn) : Prop :=
  ∃ f fd, At K mg x f ∧ FnG P w K mg base k f fd ps φ ∧ Binds K fd ps []
end
section
variable {X : Cx} {pos p : Pos} {x : Str} {k : Nat} {ps : List Str} {φ : Fn} {e : Expr} {es : List Expr} {fs : List E}
/-- f(e, ..), where nothing is being shown -/
theorem de_calG (C : CalG X.prog X.w X.K X.mg X.base x k ps φ) (hgd : X.A.guards = some []) (hr : Room k X.A) (hg : Gl X x) (ha : DA X (e :: es) (aL fs)) (hn : fs.length = ps.length := by rfl) (hdb : (x == ("__debug__" : Str)) = false := by decide) (he : starEach (e :: es) X.env = (false, eval e X.env) :: starEach es X.env := by rfl) (hpl : (backTo pos (starEach es X.env)).any (·.1) = false := by rfl) :
    DE X (.Call (.Name x p) (e :: es) [] pos) (eCall φ fs []) := by
  obtain ⟨f, fd, A, F, hb⟩ := C
  refine pe_imp (t := tCall (spD (tx X) ps.length φ) [] E0 (tDA (tx X) (aL fs))) ⟨fun pins s σ H Q I h => ?_⟩ (tCall_of (dds := []) (fun _ _ => .nil) hn)
  refine wpAny_Call_Name_kw (ld_glob I hg A.mg ?_ hdb)
  refine PySem.W.callWith_K (h₀ := X.base) I.ok.mod.kin A.kp (thn (ha.run pos pins s σ H _ I h) fun us s1 ⟨vs, H1, I1, r, q⟩ => ⟨I1.kIn, ?_⟩) he hpl
  obtain ⟨G, ds, w0, d, w1, rr, dr, hl, eφ, kk⟩ := q
  rw [List.append_nil] at rr
  have lu : (us ++ []).length = ps.length := by rw [List.append_nil, ← r.length, rr.length]; exact hl
  have run := F X.A hgd hr X.stack s1 H1 ⟨us, []⟩ (us ++ []) vs Q I1.env0 (hb s1 us I1.kIn lu) (by rw [List.append_nil]; exact r) ⟨G, ds, w0, d, w1, rr, dr, hl, eφ, kk⟩
  refine wpAny_call (codeAny_mono run fun out s2 hq => ?_)
  match out, hq with
  | .ok (.ret u), hq => exact I1.after hq
  | .error e, hq => exact pass0 pins σ H1 s1 e s2 I1 hq
end
end Dl
set_option Elab.async false
set_option linter.all false
set_option maxRecDepth 100000
set_option maxHeartbeats 4000000
/-! D61: defs that may raise, called by keywords or with defaults; the statements before a try. -/
namespace Dl
open PySem PySem.Spec L2
def CalXK (P : Program) (w : World) (K : PySem.W.Frag) (mg : Str → Option Value) (base : Heap) (x : Str) (k : Nat) (n : Nat) (ks : List Str) (is : List Nat) (dds : List D) (φ : FnX) : Prop :=
  ∃ f fd ps g dvs, At K mg x f ∧ FnOk P w K mg base (L2.CX P w) k f fd ps (spX ⟨K, mg, P, w⟩ is.length φ) ∧ KBn K fd ps n ks g (fun vs zs => pickA is (vs ++ zs ++ dvs)) ∧ ∀ G H, Reps ⟨K, mg, P, w⟩ G H dvs dds
def eCallKX (φ : FnX) (is : List Nat) (fs fk : List E) (dds : List D) : EX := fun env w => match aL fs env w with
  | some (xs, w1) => match aL fk env w1 with
    | some (ys, w2) => if (pickA is (xs ++ ys ++ dds)).length = is.length then φ (pickA is (xs ++ ys ++ dds)) w2 else none
    | none => none
  | none => none
section
variable {X : Cx} {Z : XK} {x : Str} {k n : Nat} {ks : List Str} {is : List Nat} {dds : List D} {φ : FnX} {p pos : Pos} {e : Expr} {es : List Expr} {fs fk : List E} {kws : List Keyword}
theorem tCallKX_of {dvs : List V} (hds : ∀ G H, Reps (tx X) G H dvs dds) (hn : fs.length = n) (hm : fk.length = ks.length) : ∀ σ H Q, tDX (tx X) Z (eCallKX φ is fs fk dds) σ H Q → tCallN n ks.length (spX (tx X) is.length φ) (fun vs zs => pickA is (vs ++ zs ++ dvs)) Z (tDA (tx X) (aL fs)) (tDA (tx X) (aL fk)) σ H Q := fun σ H Q ⟨G, B, env, w, r, w', hd, e, kk⟩ => by
  unfold eCallKX at e
  split at e
  · rename_i xs w1 e1
    split at e
    · rename_i ys w2 e2
      split at e
      · rename_i hl
        refine ⟨G, B, env, w, xs, w1, hd, e1, fun vs H1 s1 h1 r1 => ⟨G, B, env, w1, ys, w2, h1, e2, fun zs H2 s2 h2 r2 => ⟨?_, ?_, G, _, w2, r, w', ?_, h2.draw, hl, e, rsD_call (s1.trans s2) h2 kk⟩⟩⟩
        · rw [r1.length, aL_len e1]; exact hn
        · rw [r2.length, aL_len e2]; exact hm
        · exact reps_pick is (((r1.keep (s2.keep h1.draw)).append r2).append (hds G H2))
      · cases e
    · cases e
  · cases e
theorem dex_calK (C : CalXK X.prog X.w X.K X.mg X.base x k n ks is dds φ) (px : Tks X Z) (hr : Room k X.A) (hg : Gl X x) (ha : DA X (e :: es) (aL fs)) (hkw : DK X kws (aL fk)) (hn : fs.length = n := by rfl) (hm : fk.length = ks.length := by rfl) (hall : (backToKw pos (keywordEach kws X.env)).all (·.1.isSome) = true := by rfl) (hks : (backToKw pos (keywordEach kws X.env)).filterMap (·.1) = ks := by rfl)
    (hdb : (x == ("__debug__" : Str)) = false := by decide) (he : starEach (e :: es) X.env = (false, eval e X.env) :: starEach es X.env := by rfl) (hpl : ((backTo pos (starEach (e :: es) X.env)).any (·.1) || (backToKw pos (keywordEach kws X.env)).any (·.1.isNone)) = false := by rfl) :
    DEX X Z (.Call (.Name x p) (e :: es) kws pos) (eCallKX φ is fs fk dds) := by
  obtain ⟨f, fd, ps, g, dvs, A, F, hb, hds⟩ := C
  exact pe_imp (pe_callN F hr hg A.mg A.kp hb px.passes ha hkw hall hks hdb he hpl) (tCallKX_of hds hn hm)
theorem dex_calK0 (C : CalXK X.prog X.w X.K X.mg X.base x k 0 ks is dds φ) (px : Tks X Z) (hr : Room k X.A) (hg : Gl X x) (hkw : DK X kws (aL fk)) (hm : fk.length = ks.length := by rfl) (hall : (backToKw pos (keywordEach kws X.env)).all (·.1.isSome) = true := by rfl) (hks : (backToKw pos (keywordEach kws X.env)).filterMap (·.1) = ks := by rfl)
    (hdb : (x == ("__debug__" : Str)) = false := by decide) (hpl : (backToKw pos (keywordEach kws X.env)).any (·.1.isNone) = false := by rfl) : DEX X Z (.Call (.Name x p) [] kws pos) (eCallKX φ is [] fk dds) := by
  obtain ⟨f, fd, ps, g, dvs, A, F, hb, hds⟩ := C
  refine pe_imp (pe_callN0 F hr hg A.mg A.kp hb px.passes hkw hall hks hdb hpl) fun σ H Q z => ?_
  obtain ⟨G, B, env, w, ds, w', hd, e, kk⟩ := tCallKX_of hds rfl hm σ H Q z
  cases e
  exact kk [] H (.refl _ _) hd .nil
/-- x(e, ..), the arguments raising nothing -/
def eCallX1 (φ : FnX) (fs : List E) : EX := fun env w => match aL fs env w with
  | some (xs, w1) => φ xs w1
  | none => none
theorem dex_calX1 {ps : List Str} (C : CalX X.prog X.w X.K X.mg X.base x k ps φ) (px : Tks X Z) (hr : Room k X.A) (hg : Gl X x) (ha : DA X (e :: es) (aL fs)) (hn : fs.length = ps.length := by rfl) (hdb : (x == ("__debug__" : Str)) = false := by decide)
    (he : starEach (e :: es) X.env = (false, eval e X.env) :: starEach es X.env := by rfl) (hpl : (backTo pos (starEach es X.env)).any (·.1) = false := by rfl) : DEX X Z (.Call (.Name x p) (e :: es) [] pos) (eCallX1 φ fs) := by
  obtain ⟨f, fd, A, F, hb⟩ := C
  refine pe_imp (pe_call F hr hg A.mg A.kp hb .nil px.passes ha hdb he hpl) fun σ H Q ⟨G, B, env, w, r, w', hd, e, kk⟩ => ?_
  unfold eCallX1 at e
  split at e
  · rename_i xs w1 e1
    exact ⟨G, B, env, w, xs, w1, hd, e1, fun vs H1 s1 h1 r1 => ⟨G, _, w1, r, w', r1.append .nil, h1.draw, by rw [List.append_nil, aL_len e1]; exact hn, by rw [List.append_nil]; exact e, rsD_call s1 h1 kk⟩⟩
  · cases e
end
/-- from here on the thing in slot i is shared -/
def sFrzE (i : Nat) (f : SX) : SX := fun env w => match env[i]? with
  | some (.ow d) => if cont d = true then f (env.set i (.sh d)) w else none
  | _ => f env w
theorem dssx_frz {X : Cx} {Z : XK} {sa : List Stmt} {fa : SX} (i : Nat) (h : DSsX X Z sa fa) : DSsX X Z sa (sFrzE i fa) := by
  refine ⟨fun pins s σ H D I ⟨G, B, env, w, fl, w', hd, e, k⟩ => ?_⟩
  unfold sFrzE at e
  split at e
  · rename_i d ea
    split at e
    · rename_i hc
      obtain ⟨a, h1, nb, n1, n2, r⟩ := hd.ow i d ea
      obtain ⟨u, hu, mu⟩ := r.there
      obtain ⟨od, I2⟩ := I.lock hu mu
      exact h.run pins s σ _ D I2 ⟨G, B, _, w, fl, w', hd.frzOw od ea hc h1 hu, e, endDX_mono (Keep.mut _ hu (r.nf hc hu)) k⟩
    · cases e
  · exact h.run pins s σ H D I ⟨G, B, env, w, fl, w', hd, e, k⟩
end Dl
set_option Elab.async false
set_option linter.all false
set_option maxRecDepth 100000
set_option maxHeartbeats 4000000
/-! P6: texts of small data, signs in a row; plain rules of reprG, insert, {k: v}. -/
namespace Dl
open PySem L2
abbrev cl (x : Str) : List Nat := x.cps.toList
theorem cl_app (x y : Str) : cl (x ++ y) = cl x ++ cl y := TL.tl_append x y
theorem cl_eq {x y : Str} (h : cl x = cl y) : x = y := by
  obtain ⟨⟨a⟩⟩ := x
  obtain ⟨⟨b⟩⟩ := y
  have : a = b := h
  rw [this]
theorem cut39 {a b r s : List Nat} (ha : ∀ c ∈ a, c ∈ abcL) (hb : ∀ c ∈ b, c ∈ abcL) (h : a ++ 39 :: r = b ++ 39 :: s) : a = b ∧ r = s := by
  induction a generalizing b with
  | nil =>
    cases b with
    | nil => simpa using h
    | cons c b => simp only [List.nil_append, List.cons_append, List.cons.injEq] at h; exact absurd h.1.symm (low_39 c (hb c List.mem_cons_self))
  | cons c a ih =>
    cases b with
    | nil => simp only [List.nil_append, List.cons_append, List.cons.injEq] at h; exact absurd h.1 (low_39 c (ha c List.mem_cons_self))
    | cons d b =>
      simp only [List.cons_append, List.cons.injEq] at h
      obtain ⟨e1, e2⟩ := ih (fun x hx => ha x (List.mem_cons_of_mem _ hx)) (fun x hx => hb x (List.mem_cons_of_mem _ hx)) h.2
      exact ⟨by rw [h.1, e1], e2⟩
/-- the text of a pair of texts -/
def rp (x : Pr) : Str := (toPyG (dPr x)).shown
theorem cl_t1 {a : Str} (ha : Low a) : cl (tupleText [reprText a]) = 40 :: 39 :: (cl a ++ 39 :: [44, 41]) := by
  show cl (("(" : Str) ++ reprText a ++ (",)" : Str)) = _
  rw [cl_app, cl_app, show cl (reprText a) = _ from reprText_low ha, show cl ("(" : Str) = [40] by decide, show cl (",)" : Str) = [44, 41] by decide]
  simp
theorem cl_t2 {a : Str} (ha : Low a) (y : Str) : cl (tupleText [reprText a, y]) = 40 :: 39 :: (cl a ++ 39 :: (44 :: 32 :: (cl y ++ [41]))) := by
  show cl (("(" : Str) ++ (reprText a ++ ", " ++ y) ++ (")" : Str)) = _
  rw [cl_app, cl_app, cl_app, cl_app, show cl (reprText a) = _ from reprText_low ha, show cl ("(" : Str) = [40] by decide, show cl (")" : Str) = [41] by decide, show cl (", " : Str) = [44, 32] by decide]
  simp
theorem cl_t3 {a : Str} (ha : Low a) (y z : Str) : cl (tupleText [reprText a, y, z]) = 40 :: 39 :: (cl a ++ 39 :: (44 :: 32 :: (cl y ++ 44 :: 32 :: (cl z ++ [41])))) := by
  show cl (("(" : Str) ++ (reprText a ++ ", " ++ (y ++ ", " ++ z)) ++ (")" : Str)) = _
  rw [cl_app, cl_app, cl_app, cl_app, cl_app, cl_app, show cl (reprText a) = _ from reprText_low ha, show cl ("(" : Str) = [40] by decide, show cl (")" : Str) = [41] by decide, show cl (", " : Str) = [44, 32] by decide]
  simp
theorem cl_rp {x : Pr} (h : LowP x) : cl (rp x) = 40 :: 39 :: (cl x.1 ++ 39 :: (44 :: 32 :: 39 :: (cl x.2 ++ 39 :: [41]))) := by
  show cl (tupleText [reprText x.1, reprText x.2]) = _
  rw [cl_t2 h.1, show cl (reprText x.2) = _ from reprText_low h.2.1]
  simp
theorem rp_inj {x y : Pr} (hx : LowP x) (hy : LowP y) (h : rp x = rp y) : x = y := by
  have e := congrArg cl h
  rw [cl_rp hx, cl_rp hy] at e
  simp only [List.cons.injEq, true_and] at e
  obtain ⟨e1, e2⟩ := cut39 hx.1 hy.1 e
  simp only [List.cons.injEq, true_and] at e2
  obtain ⟨e3, _⟩ := cut39 hx.2.1 hy.2.1 e2
  exact Prod.ext (cl_eq e1) (cl_eq e3)
/-- no text of a pair -/
def NotP (s : Str) : Prop := ∀ x : Pr, LowP x → s ≠ rp x
theorem notP_head {s : Str} (h : (cl s).take 2 ≠ [40, 39]) : NotP s := fun x hx e => h (by rw [e, cl_rp hx]; rfl)
theorem notP_1 {a : Str} (ha : Low a) : NotP (tupleText [reprText a]) := fun x hx e => by
  have e := congrArg cl e
  rw [cl_t1 ha, cl_rp hx] at e
  simp only [List.cons.injEq, true_and] at e
  have := (cut39 ha hx.1 e).2
  simp at this
theorem notP_2 {a y : Str} (ha : Low a) (hy : (cl y).head? ≠ some 39) (hn : cl y ≠ []) : NotP (tupleText [reprText a, y]) := fun x hx e => by
  have e := congrArg cl e
  rw [cl_t2 ha, cl_rp hx] at e
  simp only [List.cons.injEq, true_and] at e
  have := (cut39 ha hx.1 e).2
  simp only [List.cons.injEq, true_and] at this
  cases hc : cl y with
  | nil => exact hn hc
  | cons c r =>
    rw [hc] at this hy
    simp only [List.cons_append, List.cons.injEq] at this
    exact hy (by rw [this.1]; rfl)
theorem notP_3 {a b : Str} (ha : Low a) (hb : Low b) (z : Str) : NotP (tupleText [reprText a, reprText b, z]) := fun x hx e => by
  have e := congrArg cl e
  rw [cl_t3 ha, cl_rp hx, show cl (reprText b) = _ from reprText_low hb] at e
  simp only [List.cons.injEq, true_and] at e
  have := (cut39 ha hx.1 e).2
  simp only [List.cons_append, List.append_assoc, List.cons.injEq, true_and, List.nil_append] at this
  have := (cut39 hb hx.2.1 this).2
  simp at this
theorem Low.sh6 {x : Str} (h : Low x) (l : x.length ≤ 6) : Sh (reprText x) 8 := (sh_repr h).mono (by omega)
theorem reprG_eq {d : D} {n : Nat} (h1 : okG 8 d = true) (h2 : (toPyG d).showable = true) (h3 : Sh (toPyG d).shown n) (hn : n ≤ 1000000) : reprG [d] = some (.str (toPyG d).shown) := by
  show (if _ then some _ else none) = _
  rw [if_pos]
  rw [h1, h2, h3.sB (by omega)]
  rfl
theorem toPyGs_map : ∀ ds : List D, toPyGs ds = ds.map toPyG
  | [] => rfl
  | d :: ds => by rw [toPyGs, toPyGs_map ds]; rfl
theorem okG_mono : ∀ (n : Nat) (d : D), okG n d = true → okG (n + 1) d = true := by
  intro n
  induction n with
  | zero => intro d h; cases d <;> first | rfl | cases h
  | succ n ih =>
    intro d h
    cases d with
    | tup ds => exact List.all_eq_true.mpr fun x hx => ih x (List.all_eq_true.mp h x hx)
    | ktp ds => exact List.all_eq_true.mpr fun x hx => ih x (List.all_eq_true.mp h x hx)
    | lst ds => exact List.all_eq_true.mpr fun x hx => ih x (List.all_eq_true.mp h x hx)
    | klt ds => exact List.all_eq_true.mpr fun x hx => ih x (List.all_eq_true.mp h x hx)
    | dic kvs => exact List.all_eq_true.mpr fun x hx => ih x (List.all_eq_true.mp h x hx)
    | _ => first | rfl | cases h
section
variable {env : Env} {w : Dr} {Q : D → Dr → Prop} {QS : Fl → Dr → Prop}
@[simp] theorem W_eDct1 (a b : E) : W (eDct1 a b env w) Q ↔ W (a env w) fun kd w1 => W (b env w1) fun d w2 => Wd (keyOf kd) fun _ => Q (.dic [(kd, d)]) w2 := by
  unfold eDct1
  cases a env w with
  | none => simp [W_none]
  | some p =>
    obtain ⟨x, w1⟩ := p
    simp only [W_some]
    cases b env w1 with
    | none => simp [W_none]
    | some p =>
      obtain ⟨y, w2⟩ := p
      simp only [W_some]
      cases keyOf x with
      | none => simp [W_none, Wd_none]
      | some k => simp [W_some, Wd_some]
variable {QX : FX → Dr → Prop} {QR : Rs → Dr → Prop}
@[simp] theorem W_sFrzE (i : Nat) (f : SX) : W (sFrzE i f env w) QX ↔ match (env[i]? : Option Slot) with
    | some (.ow d) => cont d = true ∧ W (f (env.set i (.sh d)) w) QX
    | _ => W (f env w) QX := by
  unfold sFrzE
  cases env[i]? with
  | none => exact Iff.rfl
  | some s =>
    cases s with
    | ow d => simp only [W_if]
    | _ => exact Iff.rfl
@[simp] theorem W_eCallX1 (φ : FnX) (fs : List E) : W (eCallX1 φ fs env w) QR ↔ W (aL fs env w) fun xs w1 => W (φ xs w1) QR := by
  unfold eCallX1
  cases aL fs env w with
  | none => simp [W_none]
  | some p => obtain ⟨xs, w1⟩ := p; simp [W_some]
@[simp] theorem W_eCallKX (φ : FnX) (is : List Nat) (fs fk : List E) (dds : List D) : W (eCallKX φ is fs fk dds env w) QR ↔ W (aL fs env w) fun xs w1 => W (aL fk env w1) fun ys w2 => (pickA is (xs ++ ys ++ dds)).length = is.length ∧ W (φ (pickA is (xs ++ ys ++ dds)) w2) QR := by
  unfold eCallKX
  cases aL fs env w with
  | none => simp [W_none]
  | some p =>
    obtain ⟨xs, w1⟩ := p
    simp only [W_some]
    cases aL fk env w1 with
    | none => simp [W_none]
    | some p => obtain ⟨ys, w2⟩ := p; simp only [W_some, W_if]
theorem W_sIns_of {i : Nat} {fj fe : E} {j : Nat} {d : D} {ds : List D} {w1 : Dr} (h : aL [fj, fe] env w = some ([.int (j : Nat), d], w1)) (he : env[i]? = some (.ow (.lst ds))) (hl : ds.length < sizeLine) (hj : j < 1000000) : W (sIns i fj fe env w) QS ↔ QS (.nx (env.set i (.ow (.lst (ds.take j ++ [d] ++ ds.drop j))))) w1 := by
  unfold sIns
  rw [h]
  simp only [he]
  rw [if_pos ⟨hl, by omega, by omega⟩, W_some, Int.toNat_natCast]
end
end Dl
set_option Elab.async false
set_option linter.all false
set_option maxRecDepth 100000
set_option maxHeartbeats 4000000
/-! D62: the statements that stand before a try: x = None, x, y = None, None. -/
namespace Dl
open PySem PySem.Spec L2
section
variable {X : Cx}
def tNo2 (i j : Nat) : TS := fun D σ H => ∀ H', Ext H H' → D.nx ((σ.set i (some .non)).set j (some .non)) H'
theorem ps_none2 {ts : List Expr} {i j kt k2 j1 j2 : Nat} {pt pt2 q1 q2 pos : Pos} (hc : X.calm = true) (hN : X.N.Nodup) (hp : PNames X ts [i, j])
    (hw : swappedStores [.Tuple ts kt pt] (.Tuple [.Constant .none j1 q1, .Constant .none j2 q2] k2 pt2) X.env = pure none := by rfl) (hs : swapsWithSole [.Tuple ts kt pt] (.Tuple [.Constant .none j1 q1, .Constant .none j2 q2] k2 pt2) pos.line X.env = pure false := by rfl)
    (hn : (assignEach ts X.env).length = 2 := by rfl) (hst : (assignEach ts X.env).findIdx? (·.1) = none := by rfl) (h1 : (assignEach [.Tuple ts kt pt] X.env).map (·.2) = [assign (.Tuple ts kt pt) X.env] := by rfl) :
    PS X (.Assign [.Tuple ts kt pt] (.Tuple [.Constant .none j1 q1, .Constant .none j2 q2] k2 pt2) pos) (tNo2 i j) :=
  ps_imp (ps_asg (pe_tup (pa_cons pe_non (pa_cons pe_non pa_nil))) (pg_tup (n := 2) hc (hp.pgs hN) hn hst) hs hw h1) fun D σ H h =>
    ⟨by decide, fun p np => ⟨p, [.non, .non], rfl, .inl (.inl upd_same), rfl, rfl, h _ fun b o e => by rw [upd_ne (ne_of_none e np)]; exact e⟩⟩
def tNo1 (i : Nat) : TS := fun D σ H => ∀ H', Ext H H' → D.nx (σ.set i (some .non)) H'
theorem ps_none1 {x : Str} {i j : Nat} {p p2 pos : Pos} (hN : X.N.Nodup) (hi : X.N[i]? = some x) (hx : Loc X.env.scope x) (hs : swapsWith (.Constant .none j p2) (some (.Name x p)) pos.line X.env = pure false := by rfl) (hf : X.fn x = true ∨ X.env.scope.names.lookup x = some .local := by first | exact .inl rfl | exact .inr rfl | assumption) :
    PS X (.Assign [.Name x p] (.Constant .none j p2) pos) (tNo1 i) := ps_imp (ps_set hN hi hx pe_non hs hf) fun D σ H h => h H fun _ _ e => e
end
end Dl
set_option Elab.async false
set_option linter.all false
set_option maxRecDepth 100000
set_option maxHeartbeats 4000000
/-! D64: an instance is made, defaults left out. -/
namespace Dl
open PySem PySem.Spec L2
/-- C(e, ..), dds the defaults that fill up -/
def CalID (P : Program) (w : World) (K : PySem.W.Frag) (mg : Str → Option Value) (base : Heap) (c : Str) (k n : Nat) (ps : List Str) (dds : List D) (φ : Fn) : Prop :=
  ∃ C f fd ds dvs, mg c = some (.ref C) ∧ Mk K C f ∧ FnOk P w K mg base CX0 k f fd ps (spI ⟨K, mg, P, w⟩ c n φ) ∧ Binds K fd ps ds ∧ Vals dvs ds ∧ ∀ G H, Reps ⟨K, mg, P, w⟩ G H dvs dds
section
variable {X : Cx} {c : Str} {k n : Nat} {ps : List Str} {dds : List D} {φ : Fn} {e : Expr} {es : List Expr} {fs : List E} {p pos : Pos}
theorem de_calID (M : CalID X.prog X.w X.K X.mg X.base c k n ps dds φ) (hr : Room (k + 1) X.A) (hg : Gl X c) (ha : DA X (e :: es) (aL fs)) (hdone : ∀ xs w gs w', φ xs w = some (.obj c gs, w') → ∃ p ∈ gs, p.1 ∈ lastF) (hres : ∀ xs w d w', φ xs w = some (d, w') → ∃ gs, d = .obj c gs)
    (hn : fs.length + dds.length = n := by rfl) (hdb : (c == ("__debug__" : Str)) = false := by decide) (he : starEach (e :: es) X.env = (false, eval e X.env) :: starEach es X.env := by rfl) (hpl : (backTo pos (starEach es X.env)).any (·.1) = false := by rfl) :
    DE X (.Call (.Name c p) (e :: es) [] pos) (eCall φ fs dds) := by
  obtain ⟨C, f, fd, ds, dvs, h1, h2, F, hb, hv, hd⟩ := M
  exact de_make h1 h2 F hb hv hd hr hg ha hdone hres hn hdb he hpl
end
end Dl
set_option Elab.async false
set_option linter.all false
set_option maxRecDepth 100000
set_option maxHeartbeats 4000000
/-! D65: what the head's run tells of an own __contains__. -/
namespace Dl
open PySem PySem.Spec L2
def inB (K : PySem.W.Frag) (c : Str) : Bool := decide (PySem.W.findIn K (.ref (He.ga K c)) "__contains__" = some (some (.ref (He.ma K (He.ga K c) "__contains__")))) && PySem.W.isFn K (.ref (He.ma K (He.ga K c) "__contains__"))
theorem inB_ok {K : PySem.W.Frag} {c : Str} (h : inB K c = true) : InC K (He.ga K c) (He.ma K (He.ga K c) "__contains__") := by
  simp only [inB, Bool.and_eq_true, decide_eq_true_eq] at h
  exact ⟨h.1, h.2⟩
end Dl
set_option Elab.async false
set_option linter.all false
set_option maxRecDepth 100000
set_option maxHeartbeats 4000000
/-! D72: errors made as values: c(e), c(text). -/
namespace Dl
open PySem PySem.Spec L2 PyProof.Rows
section
variable {X : Cx}
/-- the state's other parts do not matter -/
theorem inv_gens {pins : List (Addr × Obj)} {σ : L2.St} {H : Hp} {s s' : Shared} (I : Inv X pins σ H s) (h : s'.heap = s.heap) (os : s'.os = s.os) (ag : AllBare s'.gens) : Inv X pins σ H s' := by
  obtain ⟨hp, g, dr, tk, os'⟩ := s'
  cases h
  exact { ok := I.ok, os := os.trans I.os, bare := ag, loc := I.loc, cell := I.cell, len := I.len, free := I.free, freeC := I.freeC, pin := I.pin, base := I.base, hok := I.hok }
theorem pe_made {e : Expr} {t : L2.St → Hp → XK → Prop} (he : PMk X e t) : PE X e (fun σ H Q => t σ H fun cls d H' => ∀ a oe, H' a = none → Zc cls d oe → (∃ fv, oe.data = .fields fv) → Q (.ref a) (upd H' a (excH a oe))) := by
  refine ⟨fun pins s σ H Q I h => wpAny_mono (he pins s σ H _ I h) (fun u s1 hu => ?_) fun _ _ x => x⟩
  obtain ⟨a, oe, vs, sI, H', cls, d, rfl, J, k, hne, ha, hz, hd, h1, na, os, ag, r, q⟩ := hu
  have J2 : Inv X pins σ (upd H' a (excH a oe)) { sI with heap := s1.heap, toks := s1.toks } := J.laidN k hne na ⟨ha, ha, ⟨oe, ha⟩, fun h1 h2 z1 z2 => z2 oe z1⟩
  exact ⟨.ref a, _, inv_gens J2 rfl os ag, rfl, q a oe na hz ⟨vs, hd⟩⟩
/-- c(e), c with one field -/
def eMk1 (c f : Str) (e : E) : E := fun env w => match e env w with
  | some (d, w1) => some (.exc c [(f, d)], w1)
  | none => none
variable {e : Expr} {f : E} {pos p : Pos}
theorem de_mk1 {cn fl : Str} {k : Nat} (S : SupN X.K X.mg X.prog cn fl) (hr : Room (k + 1) X.A) (hg : Gl X cn) (hs : X.mg "super" = none) (he : DE X e f) (hdb : (cn == ("__debug__" : Str)) = false := by decide)
    (hst : starEach [e] X.env = (false, eval e X.env) :: starEach [] X.env := by rfl) : DE X (.Call (.Name cn p) [e] [] pos) (eMk1 cn fl f) := by
  obtain ⟨C, fI, hm, S⟩ := S
  exact pe_imp (pe_made (pmk_sup S hr hg hm hs he hdb hst)) fun σ H Q ⟨G, B, env, w, d, w', hd, e, kk⟩ => by
    unfold eMk1 at e
    split at e
    · rename_i x w1 ea
      cases e
      refine ⟨G, B, env, w, x, _, hd, ea, fun v H1 s1 h1 r dd nd a oe na hz hf => ?_⟩
      have h2 := h1.new (.xd [(fl, v)]) nd
      have nad : a ≠ dd := fun z => by rw [z, upd_same] at na; cases na
      refine kk _ _ ((s1.trans (.new _ nd)).trans (.new _ na)) (h2.new _ na) (.exc (vs := [(fl, v)]) hm upd_same hz.1 hz.2 hf (.inr ⟨dd, rfl, ?_⟩) rfl (.cons ((r.keep (Keep.new _ nd)).keep (Keep.new _ na)) .nil))
      rw [upd_ne (Ne.symm nad), upd_same]
    · cases e
/-- c(text), c without a field -/
theorem de_mk0 {cn m : Str} {j : Nat} {p2 : Pos} (S : OwnN X.K X.mg cn) (hg : Gl X cn) (hdb : (cn == ("__debug__" : Str)) = false := by decide) : DE X (.Call (.Name cn p) [.Constant (.str m) j p2] [] pos) (eC (.exc cn [])) := by
  obtain ⟨C, hm, h1, h2, h3, h4⟩ := S
  exact pe_imp (pe_made (pmk_own F.excBase_ValueError h1 hm h2 (raises_own h3 h4) hg hdb)) fun σ H Q ⟨G, B, env, w, d, w', hd, e, kk⟩ => by
    cases e
    exact fun a oe na hz hf => kk _ _ (.new _ na) (hd.new _ na) (.exc (vs := []) hm upd_same hz.1 hz.2 hf (.inl ⟨rfl, rfl⟩) rfl .nil)
end
end Dl
set_option Elab.async false
set_option linter.all false
set_option maxRecDepth 100000
set_option maxHeartbeats 4000000
/-! D74: an error class called by name: c(f = e). -/
namespace Dl
open PySem PySem.W PySem.Calls PyProof.Rows PySem.Spec
section
variable {M : Model} {prog : Program} {w : World} {A : Around} {h : Heap} {g : Array GenState} {d : Drawn} {t : Nat} {os : OsState} {E : Value → Shared → Prop} {R : Result → Shared → Prop} {C fI : Addr} {kw : List (Str × Value)}
/-- an error class over ValueError, as it stands -/
def ErrAt (h : Heap) (C : Addr) : Prop := ∃ nm q N bs bm hd sn sub ab col dd k0 k1 k2 k3 k5, h.get? C = some (excClassObj nm q C N bs bm hd sn sub ab col dd k0 k1 k2 k3 k5 "ValueError.__new__") ∧ HandSPX.refsVE bm = true
theorem ErrAt.of (Y : ErrAt h C) {h' : Heap} (k : ∀ b o, h.get? b = some o → h'.get? b = some o) : ErrAt h' C := by
  obtain ⟨_, _, _, _, _, _, _, _, _, _, _, _, _, _, _, _, a, b⟩ := Y
  exact ⟨_, _, _, _, _, _, _, _, _, _, _, _, _, _, _, _, k _ _ a, b⟩
theorem mro_has {bm : List Value} (hb : HandSPX.refsVE bm = true) (X : String) : (Value.ref C :: bm).contains (.type X) = HandSPX.veTail.contains (.type X) := by
  rw [List.contains_cons, HandSPX.refsVE_contains X bm hb]
  rfl
theorem named_check (Y : ErrAt h C) {Q : Unit → Shared → Prop} (q : Q () ⟨h, g, d, t, os⟩) : wpAny M A (checkBuiltinCall "ValueError.__new__" ⟨[.ref C], kw⟩) Q E ⟨h, g, d, t, os⟩ := by
  obtain ⟨_, _, _, _, bm, _, _, _, _, _, _, _, _, _, _, _, at_, hb⟩ := Y
  have B := F.excBase_ValueError
  have sub := mro_has (C := C) hb "ValueError"
  have star := B.noStar
  simp only [checkBuiltinCall, B.newKind, B.newSplit, B.newRow]
  repeat first
    | with_reducible refine wpAny_loadPart_at at_ ?_
    | with_reducible refine wpAny_staticBase_exc at_ ?_
    | with_reducible refine wpAny_madeBy_exc at_ ?_
    | (refine wpAny_isSubtype_exc at_ ?_; rw [sub])
    | wp_step
  exact q
theorem named_new (Y : ErrAt h C) (q : R (.ok (.ret (.ref (h.objs.size + 1)))) ⟨(h.push (kdv_tup [])).push (HandSPX.excO C h.objs.size), g, d, t, os⟩) : codeAny (model prog w) A (.builtin "ValueError.__new__" ⟨[.ref C], kw⟩) R ⟨h, g, d, t, os⟩ := by
  obtain ⟨_, _, _, _, bm, _, _, _, _, _, _, _, _, _, _, _, at_, hb⟩ := Y
  have B := F.excBase_ValueError
  have fin := B.ends
  have is := mro_has (C := C) hb
  refine codeAny_builtinAt B.entry (PySem.wpAt_bind (PySem.wpAt_bind (PySem.wpAt_stack fun p below => PySem.wpAt_of_wpAny ?_)))
  wp_walk
  refine wpAt_of_wpAny ?_
  rw [B.owner]
  repeat first
    | with_reducible refine wpAny_loadPart_at at_ ?_
    | with_reducible refine wpAny_madeHere_exc B.canon at_ ?_
    | (refine wpAny_isSubtype_exc at_ ?_; rw [is])
    | wp_step
  show R _ _
  rw [Heap.size_push]
  exact q
theorem named_call (Y : ErrAt h C) (typ : Looks (model prog w) h (isInstance (.ref C) (.type "type")) true) (ini : Looks (model prog w) h (typeLookup (.ref C) "__init__") (some (.ref fI))) (bound : ∀ self, Looks (model prog w) h (bindSpecial (.ref fI) self) (.ref fI, [self]))
    (q : codeAny (model prog w) (A.under (.builtin "type.__call__" ⟨[.ref C], kw⟩)) (.call (.ref fI) ⟨[.ref (h.objs.size + 1)], kw⟩) (InitBack (h.objs.size + 1) R) ⟨(h.push (kdv_tup [])).push (HandSPX.excO C h.objs.size), g, d, t, os⟩) :
    codeAny (model prog w) A (.call (.ref C) ⟨[], kw⟩) R ⟨h, g, d, t, os⟩ := by
  have Z := Y
  obtain ⟨_, _, _, _, bm, _, _, _, _, _, _, _, _, _, _, _, at_, hb⟩ := Z
  have look := tc_lookup
  have bind := tc_bind (.ref C)
  have tyC : (⟨h, g, d, t, os⟩ : Shared).TypeIs (.ref C) "type" := ⟨_, at_, rfl⟩
  refine codeAny_of_tree ?_
  show wpAny _ _ (callAny (.ref C) _) _ _ _
  repeat any_goals first
    | assumption
    | with_reducible refine wpAny_loadPart_at at_ ?_
    | wp_step
  refine ⟨rfl, codeAny_call_builtin_at (Code.quiet_builtin _ (by decide +kernel)) entry_typeCall (check_slot tc_kind tc_split typ (tc_args _ _ _) ?_)⟩
  repeat first
    | with_reducible refine wpAny_loadPart_at at_ ?_
    | with_reducible refine wpAny_madeBy_exc at_ ?_
    | wp_step
  refine codeAny_call_builtin_code (Code.quiet_builtin _ F.excBase_ValueError.quiet) (named_check Y (named_new Y ?_))
  have up : ∀ b o, h.get? b = some o → ((h.push (kdv_tup [])).push (HandSPX.excO C h.objs.size)).get? b = some o := fun b o z => Heap.get?_push_of_some _ (Heap.get?_push_of_some _ z)
  have at1 := up _ _ at_
  have there : ((h.push (kdv_tup [])).push (HandSPX.excO C h.objs.size)).get? (h.objs.size + 1) = some (HandSPX.excO C h.objs.size) := by heap_get
  have own : (Value.ref C :: bm).contains (.ref C) = true := by simp
  have ini1 := ini.keeps up
  have bound1 := (bound (.ref (h.objs.size + 1))).keeps up
  show wpAny _ _ _ _ _ _
  unfold isInstance
  repeat first
    | with_reducible refine wpAny_loadPart_at there ?_
    | (with_reducible refine wpAny_isSubtype_exc at1 ?_; rw [own])
    | wp_step
  show wpAny _ _ (typeLookup (.ref C) _) _ _ _
  refine ini1.at (wpAny_holding (wpAny_bind (bound1.at (wpAny_bind (wpAny_call (codeAny_mono q fun r s' z => ?_))))))
  cases r with
  | error e => exact z
  | ok fl =>
    cases fl with
    | ret v =>
      obtain ⟨rfl, z⟩ := z
      exact wpAny_pure (wpAny_pure z)
    | _ => exact z.elim
end
end Dl
namespace L2
open PySem PySem.Spec PyProof.Rows
section
variable {X : Cx} {e : Expr} {te : TA} {x fl : Str} {C fI : Addr} {p pos kpos : Pos} {k : Nat}
/-- C(f = e) -/
theorem pmk_supk {kws : List Keyword} (S : Dl.SupC X.K X.prog C fI fl) (hr : Room (k + 1) X.A) (hg : Gl X x) (hm : X.mg x = some (.ref C)) (hs : X.mg "super" = none) (he : PK X kws te) (hdb : (x == ("__debug__" : Str)) = false := by decide)
    (hall : (backToKw pos (keywordEach kws X.env)).all (·.1.isSome) = true := by rfl) (hks : (backToKw pos (keywordEach kws X.env)).filterMap (·.1) = [fl] := by rfl) (hpl : ((backTo pos (starEach [] X.env)).any (·.1) || (backToKw pos (keywordEach kws X.env)).any (·.1.isNone)) = false := by rfl) :
    PMk X (.Call (.Name x p) [] kws pos) (fun σ H Q => te σ H fun vs H1 => ∃ v, vs = [v] ∧ ∀ d, H1 d = none → Q (.ref C) (some d) (upd H1 d (.xd [(fl, v)]))) := by
  intro pins s σ H Q I h
  obtain ⟨_, _, _, _, mroT, _, _, _, _, _, _, _, _, _, _, hC, hbm⟩ := S.ox.cls
  refine wpAny_Call_Name_kw (ld_glob I hg hm ?_ hdb)
  refine PySem.W.callWith_KW0 (h₀ := X.base) I.ok.mod.kin S.ox.kC hall ?_ hpl
  refine thn (he.run pos pins s σ H _ I h) fun us s1 ⟨vs, H1, I1, r1, v, hv, q1⟩ => ⟨I1.kIn, ?_⟩
  subst hv
  cases r1 with
  | @cons _ u _ _ rv r2 =>
    cases r2
    rw [hks]
    have Y : Dl.ErrAt s1.heap C := ⟨_, _, _, _, _, _, _, _, _, _, _, _, _, _, _, _, I1.kIn _ _ hC, hbm⟩
    exact run_sup S hs (rest := []) (kw := [(fl, u)]) (hr.make C [] [(fl, u)]).depth (fun e => .inr rfl) (fun R h => Dl.named_call Y (PySem.W.looks_instIn I1.kIn (show PySem.W.instIn X.K (.ref C) (.type "type") = some true by unfold PySem.W.instIn; rw [S.ox.tyC]; kernel_rfl)) (PySem.W.looks_findIn I1.kIn S.ini) (fun self => PySem.W.bind_fn I1.kIn self S.tI) h) I1 rv q1
end
end L2
namespace Dl
open PySem PySem.Spec L2 PyProof.Rows
section
variable {X : Cx} {e : Expr} {f : E} {pos p kpos : Pos}
theorem de_mk1k {cn fl : Str} {k : Nat} (S : SupN X.K X.mg X.prog cn fl) (hr : Room (k + 1) X.A) (hg : Gl X cn) (hs : X.mg "super" = none) (he : DE X e f) (hdb : (cn == ("__debug__" : Str)) = false := by decide)
    (hall : (backToKw pos (keywordEach [⟨some fl, e, kpos⟩] X.env)).all (·.1.isSome) = true := by rfl) (hks : (backToKw pos (keywordEach [⟨some fl, e, kpos⟩] X.env)).filterMap (·.1) = [fl] := by rfl) (hpl : ((backTo pos (starEach [] X.env)).any (·.1) || (backToKw pos (keywordEach [⟨some fl, e, kpos⟩] X.env)).any (·.1.isNone)) = false := by rfl) :
    DE X (.Call (.Name cn p) [] [⟨some fl, e, kpos⟩] pos) (eMk1 cn fl f) := by
  obtain ⟨C, fI, hm, S⟩ := S
  exact pe_imp (pe_made (pmk_supk S hr hg hm hs (dk_cons he dk_nil) hdb hall hks hpl)) fun σ H Q ⟨G, B, env, w, d, w', hd, e, kk⟩ => by
    unfold eMk1 at e
    split at e
    · rename_i x w1 ea
      cases e
      refine ⟨G, B, env, w, [x], w', hd, ?_, fun vs H1 s1 h1 r => ?_⟩
      · simp [aL, aCons, aNil, ea]
      cases r with
      | cons r r0 =>
        cases r0
        rename_i v
        refine ⟨v, rfl, fun dd nd a oe na hz hf => ?_⟩
        have h2 := h1.new (.xd [(fl, v)]) nd
        have nad : a ≠ dd := fun z => by rw [z, upd_same] at na; cases na
        refine kk _ _ ((s1.trans (.new _ nd)).trans (.new _ na)) (h2.new _ na) (.exc (vs := [(fl, v)]) hm upd_same hz.1 hz.2 hf (.inr ⟨dd, rfl, ?_⟩) rfl (.cons ((r.keep (Keep.new _ nd)).keep (Keep.new _ na)) .nil))
        rw [upd_ne (Ne.symm nad), upd_same]
    · cases e
end
end Dl
set_option Elab.async false
set_option linter.all false
set_option maxRecDepth 100000
set_option maxHeartbeats 4000000
/-! D75: isinstance(err, ValueError). -/
namespace Dl
open PySem PySem.Spec L2
/-- error classes, each of which is below ValueError or not -/
def IsVs (K : PySem.W.Frag) (mg : Str → Option Value) (tab : List (Str × Bool)) : Prop := ∀ p ∈ tab, ∃ C, mg p.1 = some (.ref C) ∧ xcB K C = true ∧ PySem.W.kitOne K (.ref C) (.type "ValueError") = some p.2
section
variable {X : Cx} {e : Expr} {fe : E} {pos : Pos}
def rIsV (X : Cx) (tab : List (Str × Bool)) : List V → Hp → VK → Prop := fun xs H Q => ∃ (G : Gd) (v : V) (c : Str) (fs : List (Str × D)) (b : Bool), xs = [v, .ty "ValueError"] ∧ Rep (tx X) G H v (.exc c fs) ∧ tab.lookup c = some b ∧ Q (.bl b) H
theorem call_isV {tab : List (Str × Bool)} (hT : IsVs X.K X.mg tab) : CallR X (.builtin "isinstance") (rIsV X tab) := by
  intro pins s σ H xs us Q I r ⟨G, v, c, fs, b, hx, rp, hl, q⟩
  subst hx
  cases r with
  | cons r1 r2 =>
    cases r2 with
    | cons r2 r3 =>
      cases r3
      obtain rfl := (show _ = Value.type "ValueError" from r2)
      obtain ⟨C, hC, xc, kt⟩ := hT _ (PySem.mem_of_lookup hl)
      obtain ⟨a, oe, od, vs, rfl, rfl, J, _⟩ := exc_inst I rp r1 hC
      simp only [xcB, Bool.and_eq_true, decide_eq_true_eq] at xc
      obtain ⟨⟨⟨⟨⟨xf, hcl⟩, ha⟩, hn⟩, htk⟩, hm⟩ := xc
      have xf := xfB_ok xf
      exact PySem.W.kia_one (PySem.W.kitx_exc hcl xf.ga xf.gg xf.exC ha hn htk hm) I.kIn J kt (fun z => nomatch z) fun tk => ⟨.bl b, H, I.kept (t' := tk) fun _ _ z => z, rfl, q⟩
theorem de_isV {tab : List (Str × Bool)} {p p2 : Pos} (hg : Gl X "isinstance") (hm : X.mg "isinstance" = none) (hg2 : Gl X "ValueError") (hm2 : X.mg "ValueError" = none) (hT : IsVs X.K X.mg tab) (he : DE X e fe)
    (hs1 : starEach (e :: [.Name "ValueError" p2]) X.env = (false, eval e X.env) :: starEach [.Name "ValueError" p2] X.env := by rfl) (hs2 : starEach (.Name "ValueError" p2 :: []) X.env = (false, eval (.Name "ValueError" p2) X.env) :: starEach [] X.env := by rfl) (hpl : (backTo pos (starEach [.Name "ValueError" p2] X.env)).any (·.1) = false := by rfl) :
    DE X (.Call (.Name "isinstance" p) [e, .Name "ValueError" p2] [] pos) (e1 (isX tab) fe) := by
  refine pe_imp (pe_callB (call_isV hT) hg hm PyProof.Rows.boot_isinstance (pa_cons he (pa_cons (pe_bltn (v := .ty "ValueError") hg2 hm2 (by decide +kernel) rfl (by decide) (by decide)) pa_nil hs2) hs1) (by decide) (by decide) hs1 hpl) fun σ H Q ⟨G, B, env, w, d, w', hd, ee, k⟩ => ?_
  obtain ⟨x, ex, eg⟩ := e1_some ee
  refine ⟨G, B, env, w, x, w', hd, ex, fun v H1 s1 h1 r => ?_⟩
  unfold isX at eg
  split at eg
  · split at eg
    · cases eg
      exact ⟨G, v, _, _, _, rfl, r, ‹_›, k _ H1 s1 h1 (.bl _)⟩
    · cases eg
  · cases eg
end
def isVsB (K : PySem.W.Frag) (tab : List (Str × Bool)) : Bool := tab.all fun p => xcB K (He.ga K p.1) && decide (PySem.W.kitOne K (.ref (He.ga K p.1)) (.type "ValueError") = some p.2)
theorem isVsB_ok {K : PySem.W.Frag} {mg : Str → Option Value} {tab : List (Str × Bool)} (g : Glos K mg (tab.map (·.1))) (h : isVsB K tab = true) : IsVs K mg tab := fun p hp => by
  have := Bool.and_eq_true_iff.mp (List.all_eq_true.mp h p hp)
  exact ⟨_, g _ (List.mem_map_of_mem hp), this.1, of_decide_eq_true this.2⟩
end Dl
set_option Elab.async false
set_option linter.all false
set_option maxRecDepth 100000
set_option maxHeartbeats 4000000
namespace K01
open PySem L2 Dl
def s__law_take : S := (sSeq (sIf (eAnd (e2 cEq (eDr 0 .rest) (eC (.int 0))) (eDrL 0)) ((sDrPop 0)) ((sIf (e2 cEq (eDr 0 .rest) (eC (.int 0))) ((sSeq (sDr 0 .turn (e2 addD (eDr 0 .turn) (eC (.int 1))))
  (sSeq (sFor (.nm 2) (i1 walkD (e2 addL (eLst [(eDr 0 .turn)]) (eDrC 0))) ((sDr 0 .mix (e2 gMod (eBi intD (aL [(e2 addD (e2 addD (e2 gMul (eDr 0 .mix) (eC (.int 69621))) (e2 gMul (eVar 2) (eC (.int 48271)))) (eC (.int 12345)))])) (eC (.int 2147483629))))))
  (sDr 0 .rest (e2 gMod (eBi intD (aL [(e2 gPow (eDr 0 .mix) (eC (.int 5)))])) (eC (.int 2305843009213693951))))))) sNx)))
  (sSeq (sDrDiv 0 3 (eVar 1))
  (sRet (eVar 3))))
def m__law_take : Fn := bodyD 4 s__law_take
def s__law_pick : S := (sRet (e2 ixD (eVar 1) (eCall m__law_take [(eVar 0), (eBi lenD (aL [(eVar 1)]))] [])))
def m__law_pick : Fn := bodyD 2 s__law_pick
def s__law_odd : S := (sSeq (sSetO 1 (eLst [(eC .non), (eC (.bl true)), (eC (.bl false)), (eC (.int 0)), (eC (.int 1)), (eNeg (eC (.int 1))), (eC (.int 999)), (eC (.int 1000)), (e2 gPow (eC (.int 10)) (eC (.int 9))), (e2 gPow (eC (.int 10)) (eC (.int 29))), (eC (.str "")), (eC (.str "a")), (eC (.str "A")), (eC (.str "abcdefg")), (eC (.str "a b")), (eTup []), (eLst []), (eC (.dic []))]))
  (sFrz 1 (sRet (eCall m__law_pick [(eVar 0), (e2 addL (eVar 1) (eLst [(eTup [(eC (.str "a"))]), (eLst [(eC (.str "a"))]), (eDct1 (eC (.str "a")) (eC (.int 1))), (eDct1 (eC (.int 1)) (eC (.dic []))), (eTup [(eC (.str "must")), (eC (.str "a"))]), (eC (.str "put")), (eC (.str "needs"))]))] []))))
def m__law_odd : Fn := bodyD 2 s__law_odd
def s__law_marks : S := (sSeq (sSetO 1 (eLst [(e1 (isX [("LotError", false), ("BadSchema", false), ("BadState", false), ("BadCame", true), ("BadSoft", false), ("BadRule", false), ("BadRing", false), ("HasRing", false), ("NotAlike", false), ("TooMany", false), ("NoKind", false), ("NoRow", false), ("NoField", false), ("BadValue", false), ("Stands", false), ("BadStatement", false), ("Missed", false), ("BadDeed", false), ("BadJournal", false), ("BadLine", false)]) (eVar 0)), (e1 (isX [("LotError", false), ("BadSchema", false), ("BadState", false), ("BadCame", false), ("BadSoft", false), ("BadRule", false), ("BadRing", false), ("HasRing", false), ("NotAlike", false), ("TooMany", false), ("NoKind", false), ("NoRow", false), ("NoField", false), ("BadValue", false), ("Stands", false), ("BadStatement", false), ("Missed", false), ("BadDeed", true), ("BadJournal", false), ("BadLine", false)]) (eVar 0)), (e1 (isX [("LotError", false), ("BadSchema", false), ("BadState", false), ("BadCame", false), ("BadSoft", false), ("BadRule", false), ("BadRing", false), ("HasRing", false), ("NotAlike", false), ("TooMany", false), ("NoKind", false), ("NoRow", false), ("NoField", false), ("BadValue", false), ("Stands", false), ("BadStatement", false), ("Missed", false), ("BadDeed", false), ("BadJournal", true), ("BadLine", false)]) (eVar 0))]))
  (sFrz 1 (sSeq (sSetO 1 (e2 addL (eVar 1) (eLst [(e1 (isX [("LotError", false), ("BadSchema", false), ("BadState", false), ("BadCame", false), ("BadSoft", false), ("BadRule", false), ("BadRing", false), ("HasRing", false), ("NotAlike", false), ("TooMany", false), ("NoKind", false), ("NoRow", false), ("NoField", false), ("BadValue", false), ("Stands", false), ("BadStatement", false), ("Missed", false), ("BadDeed", false), ("BadJournal", false), ("BadLine", true)]) (eVar 0)), (e1 (isX [("LotError", false), ("BadSchema", false), ("BadState", false), ("BadCame", false), ("BadSoft", false), ("BadRule", false), ("BadRing", true), ("HasRing", false), ("NotAlike", false), ("TooMany", false), ("NoKind", false), ("NoRow", false), ("NoField", false), ("BadValue", false), ("Stands", false), ("BadStatement", false), ("Missed", false), ("BadDeed", false), ("BadJournal", false), ("BadLine", false)]) (eVar 0)), (e1 (isX [("LotError", false), ("BadSchema", false), ("BadState", false), ("BadCame", false), ("BadSoft", false), ("BadRule", true), ("BadRing", false), ("HasRing", false), ("NotAlike", false), ("TooMany", false), ("NoKind", false), ("NoRow", false), ("NoField", false), ("BadValue", false), ("Stands", false), ("BadStatement", false), ("Missed", false), ("BadDeed", false), ("BadJournal", false), ("BadLine", false)]) (eVar 0))])))
  (sFrz 1 (sSeq (sSetO 1 (e2 addL (eVar 1) (eLst [(e1 (isX [("LotError", false), ("BadSchema", true), ("BadState", false), ("BadCame", false), ("BadSoft", false), ("BadRule", false), ("BadRing", false), ("HasRing", false), ("NotAlike", false), ("TooMany", false), ("NoKind", false), ("NoRow", false), ("NoField", false), ("BadValue", false), ("Stands", false), ("BadStatement", false), ("Missed", false), ("BadDeed", false), ("BadJournal", false), ("BadLine", false)]) (eVar 0)), (e1 (isX [("LotError", false), ("BadSchema", false), ("BadState", false), ("BadCame", false), ("BadSoft", true), ("BadRule", false), ("BadRing", false), ("HasRing", false), ("NotAlike", false), ("TooMany", false), ("NoKind", false), ("NoRow", false), ("NoField", false), ("BadValue", false), ("Stands", false), ("BadStatement", false), ("Missed", false), ("BadDeed", false), ("BadJournal", false), ("BadLine", false)]) (eVar 0)), (e1 (isX [("LotError", false), ("BadSchema", false), ("BadState", true), ("BadCame", false), ("BadSoft", false), ("BadRule", false), ("BadRing", false), ("HasRing", false), ("NotAlike", false), ("TooMany", false), ("NoKind", false), ("NoRow", false), ("NoField", false), ("BadValue", false), ("Stands", false), ("BadStatement", false), ("Missed", false), ("BadDeed", false), ("BadJournal", false), ("BadLine", false)]) (eVar 0))])))
  (sFrz 1 (sSeq (sSetO 1 (e2 addL (eVar 1) (eLst [(e1 (isX [("LotError", false), ("BadSchema", false), ("BadState", false), ("BadCame", false), ("BadSoft", false), ("BadRule", false), ("BadRing", false), ("HasRing", false), ("NotAlike", false), ("TooMany", false), ("NoKind", false), ("NoRow", false), ("NoField", false), ("BadValue", false), ("Stands", false), ("BadStatement", true), ("Missed", false), ("BadDeed", false), ("BadJournal", false), ("BadLine", false)]) (eVar 0)), (e1 (isX [("LotError", false), ("BadSchema", false), ("BadState", false), ("BadCame", false), ("BadSoft", false), ("BadRule", false), ("BadRing", false), ("HasRing", false), ("NotAlike", false), ("TooMany", false), ("NoKind", false), ("NoRow", false), ("NoField", false), ("BadValue", true), ("Stands", false), ("BadStatement", false), ("Missed", false), ("BadDeed", false), ("BadJournal", false), ("BadLine", false)]) (eVar 0)), (e1 (isX [("LotError", false), ("BadSchema", false), ("BadState", false), ("BadCame", false), ("BadSoft", false), ("BadRule", false), ("BadRing", false), ("HasRing", true), ("NotAlike", false), ("TooMany", false), ("NoKind", false), ("NoRow", false), ("NoField", false), ("BadValue", false), ("Stands", false), ("BadStatement", false), ("Missed", false), ("BadDeed", false), ("BadJournal", false), ("BadLine", false)]) (eVar 0))])))
  (sFrz 1 (sSeq (sSetO 1 (e2 addL (eVar 1) (eLst [(e1 (isX [("LotError", false), ("BadSchema", false), ("BadState", false), ("BadCame", false), ("BadSoft", false), ("BadRule", false), ("BadRing", false), ("HasRing", false), ("NotAlike", false), ("TooMany", false), ("NoKind", false), ("NoRow", false), ("NoField", false), ("BadValue", false), ("Stands", false), ("BadStatement", false), ("Missed", true), ("BadDeed", false), ("BadJournal", false), ("BadLine", false)]) (eVar 0)), (e1 (isX [("LotError", false), ("BadSchema", false), ("BadState", false), ("BadCame", false), ("BadSoft", false), ("BadRule", false), ("BadRing", false), ("HasRing", false), ("NotAlike", false), ("TooMany", false), ("NoKind", false), ("NoRow", false), ("NoField", true), ("BadValue", false), ("Stands", false), ("BadStatement", false), ("Missed", false), ("BadDeed", false), ("BadJournal", false), ("BadLine", false)]) (eVar 0)), (e1 (isX [("LotError", false), ("BadSchema", false), ("BadState", false), ("BadCame", false), ("BadSoft", false), ("BadRule", false), ("BadRing", false), ("HasRing", false), ("NotAlike", false), ("TooMany", false), ("NoKind", true), ("NoRow", false), ("NoField", false), ("BadValue", false), ("Stands", false), ("BadStatement", false), ("Missed", false), ("BadDeed", false), ("BadJournal", false), ("BadLine", false)]) (eVar 0))])))
  (sFrz 1 (sSeq (sSetO 1 (e2 addL (eVar 1) (eLst [(e1 (isX [("LotError", false), ("BadSchema", false), ("BadState", false), ("BadCame", false), ("BadSoft", false), ("BadRule", false), ("BadRing", false), ("HasRing", false), ("NotAlike", false), ("TooMany", false), ("NoKind", false), ("NoRow", true), ("NoField", false), ("BadValue", false), ("Stands", false), ("BadStatement", false), ("Missed", false), ("BadDeed", false), ("BadJournal", false), ("BadLine", false)]) (eVar 0)), (e1 (isX [("LotError", false), ("BadSchema", false), ("BadState", false), ("BadCame", false), ("BadSoft", false), ("BadRule", false), ("BadRing", false), ("HasRing", false), ("NotAlike", true), ("TooMany", false), ("NoKind", false), ("NoRow", false), ("NoField", false), ("BadValue", false), ("Stands", false), ("BadStatement", false), ("Missed", false), ("BadDeed", false), ("BadJournal", false), ("BadLine", false)]) (eVar 0)), (e1 (isX [("LotError", false), ("BadSchema", false), ("BadState", false), ("BadCame", false), ("BadSoft", false), ("BadRule", false), ("BadRing", false), ("HasRing", false), ("NotAlike", false), ("TooMany", false), ("NoKind", false), ("NoRow", false), ("NoField", false), ("BadValue", false), ("Stands", true), ("BadStatement", false), ("Missed", false), ("BadDeed", false), ("BadJournal", false), ("BadLine", false)]) (eVar 0))])))
  (sFrz 1 (sRet (e2 addL (eVar 1) (eLst [(e1 (isX [("LotError", false), ("BadSchema", false), ("BadState", false), ("BadCame", false), ("BadSoft", false), ("BadRule", false), ("BadRing", false), ("HasRing", false), ("NotAlike", false), ("TooMany", true), ("NoKind", false), ("NoRow", false), ("NoField", false), ("BadValue", false), ("Stands", false), ("BadStatement", false), ("Missed", false), ("BadDeed", false), ("BadJournal", false), ("BadLine", false)]) (eVar 0))])))))))))))))))
def m__law_marks : Fn := bodyD 2 s__law_marks
def s__law_made : S := (sSeq (sSetO 1 (eLst [(eTup [(eC (.int 1)), (eMk1 "BadDeed" "at" (eVar 0))]), (eTup [(eC (.int 1)), (eMk1 "BadDeed" "at" (eVar 0))]), (eTup [(eC (.int 2)), (eMk1 "BadJournal" "row" (eVar 0))]), (eTup [(eC (.int 2)), (eMk1 "BadJournal" "row" (eVar 0))])]))
  (sFrz 1 (sSeq (sSetO 1 (e2 addL (eVar 1) (eLst [(eTup [(eC (.int 3)), (eMk1 "BadLine" "row" (eVar 0))]), (eTup [(eC (.int 3)), (eMk1 "BadLine" "row" (eVar 0))]), (eTup [(eC (.int 5)), (eMk1 "BadRule" "at" (eVar 0))]), (eTup [(eC (.int 5)), (eMk1 "BadRule" "at" (eVar 0))])])))
  (sFrz 1 (sSeq (sSetO 1 (e2 addL (eVar 1) (eLst [(eTup [(eC (.int 6)), (eMk1 "BadSchema" "kind" (eVar 0))]), (eTup [(eC (.int 6)), (eMk1 "BadSchema" "kind" (eVar 0))]), (eTup [(eC (.int 7)), (eMk1 "BadSoft" "at" (eVar 0))]), (eTup [(eC (.int 7)), (eMk1 "BadSoft" "at" (eVar 0))])])))
  (sFrz 1 (sSeq (sSetO 1 (e2 addL (eVar 1) (eLst [(eTup [(eC (.int 8)), (eMk1 "BadState" "word" (eVar 0))]), (eTup [(eC (.int 8)), (eMk1 "BadState" "word" (eVar 0))]), (eTup [(eC (.int 11)), (eMk1 "HasRing" "ring" (eVar 0))]), (eTup [(eC (.int 11)), (eMk1 "HasRing" "ring" (eVar 0))])])))
  (sFrz 1 (sSeq (sSetO 1 (e2 addL (eVar 1) (eLst [(eTup [(eC (.int 12)), (eMk1 "Missed" "at" (eVar 0))]), (eTup [(eC (.int 12)), (eMk1 "Missed" "at" (eVar 0))]), (eTup [(eC (.int 13)), (eMk1 "NoField" "name" (eVar 0))]), (eTup [(eC (.int 13)), (eMk1 "NoField" "name" (eVar 0))])])))
  (sFrz 1 (sSeq (sSetO 1 (e2 addL (eVar 1) (eLst [(eTup [(eC (.int 14)), (eMk1 "NoKind" "kind" (eVar 0))]), (eTup [(eC (.int 14)), (eMk1 "NoKind" "kind" (eVar 0))]), (eTup [(eC (.int 15)), (eMk1 "NoRow" "row" (eVar 0))]), (eTup [(eC (.int 15)), (eMk1 "NoRow" "row" (eVar 0))])])))
  (sFrz 1 (sSeq (sSetO 1 (e2 addL (eVar 1) (eLst [(eTup [(eC (.int 17)), (eMk1 "Stands" "row" (eVar 0))]), (eTup [(eC (.int 17)), (eMk1 "Stands" "row" (eVar 0))]), (eTup [(eC (.int 18)), (eMk1 "TooMany" "most" (eVar 0))]), (eTup [(eC (.int 18)), (eMk1 "TooMany" "most" (eVar 0))])])))
  (sFrz 1 (sRet (eVar 1))))))))))))))))
def m__law_made : Fn := bodyD 2 s__law_made
def s__law_told : S := (sSeq (sIf (e2 cIn (eVar 0) (eTup [(eC (.int 1)), (eC (.int 5)), (eC (.int 7)), (eC (.int 12))])) ((sRet (e1 (fdX ["BadSoft", "BadRule", "Missed", "BadDeed"] "at") (eVar 1)))) sNx)
  (sSeq (sIf (e2 cIn (eVar 0) (eTup [(eC (.int 2)), (eC (.int 3)), (eC (.int 15)), (eC (.int 17))])) ((sRet (e1 (fdX ["NoRow", "Stands", "BadJournal", "BadLine"] "row") (eVar 1)))) sNx)
  (sSeq (sIf (e2 cIn (eVar 0) (eTup [(eC (.int 6)), (eC (.int 14))])) ((sRet (e1 (fdX ["BadSchema", "NoKind"] "kind") (eVar 1)))) sNx)
  (sSeq (sIf (e2 cEq (eVar 0) (eC (.int 13))) ((sRet (e1 (fdX ["NoField"] "name") (eVar 1)))) sNx)
  (sSeq (sIf (e2 cEq (eVar 0) (eC (.int 8))) ((sRet (e1 (fdX ["BadState"] "word") (eVar 1)))) sNx)
  (sRet (eIf (e2 cEq (eVar 0) (eC (.int 11))) (e1 (fdX ["HasRing"] "ring") (eVar 1)) (e1 (fdX ["TooMany"] "most") (eVar 1)))))))))
def m__law_told : Fn := bodyD 2 s__law_told
def s_law : S := (sSeq (sFor (.nm 2) (iRange1 (e2 addD (eC (.int 2)) (eBi minD (aL [(eBi lenD (aL [(eVar 0)])), (eC (.int 8))])))) ((sSeq (sSet 3 (eCall m__law_odd [(eVar 1)] []))
  (sSeq (sFor (.tp [(.nm 4), (.nm 5)]) (i1 walkD (eCall m__law_made [(eVar 3)] [])) ((sSeq (sIf (eOr (eNot (e1 (isX [("LotError", true), ("BadSchema", true), ("BadState", true), ("BadCame", true), ("BadSoft", true), ("BadRule", true), ("BadRing", true), ("HasRing", true), ("NotAlike", true), ("TooMany", true), ("NoKind", true), ("NoRow", true), ("NoField", true), ("BadValue", true), ("Stands", true), ("BadStatement", true), ("Missed", true), ("BadDeed", true), ("BadJournal", true), ("BadLine", true)]) (eVar 5))) (eNot (e1 (isX [("LotError", true), ("BadSchema", true), ("BadState", true), ("BadCame", true), ("BadSoft", true), ("BadRule", true), ("BadRing", true), ("HasRing", true), ("NotAlike", true), ("TooMany", true), ("NoKind", true), ("NoRow", true), ("NoField", true), ("BadValue", true), ("Stands", true), ("BadStatement", true), ("Missed", true), ("BadDeed", true), ("BadJournal", true), ("BadLine", true)]) (eVar 5)))) ((sRet (eC (.bl false)))) sNx)
  (sIf (eOr (e2 cNe (eCall m__law_marks [(eVar 5)] []) (eComp [7] (.nm 7) (eC (.bl true)) (e2 cEq (eVar 7) (eVar 4)) (iRange1 (eC (.int 19))))) (e2 cNe (eBi reprG (aL [(eCall m__law_told [(eVar 4), (eVar 5)] [])])) (eBi reprG (aL [(eVar 3)])))) ((sRet (eC (.bl false)))) sNx))))
  (sSeq (sSetO 6 (eLst [(eTup [(eC (.int 0)), (eC (.exc "BadCame" []))]), (eTup [(eC (.int 4)), (eC (.exc "BadRing" []))]), (eTup [(eC (.int 9)), (eC (.exc "BadStatement" []))]), (eTup [(eC (.int 10)), (eC (.exc "BadValue" []))])]))
  (sFrz 6 (sFor (.tp [(.nm 4), (.nm 5)]) (i1 walkD (e2 addL (eVar 6) (eLst [(eTup [(eC (.int 16)), (eC (.exc "NotAlike" []))])]))) ((sIf (eOr (eNot (e1 (isX [("LotError", true), ("BadSchema", true), ("BadState", true), ("BadCame", true), ("BadSoft", true), ("BadRule", true), ("BadRing", true), ("HasRing", true), ("NotAlike", true), ("TooMany", true), ("NoKind", true), ("NoRow", true), ("NoField", true), ("BadValue", true), ("Stands", true), ("BadStatement", true), ("Missed", true), ("BadDeed", true), ("BadJournal", true), ("BadLine", true)]) (eVar 5))) (e2 cNe (eCall m__law_marks [(eVar 5)] []) (eComp [7] (.nm 7) (eC (.bl true)) (e2 cEq (eVar 7) (eVar 4)) (iRange1 (eC (.int 19)))))) ((sRet (eC (.bl false)))) sNx)))))))))
  (sRet (eAnd (e2 cNotIn (eC (.bl true)) (eCall m__law_marks [(eC (.exc "LotError" []))] [])) (e1 (isX [("LotError", true), ("BadSchema", true), ("BadState", true), ("BadCame", true), ("BadSoft", true), ("BadRule", true), ("BadRing", true), ("HasRing", true), ("NotAlike", true), ("TooMany", true), ("NoKind", true), ("NoRow", true), ("NoField", true), ("BadValue", true), ("Stands", true), ("BadStatement", true), ("Missed", true), ("BadDeed", true), ("BadJournal", true), ("BadLine", true)]) (eC (.exc "LotError" []))))))
end K01
set_option Elab.async false
set_option linter.all false
set_option maxRecDepth 100000
set_option maxHeartbeats 4000000
namespace K01
open PySem L2 Dl
/-! ### the draw -/
theorem isDrw_0 (env : Dl.Env) : isDrw 0 (.sh .drw :: env) = true := rfl
theorem isDrw_1 (s : Dl.Slot) (env : Dl.Env) : isDrw 1 (s :: .sh .drw :: env) = true := rfl
theorem intD_int (i : Int) : intD [.int i] = some (.int i) := rfl
theorem gMul_r (i j : Int) (h1 : -(2 ^ 64) < j) (h2 : j < 2 ^ 64) : gMul (.int i) (.int j) = some (.int (i * j)) := by
  show (if _ then some _ else none) = _
  rw [if_pos]
  simp only [decide_eq_true h1, decide_eq_true h2, Bool.and_self, Bool.or_true]
theorem gMod_pos (i j : Int) (h : 0 < j) : gMod (.int i) (.int j) = some (.int (i % j)) := by
  show (if _ then some _ else none) = _
  rw [if_pos (decide_eq_true h)]
theorem gPow_ok (i : Int) (h1 : 0 ≤ i) (h2 : i < 2 ^ 64) : gPow (.int i) (.int 5) = some (.int (i ^ 5)) := by
  show (if _ then some _ else none) = _
  rw [if_pos]
  · rfl
  · have : i.natAbs < 2 ^ 64 := by omega
    simp only [decide_eq_true this]
    rfl
theorem w_take {n : Int} (h0 : 0 < n) (h1 : n < 1073741824) {w : Dr} (ok : DrOk w) {Q : D → Dr → Prop} (q : ∀ (k : Nat) w', (k : Int) < n → DrOk w' → Q (.int k) w') : W (m__law_take [.drw, .int n] w) Q := by
  have fin : ∀ w1 : Dr, DrOk w1 → Q (.int (w1.rest % n)) (w1.put .rest (w1.rest / n)) := by
    intro w1 ok1
    have e1 : 0 ≤ w1.rest % n := Int.emod_nonneg _ (by omega)
    have e2 : w1.rest % n < n := Int.emod_lt_of_pos _ h0
    have := q (w1.rest % n).toNat (w1.put .rest (w1.rest / n)) (by omega) ok1
    rwa [Int.toNat_of_nonneg e1] at this
  unfold m__law_take s__law_take
  by_cases hr : w.rest = 0
  · cases hl : w.large with
    | cons x xs =>
      simp only [W_some, W_none, Wd_some, Wd_none, Wd_if, W_if, Wd_map, W_eC, W_eVar, W_e1, W_e2, W_e3, W_eAnd, W_eOr, W_eNot, W_eIf, W_nil, W_cons, W_eApp, W_eBi, W_eCall, W_eTup, W_eLst, W_eMeth, W_eProp, W_eFld, W_i1, W_iRange1, W_eComp, W_eComp2, W_eDcN, W_eInN, W_eTmp, W_eP_none, W_eP_some, W_eSl, W_eLockC, W_eCallK, W_sNx, W_sBad, W_sSeq, W_sRet, W_sRetO, W_sDrop, W_sIf, W_sSet, W_sSetO, W_sPar, W_sAsg, W_sFor, W_sFrz, W_sApp, W_sExt, W_sPut, W_bodyD, W_bodyO, W_bodyI, W_sFldD, W_sAppPop, W_eDr, W_eDrC, W_eDrL, W_sDr, W_sDrPop, W_sDrDiv, asgP_nm, asgP_tup, asgP_ktp, asgPs_nil, asgPs_cons, wipeE_nil, wipeE_cons, setsE_cons, setsE_nil, env0, List.map_cons, List.map_nil, List.nil_append, List.cons_append, List.append_nil, List.length_cons, List.length_nil, List.getElem?_cons_zero, List.getElem?_cons_succ, List.set_cons_zero, List.set_cons_succ, List.replicate_succ, List.replicate_zero, Nat.reduceAdd, Nat.reduceSub, Nat.reduceMul, Option.some.injEq, Option.bind_some, Slot.sh.injEq, Slot.ow.injEq, D.bl.injEq, D.int.injEq, D.str.injEq, D.lst.injEq, D.dic.injEq, D.tup.injEq, D.obj.injEq, D.din.injEq, D.ktp.injEq, exists_eq_left', exists_eq_left, exists_eq, exists_and_left, exists_const, true_and, and_true, if_true, if_false, Bool.false_eq_true, reduceCtorEq, ite_true, ite_false, ↓reduceIte, Fl.nx.injEq, Fl.rt.injEq, Fl.ro.injEq, Bool.not_true, Bool.not_false, false_and, and_false, decide_true, decide_false, okD_str, cEq_str, cEq_int, cNe_str, cNe_int, cLe_int, cGt_int, lenD_str, lenD_lst, lenD_tup, lenD_ktp, lenD_dic, walkD_lst, walkD_tup, walkD_ktp, walkD_str, walkD_dic, valuesD_dic, itemsD_dic, ix_t0, ix_t1, ix_k0, ix_k1, keyOf_str, cIn_of, cNotIn_of, atom, cont, addD_int, isG_s_str, isG_s_tup, isG_s_ktp, isG_s_lst, isG_s_dic, isG_s_int, isG_s_bl, isG_s_non, isG_t_str, isG_t_tup, isG_t_ktp, isG_t_lst, isG_t_dic, isG_t_int, isG_t_bl, isG_t_non, isG_d_str, isG_d_tup, isG_d_ktp, isG_d_lst, isG_d_dic, isG_d_int, isG_d_bl, isG_d_non, isG_i_str, isG_i_tup, isG_i_ktp, isG_i_lst, isG_i_dic, isG_i_int, isG_i_bl, isG_i_non, isG_b_str, isG_b_tup, isG_b_ktp, isG_b_lst, isG_b_dic, isG_b_int, isG_b_bl, isG_b_non, isG_l_str, isG_l_tup, isG_l_ktp, isG_l_lst, isG_l_dic, isG_l_int, isG_l_bl, isG_l_non, isG_lt_str, isG_lt_tup, isG_lt_ktp, isG_lt_lst, isG_lt_dic, isG_lt_int, isG_lt_bl, isG_lt_non, W_aNil, W_aCons, W_aStar, W_eLstA, W_eTupA, W_jsD_nil, W_jsD_cons, W_eJs, W_eFm, W_eNeg, W_eEqO, W_sPutT, isOb_self, cIs_lst, cIs_nn, cIsNot_lst, cIsNot_nn, seqD_lst, seqD_tup, seqD_ktp, tupleP_l, W_xS, W_xE, W_sSeqX, W_sIfX, W_sRz1, W_sRz0, W_bodyX, W_eInO, W_eMethX, W_eMethK, W_eCallX, W_eLam, W_gA_ok, W_gA_ex, W_gB_ok, W_gB_ex, ro_cons, ro_nil, roS_sh, roS_ow, roS_un, isDrw_0, Dr.at, decide_eq_true hr, hl, ne_eq]
      refine ⟨_, _, rfl, ?_⟩
      exact ⟨⟨h0, h1⟩, fin { w with large := xs, rest := x } ok⟩
    | nil =>
      simp only [W_some, W_none, Wd_some, Wd_none, Wd_if, W_if, Wd_map, W_eC, W_eVar, W_e1, W_e2, W_e3, W_eAnd, W_eOr, W_eNot, W_eIf, W_nil, W_cons, W_eApp, W_eBi, W_eCall, W_eTup, W_eLst, W_eMeth, W_eProp, W_eFld, W_i1, W_iRange1, W_eComp, W_eComp2, W_eDcN, W_eInN, W_eTmp, W_eP_none, W_eP_some, W_eSl, W_eLockC, W_eCallK, W_sNx, W_sBad, W_sSeq, W_sRet, W_sRetO, W_sDrop, W_sIf, W_sSet, W_sSetO, W_sPar, W_sAsg, W_sFor, W_sFrz, W_sApp, W_sExt, W_sPut, W_bodyD, W_bodyO, W_bodyI, W_sFldD, W_sAppPop, W_eDr, W_eDrC, W_eDrL, W_sDr, W_sDrPop, W_sDrDiv, asgP_nm, asgP_tup, asgP_ktp, asgPs_nil, asgPs_cons, wipeE_nil, wipeE_cons, setsE_cons, setsE_nil, env0, List.map_cons, List.map_nil, List.nil_append, List.cons_append, List.append_nil, List.length_cons, List.length_nil, List.getElem?_cons_zero, List.getElem?_cons_succ, List.set_cons_zero, List.set_cons_succ, List.replicate_succ, List.replicate_zero, Nat.reduceAdd, Nat.reduceSub, Nat.reduceMul, Option.some.injEq, Option.bind_some, Slot.sh.injEq, Slot.ow.injEq, D.bl.injEq, D.int.injEq, D.str.injEq, D.lst.injEq, D.dic.injEq, D.tup.injEq, D.obj.injEq, D.din.injEq, D.ktp.injEq, exists_eq_left', exists_eq_left, exists_eq, exists_and_left, exists_const, true_and, and_true, if_true, if_false, Bool.false_eq_true, reduceCtorEq, ite_true, ite_false, ↓reduceIte, Fl.nx.injEq, Fl.rt.injEq, Fl.ro.injEq, Bool.not_true, Bool.not_false, false_and, and_false, decide_true, decide_false, okD_str, cEq_str, cEq_int, cNe_str, cNe_int, cLe_int, cGt_int, lenD_str, lenD_lst, lenD_tup, lenD_ktp, lenD_dic, walkD_lst, walkD_tup, walkD_ktp, walkD_str, walkD_dic, valuesD_dic, itemsD_dic, ix_t0, ix_t1, ix_k0, ix_k1, keyOf_str, cIn_of, cNotIn_of, atom, cont, addD_int, isG_s_str, isG_s_tup, isG_s_ktp, isG_s_lst, isG_s_dic, isG_s_int, isG_s_bl, isG_s_non, isG_t_str, isG_t_tup, isG_t_ktp, isG_t_lst, isG_t_dic, isG_t_int, isG_t_bl, isG_t_non, isG_d_str, isG_d_tup, isG_d_ktp, isG_d_lst, isG_d_dic, isG_d_int, isG_d_bl, isG_d_non, isG_i_str, isG_i_tup, isG_i_ktp, isG_i_lst, isG_i_dic, isG_i_int, isG_i_bl, isG_i_non, isG_b_str, isG_b_tup, isG_b_ktp, isG_b_lst, isG_b_dic, isG_b_int, isG_b_bl, isG_b_non, isG_l_str, isG_l_tup, isG_l_ktp, isG_l_lst, isG_l_dic, isG_l_int, isG_l_bl, isG_l_non, isG_lt_str, isG_lt_tup, isG_lt_ktp, isG_lt_lst, isG_lt_dic, isG_lt_int, isG_lt_bl, isG_lt_non, W_aNil, W_aCons, W_aStar, W_eLstA, W_eTupA, W_jsD_nil, W_jsD_cons, W_eJs, W_eFm, W_eNeg, W_eEqO, W_sPutT, isOb_self, cIs_lst, cIs_nn, cIsNot_lst, cIsNot_nn, seqD_lst, seqD_tup, seqD_ktp, tupleP_l, W_xS, W_xE, W_sSeqX, W_sIfX, W_sRz1, W_sRz0, W_bodyX, W_eInO, W_eMethX, W_eMethK, W_eCallX, W_eLam, W_gA_ok, W_gA_ex, W_gB_ok, W_gB_ex, ro_cons, ro_nil, roS_sh, roS_ow, roS_un, isDrw_0, Dr.at, decide_eq_true hr, hl, ne_eq, not_true, addL]
      refine ⟨?_, ?_⟩
      · show 1 + (w.cells.map D.int).length ≤ _
        rw [List.length_map, PySem.sizeLine_eq]
        have : w.cells.length ≤ 63 := ok
        omega
      refine W_for (enc := D.int) (P := fun pre env w' => ∃ j2, env = [.sh .drw, .sh (.int n), j2, .un] ∧ DrOk w' ∧ (pre = [] ∨ (0 ≤ w'.mix ∧ w'.mix < 2147483629))) ((w.turn + 1) :: w.cells) ⟨_, rfl, ok, .inl rfl⟩ (fun pre c post env w' el h => ?_) (fun env w' h => ?_)
      · obtain ⟨j2, rfl, ok', _⟩ := h
        simp only [W_some, W_none, Wd_some, Wd_none, Wd_if, W_if, Wd_map, W_eC, W_eVar, W_e1, W_e2, W_e3, W_eAnd, W_eOr, W_eNot, W_eIf, W_nil, W_cons, W_eApp, W_eBi, W_eCall, W_eTup, W_eLst, W_eMeth, W_eProp, W_eFld, W_i1, W_iRange1, W_eComp, W_eComp2, W_eDcN, W_eInN, W_eTmp, W_eP_none, W_eP_some, W_eSl, W_eLockC, W_eCallK, W_sNx, W_sBad, W_sSeq, W_sRet, W_sRetO, W_sDrop, W_sIf, W_sSet, W_sSetO, W_sPar, W_sAsg, W_sFor, W_sFrz, W_sApp, W_sExt, W_sPut, W_bodyD, W_bodyO, W_bodyI, W_sFldD, W_sAppPop, W_eDr, W_eDrC, W_eDrL, W_sDr, W_sDrPop, W_sDrDiv, asgP_nm, asgP_tup, asgP_ktp, asgPs_nil, asgPs_cons, wipeE_nil, wipeE_cons, setsE_cons, setsE_nil, env0, List.map_cons, List.map_nil, List.nil_append, List.cons_append, List.append_nil, List.length_cons, List.length_nil, List.getElem?_cons_zero, List.getElem?_cons_succ, List.set_cons_zero, List.set_cons_succ, List.replicate_succ, List.replicate_zero, Nat.reduceAdd, Nat.reduceSub, Nat.reduceMul, Option.some.injEq, Option.bind_some, Slot.sh.injEq, Slot.ow.injEq, D.bl.injEq, D.int.injEq, D.str.injEq, D.lst.injEq, D.dic.injEq, D.tup.injEq, D.obj.injEq, D.din.injEq, D.ktp.injEq, exists_eq_left', exists_eq_left, exists_eq, exists_and_left, exists_const, true_and, and_true, if_true, if_false, Bool.false_eq_true, reduceCtorEq, ite_true, ite_false, ↓reduceIte, Fl.nx.injEq, Fl.rt.injEq, Fl.ro.injEq, Bool.not_true, Bool.not_false, false_and, and_false, decide_true, decide_false, okD_str, cEq_str, cEq_int, cNe_str, cNe_int, cLe_int, cGt_int, lenD_str, lenD_lst, lenD_tup, lenD_ktp, lenD_dic, walkD_lst, walkD_tup, walkD_ktp, walkD_str, walkD_dic, valuesD_dic, itemsD_dic, ix_t0, ix_t1, ix_k0, ix_k1, keyOf_str, cIn_of, cNotIn_of, atom, cont, addD_int, isG_s_str, isG_s_tup, isG_s_ktp, isG_s_lst, isG_s_dic, isG_s_int, isG_s_bl, isG_s_non, isG_t_str, isG_t_tup, isG_t_ktp, isG_t_lst, isG_t_dic, isG_t_int, isG_t_bl, isG_t_non, isG_d_str, isG_d_tup, isG_d_ktp, isG_d_lst, isG_d_dic, isG_d_int, isG_d_bl, isG_d_non, isG_i_str, isG_i_tup, isG_i_ktp, isG_i_lst, isG_i_dic, isG_i_int, isG_i_bl, isG_i_non, isG_b_str, isG_b_tup, isG_b_ktp, isG_b_lst, isG_b_dic, isG_b_int, isG_b_bl, isG_b_non, isG_l_str, isG_l_tup, isG_l_ktp, isG_l_lst, isG_l_dic, isG_l_int, isG_l_bl, isG_l_non, isG_lt_str, isG_lt_tup, isG_lt_ktp, isG_lt_lst, isG_lt_dic, isG_lt_int, isG_lt_bl, isG_lt_non, W_aNil, W_aCons, W_aStar, W_eLstA, W_eTupA, W_jsD_nil, W_jsD_cons, W_eJs, W_eFm, W_eNeg, W_eEqO, W_sPutT, isOb_self, cIs_lst, cIs_nn, cIsNot_lst, cIsNot_nn, seqD_lst, seqD_tup, seqD_ktp, tupleP_l, W_xS, W_xE, W_sSeqX, W_sIfX, W_sRz1, W_sRz0, W_bodyX, W_eInO, W_eMethX, W_eMethK, W_eCallX, W_eLam, W_gA_ok, W_gA_ex, W_gB_ok, W_gB_ex, ro_cons, ro_nil, roS_sh, roS_ow, roS_un, isDrw_0, Dr.at, gMul_r _ 69621 (by decide) (by decide), gMul_r _ 48271 (by decide) (by decide), intD_int, gMod_pos _ 2147483629 (by decide)]
        refine ⟨_, .inl rfl, _, rfl, ok', .inr ⟨?_, ?_⟩⟩
        · exact Int.emod_nonneg _ (by decide)
        · exact Int.emod_lt_of_pos _ (by decide)
      · obtain ⟨j2, rfl, ok', hm⟩ := h
        have hm : 0 ≤ w'.mix ∧ w'.mix < 2147483629 := by
          rcases hm with hm | hm
          · cases hm
          · exact hm
        simp only [W_some, W_none, Wd_some, Wd_none, Wd_if, W_if, Wd_map, W_eC, W_eVar, W_e1, W_e2, W_e3, W_eAnd, W_eOr, W_eNot, W_eIf, W_nil, W_cons, W_eApp, W_eBi, W_eCall, W_eTup, W_eLst, W_eMeth, W_eProp, W_eFld, W_i1, W_iRange1, W_eComp, W_eComp2, W_eDcN, W_eInN, W_eTmp, W_eP_none, W_eP_some, W_eSl, W_eLockC, W_eCallK, W_sNx, W_sBad, W_sSeq, W_sRet, W_sRetO, W_sDrop, W_sIf, W_sSet, W_sSetO, W_sPar, W_sAsg, W_sFor, W_sFrz, W_sApp, W_sExt, W_sPut, W_bodyD, W_bodyO, W_bodyI, W_sFldD, W_sAppPop, W_eDr, W_eDrC, W_eDrL, W_sDr, W_sDrPop, W_sDrDiv, asgP_nm, asgP_tup, asgP_ktp, asgPs_nil, asgPs_cons, wipeE_nil, wipeE_cons, setsE_cons, setsE_nil, env0, List.map_cons, List.map_nil, List.nil_append, List.cons_append, List.append_nil, List.length_cons, List.length_nil, List.getElem?_cons_zero, List.getElem?_cons_succ, List.set_cons_zero, List.set_cons_succ, List.replicate_succ, List.replicate_zero, Nat.reduceAdd, Nat.reduceSub, Nat.reduceMul, Option.some.injEq, Option.bind_some, Slot.sh.injEq, Slot.ow.injEq, D.bl.injEq, D.int.injEq, D.str.injEq, D.lst.injEq, D.dic.injEq, D.tup.injEq, D.obj.injEq, D.din.injEq, D.ktp.injEq, exists_eq_left', exists_eq_left, exists_eq, exists_and_left, exists_const, true_and, and_true, if_true, if_false, Bool.false_eq_true, reduceCtorEq, ite_true, ite_false, ↓reduceIte, Fl.nx.injEq, Fl.rt.injEq, Fl.ro.injEq, Bool.not_true, Bool.not_false, false_and, and_false, decide_true, decide_false, okD_str, cEq_str, cEq_int, cNe_str, cNe_int, cLe_int, cGt_int, lenD_str, lenD_lst, lenD_tup, lenD_ktp, lenD_dic, walkD_lst, walkD_tup, walkD_ktp, walkD_str, walkD_dic, valuesD_dic, itemsD_dic, ix_t0, ix_t1, ix_k0, ix_k1, keyOf_str, cIn_of, cNotIn_of, atom, cont, addD_int, isG_s_str, isG_s_tup, isG_s_ktp, isG_s_lst, isG_s_dic, isG_s_int, isG_s_bl, isG_s_non, isG_t_str, isG_t_tup, isG_t_ktp, isG_t_lst, isG_t_dic, isG_t_int, isG_t_bl, isG_t_non, isG_d_str, isG_d_tup, isG_d_ktp, isG_d_lst, isG_d_dic, isG_d_int, isG_d_bl, isG_d_non, isG_i_str, isG_i_tup, isG_i_ktp, isG_i_lst, isG_i_dic, isG_i_int, isG_i_bl, isG_i_non, isG_b_str, isG_b_tup, isG_b_ktp, isG_b_lst, isG_b_dic, isG_b_int, isG_b_bl, isG_b_non, isG_l_str, isG_l_tup, isG_l_ktp, isG_l_lst, isG_l_dic, isG_l_int, isG_l_bl, isG_l_non, isG_lt_str, isG_lt_tup, isG_lt_ktp, isG_lt_lst, isG_lt_dic, isG_lt_int, isG_lt_bl, isG_lt_non, W_aNil, W_aCons, W_aStar, W_eLstA, W_eTupA, W_jsD_nil, W_jsD_cons, W_eJs, W_eFm, W_eNeg, W_eEqO, W_sPutT, isOb_self, cIs_lst, cIs_nn, cIsNot_lst, cIsNot_nn, seqD_lst, seqD_tup, seqD_ktp, tupleP_l, W_xS, W_xE, W_sSeqX, W_sIfX, W_sRz1, W_sRz0, W_bodyX, W_eInO, W_eMethX, W_eMethK, W_eCallX, W_eLam, W_gA_ok, W_gA_ex, W_gB_ok, W_gB_ex, ro_cons, ro_nil, roS_sh, roS_ow, roS_un, isDrw_0, Dr.at, gPow_ok _ hm.1 (by omega), intD_int, gMod_pos _ 2305843009213693951 (by decide)]
        exact ⟨⟨h0, h1⟩, fin (w'.put .rest _) ok'⟩
  · simp only [W_some, W_none, Wd_some, Wd_none, Wd_if, W_if, Wd_map, W_eC, W_eVar, W_e1, W_e2, W_e3, W_eAnd, W_eOr, W_eNot, W_eIf, W_nil, W_cons, W_eApp, W_eBi, W_eCall, W_eTup, W_eLst, W_eMeth, W_eProp, W_eFld, W_i1, W_iRange1, W_eComp, W_eComp2, W_eDcN, W_eInN, W_eTmp, W_eP_none, W_eP_some, W_eSl, W_eLockC, W_eCallK, W_sNx, W_sBad, W_sSeq, W_sRet, W_sRetO, W_sDrop, W_sIf, W_sSet, W_sSetO, W_sPar, W_sAsg, W_sFor, W_sFrz, W_sApp, W_sExt, W_sPut, W_bodyD, W_bodyO, W_bodyI, W_sFldD, W_sAppPop, W_eDr, W_eDrC, W_eDrL, W_sDr, W_sDrPop, W_sDrDiv, asgP_nm, asgP_tup, asgP_ktp, asgPs_nil, asgPs_cons, wipeE_nil, wipeE_cons, setsE_cons, setsE_nil, env0, List.map_cons, List.map_nil, List.nil_append, List.cons_append, List.append_nil, List.length_cons, List.length_nil, List.getElem?_cons_zero, List.getElem?_cons_succ, List.set_cons_zero, List.set_cons_succ, List.replicate_succ, List.replicate_zero, Nat.reduceAdd, Nat.reduceSub, Nat.reduceMul, Option.some.injEq, Option.bind_some, Slot.sh.injEq, Slot.ow.injEq, D.bl.injEq, D.int.injEq, D.str.injEq, D.lst.injEq, D.dic.injEq, D.tup.injEq, D.obj.injEq, D.din.injEq, D.ktp.injEq, exists_eq_left', exists_eq_left, exists_eq, exists_and_left, exists_const, true_and, and_true, if_true, if_false, Bool.false_eq_true, reduceCtorEq, ite_true, ite_false, ↓reduceIte, Fl.nx.injEq, Fl.rt.injEq, Fl.ro.injEq, Bool.not_true, Bool.not_false, false_and, and_false, decide_true, decide_false, okD_str, cEq_str, cEq_int, cNe_str, cNe_int, cLe_int, cGt_int, lenD_str, lenD_lst, lenD_tup, lenD_ktp, lenD_dic, walkD_lst, walkD_tup, walkD_ktp, walkD_str, walkD_dic, valuesD_dic, itemsD_dic, ix_t0, ix_t1, ix_k0, ix_k1, keyOf_str, cIn_of, cNotIn_of, atom, cont, addD_int, isG_s_str, isG_s_tup, isG_s_ktp, isG_s_lst, isG_s_dic, isG_s_int, isG_s_bl, isG_s_non, isG_t_str, isG_t_tup, isG_t_ktp, isG_t_lst, isG_t_dic, isG_t_int, isG_t_bl, isG_t_non, isG_d_str, isG_d_tup, isG_d_ktp, isG_d_lst, isG_d_dic, isG_d_int, isG_d_bl, isG_d_non, isG_i_str, isG_i_tup, isG_i_ktp, isG_i_lst, isG_i_dic, isG_i_int, isG_i_bl, isG_i_non, isG_b_str, isG_b_tup, isG_b_ktp, isG_b_lst, isG_b_dic, isG_b_int, isG_b_bl, isG_b_non, isG_l_str, isG_l_tup, isG_l_ktp, isG_l_lst, isG_l_dic, isG_l_int, isG_l_bl, isG_l_non, isG_lt_str, isG_lt_tup, isG_lt_ktp, isG_lt_lst, isG_lt_dic, isG_lt_int, isG_lt_bl, isG_lt_non, W_aNil, W_aCons, W_aStar, W_eLstA, W_eTupA, W_jsD_nil, W_jsD_cons, W_eJs, W_eFm, W_eNeg, W_eEqO, W_sPutT, isOb_self, cIs_lst, cIs_nn, cIsNot_lst, cIsNot_nn, seqD_lst, seqD_tup, seqD_ktp, tupleP_l, W_xS, W_xE, W_sSeqX, W_sIfX, W_sRz1, W_sRz0, W_bodyX, W_eInO, W_eMethX, W_eMethK, W_eCallX, W_eLam, W_gA_ok, W_gA_ex, W_gB_ok, W_gB_ex, ro_cons, ro_nil, roS_sh, roS_ow, roS_un, isDrw_0, Dr.at, decide_eq_false hr]
    exact ⟨⟨h0, h1⟩, fin w ok⟩
theorem atI_nat {α : Type} (l : List α) (k : Nat) (h : k < l.length) : L2.atI l (k : Int) = some l[k] := by
  unfold L2.atI L2.ixN
  rw [if_pos (by omega), if_pos (by omega)]
  simp [h]
theorem w_pick {α : Type} {enc : α → D} (l : List α) (hn : l ≠ []) (hl : l.length < 1000000) {w : Dr} (ok : DrOk w) {Q : D → Dr → Prop} (q : ∀ a ∈ l, ∀ w', DrOk w' → Q (enc a) w') : W (m__law_pick [.drw, .lst (l.map enc)] w) Q := by
  unfold m__law_pick s__law_pick
  have h0 : 0 < l.length := List.length_pos_iff.mpr hn
  simp only [W_some, W_none, Wd_some, Wd_none, Wd_if, W_if, Wd_map, W_eC, W_eVar, W_e1, W_e2, W_e3, W_eAnd, W_eOr, W_eNot, W_eIf, W_nil, W_cons, W_eApp, W_eBi, W_eCall, W_eTup, W_eLst, W_eMeth, W_eProp, W_eFld, W_i1, W_iRange1, W_eComp, W_eComp2, W_eDcN, W_eInN, W_eTmp, W_eP_none, W_eP_some, W_eSl, W_eLockC, W_eCallK, W_sNx, W_sBad, W_sSeq, W_sRet, W_sRetO, W_sDrop, W_sIf, W_sSet, W_sSetO, W_sPar, W_sAsg, W_sFor, W_sFrz, W_sApp, W_sExt, W_sPut, W_bodyD, W_bodyO, W_bodyI, W_sFldD, W_sAppPop, W_eDr, W_eDrC, W_eDrL, W_sDr, W_sDrPop, W_sDrDiv, asgP_nm, asgP_tup, asgP_ktp, asgPs_nil, asgPs_cons, wipeE_nil, wipeE_cons, setsE_cons, setsE_nil, env0, List.map_cons, List.map_nil, List.nil_append, List.cons_append, List.append_nil, List.length_cons, List.length_nil, List.getElem?_cons_zero, List.getElem?_cons_succ, List.set_cons_zero, List.set_cons_succ, List.replicate_succ, List.replicate_zero, Nat.reduceAdd, Nat.reduceSub, Nat.reduceMul, Option.some.injEq, Option.bind_some, Slot.sh.injEq, Slot.ow.injEq, D.bl.injEq, D.int.injEq, D.str.injEq, D.lst.injEq, D.dic.injEq, D.tup.injEq, D.obj.injEq, D.din.injEq, D.ktp.injEq, exists_eq_left', exists_eq_left, exists_eq, exists_and_left, exists_const, true_and, and_true, if_true, if_false, Bool.false_eq_true, reduceCtorEq, ite_true, ite_false, ↓reduceIte, Fl.nx.injEq, Fl.rt.injEq, Fl.ro.injEq, Bool.not_true, Bool.not_false, false_and, and_false, decide_true, decide_false, okD_str, cEq_str, cEq_int, cNe_str, cNe_int, cLe_int, cGt_int, lenD_str, lenD_lst, lenD_tup, lenD_ktp, lenD_dic, walkD_lst, walkD_tup, walkD_ktp, walkD_str, walkD_dic, valuesD_dic, itemsD_dic, ix_t0, ix_t1, ix_k0, ix_k1, keyOf_str, cIn_of, cNotIn_of, atom, cont, addD_int, isG_s_str, isG_s_tup, isG_s_ktp, isG_s_lst, isG_s_dic, isG_s_int, isG_s_bl, isG_s_non, isG_t_str, isG_t_tup, isG_t_ktp, isG_t_lst, isG_t_dic, isG_t_int, isG_t_bl, isG_t_non, isG_d_str, isG_d_tup, isG_d_ktp, isG_d_lst, isG_d_dic, isG_d_int, isG_d_bl, isG_d_non, isG_i_str, isG_i_tup, isG_i_ktp, isG_i_lst, isG_i_dic, isG_i_int, isG_i_bl, isG_i_non, isG_b_str, isG_b_tup, isG_b_ktp, isG_b_lst, isG_b_dic, isG_b_int, isG_b_bl, isG_b_non, isG_l_str, isG_l_tup, isG_l_ktp, isG_l_lst, isG_l_dic, isG_l_int, isG_l_bl, isG_l_non, isG_lt_str, isG_lt_tup, isG_lt_ktp, isG_lt_lst, isG_lt_dic, isG_lt_int, isG_lt_bl, isG_lt_non, W_aNil, W_aCons, W_aStar, W_eLstA, W_eTupA, W_jsD_nil, W_jsD_cons, W_eJs, W_eFm, W_eNeg, W_eEqO, W_sPutT, isOb_self, cIs_lst, cIs_nn, cIsNot_lst, cIsNot_nn, seqD_lst, seqD_tup, seqD_ktp, tupleP_l, W_xS, W_xE, W_sSeqX, W_sIfX, W_sRz1, W_sRz0, W_bodyX, W_eInO, W_eMethX, W_eMethK, W_eCallX, W_eLam, W_gA_ok, W_gA_ex, W_gB_ok, W_gB_ex, ro_cons, ro_nil, roS_sh, roS_ow, roS_un, List.length_map]
  refine w_take (by omega) (by omega) ok fun k w' hk ok' => ?_
  have hk : k < (l.map enc).length := by rw [List.length_map]; omega
  have e : ixD (.lst (l.map enc)) (.int k) = some (l.map enc)[k] := atI_nat _ _ hk
  simp only [W_some, W_none, Wd_some, Wd_none, Wd_if, W_if, Wd_map, W_eC, W_eVar, W_e1, W_e2, W_e3, W_eAnd, W_eOr, W_eNot, W_eIf, W_nil, W_cons, W_eApp, W_eBi, W_eCall, W_eTup, W_eLst, W_eMeth, W_eProp, W_eFld, W_i1, W_iRange1, W_eComp, W_eComp2, W_eDcN, W_eInN, W_eTmp, W_eP_none, W_eP_some, W_eSl, W_eLockC, W_eCallK, W_sNx, W_sBad, W_sSeq, W_sRet, W_sRetO, W_sDrop, W_sIf, W_sSet, W_sSetO, W_sPar, W_sAsg, W_sFor, W_sFrz, W_sApp, W_sExt, W_sPut, W_bodyD, W_bodyO, W_bodyI, W_sFldD, W_sAppPop, W_eDr, W_eDrC, W_eDrL, W_sDr, W_sDrPop, W_sDrDiv, asgP_nm, asgP_tup, asgP_ktp, asgPs_nil, asgPs_cons, wipeE_nil, wipeE_cons, setsE_cons, setsE_nil, env0, List.map_cons, List.map_nil, List.nil_append, List.cons_append, List.append_nil, List.length_cons, List.length_nil, List.getElem?_cons_zero, List.getElem?_cons_succ, List.set_cons_zero, List.set_cons_succ, List.replicate_succ, List.replicate_zero, Nat.reduceAdd, Nat.reduceSub, Nat.reduceMul, Option.some.injEq, Option.bind_some, Slot.sh.injEq, Slot.ow.injEq, D.bl.injEq, D.int.injEq, D.str.injEq, D.lst.injEq, D.dic.injEq, D.tup.injEq, D.obj.injEq, D.din.injEq, D.ktp.injEq, exists_eq_left', exists_eq_left, exists_eq, exists_and_left, exists_const, true_and, and_true, if_true, if_false, Bool.false_eq_true, reduceCtorEq, ite_true, ite_false, ↓reduceIte, Fl.nx.injEq, Fl.rt.injEq, Fl.ro.injEq, Bool.not_true, Bool.not_false, false_and, and_false, decide_true, decide_false, okD_str, cEq_str, cEq_int, cNe_str, cNe_int, cLe_int, cGt_int, lenD_str, lenD_lst, lenD_tup, lenD_ktp, lenD_dic, walkD_lst, walkD_tup, walkD_ktp, walkD_str, walkD_dic, valuesD_dic, itemsD_dic, ix_t0, ix_t1, ix_k0, ix_k1, keyOf_str, cIn_of, cNotIn_of, atom, cont, addD_int, isG_s_str, isG_s_tup, isG_s_ktp, isG_s_lst, isG_s_dic, isG_s_int, isG_s_bl, isG_s_non, isG_t_str, isG_t_tup, isG_t_ktp, isG_t_lst, isG_t_dic, isG_t_int, isG_t_bl, isG_t_non, isG_d_str, isG_d_tup, isG_d_ktp, isG_d_lst, isG_d_dic, isG_d_int, isG_d_bl, isG_d_non, isG_i_str, isG_i_tup, isG_i_ktp, isG_i_lst, isG_i_dic, isG_i_int, isG_i_bl, isG_i_non, isG_b_str, isG_b_tup, isG_b_ktp, isG_b_lst, isG_b_dic, isG_b_int, isG_b_bl, isG_b_non, isG_l_str, isG_l_tup, isG_l_ktp, isG_l_lst, isG_l_dic, isG_l_int, isG_l_bl, isG_l_non, isG_lt_str, isG_lt_tup, isG_lt_ktp, isG_lt_lst, isG_lt_dic, isG_lt_int, isG_lt_bl, isG_lt_non, W_aNil, W_aCons, W_aStar, W_eLstA, W_eTupA, W_jsD_nil, W_jsD_cons, W_eJs, W_eFm, W_eNeg, W_eEqO, W_sPutT, isOb_self, cIs_lst, cIs_nn, cIsNot_lst, cIsNot_nn, seqD_lst, seqD_tup, seqD_ktp, tupleP_l, W_xS, W_xE, W_sSeqX, W_sIfX, W_sRz1, W_sRz0, W_bodyX, W_eInO, W_eMethX, W_eMethK, W_eCallX, W_eLam, W_gA_ok, W_gA_ex, W_gB_ok, W_gB_ex, ro_cons, ro_nil, roS_sh, roS_ow, roS_un, e, List.getElem_map]
  exact q _ (List.getElem_mem _) w' ok'
end K01
set_option Elab.async false
set_option linter.all false
set_option maxRecDepth 100000
set_option maxHeartbeats 4000000
namespace K01
open PySem L2 Dl
def oddL : List D := [.non, .bl true, .bl false, .int 0, .int 1, .int (-1), .int 999, .int 1000, .int 1000000000, .int 100000000000000000000000000000, .str "", .str "a", .str "A", .str "abcdefg", .str "a b", .tup [], .lst [], .dic [], .tup [.str "a"], .lst [.str "a"], .dic [(.str "a", .int 1)], .dic [(.int 1, .dic [])], .tup [.str "must", .str "a"], .str "put", .str "needs"]
theorem w_odd {w : Dr} (ok : DrOk w) {Q : D → Dr → Prop} (q : ∀ d ∈ oddL, ∀ w', DrOk w' → Q d w') : W (m__law_odd [.drw] w) Q := by
  unfold m__law_odd s__law_odd
  have g1 : gPow (.int 10) (.int 9) = some (.int 1000000000) := by first | rfl | (unfold gPow gI; rw [if_pos (by decide)]; rfl)
  have g2 : gPow (.int 10) (.int 29) = some (.int 100000000000000000000000000000) := by first | rfl | (unfold gPow gI; rw [if_pos (by decide)]; rfl)
  have ki : keyOf (.int 1) = some (.inl 1) := rfl
  simp only [W_some, W_none, Wd_some, Wd_none, Wd_if, W_if, Wd_map, W_eC, W_eVar, W_e1, W_e2, W_e3, W_eAnd, W_eOr, W_eNot, W_eIf, W_nil, W_cons, W_eApp, W_eBi, W_eCall, W_eTup, W_eLst, W_eMeth, W_eProp, W_eFld, W_i1, W_iRange1, W_eComp, W_eComp2, W_eDcN, W_eInN, W_eTmp, W_eP_none, W_eP_some, W_eSl, W_eLockC, W_eCallK, W_sNx, W_sBad, W_sSeq, W_sRet, W_sRetO, W_sDrop, W_sIf, W_sSet, W_sSetO, W_sPar, W_sAsg, W_sFor, W_sFrz, W_sApp, W_sExt, W_sPut, W_bodyD, W_bodyO, W_bodyI, W_sFldD, W_sAppPop, W_eDr, W_eDrC, W_eDrL, W_sDr, W_sDrPop, W_sDrDiv, asgP_nm, asgP_tup, asgP_ktp, asgPs_nil, asgPs_cons, wipeE_nil, wipeE_cons, setsE_cons, setsE_nil, env0, List.map_cons, List.map_nil, List.nil_append, List.cons_append, List.append_nil, List.length_cons, List.length_nil, List.getElem?_cons_zero, List.getElem?_cons_succ, List.set_cons_zero, List.set_cons_succ, List.replicate_succ, List.replicate_zero, Nat.reduceAdd, Nat.reduceSub, Nat.reduceMul, Option.some.injEq, Option.bind_some, Slot.sh.injEq, Slot.ow.injEq, D.bl.injEq, D.int.injEq, D.str.injEq, D.lst.injEq, D.dic.injEq, D.tup.injEq, D.obj.injEq, D.din.injEq, D.ktp.injEq, exists_eq_left', exists_eq_left, exists_eq, exists_and_left, exists_const, true_and, and_true, if_true, if_false, Bool.false_eq_true, reduceCtorEq, ite_true, ite_false, ↓reduceIte, Fl.nx.injEq, Fl.rt.injEq, Fl.ro.injEq, Bool.not_true, Bool.not_false, false_and, and_false, decide_true, decide_false, okD_str, cEq_str, cEq_int, cNe_str, cNe_int, cLe_int, cGt_int, lenD_str, lenD_lst, lenD_tup, lenD_ktp, lenD_dic, walkD_lst, walkD_tup, walkD_ktp, walkD_str, walkD_dic, valuesD_dic, itemsD_dic, ix_t0, ix_t1, ix_k0, ix_k1, keyOf_str, cIn_of, cNotIn_of, atom, cont, addD_int, isG_s_str, isG_s_tup, isG_s_ktp, isG_s_lst, isG_s_dic, isG_s_int, isG_s_bl, isG_s_non, isG_t_str, isG_t_tup, isG_t_ktp, isG_t_lst, isG_t_dic, isG_t_int, isG_t_bl, isG_t_non, isG_d_str, isG_d_tup, isG_d_ktp, isG_d_lst, isG_d_dic, isG_d_int, isG_d_bl, isG_d_non, isG_i_str, isG_i_tup, isG_i_ktp, isG_i_lst, isG_i_dic, isG_i_int, isG_i_bl, isG_i_non, isG_b_str, isG_b_tup, isG_b_ktp, isG_b_lst, isG_b_dic, isG_b_int, isG_b_bl, isG_b_non, isG_l_str, isG_l_tup, isG_l_ktp, isG_l_lst, isG_l_dic, isG_l_int, isG_l_bl, isG_l_non, isG_lt_str, isG_lt_tup, isG_lt_ktp, isG_lt_lst, isG_lt_dic, isG_lt_int, isG_lt_bl, isG_lt_non, W_aNil, W_aCons, W_aStar, W_eLstA, W_eTupA, W_jsD_nil, W_jsD_cons, W_eJs, W_eFm, W_eNeg, W_eEqO, W_sPutT, isOb_self, cIs_lst, cIs_nn, cIsNot_lst, cIsNot_nn, seqD_lst, seqD_tup, seqD_ktp, tupleP_l, W_xS, W_xE, W_sSeqX, W_sIfX, W_sRz1, W_sRz0, W_bodyX, W_eInO, W_eMethX, W_eMethK, W_eCallX, W_eLam, W_gA_ok, W_gA_ex, W_gB_ok, W_gB_ex, ro_cons, ro_nil, roS_sh, roS_ow, roS_un, W_eDct1, W_sFrzE, W_eCallX1, W_eCallKX, g1, g2, addL, ki]
  refine ⟨by decide, ?_⟩
  have := w_pick (enc := fun d : D => d) oddL (by decide) (by decide) ok q
  rw [List.map_id'] at this
  exact this
/-- what is done with one value -/
def tailS : S := (sSeq (sFor (.tp [(.nm 4), (.nm 5)]) (i1 walkD (eCall m__law_made [(eVar 3)] [])) ((sSeq (sIf (eOr (eNot (e1 (isX [("LotError", true), ("BadSchema", true), ("BadState", true), ("BadCame", true), ("BadSoft", true), ("BadRule", true), ("BadRing", true), ("HasRing", true), ("NotAlike", true), ("TooMany", true), ("NoKind", true), ("NoRow", true), ("NoField", true), ("BadValue", true), ("Stands", true), ("BadStatement", true), ("Missed", true), ("BadDeed", true), ("BadJournal", true), ("BadLine", true)]) (eVar 5))) (eNot (e1 (isX [("LotError", true), ("BadSchema", true), ("BadState", true), ("BadCame", true), ("BadSoft", true), ("BadRule", true), ("BadRing", true), ("HasRing", true), ("NotAlike", true), ("TooMany", true), ("NoKind", true), ("NoRow", true), ("NoField", true), ("BadValue", true), ("Stands", true), ("BadStatement", true), ("Missed", true), ("BadDeed", true), ("BadJournal", true), ("BadLine", true)]) (eVar 5)))) ((sRet (eC (.bl false)))) sNx)
  (sIf (eOr (e2 cNe (eCall m__law_marks [(eVar 5)] []) (eComp [7] (.nm 7) (eC (.bl true)) (e2 cEq (eVar 7) (eVar 4)) (iRange1 (eC (.int 19))))) (e2 cNe (eBi reprG (aL [(eCall m__law_told [(eVar 4), (eVar 5)] [])])) (eBi reprG (aL [(eVar 3)])))) ((sRet (eC (.bl false)))) sNx))))
  (sSeq (sSetO 6 (eLst [(eTup [(eC (.int 0)), (eC (.exc "BadCame" []))]), (eTup [(eC (.int 4)), (eC (.exc "BadRing" []))]), (eTup [(eC (.int 9)), (eC (.exc "BadStatement" []))]), (eTup [(eC (.int 10)), (eC (.exc "BadValue" []))])]))
  (sFrz 6 (sFor (.tp [(.nm 4), (.nm 5)]) (i1 walkD (e2 addL (eVar 6) (eLst [(eTup [(eC (.int 16)), (eC (.exc "NotAlike" []))])]))) ((sIf (eOr (eNot (e1 (isX [("LotError", true), ("BadSchema", true), ("BadState", true), ("BadCame", true), ("BadSoft", true), ("BadRule", true), ("BadRing", true), ("HasRing", true), ("NotAlike", true), ("TooMany", true), ("NoKind", true), ("NoRow", true), ("NoField", true), ("BadValue", true), ("Stands", true), ("BadStatement", true), ("Missed", true), ("BadDeed", true), ("BadJournal", true), ("BadLine", true)]) (eVar 5))) (e2 cNe (eCall m__law_marks [(eVar 5)] []) (eComp [7] (.nm 7) (eC (.bl true)) (e2 cEq (eVar 7) (eVar 4)) (iRange1 (eC (.int 19)))))) ((sRet (eC (.bl false)))) sNx))))))
def fourD : D := .lst [.tup [.int 0, .exc "BadCame" []], .tup [.int 4, .exc "BadRing" []], .tup [.int 9, .exc "BadStatement" []], .tup [.int 10, .exc "BadValue" []]]
def tailOk (d : D) : Prop := ∀ (sd i : D) (j4 j5 j6 j7 : Dl.Slot) (w : Dr), tailS [.sh sd, .sh .drw, .sh i, .sh d, j4, j5, j6, j7] w = some (.nx [.sh sd, .sh .drw, .sh i, .sh d, .sh (.int 16), .sh (.exc "NotAlike" []), .sh fourD, j7], w)
theorem tail_0 : tailOk (.non) := fun sd i j4 j5 j6 j7 w => by kernel_rfl
theorem tail_1 : tailOk (.bl true) := fun sd i j4 j5 j6 j7 w => by kernel_rfl
theorem tail_2 : tailOk (.bl false) := fun sd i j4 j5 j6 j7 w => by kernel_rfl
theorem tail_3 : tailOk (.int 0) := fun sd i j4 j5 j6 j7 w => by kernel_rfl
theorem tail_4 : tailOk (.int 1) := fun sd i j4 j5 j6 j7 w => by kernel_rfl
theorem tail_5 : tailOk (.int (-1)) := fun sd i j4 j5 j6 j7 w => by kernel_rfl
theorem tail_6 : tailOk (.int 999) := fun sd i j4 j5 j6 j7 w => by kernel_rfl
theorem tail_7 : tailOk (.int 1000) := fun sd i j4 j5 j6 j7 w => by kernel_rfl
theorem tail_8 : tailOk (.int 1000000000) := fun sd i j4 j5 j6 j7 w => by kernel_rfl
theorem tail_9 : tailOk (.int 100000000000000000000000000000) := fun sd i j4 j5 j6 j7 w => by kernel_rfl
theorem tail_10 : tailOk (.str "") := fun sd i j4 j5 j6 j7 w => by kernel_rfl
theorem tail_11 : tailOk (.str "a") := fun sd i j4 j5 j6 j7 w => by kernel_rfl
theorem tail_12 : tailOk (.str "A") := fun sd i j4 j5 j6 j7 w => by kernel_rfl
theorem tail_13 : tailOk (.str "abcdefg") := fun sd i j4 j5 j6 j7 w => by kernel_rfl
theorem tail_14 : tailOk (.str "a b") := fun sd i j4 j5 j6 j7 w => by kernel_rfl
theorem tail_15 : tailOk (.tup []) := fun sd i j4 j5 j6 j7 w => by kernel_rfl
theorem tail_16 : tailOk (.lst []) := fun sd i j4 j5 j6 j7 w => by kernel_rfl
theorem tail_17 : tailOk (.dic []) := fun sd i j4 j5 j6 j7 w => by kernel_rfl
theorem tail_18 : tailOk (.tup [.str "a"]) := fun sd i j4 j5 j6 j7 w => by kernel_rfl
theorem tail_19 : tailOk (.lst [.str "a"]) := fun sd i j4 j5 j6 j7 w => by kernel_rfl
theorem tail_20 : tailOk (.dic [(.str "a", .int 1)]) := fun sd i j4 j5 j6 j7 w => by kernel_rfl
theorem tail_21 : tailOk (.dic [(.int 1, .dic [])]) := fun sd i j4 j5 j6 j7 w => by kernel_rfl
theorem tail_22 : tailOk (.tup [.str "must", .str "a"]) := fun sd i j4 j5 j6 j7 w => by kernel_rfl
theorem tail_23 : tailOk (.str "put") := fun sd i j4 j5 j6 j7 w => by kernel_rfl
theorem tail_24 : tailOk (.str "needs") := fun sd i j4 j5 j6 j7 w => by kernel_rfl
theorem tails : ∀ d ∈ oddL, tailOk d := List.forall_mem_cons.mpr ⟨tail_0, List.forall_mem_cons.mpr ⟨tail_1, List.forall_mem_cons.mpr ⟨tail_2, List.forall_mem_cons.mpr ⟨tail_3, List.forall_mem_cons.mpr ⟨tail_4, List.forall_mem_cons.mpr ⟨tail_5, List.forall_mem_cons.mpr ⟨tail_6, List.forall_mem_cons.mpr ⟨tail_7, List.forall_mem_cons.mpr ⟨tail_8, List.forall_mem_cons.mpr ⟨tail_9, List.forall_mem_cons.mpr ⟨tail_10, List.forall_mem_cons.mpr ⟨tail_11, List.forall_mem_cons.mpr ⟨tail_12, List.forall_mem_cons.mpr ⟨tail_13, List.forall_mem_cons.mpr ⟨tail_14, List.forall_mem_cons.mpr ⟨tail_15, List.forall_mem_cons.mpr ⟨tail_16, List.forall_mem_cons.mpr ⟨tail_17, List.forall_mem_cons.mpr ⟨tail_18, List.forall_mem_cons.mpr ⟨tail_19, List.forall_mem_cons.mpr ⟨tail_20, List.forall_mem_cons.mpr ⟨tail_21, List.forall_mem_cons.mpr ⟨tail_22, List.forall_mem_cons.mpr ⟨tail_23, List.forall_mem_cons.mpr ⟨tail_24, List.forall_mem_nil _⟩⟩⟩⟩⟩⟩⟩⟩⟩⟩⟩⟩⟩⟩⟩⟩⟩⟩⟩⟩⟩⟩⟩⟩⟩
theorem end_ok (e : Dl.Env) (w : Dr) : (sRet (eAnd (e2 cNotIn (eC (.bl true)) (eCall m__law_marks [(eC (.exc "LotError" []))] [])) (e1 (isX [("LotError", true), ("BadSchema", true), ("BadState", true), ("BadCame", true), ("BadSoft", true), ("BadRule", true), ("BadRing", true), ("HasRing", true), ("NotAlike", true), ("TooMany", true), ("NoKind", true), ("NoRow", true), ("NoField", true), ("BadValue", true), ("Stands", true), ("BadStatement", true), ("Missed", true), ("BadDeed", true), ("BadJournal", true), ("BadLine", true)]) (eC (.exc "LotError" []))))) e w = some (.rt (.bl true), w) := by kernel_rfl
theorem law_true (ns : List Int) (hns : ns.length ≤ 63) (sd : D) (hsd : sd = D.lst (ns.map .int) ∨ sd = D.klt (ns.map .int)) : ∃ w, s_law (.sh sd :: .sh .drw :: List.replicate 6 .un) ⟨bigOf ns, ns, 0, 0, 7⟩ = some (.rt (.bl true), w) := by
  have e1 : lenD [sd] = some (.int ns.length) := by
    rcases hsd with rfl | rfl
    · show some (D.int (ns.map D.int).length) = _; rw [List.length_map]
    · show some (D.int (ns.map D.int).length) = _; rw [List.length_map]
  have e2' : minD [.int ns.length, .int 8] = some (.int (if (8 : Int) < ns.length then 8 else ns.length)) := rfl
  suffices h : W (s_law (.sh sd :: .sh .drw :: List.replicate 6 .un) ⟨bigOf ns, ns, 0, 0, 7⟩) fun fl _ => fl = .rt (.bl true) by
    obtain ⟨_, w, e, rfl⟩ := h
    exact ⟨w, e⟩
  have ok0 : DrOk ⟨bigOf ns, ns, 0, 0, 7⟩ := hns
  unfold s_law
  refine W_seq (R := fun env w => True) ?_ (fun env w _ => ⟨_, w, end_ok env w, rfl⟩)
  rw [W_sFor]
  simp only [W_some, W_none, Wd_some, Wd_none, Wd_if, W_if, Wd_map, W_eC, W_eVar, W_e1, W_e2, W_e3, W_eAnd, W_eOr, W_eNot, W_eIf, W_nil, W_cons, W_eApp, W_eBi, W_eCall, W_eTup, W_eLst, W_eMeth, W_eProp, W_eFld, W_i1, W_iRange1, W_eComp, W_eComp2, W_eDcN, W_eInN, W_eTmp, W_eP_none, W_eP_some, W_eSl, W_eLockC, W_eCallK, W_sNx, W_sBad, W_sSeq, W_sRet, W_sRetO, W_sDrop, W_sIf, W_sSet, W_sSetO, W_sPar, W_sAsg, W_sFor, W_sFrz, W_sApp, W_sExt, W_sPut, W_bodyD, W_bodyO, W_bodyI, W_sFldD, W_sAppPop, W_eDr, W_eDrC, W_eDrL, W_sDr, W_sDrPop, W_sDrDiv, asgP_nm, asgP_tup, asgP_ktp, asgPs_nil, asgPs_cons, wipeE_nil, wipeE_cons, setsE_cons, setsE_nil, env0, List.map_cons, List.map_nil, List.nil_append, List.cons_append, List.append_nil, List.length_cons, List.length_nil, List.getElem?_cons_zero, List.getElem?_cons_succ, List.set_cons_zero, List.set_cons_succ, List.replicate_succ, List.replicate_zero, Nat.reduceAdd, Nat.reduceSub, Nat.reduceMul, Option.some.injEq, Option.bind_some, Slot.sh.injEq, Slot.ow.injEq, D.bl.injEq, D.int.injEq, D.str.injEq, D.lst.injEq, D.dic.injEq, D.tup.injEq, D.obj.injEq, D.din.injEq, D.ktp.injEq, exists_eq_left', exists_eq_left, exists_eq, exists_and_left, exists_const, true_and, and_true, if_true, if_false, Bool.false_eq_true, reduceCtorEq, ite_true, ite_false, ↓reduceIte, Fl.nx.injEq, Fl.rt.injEq, Fl.ro.injEq, Bool.not_true, Bool.not_false, false_and, and_false, decide_true, decide_false, okD_str, cEq_str, cEq_int, cNe_str, cNe_int, cLe_int, cGt_int, lenD_str, lenD_lst, lenD_tup, lenD_ktp, lenD_dic, walkD_lst, walkD_tup, walkD_ktp, walkD_str, walkD_dic, valuesD_dic, itemsD_dic, ix_t0, ix_t1, ix_k0, ix_k1, keyOf_str, cIn_of, cNotIn_of, atom, cont, addD_int, isG_s_str, isG_s_tup, isG_s_ktp, isG_s_lst, isG_s_dic, isG_s_int, isG_s_bl, isG_s_non, isG_t_str, isG_t_tup, isG_t_ktp, isG_t_lst, isG_t_dic, isG_t_int, isG_t_bl, isG_t_non, isG_d_str, isG_d_tup, isG_d_ktp, isG_d_lst, isG_d_dic, isG_d_int, isG_d_bl, isG_d_non, isG_i_str, isG_i_tup, isG_i_ktp, isG_i_lst, isG_i_dic, isG_i_int, isG_i_bl, isG_i_non, isG_b_str, isG_b_tup, isG_b_ktp, isG_b_lst, isG_b_dic, isG_b_int, isG_b_bl, isG_b_non, isG_l_str, isG_l_tup, isG_l_ktp, isG_l_lst, isG_l_dic, isG_l_int, isG_l_bl, isG_l_non, isG_lt_str, isG_lt_tup, isG_lt_ktp, isG_lt_lst, isG_lt_dic, isG_lt_int, isG_lt_bl, isG_lt_non, W_aNil, W_aCons, W_aStar, W_eLstA, W_eTupA, W_jsD_nil, W_jsD_cons, W_eJs, W_eFm, W_eNeg, W_eEqO, W_sPutT, isOb_self, cIs_lst, cIs_nn, cIsNot_lst, cIsNot_nn, seqD_lst, seqD_tup, seqD_ktp, tupleP_l, W_xS, W_xE, W_sSeqX, W_sIfX, W_sRz1, W_sRz0, W_bodyX, W_eInO, W_eMethX, W_eMethK, W_eCallX, W_eLam, W_gA_ok, W_gA_ex, W_gB_ok, W_gB_ex, ro_cons, ro_nil, roS_sh, roS_ow, roS_un, W_eDct1, W_sFrzE, W_eCallX1, W_eCallKX, e1, e2']
  refine ⟨⟨by split <;> omega, by split <;> omega⟩, ?_⟩
  unfold rangeD
  refine W_for (P := fun pre env w => ∃ (j2 j3 j4 j5 j6 j7 : Dl.Slot), env = [.sh sd, .sh .drw, j2, j3, j4, j5, j6, j7] ∧ DrOk w) _ ⟨_, _, _, _, _, _, rfl, ok0⟩ (fun pre i post env w el h => ?_) (fun env w h => ⟨_, rfl⟩)
  obtain ⟨j2, j3, j4, j5, j6, j7, rfl, ok⟩ := h
  refine ⟨_, asgP_nm _ _ _, ?_⟩
  refine W_seq (R := fun env w1 => ∃ d ∈ oddL, env = [.sh sd, .sh .drw, .sh (.int (0 + i)), .sh d, j4, j5, j6, j7] ∧ DrOk w1) ?_ (fun env w1 h => ?_)
  · simp only [W_some, W_none, Wd_some, Wd_none, Wd_if, W_if, Wd_map, W_eC, W_eVar, W_e1, W_e2, W_e3, W_eAnd, W_eOr, W_eNot, W_eIf, W_nil, W_cons, W_eApp, W_eBi, W_eCall, W_eTup, W_eLst, W_eMeth, W_eProp, W_eFld, W_i1, W_iRange1, W_eComp, W_eComp2, W_eDcN, W_eInN, W_eTmp, W_eP_none, W_eP_some, W_eSl, W_eLockC, W_eCallK, W_sNx, W_sBad, W_sSeq, W_sRet, W_sRetO, W_sDrop, W_sIf, W_sSet, W_sSetO, W_sPar, W_sAsg, W_sFor, W_sFrz, W_sApp, W_sExt, W_sPut, W_bodyD, W_bodyO, W_bodyI, W_sFldD, W_sAppPop, W_eDr, W_eDrC, W_eDrL, W_sDr, W_sDrPop, W_sDrDiv, asgP_nm, asgP_tup, asgP_ktp, asgPs_nil, asgPs_cons, wipeE_nil, wipeE_cons, setsE_cons, setsE_nil, env0, List.map_cons, List.map_nil, List.nil_append, List.cons_append, List.append_nil, List.length_cons, List.length_nil, List.getElem?_cons_zero, List.getElem?_cons_succ, List.set_cons_zero, List.set_cons_succ, List.replicate_succ, List.replicate_zero, Nat.reduceAdd, Nat.reduceSub, Nat.reduceMul, Option.some.injEq, Option.bind_some, Slot.sh.injEq, Slot.ow.injEq, D.bl.injEq, D.int.injEq, D.str.injEq, D.lst.injEq, D.dic.injEq, D.tup.injEq, D.obj.injEq, D.din.injEq, D.ktp.injEq, exists_eq_left', exists_eq_left, exists_eq, exists_and_left, exists_const, true_and, and_true, if_true, if_false, Bool.false_eq_true, reduceCtorEq, ite_true, ite_false, ↓reduceIte, Fl.nx.injEq, Fl.rt.injEq, Fl.ro.injEq, Bool.not_true, Bool.not_false, false_and, and_false, decide_true, decide_false, okD_str, cEq_str, cEq_int, cNe_str, cNe_int, cLe_int, cGt_int, lenD_str, lenD_lst, lenD_tup, lenD_ktp, lenD_dic, walkD_lst, walkD_tup, walkD_ktp, walkD_str, walkD_dic, valuesD_dic, itemsD_dic, ix_t0, ix_t1, ix_k0, ix_k1, keyOf_str, cIn_of, cNotIn_of, atom, cont, addD_int, isG_s_str, isG_s_tup, isG_s_ktp, isG_s_lst, isG_s_dic, isG_s_int, isG_s_bl, isG_s_non, isG_t_str, isG_t_tup, isG_t_ktp, isG_t_lst, isG_t_dic, isG_t_int, isG_t_bl, isG_t_non, isG_d_str, isG_d_tup, isG_d_ktp, isG_d_lst, isG_d_dic, isG_d_int, isG_d_bl, isG_d_non, isG_i_str, isG_i_tup, isG_i_ktp, isG_i_lst, isG_i_dic, isG_i_int, isG_i_bl, isG_i_non, isG_b_str, isG_b_tup, isG_b_ktp, isG_b_lst, isG_b_dic, isG_b_int, isG_b_bl, isG_b_non, isG_l_str, isG_l_tup, isG_l_ktp, isG_l_lst, isG_l_dic, isG_l_int, isG_l_bl, isG_l_non, isG_lt_str, isG_lt_tup, isG_lt_ktp, isG_lt_lst, isG_lt_dic, isG_lt_int, isG_lt_bl, isG_lt_non, W_aNil, W_aCons, W_aStar, W_eLstA, W_eTupA, W_jsD_nil, W_jsD_cons, W_eJs, W_eFm, W_eNeg, W_eEqO, W_sPutT, isOb_self, cIs_lst, cIs_nn, cIsNot_lst, cIsNot_nn, seqD_lst, seqD_tup, seqD_ktp, tupleP_l, W_xS, W_xE, W_sSeqX, W_sIfX, W_sRz1, W_sRz0, W_bodyX, W_eInO, W_eMethX, W_eMethK, W_eCallX, W_eLam, W_gA_ok, W_gA_ex, W_gB_ok, W_gB_ex, ro_cons, ro_nil, roS_sh, roS_ow, roS_un, W_eDct1, W_sFrzE, W_eCallX1, W_eCallKX]
    exact w_odd ok fun d hd w' ok' => ⟨d, hd, rfl, ok'⟩
  · obtain ⟨d, hd, rfl, ok1⟩ := h
    exact ⟨_, _, tails d hd sd _ j4 j5 j6 j7 w1, _, .inl rfl, _, _, _, _, _, _, rfl, ok1⟩
end K01
set_option Elab.async false
set_option linter.all false
set_option maxRecDepth 100000
set_option maxHeartbeats 4000000
namespace K01
open PySem L2 Dl
def top (i : Nat) : Stmt := PySem.Challenge.pw_lotorder_k01_errors_told.main.body.getD i (.Pass ⟨0, 0, 0, 0⟩)
structure Txt (K : PySem.W.Frag) (mg : Str → Option Value) (P : Program) (w : World) : Prop where
  d__law_begin : ∃ f fd, At K mg "_law_begin" f ∧ FunD K "_law_begin" "_law_begin" (defArgs (top 22)) (defBody (top 22)) (defScope (top 22)) [] [] f fd
  d__law_made : ∃ f fd, At K mg "_law_made" f ∧ FunD K "_law_made" "_law_made" (defArgs (top 27)) (defBody (top 27)) (defScope (top 27)) [] [] f fd
  d__law_marks : ∃ f fd, At K mg "_law_marks" f ∧ FunD K "_law_marks" "_law_marks" (defArgs (top 26)) (defBody (top 26)) (defScope (top 26)) [] [] f fd
  d__law_odd : ∃ f fd, At K mg "_law_odd" f ∧ FunD K "_law_odd" "_law_odd" (defArgs (top 25)) (defBody (top 25)) (defScope (top 25)) [] [] f fd
  d__law_pick : ∃ f fd, At K mg "_law_pick" f ∧ FunD K "_law_pick" "_law_pick" (defArgs (top 24)) (defBody (top 24)) (defScope (top 24)) [] [] f fd
  d__law_take : ∃ f fd, At K mg "_law_take" f ∧ FunD K "_law_take" "_law_take" (defArgs (top 23)) (defBody (top 23)) (defScope (top 23)) [] [] f fd
  d__law_told : ∃ f fd, At K mg "_law_told" f ∧ FunD K "_law_told" "_law_told" (defArgs (top 28)) (defBody (top 28)) (defScope (top 28)) [] [] f fd
  f_ValueError : mg "ValueError" = none
  f_abs : mg "abs" = none
  f_divmod : mg "divmod" = none
  f_int : mg "int" = none
  f_isinstance : mg "isinstance" = none
  f_len : mg "len" = none
  f_list : mg "list" = none
  f_min : mg "min" = none
  f_range : mg "range" = none
  f_repr : mg "repr" = none
  f_super : mg "super" = none
  g_at : FdXs K mg "at" ["BadSoft", "BadRule", "Missed", "BadDeed"]
  g_kind : FdXs K mg "kind" ["BadSchema", "NoKind"]
  g_most : FdXs K mg "most" ["TooMany"]
  g_name : FdXs K mg "name" ["NoField"]
  g_ring : FdXs K mg "ring" ["HasRing"]
  g_row : FdXs K mg "row" ["NoRow", "Stands", "BadJournal", "BadLine"]
  g_word : FdXs K mg "word" ["BadState"]
  j_BadCame : IsXs K mg "BadCame" [("LotError", false), ("BadSchema", false), ("BadState", false), ("BadCame", true), ("BadSoft", false), ("BadRule", false), ("BadRing", false), ("HasRing", false), ("NotAlike", false), ("TooMany", false), ("NoKind", false), ("NoRow", false), ("NoField", false), ("BadValue", false), ("Stands", false), ("BadStatement", false), ("Missed", false), ("BadDeed", false), ("BadJournal", false), ("BadLine", false)]
  j_BadDeed : IsXs K mg "BadDeed" [("LotError", false), ("BadSchema", false), ("BadState", false), ("BadCame", false), ("BadSoft", false), ("BadRule", false), ("BadRing", false), ("HasRing", false), ("NotAlike", false), ("TooMany", false), ("NoKind", false), ("NoRow", false), ("NoField", false), ("BadValue", false), ("Stands", false), ("BadStatement", false), ("Missed", false), ("BadDeed", true), ("BadJournal", false), ("BadLine", false)]
  j_BadJournal : IsXs K mg "BadJournal" [("LotError", false), ("BadSchema", false), ("BadState", false), ("BadCame", false), ("BadSoft", false), ("BadRule", false), ("BadRing", false), ("HasRing", false), ("NotAlike", false), ("TooMany", false), ("NoKind", false), ("NoRow", false), ("NoField", false), ("BadValue", false), ("Stands", false), ("BadStatement", false), ("Missed", false), ("BadDeed", false), ("BadJournal", true), ("BadLine", false)]
  j_BadLine : IsXs K mg "BadLine" [("LotError", false), ("BadSchema", false), ("BadState", false), ("BadCame", false), ("BadSoft", false), ("BadRule", false), ("BadRing", false), ("HasRing", false), ("NotAlike", false), ("TooMany", false), ("NoKind", false), ("NoRow", false), ("NoField", false), ("BadValue", false), ("Stands", false), ("BadStatement", false), ("Missed", false), ("BadDeed", false), ("BadJournal", false), ("BadLine", true)]
  j_BadRing : IsXs K mg "BadRing" [("LotError", false), ("BadSchema", false), ("BadState", false), ("BadCame", false), ("BadSoft", false), ("BadRule", false), ("BadRing", true), ("HasRing", false), ("NotAlike", false), ("TooMany", false), ("NoKind", false), ("NoRow", false), ("NoField", false), ("BadValue", false), ("Stands", false), ("BadStatement", false), ("Missed", false), ("BadDeed", false), ("BadJournal", false), ("BadLine", false)]
  j_BadRule : IsXs K mg "BadRule" [("LotError", false), ("BadSchema", false), ("BadState", false), ("BadCame", false), ("BadSoft", false), ("BadRule", true), ("BadRing", false), ("HasRing", false), ("NotAlike", false), ("TooMany", false), ("NoKind", false), ("NoRow", false), ("NoField", false), ("BadValue", false), ("Stands", false), ("BadStatement", false), ("Missed", false), ("BadDeed", false), ("BadJournal", false), ("BadLine", false)]
  j_BadSchema : IsXs K mg "BadSchema" [("LotError", false), ("BadSchema", true), ("BadState", false), ("BadCame", false), ("BadSoft", false), ("BadRule", false), ("BadRing", false), ("HasRing", false), ("NotAlike", false), ("TooMany", false), ("NoKind", false), ("NoRow", false), ("NoField", false), ("BadValue", false), ("Stands", false), ("BadStatement", false), ("Missed", false), ("BadDeed", false), ("BadJournal", false), ("BadLine", false)]
  j_BadSoft : IsXs K mg "BadSoft" [("LotError", false), ("BadSchema", false), ("BadState", false), ("BadCame", false), ("BadSoft", true), ("BadRule", false), ("BadRing", false), ("HasRing", false), ("NotAlike", false), ("TooMany", false), ("NoKind", false), ("NoRow", false), ("NoField", false), ("BadValue", false), ("Stands", false), ("BadStatement", false), ("Missed", false), ("BadDeed", false), ("BadJournal", false), ("BadLine", false)]
  j_BadState : IsXs K mg "BadState" [("LotError", false), ("BadSchema", false), ("BadState", true), ("BadCame", false), ("BadSoft", false), ("BadRule", false), ("BadRing", false), ("HasRing", false), ("NotAlike", false), ("TooMany", false), ("NoKind", false), ("NoRow", false), ("NoField", false), ("BadValue", false), ("Stands", false), ("BadStatement", false), ("Missed", false), ("BadDeed", false), ("BadJournal", false), ("BadLine", false)]
  j_BadStatement : IsXs K mg "BadStatement" [("LotError", false), ("BadSchema", false), ("BadState", false), ("BadCame", false), ("BadSoft", false), ("BadRule", false), ("BadRing", false), ("HasRing", false), ("NotAlike", false), ("TooMany", false), ("NoKind", false), ("NoRow", false), ("NoField", false), ("BadValue", false), ("Stands", false), ("BadStatement", true), ("Missed", false), ("BadDeed", false), ("BadJournal", false), ("BadLine", false)]
  j_BadValue : IsXs K mg "BadValue" [("LotError", false), ("BadSchema", false), ("BadState", false), ("BadCame", false), ("BadSoft", false), ("BadRule", false), ("BadRing", false), ("HasRing", false), ("NotAlike", false), ("TooMany", false), ("NoKind", false), ("NoRow", false), ("NoField", false), ("BadValue", true), ("Stands", false), ("BadStatement", false), ("Missed", false), ("BadDeed", false), ("BadJournal", false), ("BadLine", false)]
  j_HasRing : IsXs K mg "HasRing" [("LotError", false), ("BadSchema", false), ("BadState", false), ("BadCame", false), ("BadSoft", false), ("BadRule", false), ("BadRing", false), ("HasRing", true), ("NotAlike", false), ("TooMany", false), ("NoKind", false), ("NoRow", false), ("NoField", false), ("BadValue", false), ("Stands", false), ("BadStatement", false), ("Missed", false), ("BadDeed", false), ("BadJournal", false), ("BadLine", false)]
  j_LotError : IsXs K mg "LotError" [("LotError", true), ("BadSchema", true), ("BadState", true), ("BadCame", true), ("BadSoft", true), ("BadRule", true), ("BadRing", true), ("HasRing", true), ("NotAlike", true), ("TooMany", true), ("NoKind", true), ("NoRow", true), ("NoField", true), ("BadValue", true), ("Stands", true), ("BadStatement", true), ("Missed", true), ("BadDeed", true), ("BadJournal", true), ("BadLine", true)]
  j_Missed : IsXs K mg "Missed" [("LotError", false), ("BadSchema", false), ("BadState", false), ("BadCame", false), ("BadSoft", false), ("BadRule", false), ("BadRing", false), ("HasRing", false), ("NotAlike", false), ("TooMany", false), ("NoKind", false), ("NoRow", false), ("NoField", false), ("BadValue", false), ("Stands", false), ("BadStatement", false), ("Missed", true), ("BadDeed", false), ("BadJournal", false), ("BadLine", false)]
  j_NoField : IsXs K mg "NoField" [("LotError", false), ("BadSchema", false), ("BadState", false), ("BadCame", false), ("BadSoft", false), ("BadRule", false), ("BadRing", false), ("HasRing", false), ("NotAlike", false), ("TooMany", false), ("NoKind", false), ("NoRow", false), ("NoField", true), ("BadValue", false), ("Stands", false), ("BadStatement", false), ("Missed", false), ("BadDeed", false), ("BadJournal", false), ("BadLine", false)]
  j_NoKind : IsXs K mg "NoKind" [("LotError", false), ("BadSchema", false), ("BadState", false), ("BadCame", false), ("BadSoft", false), ("BadRule", false), ("BadRing", false), ("HasRing", false), ("NotAlike", false), ("TooMany", false), ("NoKind", true), ("NoRow", false), ("NoField", false), ("BadValue", false), ("Stands", false), ("BadStatement", false), ("Missed", false), ("BadDeed", false), ("BadJournal", false), ("BadLine", false)]
  j_NoRow : IsXs K mg "NoRow" [("LotError", false), ("BadSchema", false), ("BadState", false), ("BadCame", false), ("BadSoft", false), ("BadRule", false), ("BadRing", false), ("HasRing", false), ("NotAlike", false), ("TooMany", false), ("NoKind", false), ("NoRow", true), ("NoField", false), ("BadValue", false), ("Stands", false), ("BadStatement", false), ("Missed", false), ("BadDeed", false), ("BadJournal", false), ("BadLine", false)]
  j_NotAlike : IsXs K mg "NotAlike" [("LotError", false), ("BadSchema", false), ("BadState", false), ("BadCame", false), ("BadSoft", false), ("BadRule", false), ("BadRing", false), ("HasRing", false), ("NotAlike", true), ("TooMany", false), ("NoKind", false), ("NoRow", false), ("NoField", false), ("BadValue", false), ("Stands", false), ("BadStatement", false), ("Missed", false), ("BadDeed", false), ("BadJournal", false), ("BadLine", false)]
  j_Stands : IsXs K mg "Stands" [("LotError", false), ("BadSchema", false), ("BadState", false), ("BadCame", false), ("BadSoft", false), ("BadRule", false), ("BadRing", false), ("HasRing", false), ("NotAlike", false), ("TooMany", false), ("NoKind", false), ("NoRow", false), ("NoField", false), ("BadValue", false), ("Stands", true), ("BadStatement", false), ("Missed", false), ("BadDeed", false), ("BadJournal", false), ("BadLine", false)]
  j_TooMany : IsXs K mg "TooMany" [("LotError", false), ("BadSchema", false), ("BadState", false), ("BadCame", false), ("BadSoft", false), ("BadRule", false), ("BadRing", false), ("HasRing", false), ("NotAlike", false), ("TooMany", true), ("NoKind", false), ("NoRow", false), ("NoField", false), ("BadValue", false), ("Stands", false), ("BadStatement", false), ("Missed", false), ("BadDeed", false), ("BadJournal", false), ("BadLine", false)]
  v_ValueError : IsVs K mg [("LotError", true), ("BadSchema", true), ("BadState", true), ("BadCame", true), ("BadSoft", true), ("BadRule", true), ("BadRing", true), ("HasRing", true), ("NotAlike", true), ("TooMany", true), ("NoKind", true), ("NoRow", true), ("NoField", true), ("BadValue", true), ("Stands", true), ("BadStatement", true), ("Missed", true), ("BadDeed", true), ("BadJournal", true), ("BadLine", true)]
  x_BadDeed : SupN K mg P "BadDeed" "at"
  x_BadJournal : SupN K mg P "BadJournal" "row"
  x_BadLine : SupN K mg P "BadLine" "row"
  x_BadRule : SupN K mg P "BadRule" "at"
  x_BadSchema : SupN K mg P "BadSchema" "kind"
  x_BadSoft : SupN K mg P "BadSoft" "at"
  x_BadState : SupN K mg P "BadState" "word"
  x_HasRing : SupN K mg P "HasRing" "ring"
  x_Missed : SupN K mg P "Missed" "at"
  x_NoField : SupN K mg P "NoField" "name"
  x_NoKind : SupN K mg P "NoKind" "kind"
  x_NoRow : SupN K mg P "NoRow" "row"
  x_Stands : SupN K mg P "Stands" "row"
  x_TooMany : SupN K mg P "TooMany" "most"
  y_BadCame : OwnN K mg "BadCame"
  y_BadRing : OwnN K mg "BadRing"
  y_BadStatement : OwnN K mg "BadStatement"
  y_BadValue : OwnN K mg "BadValue"
  y_LotError : OwnN K mg "LotError"
  y_NotAlike : OwnN K mg "NotAlike"
  z_sys : SysD K
abbrev st__law_take : Stmt := top 23
abbrev N__law_take : List Str := ["_law_draw", "_law_size", "_law_cell", "_law_found"]
theorem sc__law_take : FnScope N__law_take ["_law_draw", "_law_size"] (defScope st__law_take) := ⟨rfl, rfl, rfl, by decide +kernel, rfl, by decide +kernel, by decide +kernel⟩
theorem fo__law_take {P : Program} {w : World} {K : PySem.W.Frag} {mg : Str → Option Value} {base : Heap} (T : Txt K mg P w) : ∃ f fd, At K mg "_law_take" f ∧ FunD K "_law_take" "_law_take" (defArgs (top 23)) (defBody (top 23)) (defScope (top 23)) [] [] f fd ∧ FnOk P w K mg base CX0 1 f fd ["_law_draw", "_law_size"] (spD ⟨K, mg, P, w⟩ 2 m__law_take) := by
  obtain ⟨f, fd, A, F⟩ := T.d__law_take
  refine ⟨f, fd, A, F, fn_D (N := N__law_take) (fb := s__law_take) F sc__law_take (fun cdv Ar outer s H E hr => ?_)⟩
  exact (dss_cons (ds_if (DW.pt (dw_and (dt_cmp (op2_eq (u64 hr)) (de_dr 0 .rest (u1 hr) (pv 0) pe_str (fun _ _ => rfl)) de_int (nomark _)) (dw_and1 (dt_drL 0 (u64 hr) (pv 0) pe_str (fun _ _ => rfl) (do_lst da_nil))))) (dss_one (ds_drPop 0 rfl (u1 hr) (pv 0) pe_str (pv 0) pe_str (fun _ _ => rfl) pe_int)) (dss_one (ds_if (dt_cmp (op2_eq (u64 hr)) (de_dr 0 .rest (u1 hr) (pv 0) pe_str (fun _ _ => rfl)) de_int (nomark _)) (dss_cons (ds_dr 0 .turn (u1 hr) (pv 0) pe_str (de_bin op2_add (de_dr 0 .turn (u1 hr) (pv 0) pe_str (fun _ _ => rfl)) de_int))
  (dss_cons (ds_for PassesOwn.never rfl (di_val (de_lock (do_add (de_lock (do_lst (da_cons (de_dr 0 .turn (u1 hr) (pv 0) pe_str (fun _ _ => rfl)) da_nil)) cf_lst) (de_drC 0 (u1 hr) (pv 0) pe_str (fun _ _ => rfl))) cf_add)) (dg_name (i := 2) sc__law_take.nd rfl (Or.inl rfl)) (dss_one (ds_dr 0 .mix (u1 hr) (pv 0) pe_str (de_bin op2_mod (de_ty c1_int rfl T.f_int bt_int (da_cons (de_bin op2_add (de_bin op2_add (de_bin op2_mul (de_dr 0 .mix (u1 hr) (pv 0) pe_str (fun _ _ => rfl)) de_int) (de_bin op2_mul (de_var 2 (pv 2)) de_int)) de_int) da_nil)) de_int))))
  (dss_one (ds_dr 0 .rest (u1 hr) (pv 0) pe_str (de_bin op2_mod (de_ty c1_int rfl T.f_int bt_int (da_cons (de_bin op2_pow (de_dr 0 .mix (u1 hr) (pv 0) pe_str (fun _ _ => rfl)) de_int) da_nil)) de_int))))) dss_nil)))
  (dss_cons (ds_drDiv 0 3 rfl (u1 hr) rfl T.f_divmod sc__law_take.nd rfl (Or.inl rfl) (pv 0) pe_str (pv 0) pe_str (fun _ _ => rfl) (de_var 1 (pv 1)))
  (dss_one (ds_ret (de_var 3 (pv 3))))))
theorem ok__law_take {P : Program} {w : World} {K : PySem.W.Frag} {mg : Str → Option Value} {base : Heap} (T : Txt K mg P w) : Cal P w K mg base "_law_take" 1 ["_law_draw", "_law_size"] m__law_take := by
  obtain ⟨f, fd, A, F, O⟩ := fo__law_take T (base := base)
  exact ⟨f, fd, A, O, F.bindsN (fun _ _ _ _ _ _ us hl => match us, hl with | [_, _], _ => rfl)⟩
abbrev st__law_pick : Stmt := top 24
abbrev N__law_pick : List Str := ["_law_draw", "_law_some"]
theorem sc__law_pick : FnScope N__law_pick ["_law_draw", "_law_some"] (defScope st__law_pick) := ⟨rfl, rfl, rfl, by decide +kernel, rfl, by decide +kernel, by decide +kernel⟩
theorem fo__law_pick {P : Program} {w : World} {K : PySem.W.Frag} {mg : Str → Option Value} {base : Heap} (T : Txt K mg P w) : ∃ f fd, At K mg "_law_pick" f ∧ FunD K "_law_pick" "_law_pick" (defArgs (top 24)) (defBody (top 24)) (defScope (top 24)) [] [] f fd ∧ FnOk P w K mg base CX0 2 f fd ["_law_draw", "_law_some"] (spD ⟨K, mg, P, w⟩ 2 m__law_pick) := by
  obtain ⟨f, fd, A, F⟩ := T.d__law_pick
  refine ⟨f, fd, A, F, fn_D (N := N__law_pick) (fb := s__law_pick) F sc__law_pick (fun cdv Ar outer s H E hr => ?_)⟩
  exact (dss_one (ds_ret (de_ix (u1 hr) (de_var 1 (pv 1)) (de_cal (ok__law_take T) (hr.mono (by decide)) rfl (da_cons (de_var 0 (pv 0)) (da_cons (de_bi c1_len rfl T.f_len bt_len (da_cons (de_var 1 (pv 1)) da_nil)) da_nil))) (fun _ _ => rfl))))
theorem ok__law_pick {P : Program} {w : World} {K : PySem.W.Frag} {mg : Str → Option Value} {base : Heap} (T : Txt K mg P w) : Cal P w K mg base "_law_pick" 2 ["_law_draw", "_law_some"] m__law_pick := by
  obtain ⟨f, fd, A, F, O⟩ := fo__law_pick T (base := base)
  exact ⟨f, fd, A, O, F.bindsN (fun _ _ _ _ _ _ us hl => match us, hl with | [_, _], _ => rfl)⟩
abbrev st__law_odd : Stmt := top 25
abbrev N__law_odd : List Str := ["_law_draw", "_law_some"]
theorem sc__law_odd : FnScope N__law_odd ["_law_draw"] (defScope st__law_odd) := ⟨rfl, rfl, rfl, by decide +kernel, rfl, by decide +kernel, by decide +kernel⟩
theorem fo__law_odd {P : Program} {w : World} {K : PySem.W.Frag} {mg : Str → Option Value} {base : Heap} (T : Txt K mg P w) : ∃ f fd, At K mg "_law_odd" f ∧ FunD K "_law_odd" "_law_odd" (defArgs (top 25)) (defBody (top 25)) (defScope (top 25)) [] [] f fd ∧ FnOk P w K mg base CX0 3 f fd ["_law_draw"] (spD ⟨K, mg, P, w⟩ 1 m__law_odd) := by
  obtain ⟨f, fd, A, F⟩ := T.d__law_odd
  refine ⟨f, fd, A, F, fn_D (N := N__law_odd) (fb := s__law_odd) F sc__law_odd (fun cdv Ar outer s H E hr => ?_)⟩
  exact (dss_cons (ds_setO (i := 1) sc__law_odd.nd rfl (Or.inl rfl) (do_lst (da_cons de_non (da_cons de_bl (da_cons de_bl (da_cons de_int (da_cons de_int (da_cons (de_neg rfl de_int) (da_cons de_int (da_cons de_int (da_cons (de_bin op2_pow de_int de_int) (da_cons (de_bin op2_pow de_int de_int) (da_cons de_str (da_cons de_str (da_cons de_str (da_cons de_str (da_cons de_str (da_cons (de_tup da_nil) (da_cons (de_lock (do_lst da_nil) cf_lst) (da_cons (de_lock do_dictK cf_c) da_nil))))))))))))))))))))
  (dss_frz 1 (dss_one (ds_ret (de_cal (ok__law_pick T) (hr.mono (by decide)) rfl (da_cons (de_var 0 (pv 0)) (da_cons (de_lock (do_add (de_var 1 (pv 1)) (de_lock (do_lst (da_cons (de_tup (da_cons de_str da_nil)) (da_cons (de_lock (do_lst (da_cons de_str da_nil)) cf_lst) (da_cons (de_lock (do_dct1 de_str de_int) cf_dct1) (da_cons (de_lock (do_dct1 de_int (de_lock do_dictK cf_c)) cf_dct1) (da_cons (de_tup (da_cons de_str (da_cons de_str da_nil))) (da_cons de_str (da_cons de_str da_nil)))))))) cf_lst)) cf_add) da_nil)))))))
theorem ok__law_odd {P : Program} {w : World} {K : PySem.W.Frag} {mg : Str → Option Value} {base : Heap} (T : Txt K mg P w) : Cal P w K mg base "_law_odd" 3 ["_law_draw"] m__law_odd := by
  obtain ⟨f, fd, A, F, O⟩ := fo__law_odd T (base := base)
  exact ⟨f, fd, A, O, F.bindsN (fun _ _ _ _ _ _ us hl => match us, hl with | [_], _ => rfl)⟩
abbrev st__law_marks : Stmt := top 26
abbrev N__law_marks : List Str := ["_law_error", "_law_found"]
theorem sc__law_marks : FnScope N__law_marks ["_law_error"] (defScope st__law_marks) := ⟨rfl, rfl, rfl, by decide +kernel, rfl, by decide +kernel, by decide +kernel⟩
theorem fo__law_marks {P : Program} {w : World} {K : PySem.W.Frag} {mg : Str → Option Value} {base : Heap} (T : Txt K mg P w) : ∃ f fd, At K mg "_law_marks" f ∧ FunD K "_law_marks" "_law_marks" (defArgs (top 26)) (defBody (top 26)) (defScope (top 26)) [] [] f fd ∧ FnOk P w K mg base CX0 1 f fd ["_law_error"] (spD ⟨K, mg, P, w⟩ 1 m__law_marks) := by
  obtain ⟨f, fd, A, F⟩ := T.d__law_marks
  refine ⟨f, fd, A, F, fn_D (N := N__law_marks) (fb := s__law_marks) F sc__law_marks (fun cdv Ar outer s H E hr => ?_)⟩
  exact (dss_cons (ds_setO (i := 1) sc__law_marks.nd rfl (Or.inl rfl) (do_lst (da_cons (de_isX rfl T.f_isinstance rfl T.j_BadCame (de_var 0 (pv 0))) (da_cons (de_isX rfl T.f_isinstance rfl T.j_BadDeed (de_var 0 (pv 0))) (da_cons (de_isX rfl T.f_isinstance rfl T.j_BadJournal (de_var 0 (pv 0))) da_nil)))))
  (dss_frz 1 (dss_cons (ds_setO (i := 1) sc__law_marks.nd rfl (Or.inl rfl) (do_add (de_var 1 (pv 1)) (de_lock (do_lst (da_cons (de_isX rfl T.f_isinstance rfl T.j_BadLine (de_var 0 (pv 0))) (da_cons (de_isX rfl T.f_isinstance rfl T.j_BadRing (de_var 0 (pv 0))) (da_cons (de_isX rfl T.f_isinstance rfl T.j_BadRule (de_var 0 (pv 0))) da_nil)))) cf_lst)))
  (dss_frz 1 (dss_cons (ds_setO (i := 1) sc__law_marks.nd rfl (Or.inl rfl) (do_add (de_var 1 (pv 1)) (de_lock (do_lst (da_cons (de_isX rfl T.f_isinstance rfl T.j_BadSchema (de_var 0 (pv 0))) (da_cons (de_isX rfl T.f_isinstance rfl T.j_BadSoft (de_var 0 (pv 0))) (da_cons (de_isX rfl T.f_isinstance rfl T.j_BadState (de_var 0 (pv 0))) da_nil)))) cf_lst)))
  (dss_frz 1 (dss_cons (ds_setO (i := 1) sc__law_marks.nd rfl (Or.inl rfl) (do_add (de_var 1 (pv 1)) (de_lock (do_lst (da_cons (de_isX rfl T.f_isinstance rfl T.j_BadStatement (de_var 0 (pv 0))) (da_cons (de_isX rfl T.f_isinstance rfl T.j_BadValue (de_var 0 (pv 0))) (da_cons (de_isX rfl T.f_isinstance rfl T.j_HasRing (de_var 0 (pv 0))) da_nil)))) cf_lst)))
  (dss_frz 1 (dss_cons (ds_setO (i := 1) sc__law_marks.nd rfl (Or.inl rfl) (do_add (de_var 1 (pv 1)) (de_lock (do_lst (da_cons (de_isX rfl T.f_isinstance rfl T.j_Missed (de_var 0 (pv 0))) (da_cons (de_isX rfl T.f_isinstance rfl T.j_NoField (de_var 0 (pv 0))) (da_cons (de_isX rfl T.f_isinstance rfl T.j_NoKind (de_var 0 (pv 0))) da_nil)))) cf_lst)))
  (dss_frz 1 (dss_cons (ds_setO (i := 1) sc__law_marks.nd rfl (Or.inl rfl) (do_add (de_var 1 (pv 1)) (de_lock (do_lst (da_cons (de_isX rfl T.f_isinstance rfl T.j_NoRow (de_var 0 (pv 0))) (da_cons (de_isX rfl T.f_isinstance rfl T.j_NotAlike (de_var 0 (pv 0))) (da_cons (de_isX rfl T.f_isinstance rfl T.j_Stands (de_var 0 (pv 0))) da_nil)))) cf_lst)))
  (dss_frz 1 (dss_one (ds_ret (de_lock (do_add (de_var 1 (pv 1)) (de_lock (do_lst (da_cons (de_isX rfl T.f_isinstance rfl T.j_TooMany (de_var 0 (pv 0))) da_nil)) cf_lst)) cf_add)))))))))))))))
theorem ok__law_marks {P : Program} {w : World} {K : PySem.W.Frag} {mg : Str → Option Value} {base : Heap} (T : Txt K mg P w) : Cal P w K mg base "_law_marks" 1 ["_law_error"] m__law_marks := by
  obtain ⟨f, fd, A, F, O⟩ := fo__law_marks T (base := base)
  exact ⟨f, fd, A, O, F.bindsN (fun _ _ _ _ _ _ us hl => match us, hl with | [_], _ => rfl)⟩
abbrev st__law_made : Stmt := top 27
abbrev N__law_made : List Str := ["_law_worth", "_law_found"]
theorem sc__law_made : FnScope N__law_made ["_law_worth"] (defScope st__law_made) := ⟨rfl, rfl, rfl, by decide +kernel, rfl, by decide +kernel, by decide +kernel⟩
theorem fo__law_made {P : Program} {w : World} {K : PySem.W.Frag} {mg : Str → Option Value} {base : Heap} (T : Txt K mg P w) : ∃ f fd, At K mg "_law_made" f ∧ FunD K "_law_made" "_law_made" (defArgs (top 27)) (defBody (top 27)) (defScope (top 27)) [] [] f fd ∧ FnOk P w K mg base CX0 4 f fd ["_law_worth"] (spD ⟨K, mg, P, w⟩ 1 m__law_made) := by
  obtain ⟨f, fd, A, F⟩ := T.d__law_made
  refine ⟨f, fd, A, F, fn_D (N := N__law_made) (fb := s__law_made) F sc__law_made (fun cdv Ar outer s H E hr => ?_)⟩
  exact (dss_cons (ds_setO (i := 1) sc__law_made.nd rfl (Or.inl rfl) (do_lst (da_cons (de_tup (da_cons de_int (da_cons (de_mk1 (k := 0) T.x_BadDeed (hr.mono (by decide)) rfl T.f_super (de_var 0 (pv 0))) da_nil))) (da_cons (de_tup (da_cons de_int (da_cons (de_mk1k (k := 0) T.x_BadDeed (hr.mono (by decide)) rfl T.f_super (de_var 0 (pv 0))) da_nil))) (da_cons (de_tup (da_cons de_int (da_cons (de_mk1 (k := 0) T.x_BadJournal (hr.mono (by decide)) rfl T.f_super (de_var 0 (pv 0))) da_nil))) (da_cons (de_tup (da_cons de_int (da_cons (de_mk1k (k := 0) T.x_BadJournal (hr.mono (by decide)) rfl T.f_super (de_var 0 (pv 0))) da_nil))) da_nil))))))
  (dss_frz 1 (dss_cons (ds_setO (i := 1) sc__law_made.nd rfl (Or.inl rfl) (do_add (de_var 1 (pv 1)) (de_lock (do_lst (da_cons (de_tup (da_cons de_int (da_cons (de_mk1 (k := 0) T.x_BadLine (hr.mono (by decide)) rfl T.f_super (de_var 0 (pv 0))) da_nil))) (da_cons (de_tup (da_cons de_int (da_cons (de_mk1k (k := 0) T.x_BadLine (hr.mono (by decide)) rfl T.f_super (de_var 0 (pv 0))) da_nil))) (da_cons (de_tup (da_cons de_int (da_cons (de_mk1 (k := 0) T.x_BadRule (hr.mono (by decide)) rfl T.f_super (de_var 0 (pv 0))) da_nil))) (da_cons (de_tup (da_cons de_int (da_cons (de_mk1k (k := 0) T.x_BadRule (hr.mono (by decide)) rfl T.f_super (de_var 0 (pv 0))) da_nil))) da_nil))))) cf_lst)))
  (dss_frz 1 (dss_cons (ds_setO (i := 1) sc__law_made.nd rfl (Or.inl rfl) (do_add (de_var 1 (pv 1)) (de_lock (do_lst (da_cons (de_tup (da_cons de_int (da_cons (de_mk1 (k := 0) T.x_BadSchema (hr.mono (by decide)) rfl T.f_super (de_var 0 (pv 0))) da_nil))) (da_cons (de_tup (da_cons de_int (da_cons (de_mk1k (k := 0) T.x_BadSchema (hr.mono (by decide)) rfl T.f_super (de_var 0 (pv 0))) da_nil))) (da_cons (de_tup (da_cons de_int (da_cons (de_mk1 (k := 0) T.x_BadSoft (hr.mono (by decide)) rfl T.f_super (de_var 0 (pv 0))) da_nil))) (da_cons (de_tup (da_cons de_int (da_cons (de_mk1k (k := 0) T.x_BadSoft (hr.mono (by decide)) rfl T.f_super (de_var 0 (pv 0))) da_nil))) da_nil))))) cf_lst)))
  (dss_frz 1 (dss_cons (ds_setO (i := 1) sc__law_made.nd rfl (Or.inl rfl) (do_add (de_var 1 (pv 1)) (de_lock (do_lst (da_cons (de_tup (da_cons de_int (da_cons (de_mk1 (k := 0) T.x_BadState (hr.mono (by decide)) rfl T.f_super (de_var 0 (pv 0))) da_nil))) (da_cons (de_tup (da_cons de_int (da_cons (de_mk1k (k := 0) T.x_BadState (hr.mono (by decide)) rfl T.f_super (de_var 0 (pv 0))) da_nil))) (da_cons (de_tup (da_cons de_int (da_cons (de_mk1 (k := 0) T.x_HasRing (hr.mono (by decide)) rfl T.f_super (de_var 0 (pv 0))) da_nil))) (da_cons (de_tup (da_cons de_int (da_cons (de_mk1k (k := 0) T.x_HasRing (hr.mono (by decide)) rfl T.f_super (de_var 0 (pv 0))) da_nil))) da_nil))))) cf_lst)))
  (dss_frz 1 (dss_cons (ds_setO (i := 1) sc__law_made.nd rfl (Or.inl rfl) (do_add (de_var 1 (pv 1)) (de_lock (do_lst (da_cons (de_tup (da_cons de_int (da_cons (de_mk1 (k := 0) T.x_Missed (hr.mono (by decide)) rfl T.f_super (de_var 0 (pv 0))) da_nil))) (da_cons (de_tup (da_cons de_int (da_cons (de_mk1k (k := 0) T.x_Missed (hr.mono (by decide)) rfl T.f_super (de_var 0 (pv 0))) da_nil))) (da_cons (de_tup (da_cons de_int (da_cons (de_mk1 (k := 0) T.x_NoField (hr.mono (by decide)) rfl T.f_super (de_var 0 (pv 0))) da_nil))) (da_cons (de_tup (da_cons de_int (da_cons (de_mk1k (k := 0) T.x_NoField (hr.mono (by decide)) rfl T.f_super (de_var 0 (pv 0))) da_nil))) da_nil))))) cf_lst)))
  (dss_frz 1 (dss_cons (ds_setO (i := 1) sc__law_made.nd rfl (Or.inl rfl) (do_add (de_var 1 (pv 1)) (de_lock (do_lst (da_cons (de_tup (da_cons de_int (da_cons (de_mk1 (k := 0) T.x_NoKind (hr.mono (by decide)) rfl T.f_super (de_var 0 (pv 0))) da_nil))) (da_cons (de_tup (da_cons de_int (da_cons (de_mk1k (k := 0) T.x_NoKind (hr.mono (by decide)) rfl T.f_super (de_var 0 (pv 0))) da_nil))) (da_cons (de_tup (da_cons de_int (da_cons (de_mk1 (k := 0) T.x_NoRow (hr.mono (by decide)) rfl T.f_super (de_var 0 (pv 0))) da_nil))) (da_cons (de_tup (da_cons de_int (da_cons (de_mk1k (k := 0) T.x_NoRow (hr.mono (by decide)) rfl T.f_super (de_var 0 (pv 0))) da_nil))) da_nil))))) cf_lst)))
  (dss_frz 1 (dss_cons (ds_setO (i := 1) sc__law_made.nd rfl (Or.inl rfl) (do_add (de_var 1 (pv 1)) (de_lock (do_lst (da_cons (de_tup (da_cons de_int (da_cons (de_mk1 (k := 0) T.x_Stands (hr.mono (by decide)) rfl T.f_super (de_var 0 (pv 0))) da_nil))) (da_cons (de_tup (da_cons de_int (da_cons (de_mk1k (k := 0) T.x_Stands (hr.mono (by decide)) rfl T.f_super (de_var 0 (pv 0))) da_nil))) (da_cons (de_tup (da_cons de_int (da_cons (de_mk1 (k := 0) T.x_TooMany (hr.mono (by decide)) rfl T.f_super (de_var 0 (pv 0))) da_nil))) (da_cons (de_tup (da_cons de_int (da_cons (de_mk1k (k := 0) T.x_TooMany (hr.mono (by decide)) rfl T.f_super (de_var 0 (pv 0))) da_nil))) da_nil))))) cf_lst)))
  (dss_frz 1 (dss_one (ds_ret (de_var 1 (pv 1))))))))))))))))))
theorem ok__law_made {P : Program} {w : World} {K : PySem.W.Frag} {mg : Str → Option Value} {base : Heap} (T : Txt K mg P w) : Cal P w K mg base "_law_made" 4 ["_law_worth"] m__law_made := by
  obtain ⟨f, fd, A, F, O⟩ := fo__law_made T (base := base)
  exact ⟨f, fd, A, O, F.bindsN (fun _ _ _ _ _ _ us hl => match us, hl with | [_], _ => rfl)⟩
abbrev st__law_told : Stmt := top 28
abbrev N__law_told : List Str := ["_law_place", "_law_error"]
theorem sc__law_told : FnScope N__law_told ["_law_place", "_law_error"] (defScope st__law_told) := ⟨rfl, rfl, rfl, by decide +kernel, rfl, by decide +kernel, by decide +kernel⟩
theorem fo__law_told {P : Program} {w : World} {K : PySem.W.Frag} {mg : Str → Option Value} {base : Heap} (T : Txt K mg P w) : ∃ f fd, At K mg "_law_told" f ∧ FunD K "_law_told" "_law_told" (defArgs (top 28)) (defBody (top 28)) (defScope (top 28)) [] [] f fd ∧ FnOk P w K mg base CX0 1 f fd ["_law_place", "_law_error"] (spD ⟨K, mg, P, w⟩ 2 m__law_told) := by
  obtain ⟨f, fd, A, F⟩ := T.d__law_told
  refine ⟨f, fd, A, F, fn_D (N := N__law_told) (fb := s__law_told) F sc__law_told (fun cdv Ar outer s H E hr => ?_)⟩
  exact (dss_cons (ds_if (dt_cmp (op2_in (u65 hr)) (de_var 0 (pv 0)) (de_tup (da_cons de_int (da_cons de_int (da_cons de_int (da_cons de_int da_nil))))) rfl) (dss_one (ds_ret (de_fdX T.g_at (de_var 1 (pv 1))))) dss_nil)
  (dss_cons (ds_if (dt_cmp (op2_in (u65 hr)) (de_var 0 (pv 0)) (de_tup (da_cons de_int (da_cons de_int (da_cons de_int (da_cons de_int da_nil))))) rfl) (dss_one (ds_ret (de_fdX T.g_row (de_var 1 (pv 1))))) dss_nil)
  (dss_cons (ds_if (dt_cmp (op2_in (u65 hr)) (de_var 0 (pv 0)) (de_tup (da_cons de_int (da_cons de_int da_nil))) rfl) (dss_one (ds_ret (de_fdX T.g_kind (de_var 1 (pv 1))))) dss_nil)
  (dss_cons (ds_if (dt_cmp (op2_eq (u64 hr)) (de_var 0 (pv 0)) de_int (nomark _)) (dss_one (ds_ret (de_fdX T.g_name (de_var 1 (pv 1))))) dss_nil)
  (dss_cons (ds_if (dt_cmp (op2_eq (u64 hr)) (de_var 0 (pv 0)) de_int (nomark _)) (dss_one (ds_ret (de_fdX T.g_word (de_var 1 (pv 1))))) dss_nil)
  (dss_one (ds_ret (de_if (dt_cmp (op2_eq (u64 hr)) (de_var 0 (pv 0)) de_int (nomark _)) (de_fdX T.g_ring (de_var 1 (pv 1))) (de_fdX T.g_most (de_var 1 (pv 1)))))))))))
theorem ok__law_told {P : Program} {w : World} {K : PySem.W.Frag} {mg : Str → Option Value} {base : Heap} (T : Txt K mg P w) : Cal P w K mg base "_law_told" 1 ["_law_place", "_law_error"] m__law_told := by
  obtain ⟨f, fd, A, F, O⟩ := fo__law_told T (base := base)
  exact ⟨f, fd, A, O, F.bindsN (fun _ _ _ _ _ _ us hl => match us, hl with | [_, _], _ => rfl)⟩
abbrev st__law_begin : Stmt := top 22
theorem sc__law_begin : FnScope ["_law_script", "_law_large", "_law_cell"] ["_law_script"] (defScope st__law_begin) := ⟨rfl, rfl, rfl, by decide +kernel, rfl, by decide +kernel, by decide +kernel⟩
theorem fo__law_begin {P : Program} {w : World} {K : PySem.W.Frag} {mg : Str → Option Value} (T : Txt K mg P w) (base : Heap) : ∃ f fd, At K mg "_law_begin" f ∧ FunD K "_law_begin" "_law_begin" (defArgs st__law_begin) (defBody st__law_begin) (defScope st__law_begin) [] [] f fd ∧ FnOk P w K mg base CX0 2 f fd ["_law_script"] (spB K) := by
  obtain ⟨f, fd, A, F⟩ := T.d__law_begin
  refine ⟨f, fd, A, F, fn_B F sc__law_begin (fun cdv Ar outer s H E hr => ⟨?_, ?_⟩)⟩
  · exact ps_setLc (i := 1) (own := [("_law_cell", 2)]) rfl sc__law_begin.nd rfl rfl (sw_true rfl rfl rfl (by decide +kernel)) (pi_list (pv 0)) (blkOk_by (own := [("_law_cell", 2)]) (N := ["_law_script", "_law_large", "_law_cell"]) (sc := defScope st__law_begin) (by decide +kernel)) (fun _ _ _ _ _ => pg_name (i := 2) sc__law_begin.nd rfl (Or.inl rfl)) (fun _ _ _ _ _ => pts_one (pt_cmpR op_ge (pe_callB call_abs rfl T.f_abs bt_abs (pa_cons (pv 2) pa_nil)) (pe_op op_pow pe_int pe_int) (nomark _))) (fun _ _ _ _ _ => pe_callB call_abs rfl T.f_abs bt_abs (pa_cons (pv 2) pa_nil))
  · exact pe_disp (pps_cons pe_str (pv 1) (pps_cons pe_str (pe_callTy call_list_of rfl T.f_list bt_list (pa_cons (pv 0) pa_nil)) (pps_cons pe_str pe_int (pps_cons pe_str pe_int (pps_cons pe_str pe_int pps_nil))))) rfl rfl (by simp) (by decide)
abbrev st_law : Stmt := top 29
abbrev N_law : List Str := ["_law_script", "_law_draw", "_law_turn", "_law_worth", "_law_place", "_law_error", "_law_plain", "_law_k"]
theorem sc_law : FnScope N_law ["_law_script"] (defScope st_law) := ⟨rfl, rfl, rfl, by decide +kernel, rfl, by decide +kernel, by decide +kernel⟩
theorem ok_law {P : Program} {w : World} {K : PySem.W.Frag} {mg : Str → Option Value} (T : Txt K mg P w) (base : Heap) {f : Addr} {fd : FuncData} (F : FunD K "law" "law" (defArgs st_law) (defBody st_law) (defScope st_law) [] [] f fd) : FnC P w K mg base f fd ["_law_script"] (spLaw ⟨K, mg, P, w⟩ 6 s_law) := by
  obtain ⟨fB, fdB, AB, FB, OB⟩ := fo__law_begin T base
  have bB : Binds K fdB ["_law_script"] [] := FB.bindsN (fun _ _ _ _ _ _ us hl => match us, hl with | [_], _ => rfl)
  refine fn_C (k := 5) F sc_law ⟨rfl, by decide, by decide⟩ (fun vs H Q h => ?_) (fun cdv outer s H vs Q hr h => ?_)
  · obtain ⟨_, _, a, ns, rfl, _⟩ := h; rfl
  · have hgd : (cxOf CX0 P w K mg base N_law "law" (defScope st_law) f cdv callerA outer s H fun _ _ _ => False).nox.A.guards = some [] := rfl
    have h0 : PS (cxOf CX0 P w K mg base N_law "law" (defScope st_law) f cdv callerA outer s H fun _ _ _ => False).nox ((defBody st_law).getD 0 (.Pass ⟨0, 0, 0, 0⟩)) (tAsg (tCall (spB K) [] E0 (tCons (tVar 0) tNil)) (gName 1)) := ps_set (i := 1) sc_law.nd rfl (Or.inl rfl) (pe_call OB (hr.mono (by decide)) rfl AB.mg AB.kp bB .nil pass0 (pa_cons (pv 0) pa_nil))
    have hb : DSs (cxOf CX0 P w K mg base N_law "law" (defScope st_law) f cdv callerA outer s H fun _ _ _ => False).nox (defBody st_law).tail s_law := (dss_cons (ds_for PassesOwn.never rfl (di_range1 rfl T.f_range (de_bin op2_add de_int (de_bi (c1_min rfl) rfl T.f_min bt_min (da_cons (de_bi c1_len rfl T.f_len bt_len (da_cons (de_var 0 (pv 0)) da_nil)) (da_cons de_int da_nil))))) (dg_name (i := 2) sc_law.nd rfl (Or.inl rfl)) (dss_cons (ds_set (i := 3) sc_law.nd rfl (Or.inl rfl) (de_cal (ok__law_odd T) (hr.mono (by decide)) rfl (da_cons (de_var 1 (pv 1)) da_nil)))
  (dss_cons (ds_for PassesOwn.never rfl (di_val (de_cal (ok__law_made T) (hr.mono (by decide)) rfl (da_cons (de_var 3 (pv 3)) da_nil))) (dg_tup rfl (dgs_cons (dg_name (i := 4) sc_law.nd rfl (Or.inr rfl)) (dgs_cons (dg_name (i := 5) sc_law.nd rfl (Or.inl rfl)) dgs_nil))) (dss_cons (ds_if (DW.pt (dw_or (dt_not (dt_val (de_isX rfl T.f_isinstance rfl T.j_LotError (de_var 5 (pv 5))))) (dw_or1 (dt_not (dt_val (de_isV rfl T.f_isinstance rfl T.f_ValueError T.v_ValueError (de_var 5 (pv 5)))))))) (dss_one (ds_ret de_bl)) dss_nil)
  (dss_one (ds_if (DW.pt (dw_or (dt_cmp (op2_ne (u64 hr)) (de_cal (ok__law_marks T) (hr.mono (by decide)) rfl (da_cons (de_var 5 (pv 5)) da_nil)) (de_lock (do_comp (own := [("_law_k", 7)]) rfl sc_law.nd (di_range1 rfl T.f_range de_int) (blkOk_by (own := [("_law_k", 7)]) (N := N_law) (sc := defScope st_law) (by decide +kernel)) (by decide) (fun _ _ _ _ _ => (dg_name (i := 7) sc_law.nd rfl (Or.inl rfl))) (fun _ _ _ _ _ => dts_nil) (fun _ _ _ _ _ => (de_cmp (op2_eq (u64 hr)) (de_var 7 (pv 7)) (de_var 4 (pv 4)) (nomark _)))) cf_comp) (nomark _)) (dw_or1 (dt_cmp (op2_ne (u64 hr)) (de_bi (c1_reprG T.z_sys hgd (u64 hr)) rfl T.f_repr bt_repr (da_cons (de_cal (ok__law_told T) (hr.mono (by decide)) rfl (da_cons (de_var 4 (pv 4)) (da_cons (de_var 5 (pv 5)) da_nil))) da_nil)) (de_bi (c1_reprG T.z_sys hgd (u64 hr)) rfl T.f_repr bt_repr (da_cons (de_var 3 (pv 3)) da_nil)) (nomark _))))) (dss_one (ds_ret de_bl)) dss_nil))))
  (dss_cons (ds_setO (i := 6) sc_law.nd rfl (Or.inl rfl) (do_lst (da_cons (de_tup (da_cons de_int (da_cons (de_mk0 T.y_BadCame rfl) da_nil))) (da_cons (de_tup (da_cons de_int (da_cons (de_mk0 T.y_BadRing rfl) da_nil))) (da_cons (de_tup (da_cons de_int (da_cons (de_mk0 T.y_BadStatement rfl) da_nil))) (da_cons (de_tup (da_cons de_int (da_cons (de_mk0 T.y_BadValue rfl) da_nil))) da_nil))))))
  (dss_frz 6 (dss_one (ds_for PassesOwn.never rfl (di_val (de_lock (do_add (de_var 6 (pv 6)) (de_lock (do_lst (da_cons (de_tup (da_cons de_int (da_cons (de_mk0 T.y_NotAlike rfl) da_nil))) da_nil)) cf_lst)) cf_add)) (dg_tup rfl (dgs_cons (dg_name (i := 4) sc_law.nd rfl (Or.inr rfl)) (dgs_cons (dg_name (i := 5) sc_law.nd rfl (Or.inl rfl)) dgs_nil))) (dss_one (ds_if (DW.pt (dw_or (dt_not (dt_val (de_isX rfl T.f_isinstance rfl T.j_LotError (de_var 5 (pv 5))))) (dw_or1 (dt_cmp (op2_ne (u64 hr)) (de_cal (ok__law_marks T) (hr.mono (by decide)) rfl (da_cons (de_var 5 (pv 5)) da_nil)) (de_lock (do_comp (own := [("_law_k", 7)]) rfl sc_law.nd (di_range1 rfl T.f_range de_int) (blkOk_by (own := [("_law_k", 7)]) (N := N_law) (sc := defScope st_law) (by decide +kernel)) (by decide) (fun _ _ _ _ _ => (dg_name (i := 7) sc_law.nd rfl (Or.inl rfl))) (fun _ _ _ _ _ => dts_nil) (fun _ _ _ _ _ => (de_cmp (op2_eq (u64 hr)) (de_var 7 (pv 7)) (de_var 4 (pv 4)) (nomark _)))) cf_comp) (nomark _))))) (dss_one (ds_ret de_bl)) dss_nil)))))))))
  (dss_one (ds_ret (de_and (de_cmp (op2_notIn (u65 hr)) de_bl (de_cal (ok__law_marks T) (hr.mono (by decide)) rfl (da_cons (de_mk0 T.y_LotError rfl) da_nil)) rfl) (de_one (de_isV rfl T.f_isinstance rfl T.f_ValueError T.v_ValueError (de_mk0 T.y_LotError rfl)))))))
    have L := law_body (n := 6) h0 hb
    obtain ⟨t1, t2, a, ns, rfl, h2⟩ := h
    exact ⟨_, PSs.nox L.1, L.2 [.ref a] H Q ⟨t1, t2, a, ns, rfl, h2⟩⟩
end K01
set_option Elab.async false
set_option linter.all false
set_option maxRecDepth 100000
set_option maxHeartbeats 0
namespace K01
open PySem PySem.Spec L2 Dl
def he0 : ErrY := ⟨"BadDeed", "at", "BadDeed.__init__", defArgs (inClass (top 18) 0), defBody (inClass (top 18) 0), defScope (inClass (top 18) 0)⟩
theorem het0 : ErrTxt PySem.Challenge.rw_lotorder_k01_errors_told.prog he0 := ⟨⟨_, _, _, _, _, _, _, _, _, _, _, _, rfl, by decide⟩, ⟨_, rfl, rfl⟩, fun _ _ _ _ _ _ _ _ _ => ⟨rfl, rfl⟩, ⟨rfl, rfl, rfl, rfl, rfl, rfl, rfl, by decide +kernel⟩, by decide, by decide, by decide +kernel⟩
def he1 : ErrY := ⟨"BadJournal", "row", "BadJournal.__init__", defArgs (inClass (top 19) 0), defBody (inClass (top 19) 0), defScope (inClass (top 19) 0)⟩
theorem het1 : ErrTxt PySem.Challenge.rw_lotorder_k01_errors_told.prog he1 := ⟨⟨_, _, _, _, _, _, _, _, _, _, _, _, rfl, by decide⟩, ⟨_, rfl, rfl⟩, fun _ _ _ _ _ _ _ _ _ => ⟨rfl, rfl⟩, ⟨rfl, rfl, rfl, rfl, rfl, rfl, rfl, by decide +kernel⟩, by decide, by decide, by decide +kernel⟩
def he2 : ErrY := ⟨"BadLine", "row", "BadLine.__init__", defArgs (inClass (top 20) 0), defBody (inClass (top 20) 0), defScope (inClass (top 20) 0)⟩
theorem het2 : ErrTxt PySem.Challenge.rw_lotorder_k01_errors_told.prog he2 := ⟨⟨_, _, _, _, _, _, _, _, _, _, _, _, rfl, by decide⟩, ⟨_, rfl, rfl⟩, fun _ _ _ _ _ _ _ _ _ => ⟨rfl, rfl⟩, ⟨rfl, rfl, rfl, rfl, rfl, rfl, rfl, by decide +kernel⟩, by decide, by decide, by decide +kernel⟩
def he3 : ErrY := ⟨"BadRule", "at", "BadRule.__init__", defArgs (inClass (top 6) 0), defBody (inClass (top 6) 0), defScope (inClass (top 6) 0)⟩
theorem het3 : ErrTxt PySem.Challenge.rw_lotorder_k01_errors_told.prog he3 := ⟨⟨_, _, _, _, _, _, _, _, _, _, _, _, rfl, by decide⟩, ⟨_, rfl, rfl⟩, fun _ _ _ _ _ _ _ _ _ => ⟨rfl, rfl⟩, ⟨rfl, rfl, rfl, rfl, rfl, rfl, rfl, by decide +kernel⟩, by decide, by decide, by decide +kernel⟩
def he4 : ErrY := ⟨"BadSchema", "kind", "BadSchema.__init__", defArgs (inClass (top 2) 0), defBody (inClass (top 2) 0), defScope (inClass (top 2) 0)⟩
theorem het4 : ErrTxt PySem.Challenge.rw_lotorder_k01_errors_told.prog he4 := ⟨⟨_, _, _, _, _, _, _, _, _, _, _, _, rfl, by decide⟩, ⟨_, rfl, rfl⟩, fun _ _ _ _ _ _ _ _ _ => ⟨rfl, rfl⟩, ⟨rfl, rfl, rfl, rfl, rfl, rfl, rfl, by decide +kernel⟩, by decide, by decide, by decide +kernel⟩
def he5 : ErrY := ⟨"BadSoft", "at", "BadSoft.__init__", defArgs (inClass (top 5) 0), defBody (inClass (top 5) 0), defScope (inClass (top 5) 0)⟩
theorem het5 : ErrTxt PySem.Challenge.rw_lotorder_k01_errors_told.prog he5 := ⟨⟨_, _, _, _, _, _, _, _, _, _, _, _, rfl, by decide⟩, ⟨_, rfl, rfl⟩, fun _ _ _ _ _ _ _ _ _ => ⟨rfl, rfl⟩, ⟨rfl, rfl, rfl, rfl, rfl, rfl, rfl, by decide +kernel⟩, by decide, by decide, by decide +kernel⟩
def he6 : ErrY := ⟨"BadState", "word", "BadState.__init__", defArgs (inClass (top 3) 0), defBody (inClass (top 3) 0), defScope (inClass (top 3) 0)⟩
theorem het6 : ErrTxt PySem.Challenge.rw_lotorder_k01_errors_told.prog he6 := ⟨⟨_, _, _, _, _, _, _, _, _, _, _, _, rfl, by decide⟩, ⟨_, rfl, rfl⟩, fun _ _ _ _ _ _ _ _ _ => ⟨rfl, rfl⟩, ⟨rfl, rfl, rfl, rfl, rfl, rfl, rfl, by decide +kernel⟩, by decide, by decide, by decide +kernel⟩
def he7 : ErrY := ⟨"HasRing", "ring", "HasRing.__init__", defArgs (inClass (top 8) 0), defBody (inClass (top 8) 0), defScope (inClass (top 8) 0)⟩
theorem het7 : ErrTxt PySem.Challenge.rw_lotorder_k01_errors_told.prog he7 := ⟨⟨_, _, _, _, _, _, _, _, _, _, _, _, rfl, by decide⟩, ⟨_, rfl, rfl⟩, fun _ _ _ _ _ _ _ _ _ => ⟨rfl, rfl⟩, ⟨rfl, rfl, rfl, rfl, rfl, rfl, rfl, by decide +kernel⟩, by decide, by decide, by decide +kernel⟩
def he8 : ErrY := ⟨"Missed", "at", "Missed.__init__", defArgs (inClass (top 17) 0), defBody (inClass (top 17) 0), defScope (inClass (top 17) 0)⟩
theorem het8 : ErrTxt PySem.Challenge.rw_lotorder_k01_errors_told.prog he8 := ⟨⟨_, _, _, _, _, _, _, _, _, _, _, _, rfl, by decide⟩, ⟨_, rfl, rfl⟩, fun _ _ _ _ _ _ _ _ _ => ⟨rfl, rfl⟩, ⟨rfl, rfl, rfl, rfl, rfl, rfl, rfl, by decide +kernel⟩, by decide, by decide, by decide +kernel⟩
def he9 : ErrY := ⟨"NoField", "name", "NoField.__init__", defArgs (inClass (top 13) 0), defBody (inClass (top 13) 0), defScope (inClass (top 13) 0)⟩
theorem het9 : ErrTxt PySem.Challenge.rw_lotorder_k01_errors_told.prog he9 := ⟨⟨_, _, _, _, _, _, _, _, _, _, _, _, rfl, by decide⟩, ⟨_, rfl, rfl⟩, fun _ _ _ _ _ _ _ _ _ => ⟨rfl, rfl⟩, ⟨rfl, rfl, rfl, rfl, rfl, rfl, rfl, by decide +kernel⟩, by decide, by decide, by decide +kernel⟩
def he10 : ErrY := ⟨"NoKind", "kind", "NoKind.__init__", defArgs (inClass (top 11) 0), defBody (inClass (top 11) 0), defScope (inClass (top 11) 0)⟩
theorem het10 : ErrTxt PySem.Challenge.rw_lotorder_k01_errors_told.prog he10 := ⟨⟨_, _, _, _, _, _, _, _, _, _, _, _, rfl, by decide⟩, ⟨_, rfl, rfl⟩, fun _ _ _ _ _ _ _ _ _ => ⟨rfl, rfl⟩, ⟨rfl, rfl, rfl, rfl, rfl, rfl, rfl, by decide +kernel⟩, by decide, by decide, by decide +kernel⟩
def he11 : ErrY := ⟨"NoRow", "row", "NoRow.__init__", defArgs (inClass (top 12) 0), defBody (inClass (top 12) 0), defScope (inClass (top 12) 0)⟩
theorem het11 : ErrTxt PySem.Challenge.rw_lotorder_k01_errors_told.prog he11 := ⟨⟨_, _, _, _, _, _, _, _, _, _, _, _, rfl, by decide⟩, ⟨_, rfl, rfl⟩, fun _ _ _ _ _ _ _ _ _ => ⟨rfl, rfl⟩, ⟨rfl, rfl, rfl, rfl, rfl, rfl, rfl, by decide +kernel⟩, by decide, by decide, by decide +kernel⟩
def he12 : ErrY := ⟨"Stands", "row", "Stands.__init__", defArgs (inClass (top 15) 0), defBody (inClass (top 15) 0), defScope (inClass (top 15) 0)⟩
theorem het12 : ErrTxt PySem.Challenge.rw_lotorder_k01_errors_told.prog he12 := ⟨⟨_, _, _, _, _, _, _, _, _, _, _, _, rfl, by decide⟩, ⟨_, rfl, rfl⟩, fun _ _ _ _ _ _ _ _ _ => ⟨rfl, rfl⟩, ⟨rfl, rfl, rfl, rfl, rfl, rfl, rfl, by decide +kernel⟩, by decide, by decide, by decide +kernel⟩
def he13 : ErrY := ⟨"TooMany", "most", "TooMany.__init__", defArgs (inClass (top 10) 0), defBody (inClass (top 10) 0), defScope (inClass (top 10) 0)⟩
theorem het13 : ErrTxt PySem.Challenge.rw_lotorder_k01_errors_told.prog he13 := ⟨⟨_, _, _, _, _, _, _, _, _, _, _, _, rfl, by decide⟩, ⟨_, rfl, rfl⟩, fun _ _ _ _ _ _ _ _ _ => ⟨rfl, rfl⟩, ⟨rfl, rfl, rfl, rfl, rfl, rfl, rfl, by decide +kernel⟩, by decide, by decide, by decide +kernel⟩
def her : List ErrY := [he0, he1, he2, he3, he4, he5, he6, he7, he8, he9, he10, he11, he12, he13]
def hd0 : DefY := ⟨fun K => He.ga K "_law_begin", "_law_begin", "_law_begin", defArgs (top 22), defBody (top 22), defScope (top 22), []⟩
def hd1 : DefY := ⟨fun K => He.ga K "_law_made", "_law_made", "_law_made", defArgs (top 27), defBody (top 27), defScope (top 27), []⟩
def hd2 : DefY := ⟨fun K => He.ga K "_law_marks", "_law_marks", "_law_marks", defArgs (top 26), defBody (top 26), defScope (top 26), []⟩
def hd3 : DefY := ⟨fun K => He.ga K "_law_odd", "_law_odd", "_law_odd", defArgs (top 25), defBody (top 25), defScope (top 25), []⟩
def hd4 : DefY := ⟨fun K => He.ga K "_law_pick", "_law_pick", "_law_pick", defArgs (top 24), defBody (top 24), defScope (top 24), []⟩
def hd5 : DefY := ⟨fun K => He.ga K "_law_take", "_law_take", "_law_take", defArgs (top 23), defBody (top 23), defScope (top 23), []⟩
def hd6 : DefY := ⟨fun K => He.ga K "_law_told", "_law_told", "_law_told", defArgs (top 28), defBody (top 28), defScope (top 28), []⟩
def hd7 : DefY := ⟨fun K => He.ga K "law", "law", "law", defArgs (top 29), defBody (top 29), defScope (top 29), []⟩
def hfa0 : List (He.Fa) := [.glo "_law_begin", .glo "_law_made", .glo "_law_marks", .glo "_law_odd", .glo "_law_pick", .glo "_law_take", .glo "_law_told", .free "ValueError", .free "abs", .free "divmod", .free "int", .free "isinstance", .free "len", .free "list", .free "min", .free "range", .free "repr", .free "super", .glo "BadSoft", .glo "BadRule", .glo "Missed", .glo "BadDeed", .glo "BadSchema", .glo "NoKind", .glo "TooMany", .glo "NoField", .glo "HasRing", .glo "NoRow", .glo "Stands", .glo "BadJournal"]
def hfa1 : List (He.Fa) := [.glo "BadLine", .glo "BadState", .glo "LotError", .glo "BadCame", .glo "BadRing", .glo "NotAlike", .glo "BadValue", .glo "BadStatement", .glo "law"]
def hfa : List (He.Fa) := hfa0 ++ hfa1
def hfn0 : List (DefY) := [hd0, hd1, hd2, hd3, hd4, hd5, hd6, hd7]
def hfn : List (DefY) := hfn0
def hex0 : List (PySem.W.Frag → Bool) := [fun K => fdXsB K "at" ["BadSoft", "BadRule", "Missed", "BadDeed"], fun K => fdXsB K "kind" ["BadSchema", "NoKind"], fun K => fdXsB K "most" ["TooMany"], fun K => fdXsB K "name" ["NoField"], fun K => fdXsB K "ring" ["HasRing"], fun K => fdXsB K "row" ["NoRow", "Stands", "BadJournal", "BadLine"], fun K => fdXsB K "word" ["BadState"], fun K => isXsB K "BadCame" [("LotError", false), ("BadSchema", false), ("BadState", false), ("BadCame", true), ("BadSoft", false), ("BadRule", false), ("BadRing", false), ("HasRing", false), ("NotAlike", false), ("TooMany", false), ("NoKind", false), ("NoRow", false), ("NoField", false), ("BadValue", false), ("Stands", false), ("BadStatement", false), ("Missed", false), ("BadDeed", false), ("BadJournal", false), ("BadLine", false)], fun K => isXsB K "BadDeed" [("LotError", false), ("BadSchema", false), ("BadState", false), ("BadCame", false), ("BadSoft", false), ("BadRule", false), ("BadRing", false), ("HasRing", false), ("NotAlike", false), ("TooMany", false), ("NoKind", false), ("NoRow", false), ("NoField", false), ("BadValue", false), ("Stands", false), ("BadStatement", false), ("Missed", false), ("BadDeed", true), ("BadJournal", false), ("BadLine", false)], fun K => isXsB K "BadJournal" [("LotError", false), ("BadSchema", false), ("BadState", false), ("BadCame", false), ("BadSoft", false), ("BadRule", false), ("BadRing", false), ("HasRing", false), ("NotAlike", false), ("TooMany", false), ("NoKind", false), ("NoRow", false), ("NoField", false), ("BadValue", false), ("Stands", false), ("BadStatement", false), ("Missed", false), ("BadDeed", false), ("BadJournal", true), ("BadLine", false)], fun K => isXsB K "BadLine" [("LotError", false), ("BadSchema", false), ("BadState", false), ("BadCame", false), ("BadSoft", false), ("BadRule", false), ("BadRing", false), ("HasRing", false), ("NotAlike", false), ("TooMany", false), ("NoKind", false), ("NoRow", false), ("NoField", false), ("BadValue", false), ("Stands", false), ("BadStatement", false), ("Missed", false), ("BadDeed", false), ("BadJournal", false), ("BadLine", true)], fun K => isXsB K "BadRing" [("LotError", false), ("BadSchema", false), ("BadState", false), ("BadCame", false), ("BadSoft", false), ("BadRule", false), ("BadRing", true), ("HasRing", false), ("NotAlike", false), ("TooMany", false), ("NoKind", false), ("NoRow", false), ("NoField", false), ("BadValue", false), ("Stands", false), ("BadStatement", false), ("Missed", false), ("BadDeed", false), ("BadJournal", false), ("BadLine", false)], fun K => isXsB K "BadRule" [("LotError", false), ("BadSchema", false), ("BadState", false), ("BadCame", false), ("BadSoft", false), ("BadRule", true), ("BadRing", false), ("HasRing", false), ("NotAlike", false), ("TooMany", false), ("NoKind", false), ("NoRow", false), ("NoField", false), ("BadValue", false), ("Stands", false), ("BadStatement", false), ("Missed", false), ("BadDeed", false), ("BadJournal", false), ("BadLine", false)], fun K => isXsB K "BadSchema" [("LotError", false), ("BadSchema", true), ("BadState", false), ("BadCame", false), ("BadSoft", false), ("BadRule", false), ("BadRing", false), ("HasRing", false), ("NotAlike", false), ("TooMany", false), ("NoKind", false), ("NoRow", false), ("NoField", false), ("BadValue", false), ("Stands", false), ("BadStatement", false), ("Missed", false), ("BadDeed", false), ("BadJournal", false), ("BadLine", false)], fun K => isXsB K "BadSoft" [("LotError", false), ("BadSchema", false), ("BadState", false), ("BadCame", false), ("BadSoft", true), ("BadRule", false), ("BadRing", false), ("HasRing", false), ("NotAlike", false), ("TooMany", false), ("NoKind", false), ("NoRow", false), ("NoField", false), ("BadValue", false), ("Stands", false), ("BadStatement", false), ("Missed", false), ("BadDeed", false), ("BadJournal", false), ("BadLine", false)], fun K => isXsB K "BadState" [("LotError", false), ("BadSchema", false), ("BadState", true), ("BadCame", false), ("BadSoft", false), ("BadRule", false), ("BadRing", false), ("HasRing", false), ("NotAlike", false), ("TooMany", false), ("NoKind", false), ("NoRow", false), ("NoField", false), ("BadValue", false), ("Stands", false), ("BadStatement", false), ("Missed", false), ("BadDeed", false), ("BadJournal", false), ("BadLine", false)], fun K => isXsB K "BadStatement" [("LotError", false), ("BadSchema", false), ("BadState", false), ("BadCame", false), ("BadSoft", false), ("BadRule", false), ("BadRing", false), ("HasRing", false), ("NotAlike", false), ("TooMany", false), ("NoKind", false), ("NoRow", false), ("NoField", false), ("BadValue", false), ("Stands", false), ("BadStatement", true), ("Missed", false), ("BadDeed", false), ("BadJournal", false), ("BadLine", false)], fun K => isXsB K "BadValue" [("LotError", false), ("BadSchema", false), ("BadState", false), ("BadCame", false), ("BadSoft", false), ("BadRule", false), ("BadRing", false), ("HasRing", false), ("NotAlike", false), ("TooMany", false), ("NoKind", false), ("NoRow", false), ("NoField", false), ("BadValue", true), ("Stands", false), ("BadStatement", false), ("Missed", false), ("BadDeed", false), ("BadJournal", false), ("BadLine", false)], fun K => isXsB K "HasRing" [("LotError", false), ("BadSchema", false), ("BadState", false), ("BadCame", false), ("BadSoft", false), ("BadRule", false), ("BadRing", false), ("HasRing", true), ("NotAlike", false), ("TooMany", false), ("NoKind", false), ("NoRow", false), ("NoField", false), ("BadValue", false), ("Stands", false), ("BadStatement", false), ("Missed", false), ("BadDeed", false), ("BadJournal", false), ("BadLine", false)], fun K => isXsB K "LotError" [("LotError", true), ("BadSchema", true), ("BadState", true), ("BadCame", true), ("BadSoft", true), ("BadRule", true), ("BadRing", true), ("HasRing", true), ("NotAlike", true), ("TooMany", true), ("NoKind", true), ("NoRow", true), ("NoField", true), ("BadValue", true), ("Stands", true), ("BadStatement", true), ("Missed", true), ("BadDeed", true), ("BadJournal", true), ("BadLine", true)], fun K => isXsB K "Missed" [("LotError", false), ("BadSchema", false), ("BadState", false), ("BadCame", false), ("BadSoft", false), ("BadRule", false), ("BadRing", false), ("HasRing", false), ("NotAlike", false), ("TooMany", false), ("NoKind", false), ("NoRow", false), ("NoField", false), ("BadValue", false), ("Stands", false), ("BadStatement", false), ("Missed", true), ("BadDeed", false), ("BadJournal", false), ("BadLine", false)], fun K => isXsB K "NoField" [("LotError", false), ("BadSchema", false), ("BadState", false), ("BadCame", false), ("BadSoft", false), ("BadRule", false), ("BadRing", false), ("HasRing", false), ("NotAlike", false), ("TooMany", false), ("NoKind", false), ("NoRow", false), ("NoField", true), ("BadValue", false), ("Stands", false), ("BadStatement", false), ("Missed", false), ("BadDeed", false), ("BadJournal", false), ("BadLine", false)], fun K => isXsB K "NoKind" [("LotError", false), ("BadSchema", false), ("BadState", false), ("BadCame", false), ("BadSoft", false), ("BadRule", false), ("BadRing", false), ("HasRing", false), ("NotAlike", false), ("TooMany", false), ("NoKind", true), ("NoRow", false), ("NoField", false), ("BadValue", false), ("Stands", false), ("BadStatement", false), ("Missed", false), ("BadDeed", false), ("BadJournal", false), ("BadLine", false)], fun K => isXsB K "NoRow" [("LotError", false), ("BadSchema", false), ("BadState", false), ("BadCame", false), ("BadSoft", false), ("BadRule", false), ("BadRing", false), ("HasRing", false), ("NotAlike", false), ("TooMany", false), ("NoKind", false), ("NoRow", true), ("NoField", false), ("BadValue", false), ("Stands", false), ("BadStatement", false), ("Missed", false), ("BadDeed", false), ("BadJournal", false), ("BadLine", false)], fun K => isXsB K "NotAlike" [("LotError", false), ("BadSchema", false), ("BadState", false), ("BadCame", false), ("BadSoft", false), ("BadRule", false), ("BadRing", false), ("HasRing", false), ("NotAlike", true), ("TooMany", false), ("NoKind", false), ("NoRow", false), ("NoField", false), ("BadValue", false), ("Stands", false), ("BadStatement", false), ("Missed", false), ("BadDeed", false), ("BadJournal", false), ("BadLine", false)], fun K => isXsB K "Stands" [("LotError", false), ("BadSchema", false), ("BadState", false), ("BadCame", false), ("BadSoft", false), ("BadRule", false), ("BadRing", false), ("HasRing", false), ("NotAlike", false), ("TooMany", false), ("NoKind", false), ("NoRow", false), ("NoField", false), ("BadValue", false), ("Stands", true), ("BadStatement", false), ("Missed", false), ("BadDeed", false), ("BadJournal", false), ("BadLine", false)], fun K => isXsB K "TooMany" [("LotError", false), ("BadSchema", false), ("BadState", false), ("BadCame", false), ("BadSoft", false), ("BadRule", false), ("BadRing", false), ("HasRing", false), ("NotAlike", false), ("TooMany", true), ("NoKind", false), ("NoRow", false), ("NoField", false), ("BadValue", false), ("Stands", false), ("BadStatement", false), ("Missed", false), ("BadDeed", false), ("BadJournal", false), ("BadLine", false)], fun K => isVsB K [("LotError", true), ("BadSchema", true), ("BadState", true), ("BadCame", true), ("BadSoft", true), ("BadRule", true), ("BadRing", true), ("HasRing", true), ("NotAlike", true), ("TooMany", true), ("NoKind", true), ("NoRow", true), ("NoField", true), ("BadValue", true), ("Stands", true), ("BadStatement", true), ("Missed", true), ("BadDeed", true), ("BadJournal", true), ("BadLine", true)], fun K => ErrY.ok K PySem.Challenge.rw_lotorder_k01_errors_told.prog.main.file he0, fun K => ErrY.ok K PySem.Challenge.rw_lotorder_k01_errors_told.prog.main.file he1]
def hex1 : List (PySem.W.Frag → Bool) := [fun K => ErrY.ok K PySem.Challenge.rw_lotorder_k01_errors_told.prog.main.file he2, fun K => ErrY.ok K PySem.Challenge.rw_lotorder_k01_errors_told.prog.main.file he3, fun K => ErrY.ok K PySem.Challenge.rw_lotorder_k01_errors_told.prog.main.file he4, fun K => ErrY.ok K PySem.Challenge.rw_lotorder_k01_errors_told.prog.main.file he5, fun K => ErrY.ok K PySem.Challenge.rw_lotorder_k01_errors_told.prog.main.file he6, fun K => ErrY.ok K PySem.Challenge.rw_lotorder_k01_errors_told.prog.main.file he7, fun K => ErrY.ok K PySem.Challenge.rw_lotorder_k01_errors_told.prog.main.file he8, fun K => ErrY.ok K PySem.Challenge.rw_lotorder_k01_errors_told.prog.main.file he9, fun K => ErrY.ok K PySem.Challenge.rw_lotorder_k01_errors_told.prog.main.file he10, fun K => ErrY.ok K PySem.Challenge.rw_lotorder_k01_errors_told.prog.main.file he11, fun K => ErrY.ok K PySem.Challenge.rw_lotorder_k01_errors_told.prog.main.file he12, fun K => ErrY.ok K PySem.Challenge.rw_lotorder_k01_errors_told.prog.main.file he13, fun K => ownB K "BadCame", fun K => ownB K "BadRing", fun K => ownB K "BadStatement", fun K => ownB K "BadValue", fun K => ownB K "LotError", fun K => ownB K "NotAlike", fun K => sysB K]
def hex : List (PySem.W.Frag → Bool) := hex0 ++ hex1
def hlo0 : List (Str) := ["LotError", "BadSchema", "BadState", "BadCame", "BadSoft", "BadRule", "BadRing", "HasRing", "NotAlike", "TooMany", "NoKind", "NoRow", "NoField", "BadValue", "Stands", "BadStatement", "Missed", "BadDeed", "BadJournal", "BadLine", "_law_begin", "_law_take", "_law_pick", "_law_odd", "_law_marks", "_law_made", "_law_told"]
def hlo : List (Str) := hlo0
abbrev R : PySem.W.OpenRow := PySem.W.OpenLaw.row PySem.Challenge.rw_lotorder_k01_errors_told
abbrev hk : PySem.W.Hook := hookE 5 hfa hfn hex her
def ob (s : PySem.W.SharedT) : AlY × List FnS := obsEG 5 hfa hfn hex her (HandSHeadRun.getT s)
theorem ob_eq (s : PySem.W.SharedT) : ob s = hk.obs s.abs := obsEG_eq (HandSHeadRun.getT_eq s)
theorem run (w : World) : HandSHeadRun.RunEq R (PySem.W.view R.prog [29]) hk ob 6000 hlo w := by
  intro os
  kernel_rfl
theorem txt {w : World} {K : PySem.W.Frag} {h : Heap} {mg : Str → Option Value} (X : K.In h) (G : h.Ns mainGlobals mg) (c : SaysY hfa hfn hex K) (ce : her.map (fun d => fnS K (d.ad K)) = her.map ErrY.val) : Txt K mg PySem.Challenge.rw_lotorder_k01_errors_told.prog w where
  d__law_begin := (let ⟨fd, F⟩ := c.def_ 0 (d := hd0); ⟨_, fd, ⟨(He.glo_ok X G (c.fact 0 (f := .glo "_law_begin"))), F.kp⟩, F⟩)
  d__law_made := (let ⟨fd, F⟩ := c.def_ 1 (d := hd1); ⟨_, fd, ⟨(He.glo_ok X G (c.fact 1 (f := .glo "_law_made"))), F.kp⟩, F⟩)
  d__law_marks := (let ⟨fd, F⟩ := c.def_ 2 (d := hd2); ⟨_, fd, ⟨(He.glo_ok X G (c.fact 2 (f := .glo "_law_marks"))), F.kp⟩, F⟩)
  d__law_odd := (let ⟨fd, F⟩ := c.def_ 3 (d := hd3); ⟨_, fd, ⟨(He.glo_ok X G (c.fact 3 (f := .glo "_law_odd"))), F.kp⟩, F⟩)
  d__law_pick := (let ⟨fd, F⟩ := c.def_ 4 (d := hd4); ⟨_, fd, ⟨(He.glo_ok X G (c.fact 4 (f := .glo "_law_pick"))), F.kp⟩, F⟩)
  d__law_take := (let ⟨fd, F⟩ := c.def_ 5 (d := hd5); ⟨_, fd, ⟨(He.glo_ok X G (c.fact 5 (f := .glo "_law_take"))), F.kp⟩, F⟩)
  d__law_told := (let ⟨fd, F⟩ := c.def_ 6 (d := hd6); ⟨_, fd, ⟨(He.glo_ok X G (c.fact 6 (f := .glo "_law_told"))), F.kp⟩, F⟩)
  f_ValueError := (He.free_ok X G (c.fact 7 (f := .free "ValueError")))
  f_abs := (He.free_ok X G (c.fact 8 (f := .free "abs")))
  f_divmod := (He.free_ok X G (c.fact 9 (f := .free "divmod")))
  f_int := (He.free_ok X G (c.fact 10 (f := .free "int")))
  f_isinstance := (He.free_ok X G (c.fact 11 (f := .free "isinstance")))
  f_len := (He.free_ok X G (c.fact 12 (f := .free "len")))
  f_list := (He.free_ok X G (c.fact 13 (f := .free "list")))
  f_min := (He.free_ok X G (c.fact 14 (f := .free "min")))
  f_range := (He.free_ok X G (c.fact 15 (f := .free "range")))
  f_repr := (He.free_ok X G (c.fact 16 (f := .free "repr")))
  f_super := (He.free_ok X G (c.fact 17 (f := .free "super")))
  g_at := fdXsB_ok (List.forall_mem_cons.mpr ⟨(He.glo_ok X G (c.fact 18 (f := .glo "BadSoft"))), List.forall_mem_cons.mpr ⟨(He.glo_ok X G (c.fact 19 (f := .glo "BadRule"))), List.forall_mem_cons.mpr ⟨(He.glo_ok X G (c.fact 20 (f := .glo "Missed"))), List.forall_mem_cons.mpr ⟨(He.glo_ok X G (c.fact 21 (f := .glo "BadDeed"))), List.forall_mem_nil _⟩⟩⟩⟩) (c.ext 0 (f := fun K => fdXsB K "at" ["BadSoft", "BadRule", "Missed", "BadDeed"]))
  g_kind := fdXsB_ok (List.forall_mem_cons.mpr ⟨(He.glo_ok X G (c.fact 22 (f := .glo "BadSchema"))), List.forall_mem_cons.mpr ⟨(He.glo_ok X G (c.fact 23 (f := .glo "NoKind"))), List.forall_mem_nil _⟩⟩) (c.ext 1 (f := fun K => fdXsB K "kind" ["BadSchema", "NoKind"]))
  g_most := fdXsB_ok (List.forall_mem_cons.mpr ⟨(He.glo_ok X G (c.fact 24 (f := .glo "TooMany"))), List.forall_mem_nil _⟩) (c.ext 2 (f := fun K => fdXsB K "most" ["TooMany"]))
  g_name := fdXsB_ok (List.forall_mem_cons.mpr ⟨(He.glo_ok X G (c.fact 25 (f := .glo "NoField"))), List.forall_mem_nil _⟩) (c.ext 3 (f := fun K => fdXsB K "name" ["NoField"]))
  g_ring := fdXsB_ok (List.forall_mem_cons.mpr ⟨(He.glo_ok X G (c.fact 26 (f := .glo "HasRing"))), List.forall_mem_nil _⟩) (c.ext 4 (f := fun K => fdXsB K "ring" ["HasRing"]))
  g_row := fdXsB_ok (List.forall_mem_cons.mpr ⟨(He.glo_ok X G (c.fact 27 (f := .glo "NoRow"))), List.forall_mem_cons.mpr ⟨(He.glo_ok X G (c.fact 28 (f := .glo "Stands"))), List.forall_mem_cons.mpr ⟨(He.glo_ok X G (c.fact 29 (f := .glo "BadJournal"))), List.forall_mem_cons.mpr ⟨(He.glo_ok X G (c.fact 30 (f := .glo "BadLine"))), List.forall_mem_nil _⟩⟩⟩⟩) (c.ext 5 (f := fun K => fdXsB K "row" ["NoRow", "Stands", "BadJournal", "BadLine"]))
  g_word := fdXsB_ok (List.forall_mem_cons.mpr ⟨(He.glo_ok X G (c.fact 31 (f := .glo "BadState"))), List.forall_mem_nil _⟩) (c.ext 6 (f := fun K => fdXsB K "word" ["BadState"]))
  j_BadCame := isXsB_ok (List.forall_mem_cons.mpr ⟨(He.glo_ok X G (c.fact 32 (f := .glo "LotError"))), List.forall_mem_cons.mpr ⟨(He.glo_ok X G (c.fact 22 (f := .glo "BadSchema"))), List.forall_mem_cons.mpr ⟨(He.glo_ok X G (c.fact 31 (f := .glo "BadState"))), List.forall_mem_cons.mpr ⟨(He.glo_ok X G (c.fact 33 (f := .glo "BadCame"))), List.forall_mem_cons.mpr ⟨(He.glo_ok X G (c.fact 18 (f := .glo "BadSoft"))), List.forall_mem_cons.mpr ⟨(He.glo_ok X G (c.fact 19 (f := .glo "BadRule"))), List.forall_mem_cons.mpr ⟨(He.glo_ok X G (c.fact 34 (f := .glo "BadRing"))), List.forall_mem_cons.mpr ⟨(He.glo_ok X G (c.fact 26 (f := .glo "HasRing"))), List.forall_mem_cons.mpr ⟨(He.glo_ok X G (c.fact 35 (f := .glo "NotAlike"))), List.forall_mem_cons.mpr ⟨(He.glo_ok X G (c.fact 24 (f := .glo "TooMany"))), List.forall_mem_cons.mpr ⟨(He.glo_ok X G (c.fact 23 (f := .glo "NoKind"))), List.forall_mem_cons.mpr ⟨(He.glo_ok X G (c.fact 27 (f := .glo "NoRow"))), List.forall_mem_cons.mpr ⟨(He.glo_ok X G (c.fact 25 (f := .glo "NoField"))), List.forall_mem_cons.mpr ⟨(He.glo_ok X G (c.fact 36 (f := .glo "BadValue"))), List.forall_mem_cons.mpr ⟨(He.glo_ok X G (c.fact 28 (f := .glo "Stands"))), List.forall_mem_cons.mpr ⟨(He.glo_ok X G (c.fact 37 (f := .glo "BadStatement"))), List.forall_mem_cons.mpr ⟨(He.glo_ok X G (c.fact 20 (f := .glo "Missed"))), List.forall_mem_cons.mpr ⟨(He.glo_ok X G (c.fact 21 (f := .glo "BadDeed"))), List.forall_mem_cons.mpr ⟨(He.glo_ok X G (c.fact 29 (f := .glo "BadJournal"))), List.forall_mem_cons.mpr ⟨(He.glo_ok X G (c.fact 30 (f := .glo "BadLine"))), List.forall_mem_nil _⟩⟩⟩⟩⟩⟩⟩⟩⟩⟩⟩⟩⟩⟩⟩⟩⟩⟩⟩⟩) (He.glo_ok X G (c.fact 33 (f := .glo "BadCame"))) (c.ext 7 (f := fun K => isXsB K "BadCame" [("LotError", false), ("BadSchema", false), ("BadState", false), ("BadCame", true), ("BadSoft", false), ("BadRule", false), ("BadRing", false), ("HasRing", false), ("NotAlike", false), ("TooMany", false), ("NoKind", false), ("NoRow", false), ("NoField", false), ("BadValue", false), ("Stands", false), ("BadStatement", false), ("Missed", false), ("BadDeed", false), ("BadJournal", false), ("BadLine", false)]))
  j_BadDeed := isXsB_ok (List.forall_mem_cons.mpr ⟨(He.glo_ok X G (c.fact 32 (f := .glo "LotError"))), List.forall_mem_cons.mpr ⟨(He.glo_ok X G (c.fact 22 (f := .glo "BadSchema"))), List.forall_mem_cons.mpr ⟨(He.glo_ok X G (c.fact 31 (f := .glo "BadState"))), List.forall_mem_cons.mpr ⟨(He.glo_ok X G (c.fact 33 (f := .glo "BadCame"))), List.forall_mem_cons.mpr ⟨(He.glo_ok X G (c.fact 18 (f := .glo "BadSoft"))), List.forall_mem_cons.mpr ⟨(He.glo_ok X G (c.fact 19 (f := .glo "BadRule"))), List.forall_mem_cons.mpr ⟨(He.glo_ok X G (c.fact 34 (f := .glo "BadRing"))), List.forall_mem_cons.mpr ⟨(He.glo_ok X G (c.fact 26 (f := .glo "HasRing"))), List.forall_mem_cons.mpr ⟨(He.glo_ok X G (c.fact 35 (f := .glo "NotAlike"))), List.forall_mem_cons.mpr ⟨(He.glo_ok X G (c.fact 24 (f := .glo "TooMany"))), List.forall_mem_cons.mpr ⟨(He.glo_ok X G (c.fact 23 (f := .glo "NoKind"))), List.forall_mem_cons.mpr ⟨(He.glo_ok X G (c.fact 27 (f := .glo "NoRow"))), List.forall_mem_cons.mpr ⟨(He.glo_ok X G (c.fact 25 (f := .glo "NoField"))), List.forall_mem_cons.mpr ⟨(He.glo_ok X G (c.fact 36 (f := .glo "BadValue"))), List.forall_mem_cons.mpr ⟨(He.glo_ok X G (c.fact 28 (f := .glo "Stands"))), List.forall_mem_cons.mpr ⟨(He.glo_ok X G (c.fact 37 (f := .glo "BadStatement"))), List.forall_mem_cons.mpr ⟨(He.glo_ok X G (c.fact 20 (f := .glo "Missed"))), List.forall_mem_cons.mpr ⟨(He.glo_ok X G (c.fact 21 (f := .glo "BadDeed"))), List.forall_mem_cons.mpr ⟨(He.glo_ok X G (c.fact 29 (f := .glo "BadJournal"))), List.forall_mem_cons.mpr ⟨(He.glo_ok X G (c.fact 30 (f := .glo "BadLine"))), List.forall_mem_nil _⟩⟩⟩⟩⟩⟩⟩⟩⟩⟩⟩⟩⟩⟩⟩⟩⟩⟩⟩⟩) (He.glo_ok X G (c.fact 21 (f := .glo "BadDeed"))) (c.ext 8 (f := fun K => isXsB K "BadDeed" [("LotError", false), ("BadSchema", false), ("BadState", false), ("BadCame", false), ("BadSoft", false), ("BadRule", false), ("BadRing", false), ("HasRing", false), ("NotAlike", false), ("TooMany", false), ("NoKind", false), ("NoRow", false), ("NoField", false), ("BadValue", false), ("Stands", false), ("BadStatement", false), ("Missed", false), ("BadDeed", true), ("BadJournal", false), ("BadLine", false)]))
  j_BadJournal := isXsB_ok (List.forall_mem_cons.mpr ⟨(He.glo_ok X G (c.fact 32 (f := .glo "LotError"))), List.forall_mem_cons.mpr ⟨(He.glo_ok X G (c.fact 22 (f := .glo "BadSchema"))), List.forall_mem_cons.mpr ⟨(He.glo_ok X G (c.fact 31 (f := .glo "BadState"))), List.forall_mem_cons.mpr ⟨(He.glo_ok X G (c.fact 33 (f := .glo "BadCame"))), List.forall_mem_cons.mpr ⟨(He.glo_ok X G (c.fact 18 (f := .glo "BadSoft"))), List.forall_mem_cons.mpr ⟨(He.glo_ok X G (c.fact 19 (f := .glo "BadRule"))), List.forall_mem_cons.mpr ⟨(He.glo_ok X G (c.fact 34 (f := .glo "BadRing"))), List.forall_mem_cons.mpr ⟨(He.glo_ok X G (c.fact 26 (f := .glo "HasRing"))), List.forall_mem_cons.mpr ⟨(He.glo_ok X G (c.fact 35 (f := .glo "NotAlike"))), List.forall_mem_cons.mpr ⟨(He.glo_ok X G (c.fact 24 (f := .glo "TooMany"))), List.forall_mem_cons.mpr ⟨(He.glo_ok X G (c.fact 23 (f := .glo "NoKind"))), List.forall_mem_cons.mpr ⟨(He.glo_ok X G (c.fact 27 (f := .glo "NoRow"))), List.forall_mem_cons.mpr ⟨(He.glo_ok X G (c.fact 25 (f := .glo "NoField"))), List.forall_mem_cons.mpr ⟨(He.glo_ok X G (c.fact 36 (f := .glo "BadValue"))), List.forall_mem_cons.mpr ⟨(He.glo_ok X G (c.fact 28 (f := .glo "Stands"))), List.forall_mem_cons.mpr ⟨(He.glo_ok X G (c.fact 37 (f := .glo "BadStatement"))), List.forall_mem_cons.mpr ⟨(He.glo_ok X G (c.fact 20 (f := .glo "Missed"))), List.forall_mem_cons.mpr ⟨(He.glo_ok X G (c.fact 21 (f := .glo "BadDeed"))), List.forall_mem_cons.mpr ⟨(He.glo_ok X G (c.fact 29 (f := .glo "BadJournal"))), List.forall_mem_cons.mpr ⟨(He.glo_ok X G (c.fact 30 (f := .glo "BadLine"))), List.forall_mem_nil _⟩⟩⟩⟩⟩⟩⟩⟩⟩⟩⟩⟩⟩⟩⟩⟩⟩⟩⟩⟩) (He.glo_ok X G (c.fact 29 (f := .glo "BadJournal"))) (c.ext 9 (f := fun K => isXsB K "BadJournal" [("LotError", false), ("BadSchema", false), ("BadState", false), ("BadCame", false), ("BadSoft", false), ("BadRule", false), ("BadRing", false), ("HasRing", false), ("NotAlike", false), ("TooMany", false), ("NoKind", false), ("NoRow", false), ("NoField", false), ("BadValue", false), ("Stands", false), ("BadStatement", false), ("Missed", false), ("BadDeed", false), ("BadJournal", true), ("BadLine", false)]))
  j_BadLine := isXsB_ok (List.forall_mem_cons.mpr ⟨(He.glo_ok X G (c.fact 32 (f := .glo "LotError"))), List.forall_mem_cons.mpr ⟨(He.glo_ok X G (c.fact 22 (f := .glo "BadSchema"))), List.forall_mem_cons.mpr ⟨(He.glo_ok X G (c.fact 31 (f := .glo "BadState"))), List.forall_mem_cons.mpr ⟨(He.glo_ok X G (c.fact 33 (f := .glo "BadCame"))), List.forall_mem_cons.mpr ⟨(He.glo_ok X G (c.fact 18 (f := .glo "BadSoft"))), List.forall_mem_cons.mpr ⟨(He.glo_ok X G (c.fact 19 (f := .glo "BadRule"))), List.forall_mem_cons.mpr ⟨(He.glo_ok X G (c.fact 34 (f := .glo "BadRing"))), List.forall_mem_cons.mpr ⟨(He.glo_ok X G (c.fact 26 (f := .glo "HasRing"))), List.forall_mem_cons.mpr ⟨(He.glo_ok X G (c.fact 35 (f := .glo "NotAlike"))), List.forall_mem_cons.mpr ⟨(He.glo_ok X G (c.fact 24 (f := .glo "TooMany"))), List.forall_mem_cons.mpr ⟨(He.glo_ok X G (c.fact 23 (f := .glo "NoKind"))), List.forall_mem_cons.mpr ⟨(He.glo_ok X G (c.fact 27 (f := .glo "NoRow"))), List.forall_mem_cons.mpr ⟨(He.glo_ok X G (c.fact 25 (f := .glo "NoField"))), List.forall_mem_cons.mpr ⟨(He.glo_ok X G (c.fact 36 (f := .glo "BadValue"))), List.forall_mem_cons.mpr ⟨(He.glo_ok X G (c.fact 28 (f := .glo "Stands"))), List.forall_mem_cons.mpr ⟨(He.glo_ok X G (c.fact 37 (f := .glo "BadStatement"))), List.forall_mem_cons.mpr ⟨(He.glo_ok X G (c.fact 20 (f := .glo "Missed"))), List.forall_mem_cons.mpr ⟨(He.glo_ok X G (c.fact 21 (f := .glo "BadDeed"))), List.forall_mem_cons.mpr ⟨(He.glo_ok X G (c.fact 29 (f := .glo "BadJournal"))), List.forall_mem_cons.mpr ⟨(He.glo_ok X G (c.fact 30 (f := .glo "BadLine"))), List.forall_mem_nil _⟩⟩⟩⟩⟩⟩⟩⟩⟩⟩⟩⟩⟩⟩⟩⟩⟩⟩⟩⟩) (He.glo_ok X G (c.fact 30 (f := .glo "BadLine"))) (c.ext 10 (f := fun K => isXsB K "BadLine" [("LotError", false), ("BadSchema", false), ("BadState", false), ("BadCame", false), ("BadSoft", false), ("BadRule", false), ("BadRing", false), ("HasRing", false), ("NotAlike", false), ("TooMany", false), ("NoKind", false), ("NoRow", false), ("NoField", false), ("BadValue", false), ("Stands", false), ("BadStatement", false), ("Missed", false), ("BadDeed", false), ("BadJournal", false), ("BadLine", true)]))
  j_BadRing := isXsB_ok (List.forall_mem_cons.mpr ⟨(He.glo_ok X G (c.fact 32 (f := .glo "LotError"))), List.forall_mem_cons.mpr ⟨(He.glo_ok X G (c.fact 22 (f := .glo "BadSchema"))), List.forall_mem_cons.mpr ⟨(He.glo_ok X G (c.fact 31 (f := .glo "BadState"))), List.forall_mem_cons.mpr ⟨(He.glo_ok X G (c.fact 33 (f := .glo "BadCame"))), List.forall_mem_cons.mpr ⟨(He.glo_ok X G (c.fact 18 (f := .glo "BadSoft"))), List.forall_mem_cons.mpr ⟨(He.glo_ok X G (c.fact 19 (f := .glo "BadRule"))), List.forall_mem_cons.mpr ⟨(He.glo_ok X G (c.fact 34 (f := .glo "BadRing"))), List.forall_mem_cons.mpr ⟨(He.glo_ok X G (c.fact 26 (f := .glo "HasRing"))), List.forall_mem_cons.mpr ⟨(He.glo_ok X G (c.fact 35 (f := .glo "NotAlike"))), List.forall_mem_cons.mpr ⟨(He.glo_ok X G (c.fact 24 (f := .glo "TooMany"))), List.forall_mem_cons.mpr ⟨(He.glo_ok X G (c.fact 23 (f := .glo "NoKind"))), List.forall_mem_cons.mpr ⟨(He.glo_ok X G (c.fact 27 (f := .glo "NoRow"))), List.forall_mem_cons.mpr ⟨(He.glo_ok X G (c.fact 25 (f := .glo "NoField"))), List.forall_mem_cons.mpr ⟨(He.glo_ok X G (c.fact 36 (f := .glo "BadValue"))), List.forall_mem_cons.mpr ⟨(He.glo_ok X G (c.fact 28 (f := .glo "Stands"))), List.forall_mem_cons.mpr ⟨(He.glo_ok X G (c.fact 37 (f := .glo "BadStatement"))), List.forall_mem_cons.mpr ⟨(He.glo_ok X G (c.fact 20 (f := .glo "Missed"))), List.forall_mem_cons.mpr ⟨(He.glo_ok X G (c.fact 21 (f := .glo "BadDeed"))), List.forall_mem_cons.mpr ⟨(He.glo_ok X G (c.fact 29 (f := .glo "BadJournal"))), List.forall_mem_cons.mpr ⟨(He.glo_ok X G (c.fact 30 (f := .glo "BadLine"))), List.forall_mem_nil _⟩⟩⟩⟩⟩⟩⟩⟩⟩⟩⟩⟩⟩⟩⟩⟩⟩⟩⟩⟩) (He.glo_ok X G (c.fact 34 (f := .glo "BadRing"))) (c.ext 11 (f := fun K => isXsB K "BadRing" [("LotError", false), ("BadSchema", false), ("BadState", false), ("BadCame", false), ("BadSoft", false), ("BadRule", false), ("BadRing", true), ("HasRing", false), ("NotAlike", false), ("TooMany", false), ("NoKind", false), ("NoRow", false), ("NoField", false), ("BadValue", false), ("Stands", false), ("BadStatement", false), ("Missed", false), ("BadDeed", false), ("BadJournal", false), ("BadLine", false)]))
  j_BadRule := isXsB_ok (List.forall_mem_cons.mpr ⟨(He.glo_ok X G (c.fact 32 (f := .glo "LotError"))), List.forall_mem_cons.mpr ⟨(He.glo_ok X G (c.fact 22 (f := .glo "BadSchema"))), List.forall_mem_cons.mpr ⟨(He.glo_ok X G (c.fact 31 (f := .glo "BadState"))), List.forall_mem_cons.mpr ⟨(He.glo_ok X G (c.fact 33 (f := .glo "BadCame"))), List.forall_mem_cons.mpr ⟨(He.glo_ok X G (c.fact 18 (f := .glo "BadSoft"))), List.forall_mem_cons.mpr ⟨(He.glo_ok X G (c.fact 19 (f := .glo "BadRule"))), List.forall_mem_cons.mpr ⟨(He.glo_ok X G (c.fact 34 (f := .glo "BadRing"))), List.forall_mem_cons.mpr ⟨(He.glo_ok X G (c.fact 26 (f := .glo "HasRing"))), List.forall_mem_cons.mpr ⟨(He.glo_ok X G (c.fact 35 (f := .glo "NotAlike"))), List.forall_mem_cons.mpr ⟨(He.glo_ok X G (c.fact 24 (f := .glo "TooMany"))), List.forall_mem_cons.mpr ⟨(He.glo_ok X G (c.fact 23 (f := .glo "NoKind"))), List.forall_mem_cons.mpr ⟨(He.glo_ok X G (c.fact 27 (f := .glo "NoRow"))), List.forall_mem_cons.mpr ⟨(He.glo_ok X G (c.fact 25 (f := .glo "NoField"))), List.forall_mem_cons.mpr ⟨(He.glo_ok X G (c.fact 36 (f := .glo "BadValue"))), List.forall_mem_cons.mpr ⟨(He.glo_ok X G (c.fact 28 (f := .glo "Stands"))), List.forall_mem_cons.mpr ⟨(He.glo_ok X G (c.fact 37 (f := .glo "BadStatement"))), List.forall_mem_cons.mpr ⟨(He.glo_ok X G (c.fact 20 (f := .glo "Missed"))), List.forall_mem_cons.mpr ⟨(He.glo_ok X G (c.fact 21 (f := .glo "BadDeed"))), List.forall_mem_cons.mpr ⟨(He.glo_ok X G (c.fact 29 (f := .glo "BadJournal"))), List.forall_mem_cons.mpr ⟨(He.glo_ok X G (c.fact 30 (f := .glo "BadLine"))), List.forall_mem_nil _⟩⟩⟩⟩⟩⟩⟩⟩⟩⟩⟩⟩⟩⟩⟩⟩⟩⟩⟩⟩) (He.glo_ok X G (c.fact 19 (f := .glo "BadRule"))) (c.ext 12 (f := fun K => isXsB K "BadRule" [("LotError", false), ("BadSchema", false), ("BadState", false), ("BadCame", false), ("BadSoft", false), ("BadRule", true), ("BadRing", false), ("HasRing", false), ("NotAlike", false), ("TooMany", false), ("NoKind", false), ("NoRow", false), ("NoField", false), ("BadValue", false), ("Stands", false), ("BadStatement", false), ("Missed", false), ("BadDeed", false), ("BadJournal", false), ("BadLine", false)]))
  j_BadSchema := isXsB_ok (List.forall_mem_cons.mpr ⟨(He.glo_ok X G (c.fact 32 (f := .glo "LotError"))), List.forall_mem_cons.mpr ⟨(He.glo_ok X G (c.fact 22 (f := .glo "BadSchema"))), List.forall_mem_cons.mpr ⟨(He.glo_ok X G (c.fact 31 (f := .glo "BadState"))), List.forall_mem_cons.mpr ⟨(He.glo_ok X G (c.fact 33 (f := .glo "BadCame"))), List.forall_mem_cons.mpr ⟨(He.glo_ok X G (c.fact 18 (f := .glo "BadSoft"))), List.forall_mem_cons.mpr ⟨(He.glo_ok X G (c.fact 19 (f := .glo "BadRule"))), List.forall_mem_cons.mpr ⟨(He.glo_ok X G (c.fact 34 (f := .glo "BadRing"))), List.forall_mem_cons.mpr ⟨(He.glo_ok X G (c.fact 26 (f := .glo "HasRing"))), List.forall_mem_cons.mpr ⟨(He.glo_ok X G (c.fact 35 (f := .glo "NotAlike"))), List.forall_mem_cons.mpr ⟨(He.glo_ok X G (c.fact 24 (f := .glo "TooMany"))), List.forall_mem_cons.mpr ⟨(He.glo_ok X G (c.fact 23 (f := .glo "NoKind"))), List.forall_mem_cons.mpr ⟨(He.glo_ok X G (c.fact 27 (f := .glo "NoRow"))), List.forall_mem_cons.mpr ⟨(He.glo_ok X G (c.fact 25 (f := .glo "NoField"))), List.forall_mem_cons.mpr ⟨(He.glo_ok X G (c.fact 36 (f := .glo "BadValue"))), List.forall_mem_cons.mpr ⟨(He.glo_ok X G (c.fact 28 (f := .glo "Stands"))), List.forall_mem_cons.mpr ⟨(He.glo_ok X G (c.fact 37 (f := .glo "BadStatement"))), List.forall_mem_cons.mpr ⟨(He.glo_ok X G (c.fact 20 (f := .glo "Missed"))), List.forall_mem_cons.mpr ⟨(He.glo_ok X G (c.fact 21 (f := .glo "BadDeed"))), List.forall_mem_cons.mpr ⟨(He.glo_ok X G (c.fact 29 (f := .glo "BadJournal"))), List.forall_mem_cons.mpr ⟨(He.glo_ok X G (c.fact 30 (f := .glo "BadLine"))), List.forall_mem_nil _⟩⟩⟩⟩⟩⟩⟩⟩⟩⟩⟩⟩⟩⟩⟩⟩⟩⟩⟩⟩) (He.glo_ok X G (c.fact 22 (f := .glo "BadSchema"))) (c.ext 13 (f := fun K => isXsB K "BadSchema" [("LotError", false), ("BadSchema", true), ("BadState", false), ("BadCame", false), ("BadSoft", false), ("BadRule", false), ("BadRing", false), ("HasRing", false), ("NotAlike", false), ("TooMany", false), ("NoKind", false), ("NoRow", false), ("NoField", false), ("BadValue", false), ("Stands", false), ("BadStatement", false), ("Missed", false), ("BadDeed", false), ("BadJournal", false), ("BadLine", false)]))
  j_BadSoft := isXsB_ok (List.forall_mem_cons.mpr ⟨(He.glo_ok X G (c.fact 32 (f := .glo "LotError"))), List.forall_mem_cons.mpr ⟨(He.glo_ok X G (c.fact 22 (f := .glo "BadSchema"))), List.forall_mem_cons.mpr ⟨(He.glo_ok X G (c.fact 31 (f := .glo "BadState"))), List.forall_mem_cons.mpr ⟨(He.glo_ok X G (c.fact 33 (f := .glo "BadCame"))), List.forall_mem_cons.mpr ⟨(He.glo_ok X G (c.fact 18 (f := .glo "BadSoft"))), List.forall_mem_cons.mpr ⟨(He.glo_ok X G (c.fact 19 (f := .glo "BadRule"))), List.forall_mem_cons.mpr ⟨(He.glo_ok X G (c.fact 34 (f := .glo "BadRing"))), List.forall_mem_cons.mpr ⟨(He.glo_ok X G (c.fact 26 (f := .glo "HasRing"))), List.forall_mem_cons.mpr ⟨(He.glo_ok X G (c.fact 35 (f := .glo "NotAlike"))), List.forall_mem_cons.mpr ⟨(He.glo_ok X G (c.fact 24 (f := .glo "TooMany"))), List.forall_mem_cons.mpr ⟨(He.glo_ok X G (c.fact 23 (f := .glo "NoKind"))), List.forall_mem_cons.mpr ⟨(He.glo_ok X G (c.fact 27 (f := .glo "NoRow"))), List.forall_mem_cons.mpr ⟨(He.glo_ok X G (c.fact 25 (f := .glo "NoField"))), List.forall_mem_cons.mpr ⟨(He.glo_ok X G (c.fact 36 (f := .glo "BadValue"))), List.forall_mem_cons.mpr ⟨(He.glo_ok X G (c.fact 28 (f := .glo "Stands"))), List.forall_mem_cons.mpr ⟨(He.glo_ok X G (c.fact 37 (f := .glo "BadStatement"))), List.forall_mem_cons.mpr ⟨(He.glo_ok X G (c.fact 20 (f := .glo "Missed"))), List.forall_mem_cons.mpr ⟨(He.glo_ok X G (c.fact 21 (f := .glo "BadDeed"))), List.forall_mem_cons.mpr ⟨(He.glo_ok X G (c.fact 29 (f := .glo "BadJournal"))), List.forall_mem_cons.mpr ⟨(He.glo_ok X G (c.fact 30 (f := .glo "BadLine"))), List.forall_mem_nil _⟩⟩⟩⟩⟩⟩⟩⟩⟩⟩⟩⟩⟩⟩⟩⟩⟩⟩⟩⟩) (He.glo_ok X G (c.fact 18 (f := .glo "BadSoft"))) (c.ext 14 (f := fun K => isXsB K "BadSoft" [("LotError", false), ("BadSchema", false), ("BadState", false), ("BadCame", false), ("BadSoft", true), ("BadRule", false), ("BadRing", false), ("HasRing", false), ("NotAlike", false), ("TooMany", false), ("NoKind", false), ("NoRow", false), ("NoField", false), ("BadValue", false), ("Stands", false), ("BadStatement", false), ("Missed", false), ("BadDeed", false), ("BadJournal", false), ("BadLine", false)]))
  j_BadState := isXsB_ok (List.forall_mem_cons.mpr ⟨(He.glo_ok X G (c.fact 32 (f := .glo "LotError"))), List.forall_mem_cons.mpr ⟨(He.glo_ok X G (c.fact 22 (f := .glo "BadSchema"))), List.forall_mem_cons.mpr ⟨(He.glo_ok X G (c.fact 31 (f := .glo "BadState"))), List.forall_mem_cons.mpr ⟨(He.glo_ok X G (c.fact 33 (f := .glo "BadCame"))), List.forall_mem_cons.mpr ⟨(He.glo_ok X G (c.fact 18 (f := .glo "BadSoft"))), List.forall_mem_cons.mpr ⟨(He.glo_ok X G (c.fact 19 (f := .glo "BadRule"))), List.forall_mem_cons.mpr ⟨(He.glo_ok X G (c.fact 34 (f := .glo "BadRing"))), List.forall_mem_cons.mpr ⟨(He.glo_ok X G (c.fact 26 (f := .glo "HasRing"))), List.forall_mem_cons.mpr ⟨(He.glo_ok X G (c.fact 35 (f := .glo "NotAlike"))), List.forall_mem_cons.mpr ⟨(He.glo_ok X G (c.fact 24 (f := .glo "TooMany"))), List.forall_mem_cons.mpr ⟨(He.glo_ok X G (c.fact 23 (f := .glo "NoKind"))), List.forall_mem_cons.mpr ⟨(He.glo_ok X G (c.fact 27 (f := .glo "NoRow"))), List.forall_mem_cons.mpr ⟨(He.glo_ok X G (c.fact 25 (f := .glo "NoField"))), List.forall_mem_cons.mpr ⟨(He.glo_ok X G (c.fact 36 (f := .glo "BadValue"))), List.forall_mem_cons.mpr ⟨(He.glo_ok X G (c.fact 28 (f := .glo "Stands"))), List.forall_mem_cons.mpr ⟨(He.glo_ok X G (c.fact 37 (f := .glo "BadStatement"))), List.forall_mem_cons.mpr ⟨(He.glo_ok X G (c.fact 20 (f := .glo "Missed"))), List.forall_mem_cons.mpr ⟨(He.glo_ok X G (c.fact 21 (f := .glo "BadDeed"))), List.forall_mem_cons.mpr ⟨(He.glo_ok X G (c.fact 29 (f := .glo "BadJournal"))), List.forall_mem_cons.mpr ⟨(He.glo_ok X G (c.fact 30 (f := .glo "BadLine"))), List.forall_mem_nil _⟩⟩⟩⟩⟩⟩⟩⟩⟩⟩⟩⟩⟩⟩⟩⟩⟩⟩⟩⟩) (He.glo_ok X G (c.fact 31 (f := .glo "BadState"))) (c.ext 15 (f := fun K => isXsB K "BadState" [("LotError", false), ("BadSchema", false), ("BadState", true), ("BadCame", false), ("BadSoft", false), ("BadRule", false), ("BadRing", false), ("HasRing", false), ("NotAlike", false), ("TooMany", false), ("NoKind", false), ("NoRow", false), ("NoField", false), ("BadValue", false), ("Stands", false), ("BadStatement", false), ("Missed", false), ("BadDeed", false), ("BadJournal", false), ("BadLine", false)]))
  j_BadStatement := isXsB_ok (List.forall_mem_cons.mpr ⟨(He.glo_ok X G (c.fact 32 (f := .glo "LotError"))), List.forall_mem_cons.mpr ⟨(He.glo_ok X G (c.fact 22 (f := .glo "BadSchema"))), List.forall_mem_cons.mpr ⟨(He.glo_ok X G (c.fact 31 (f := .glo "BadState"))), List.forall_mem_cons.mpr ⟨(He.glo_ok X G (c.fact 33 (f := .glo "BadCame"))), List.forall_mem_cons.mpr ⟨(He.glo_ok X G (c.fact 18 (f := .glo "BadSoft"))), List.forall_mem_cons.mpr ⟨(He.glo_ok X G (c.fact 19 (f := .glo "BadRule"))), List.forall_mem_cons.mpr ⟨(He.glo_ok X G (c.fact 34 (f := .glo "BadRing"))), List.forall_mem_cons.mpr ⟨(He.glo_ok X G (c.fact 26 (f := .glo "HasRing"))), List.forall_mem_cons.mpr ⟨(He.glo_ok X G (c.fact 35 (f := .glo "NotAlike"))), List.forall_mem_cons.mpr ⟨(He.glo_ok X G (c.fact 24 (f := .glo "TooMany"))), List.forall_mem_cons.mpr ⟨(He.glo_ok X G (c.fact 23 (f := .glo "NoKind"))), List.forall_mem_cons.mpr ⟨(He.glo_ok X G (c.fact 27 (f := .glo "NoRow"))), List.forall_mem_cons.mpr ⟨(He.glo_ok X G (c.fact 25 (f := .glo "NoField"))), List.forall_mem_cons.mpr ⟨(He.glo_ok X G (c.fact 36 (f := .glo "BadValue"))), List.forall_mem_cons.mpr ⟨(He.glo_ok X G (c.fact 28 (f := .glo "Stands"))), List.forall_mem_cons.mpr ⟨(He.glo_ok X G (c.fact 37 (f := .glo "BadStatement"))), List.forall_mem_cons.mpr ⟨(He.glo_ok X G (c.fact 20 (f := .glo "Missed"))), List.forall_mem_cons.mpr ⟨(He.glo_ok X G (c.fact 21 (f := .glo "BadDeed"))), List.forall_mem_cons.mpr ⟨(He.glo_ok X G (c.fact 29 (f := .glo "BadJournal"))), List.forall_mem_cons.mpr ⟨(He.glo_ok X G (c.fact 30 (f := .glo "BadLine"))), List.forall_mem_nil _⟩⟩⟩⟩⟩⟩⟩⟩⟩⟩⟩⟩⟩⟩⟩⟩⟩⟩⟩⟩) (He.glo_ok X G (c.fact 37 (f := .glo "BadStatement"))) (c.ext 16 (f := fun K => isXsB K "BadStatement" [("LotError", false), ("BadSchema", false), ("BadState", false), ("BadCame", false), ("BadSoft", false), ("BadRule", false), ("BadRing", false), ("HasRing", false), ("NotAlike", false), ("TooMany", false), ("NoKind", false), ("NoRow", false), ("NoField", false), ("BadValue", false), ("Stands", false), ("BadStatement", true), ("Missed", false), ("BadDeed", false), ("BadJournal", false), ("BadLine", false)]))
  j_BadValue := isXsB_ok (List.forall_mem_cons.mpr ⟨(He.glo_ok X G (c.fact 32 (f := .glo "LotError"))), List.forall_mem_cons.mpr ⟨(He.glo_ok X G (c.fact 22 (f := .glo "BadSchema"))), List.forall_mem_cons.mpr ⟨(He.glo_ok X G (c.fact 31 (f := .glo "BadState"))), List.forall_mem_cons.mpr ⟨(He.glo_ok X G (c.fact 33 (f := .glo "BadCame"))), List.forall_mem_cons.mpr ⟨(He.glo_ok X G (c.fact 18 (f := .glo "BadSoft"))), List.forall_mem_cons.mpr ⟨(He.glo_ok X G (c.fact 19 (f := .glo "BadRule"))), List.forall_mem_cons.mpr ⟨(He.glo_ok X G (c.fact 34 (f := .glo "BadRing"))), List.forall_mem_cons.mpr ⟨(He.glo_ok X G (c.fact 26 (f := .glo "HasRing"))), List.forall_mem_cons.mpr ⟨(He.glo_ok X G (c.fact 35 (f := .glo "NotAlike"))), List.forall_mem_cons.mpr ⟨(He.glo_ok X G (c.fact 24 (f := .glo "TooMany"))), List.forall_mem_cons.mpr ⟨(He.glo_ok X G (c.fact 23 (f := .glo "NoKind"))), List.forall_mem_cons.mpr ⟨(He.glo_ok X G (c.fact 27 (f := .glo "NoRow"))), List.forall_mem_cons.mpr ⟨(He.glo_ok X G (c.fact 25 (f := .glo "NoField"))), List.forall_mem_cons.mpr ⟨(He.glo_ok X G (c.fact 36 (f := .glo "BadValue"))), List.forall_mem_cons.mpr ⟨(He.glo_ok X G (c.fact 28 (f := .glo "Stands"))), List.forall_mem_cons.mpr ⟨(He.glo_ok X G (c.fact 37 (f := .glo "BadStatement"))), List.forall_mem_cons.mpr ⟨(He.glo_ok X G (c.fact 20 (f := .glo "Missed"))), List.forall_mem_cons.mpr ⟨(He.glo_ok X G (c.fact 21 (f := .glo "BadDeed"))), List.forall_mem_cons.mpr ⟨(He.glo_ok X G (c.fact 29 (f := .glo "BadJournal"))), List.forall_mem_cons.mpr ⟨(He.glo_ok X G (c.fact 30 (f := .glo "BadLine"))), List.forall_mem_nil _⟩⟩⟩⟩⟩⟩⟩⟩⟩⟩⟩⟩⟩⟩⟩⟩⟩⟩⟩⟩) (He.glo_ok X G (c.fact 36 (f := .glo "BadValue"))) (c.ext 17 (f := fun K => isXsB K "BadValue" [("LotError", false), ("BadSchema", false), ("BadState", false), ("BadCame", false), ("BadSoft", false), ("BadRule", false), ("BadRing", false), ("HasRing", false), ("NotAlike", false), ("TooMany", false), ("NoKind", false), ("NoRow", false), ("NoField", false), ("BadValue", true), ("Stands", false), ("BadStatement", false), ("Missed", false), ("BadDeed", false), ("BadJournal", false), ("BadLine", false)]))
  j_HasRing := isXsB_ok (List.forall_mem_cons.mpr ⟨(He.glo_ok X G (c.fact 32 (f := .glo "LotError"))), List.forall_mem_cons.mpr ⟨(He.glo_ok X G (c.fact 22 (f := .glo "BadSchema"))), List.forall_mem_cons.mpr ⟨(He.glo_ok X G (c.fact 31 (f := .glo "BadState"))), List.forall_mem_cons.mpr ⟨(He.glo_ok X G (c.fact 33 (f := .glo "BadCame"))), List.forall_mem_cons.mpr ⟨(He.glo_ok X G (c.fact 18 (f := .glo "BadSoft"))), List.forall_mem_cons.mpr ⟨(He.glo_ok X G (c.fact 19 (f := .glo "BadRule"))), List.forall_mem_cons.mpr ⟨(He.glo_ok X G (c.fact 34 (f := .glo "BadRing"))), List.forall_mem_cons.mpr ⟨(He.glo_ok X G (c.fact 26 (f := .glo "HasRing"))), List.forall_mem_cons.mpr ⟨(He.glo_ok X G (c.fact 35 (f := .glo "NotAlike"))), List.forall_mem_cons.mpr ⟨(He.glo_ok X G (c.fact 24 (f := .glo "TooMany"))), List.forall_mem_cons.mpr ⟨(He.glo_ok X G (c.fact 23 (f := .glo "NoKind"))), List.forall_mem_cons.mpr ⟨(He.glo_ok X G (c.fact 27 (f := .glo "NoRow"))), List.forall_mem_cons.mpr ⟨(He.glo_ok X G (c.fact 25 (f := .glo "NoField"))), List.forall_mem_cons.mpr ⟨(He.glo_ok X G (c.fact 36 (f := .glo "BadValue"))), List.forall_mem_cons.mpr ⟨(He.glo_ok X G (c.fact 28 (f := .glo "Stands"))), List.forall_mem_cons.mpr ⟨(He.glo_ok X G (c.fact 37 (f := .glo "BadStatement"))), List.forall_mem_cons.mpr ⟨(He.glo_ok X G (c.fact 20 (f := .glo "Missed"))), List.forall_mem_cons.mpr ⟨(He.glo_ok X G (c.fact 21 (f := .glo "BadDeed"))), List.forall_mem_cons.mpr ⟨(He.glo_ok X G (c.fact 29 (f := .glo "BadJournal"))), List.forall_mem_cons.mpr ⟨(He.glo_ok X G (c.fact 30 (f := .glo "BadLine"))), List.forall_mem_nil _⟩⟩⟩⟩⟩⟩⟩⟩⟩⟩⟩⟩⟩⟩⟩⟩⟩⟩⟩⟩) (He.glo_ok X G (c.fact 26 (f := .glo "HasRing"))) (c.ext 18 (f := fun K => isXsB K "HasRing" [("LotError", false), ("BadSchema", false), ("BadState", false), ("BadCame", false), ("BadSoft", false), ("BadRule", false), ("BadRing", false), ("HasRing", true), ("NotAlike", false), ("TooMany", false), ("NoKind", false), ("NoRow", false), ("NoField", false), ("BadValue", false), ("Stands", false), ("BadStatement", false), ("Missed", false), ("BadDeed", false), ("BadJournal", false), ("BadLine", false)]))
  j_LotError := isXsB_ok (List.forall_mem_cons.mpr ⟨(He.glo_ok X G (c.fact 32 (f := .glo "LotError"))), List.forall_mem_cons.mpr ⟨(He.glo_ok X G (c.fact 22 (f := .glo "BadSchema"))), List.forall_mem_cons.mpr ⟨(He.glo_ok X G (c.fact 31 (f := .glo "BadState"))), List.forall_mem_cons.mpr ⟨(He.glo_ok X G (c.fact 33 (f := .glo "BadCame"))), List.forall_mem_cons.mpr ⟨(He.glo_ok X G (c.fact 18 (f := .glo "BadSoft"))), List.forall_mem_cons.mpr ⟨(He.glo_ok X G (c.fact 19 (f := .glo "BadRule"))), List.forall_mem_cons.mpr ⟨(He.glo_ok X G (c.fact 34 (f := .glo "BadRing"))), List.forall_mem_cons.mpr ⟨(He.glo_ok X G (c.fact 26 (f := .glo "HasRing"))), List.forall_mem_cons.mpr ⟨(He.glo_ok X G (c.fact 35 (f := .glo "NotAlike"))), List.forall_mem_cons.mpr ⟨(He.glo_ok X G (c.fact 24 (f := .glo "TooMany"))), List.forall_mem_cons.mpr ⟨(He.glo_ok X G (c.fact 23 (f := .glo "NoKind"))), List.forall_mem_cons.mpr ⟨(He.glo_ok X G (c.fact 27 (f := .glo "NoRow"))), List.forall_mem_cons.mpr ⟨(He.glo_ok X G (c.fact 25 (f := .glo "NoField"))), List.forall_mem_cons.mpr ⟨(He.glo_ok X G (c.fact 36 (f := .glo "BadValue"))), List.forall_mem_cons.mpr ⟨(He.glo_ok X G (c.fact 28 (f := .glo "Stands"))), List.forall_mem_cons.mpr ⟨(He.glo_ok X G (c.fact 37 (f := .glo "BadStatement"))), List.forall_mem_cons.mpr ⟨(He.glo_ok X G (c.fact 20 (f := .glo "Missed"))), List.forall_mem_cons.mpr ⟨(He.glo_ok X G (c.fact 21 (f := .glo "BadDeed"))), List.forall_mem_cons.mpr ⟨(He.glo_ok X G (c.fact 29 (f := .glo "BadJournal"))), List.forall_mem_cons.mpr ⟨(He.glo_ok X G (c.fact 30 (f := .glo "BadLine"))), List.forall_mem_nil _⟩⟩⟩⟩⟩⟩⟩⟩⟩⟩⟩⟩⟩⟩⟩⟩⟩⟩⟩⟩) (He.glo_ok X G (c.fact 32 (f := .glo "LotError"))) (c.ext 19 (f := fun K => isXsB K "LotError" [("LotError", true), ("BadSchema", true), ("BadState", true), ("BadCame", true), ("BadSoft", true), ("BadRule", true), ("BadRing", true), ("HasRing", true), ("NotAlike", true), ("TooMany", true), ("NoKind", true), ("NoRow", true), ("NoField", true), ("BadValue", true), ("Stands", true), ("BadStatement", true), ("Missed", true), ("BadDeed", true), ("BadJournal", true), ("BadLine", true)]))
  j_Missed := isXsB_ok (List.forall_mem_cons.mpr ⟨(He.glo_ok X G (c.fact 32 (f := .glo "LotError"))), List.forall_mem_cons.mpr ⟨(He.glo_ok X G (c.fact 22 (f := .glo "BadSchema"))), List.forall_mem_cons.mpr ⟨(He.glo_ok X G (c.fact 31 (f := .glo "BadState"))), List.forall_mem_cons.mpr ⟨(He.glo_ok X G (c.fact 33 (f := .glo "BadCame"))), List.forall_mem_cons.mpr ⟨(He.glo_ok X G (c.fact 18 (f := .glo "BadSoft"))), List.forall_mem_cons.mpr ⟨(He.glo_ok X G (c.fact 19 (f := .glo "BadRule"))), List.forall_mem_cons.mpr ⟨(He.glo_ok X G (c.fact 34 (f := .glo "BadRing"))), List.forall_mem_cons.mpr ⟨(He.glo_ok X G (c.fact 26 (f := .glo "HasRing"))), List.forall_mem_cons.mpr ⟨(He.glo_ok X G (c.fact 35 (f := .glo "NotAlike"))), List.forall_mem_cons.mpr ⟨(He.glo_ok X G (c.fact 24 (f := .glo "TooMany"))), List.forall_mem_cons.mpr ⟨(He.glo_ok X G (c.fact 23 (f := .glo "NoKind"))), List.forall_mem_cons.mpr ⟨(He.glo_ok X G (c.fact 27 (f := .glo "NoRow"))), List.forall_mem_cons.mpr ⟨(He.glo_ok X G (c.fact 25 (f := .glo "NoField"))), List.forall_mem_cons.mpr ⟨(He.glo_ok X G (c.fact 36 (f := .glo "BadValue"))), List.forall_mem_cons.mpr ⟨(He.glo_ok X G (c.fact 28 (f := .glo "Stands"))), List.forall_mem_cons.mpr ⟨(He.glo_ok X G (c.fact 37 (f := .glo "BadStatement"))), List.forall_mem_cons.mpr ⟨(He.glo_ok X G (c.fact 20 (f := .glo "Missed"))), List.forall_mem_cons.mpr ⟨(He.glo_ok X G (c.fact 21 (f := .glo "BadDeed"))), List.forall_mem_cons.mpr ⟨(He.glo_ok X G (c.fact 29 (f := .glo "BadJournal"))), List.forall_mem_cons.mpr ⟨(He.glo_ok X G (c.fact 30 (f := .glo "BadLine"))), List.forall_mem_nil _⟩⟩⟩⟩⟩⟩⟩⟩⟩⟩⟩⟩⟩⟩⟩⟩⟩⟩⟩⟩) (He.glo_ok X G (c.fact 20 (f := .glo "Missed"))) (c.ext 20 (f := fun K => isXsB K "Missed" [("LotError", false), ("BadSchema", false), ("BadState", false), ("BadCame", false), ("BadSoft", false), ("BadRule", false), ("BadRing", false), ("HasRing", false), ("NotAlike", false), ("TooMany", false), ("NoKind", false), ("NoRow", false), ("NoField", false), ("BadValue", false), ("Stands", false), ("BadStatement", false), ("Missed", true), ("BadDeed", false), ("BadJournal", false), ("BadLine", false)]))
  j_NoField := isXsB_ok (List.forall_mem_cons.mpr ⟨(He.glo_ok X G (c.fact 32 (f := .glo "LotError"))), List.forall_mem_cons.mpr ⟨(He.glo_ok X G (c.fact 22 (f := .glo "BadSchema"))), List.forall_mem_cons.mpr ⟨(He.glo_ok X G (c.fact 31 (f := .glo "BadState"))), List.forall_mem_cons.mpr ⟨(He.glo_ok X G (c.fact 33 (f := .glo "BadCame"))), List.forall_mem_cons.mpr ⟨(He.glo_ok X G (c.fact 18 (f := .glo "BadSoft"))), List.forall_mem_cons.mpr ⟨(He.glo_ok X G (c.fact 19 (f := .glo "BadRule"))), List.forall_mem_cons.mpr ⟨(He.glo_ok X G (c.fact 34 (f := .glo "BadRing"))), List.forall_mem_cons.mpr ⟨(He.glo_ok X G (c.fact 26 (f := .glo "HasRing"))), List.forall_mem_cons.mpr ⟨(He.glo_ok X G (c.fact 35 (f := .glo "NotAlike"))), List.forall_mem_cons.mpr ⟨(He.glo_ok X G (c.fact 24 (f := .glo "TooMany"))), List.forall_mem_cons.mpr ⟨(He.glo_ok X G (c.fact 23 (f := .glo "NoKind"))), List.forall_mem_cons.mpr ⟨(He.glo_ok X G (c.fact 27 (f := .glo "NoRow"))), List.forall_mem_cons.mpr ⟨(He.glo_ok X G (c.fact 25 (f := .glo "NoField"))), List.forall_mem_cons.mpr ⟨(He.glo_ok X G (c.fact 36 (f := .glo "BadValue"))), List.forall_mem_cons.mpr ⟨(He.glo_ok X G (c.fact 28 (f := .glo "Stands"))), List.forall_mem_cons.mpr ⟨(He.glo_ok X G (c.fact 37 (f := .glo "BadStatement"))), List.forall_mem_cons.mpr ⟨(He.glo_ok X G (c.fact 20 (f := .glo "Missed"))), List.forall_mem_cons.mpr ⟨(He.glo_ok X G (c.fact 21 (f := .glo "BadDeed"))), List.forall_mem_cons.mpr ⟨(He.glo_ok X G (c.fact 29 (f := .glo "BadJournal"))), List.forall_mem_cons.mpr ⟨(He.glo_ok X G (c.fact 30 (f := .glo "BadLine"))), List.forall_mem_nil _⟩⟩⟩⟩⟩⟩⟩⟩⟩⟩⟩⟩⟩⟩⟩⟩⟩⟩⟩⟩) (He.glo_ok X G (c.fact 25 (f := .glo "NoField"))) (c.ext 21 (f := fun K => isXsB K "NoField" [("LotError", false), ("BadSchema", false), ("BadState", false), ("BadCame", false), ("BadSoft", false), ("BadRule", false), ("BadRing", false), ("HasRing", false), ("NotAlike", false), ("TooMany", false), ("NoKind", false), ("NoRow", false), ("NoField", true), ("BadValue", false), ("Stands", false), ("BadStatement", false), ("Missed", false), ("BadDeed", false), ("BadJournal", false), ("BadLine", false)]))
  j_NoKind := isXsB_ok (List.forall_mem_cons.mpr ⟨(He.glo_ok X G (c.fact 32 (f := .glo "LotError"))), List.forall_mem_cons.mpr ⟨(He.glo_ok X G (c.fact 22 (f := .glo "BadSchema"))), List.forall_mem_cons.mpr ⟨(He.glo_ok X G (c.fact 31 (f := .glo "BadState"))), List.forall_mem_cons.mpr ⟨(He.glo_ok X G (c.fact 33 (f := .glo "BadCame"))), List.forall_mem_cons.mpr ⟨(He.glo_ok X G (c.fact 18 (f := .glo "BadSoft"))), List.forall_mem_cons.mpr ⟨(He.glo_ok X G (c.fact 19 (f := .glo "BadRule"))), List.forall_mem_cons.mpr ⟨(He.glo_ok X G (c.fact 34 (f := .glo "BadRing"))), List.forall_mem_cons.mpr ⟨(He.glo_ok X G (c.fact 26 (f := .glo "HasRing"))), List.forall_mem_cons.mpr ⟨(He.glo_ok X G (c.fact 35 (f := .glo "NotAlike"))), List.forall_mem_cons.mpr ⟨(He.glo_ok X G (c.fact 24 (f := .glo "TooMany"))), List.forall_mem_cons.mpr ⟨(He.glo_ok X G (c.fact 23 (f := .glo "NoKind"))), List.forall_mem_cons.mpr ⟨(He.glo_ok X G (c.fact 27 (f := .glo "NoRow"))), List.forall_mem_cons.mpr ⟨(He.glo_ok X G (c.fact 25 (f := .glo "NoField"))), List.forall_mem_cons.mpr ⟨(He.glo_ok X G (c.fact 36 (f := .glo "BadValue"))), List.forall_mem_cons.mpr ⟨(He.glo_ok X G (c.fact 28 (f := .glo "Stands"))), List.forall_mem_cons.mpr ⟨(He.glo_ok X G (c.fact 37 (f := .glo "BadStatement"))), List.forall_mem_cons.mpr ⟨(He.glo_ok X G (c.fact 20 (f := .glo "Missed"))), List.forall_mem_cons.mpr ⟨(He.glo_ok X G (c.fact 21 (f := .glo "BadDeed"))), List.forall_mem_cons.mpr ⟨(He.glo_ok X G (c.fact 29 (f := .glo "BadJournal"))), List.forall_mem_cons.mpr ⟨(He.glo_ok X G (c.fact 30 (f := .glo "BadLine"))), List.forall_mem_nil _⟩⟩⟩⟩⟩⟩⟩⟩⟩⟩⟩⟩⟩⟩⟩⟩⟩⟩⟩⟩) (He.glo_ok X G (c.fact 23 (f := .glo "NoKind"))) (c.ext 22 (f := fun K => isXsB K "NoKind" [("LotError", false), ("BadSchema", false), ("BadState", false), ("BadCame", false), ("BadSoft", false), ("BadRule", false), ("BadRing", false), ("HasRing", false), ("NotAlike", false), ("TooMany", false), ("NoKind", true), ("NoRow", false), ("NoField", false), ("BadValue", false), ("Stands", false), ("BadStatement", false), ("Missed", false), ("BadDeed", false), ("BadJournal", false), ("BadLine", false)]))
  j_NoRow := isXsB_ok (List.forall_mem_cons.mpr ⟨(He.glo_ok X G (c.fact 32 (f := .glo "LotError"))), List.forall_mem_cons.mpr ⟨(He.glo_ok X G (c.fact 22 (f := .glo "BadSchema"))), List.forall_mem_cons.mpr ⟨(He.glo_ok X G (c.fact 31 (f := .glo "BadState"))), List.forall_mem_cons.mpr ⟨(He.glo_ok X G (c.fact 33 (f := .glo "BadCame"))), List.forall_mem_cons.mpr ⟨(He.glo_ok X G (c.fact 18 (f := .glo "BadSoft"))), List.forall_mem_cons.mpr ⟨(He.glo_ok X G (c.fact 19 (f := .glo "BadRule"))), List.forall_mem_cons.mpr ⟨(He.glo_ok X G (c.fact 34 (f := .glo "BadRing"))), List.forall_mem_cons.mpr ⟨(He.glo_ok X G (c.fact 26 (f := .glo "HasRing"))), List.forall_mem_cons.mpr ⟨(He.glo_ok X G (c.fact 35 (f := .glo "NotAlike"))), List.forall_mem_cons.mpr ⟨(He.glo_ok X G (c.fact 24 (f := .glo "TooMany"))), List.forall_mem_cons.mpr ⟨(He.glo_ok X G (c.fact 23 (f := .glo "NoKind"))), List.forall_mem_cons.mpr ⟨(He.glo_ok X G (c.fact 27 (f := .glo "NoRow"))), List.forall_mem_cons.mpr ⟨(He.glo_ok X G (c.fact 25 (f := .glo "NoField"))), List.forall_mem_cons.mpr ⟨(He.glo_ok X G (c.fact 36 (f := .glo "BadValue"))), List.forall_mem_cons.mpr ⟨(He.glo_ok X G (c.fact 28 (f := .glo "Stands"))), List.forall_mem_cons.mpr ⟨(He.glo_ok X G (c.fact 37 (f := .glo "BadStatement"))), List.forall_mem_cons.mpr ⟨(He.glo_ok X G (c.fact 20 (f := .glo "Missed"))), List.forall_mem_cons.mpr ⟨(He.glo_ok X G (c.fact 21 (f := .glo "BadDeed"))), List.forall_mem_cons.mpr ⟨(He.glo_ok X G (c.fact 29 (f := .glo "BadJournal"))), List.forall_mem_cons.mpr ⟨(He.glo_ok X G (c.fact 30 (f := .glo "BadLine"))), List.forall_mem_nil _⟩⟩⟩⟩⟩⟩⟩⟩⟩⟩⟩⟩⟩⟩⟩⟩⟩⟩⟩⟩) (He.glo_ok X G (c.fact 27 (f := .glo "NoRow"))) (c.ext 23 (f := fun K => isXsB K "NoRow" [("LotError", false), ("BadSchema", false), ("BadState", false), ("BadCame", false), ("BadSoft", false), ("BadRule", false), ("BadRing", false), ("HasRing", false), ("NotAlike", false), ("TooMany", false), ("NoKind", false), ("NoRow", true), ("NoField", false), ("BadValue", false), ("Stands", false), ("BadStatement", false), ("Missed", false), ("BadDeed", false), ("BadJournal", false), ("BadLine", false)]))
  j_NotAlike := isXsB_ok (List.forall_mem_cons.mpr ⟨(He.glo_ok X G (c.fact 32 (f := .glo "LotError"))), List.forall_mem_cons.mpr ⟨(He.glo_ok X G (c.fact 22 (f := .glo "BadSchema"))), List.forall_mem_cons.mpr ⟨(He.glo_ok X G (c.fact 31 (f := .glo "BadState"))), List.forall_mem_cons.mpr ⟨(He.glo_ok X G (c.fact 33 (f := .glo "BadCame"))), List.forall_mem_cons.mpr ⟨(He.glo_ok X G (c.fact 18 (f := .glo "BadSoft"))), List.forall_mem_cons.mpr ⟨(He.glo_ok X G (c.fact 19 (f := .glo "BadRule"))), List.forall_mem_cons.mpr ⟨(He.glo_ok X G (c.fact 34 (f := .glo "BadRing"))), List.forall_mem_cons.mpr ⟨(He.glo_ok X G (c.fact 26 (f := .glo "HasRing"))), List.forall_mem_cons.mpr ⟨(He.glo_ok X G (c.fact 35 (f := .glo "NotAlike"))), List.forall_mem_cons.mpr ⟨(He.glo_ok X G (c.fact 24 (f := .glo "TooMany"))), List.forall_mem_cons.mpr ⟨(He.glo_ok X G (c.fact 23 (f := .glo "NoKind"))), List.forall_mem_cons.mpr ⟨(He.glo_ok X G (c.fact 27 (f := .glo "NoRow"))), List.forall_mem_cons.mpr ⟨(He.glo_ok X G (c.fact 25 (f := .glo "NoField"))), List.forall_mem_cons.mpr ⟨(He.glo_ok X G (c.fact 36 (f := .glo "BadValue"))), List.forall_mem_cons.mpr ⟨(He.glo_ok X G (c.fact 28 (f := .glo "Stands"))), List.forall_mem_cons.mpr ⟨(He.glo_ok X G (c.fact 37 (f := .glo "BadStatement"))), List.forall_mem_cons.mpr ⟨(He.glo_ok X G (c.fact 20 (f := .glo "Missed"))), List.forall_mem_cons.mpr ⟨(He.glo_ok X G (c.fact 21 (f := .glo "BadDeed"))), List.forall_mem_cons.mpr ⟨(He.glo_ok X G (c.fact 29 (f := .glo "BadJournal"))), List.forall_mem_cons.mpr ⟨(He.glo_ok X G (c.fact 30 (f := .glo "BadLine"))), List.forall_mem_nil _⟩⟩⟩⟩⟩⟩⟩⟩⟩⟩⟩⟩⟩⟩⟩⟩⟩⟩⟩⟩) (He.glo_ok X G (c.fact 35 (f := .glo "NotAlike"))) (c.ext 24 (f := fun K => isXsB K "NotAlike" [("LotError", false), ("BadSchema", false), ("BadState", false), ("BadCame", false), ("BadSoft", false), ("BadRule", false), ("BadRing", false), ("HasRing", false), ("NotAlike", true), ("TooMany", false), ("NoKind", false), ("NoRow", false), ("NoField", false), ("BadValue", false), ("Stands", false), ("BadStatement", false), ("Missed", false), ("BadDeed", false), ("BadJournal", false), ("BadLine", false)]))
  j_Stands := isXsB_ok (List.forall_mem_cons.mpr ⟨(He.glo_ok X G (c.fact 32 (f := .glo "LotError"))), List.forall_mem_cons.mpr ⟨(He.glo_ok X G (c.fact 22 (f := .glo "BadSchema"))), List.forall_mem_cons.mpr ⟨(He.glo_ok X G (c.fact 31 (f := .glo "BadState"))), List.forall_mem_cons.mpr ⟨(He.glo_ok X G (c.fact 33 (f := .glo "BadCame"))), List.forall_mem_cons.mpr ⟨(He.glo_ok X G (c.fact 18 (f := .glo "BadSoft"))), List.forall_mem_cons.mpr ⟨(He.glo_ok X G (c.fact 19 (f := .glo "BadRule"))), List.forall_mem_cons.mpr ⟨(He.glo_ok X G (c.fact 34 (f := .glo "BadRing"))), List.forall_mem_cons.mpr ⟨(He.glo_ok X G (c.fact 26 (f := .glo "HasRing"))), List.forall_mem_cons.mpr ⟨(He.glo_ok X G (c.fact 35 (f := .glo "NotAlike"))), List.forall_mem_cons.mpr ⟨(He.glo_ok X G (c.fact 24 (f := .glo "TooMany"))), List.forall_mem_cons.mpr ⟨(He.glo_ok X G (c.fact 23 (f := .glo "NoKind"))), List.forall_mem_cons.mpr ⟨(He.glo_ok X G (c.fact 27 (f := .glo "NoRow"))), List.forall_mem_cons.mpr ⟨(He.glo_ok X G (c.fact 25 (f := .glo "NoField"))), List.forall_mem_cons.mpr ⟨(He.glo_ok X G (c.fact 36 (f := .glo "BadValue"))), List.forall_mem_cons.mpr ⟨(He.glo_ok X G (c.fact 28 (f := .glo "Stands"))), List.forall_mem_cons.mpr ⟨(He.glo_ok X G (c.fact 37 (f := .glo "BadStatement"))), List.forall_mem_cons.mpr ⟨(He.glo_ok X G (c.fact 20 (f := .glo "Missed"))), List.forall_mem_cons.mpr ⟨(He.glo_ok X G (c.fact 21 (f := .glo "BadDeed"))), List.forall_mem_cons.mpr ⟨(He.glo_ok X G (c.fact 29 (f := .glo "BadJournal"))), List.forall_mem_cons.mpr ⟨(He.glo_ok X G (c.fact 30 (f := .glo "BadLine"))), List.forall_mem_nil _⟩⟩⟩⟩⟩⟩⟩⟩⟩⟩⟩⟩⟩⟩⟩⟩⟩⟩⟩⟩) (He.glo_ok X G (c.fact 28 (f := .glo "Stands"))) (c.ext 25 (f := fun K => isXsB K "Stands" [("LotError", false), ("BadSchema", false), ("BadState", false), ("BadCame", false), ("BadSoft", false), ("BadRule", false), ("BadRing", false), ("HasRing", false), ("NotAlike", false), ("TooMany", false), ("NoKind", false), ("NoRow", false), ("NoField", false), ("BadValue", false), ("Stands", true), ("BadStatement", false), ("Missed", false), ("BadDeed", false), ("BadJournal", false), ("BadLine", false)]))
  j_TooMany := isXsB_ok (List.forall_mem_cons.mpr ⟨(He.glo_ok X G (c.fact 32 (f := .glo "LotError"))), List.forall_mem_cons.mpr ⟨(He.glo_ok X G (c.fact 22 (f := .glo "BadSchema"))), List.forall_mem_cons.mpr ⟨(He.glo_ok X G (c.fact 31 (f := .glo "BadState"))), List.forall_mem_cons.mpr ⟨(He.glo_ok X G (c.fact 33 (f := .glo "BadCame"))), List.forall_mem_cons.mpr ⟨(He.glo_ok X G (c.fact 18 (f := .glo "BadSoft"))), List.forall_mem_cons.mpr ⟨(He.glo_ok X G (c.fact 19 (f := .glo "BadRule"))), List.forall_mem_cons.mpr ⟨(He.glo_ok X G (c.fact 34 (f := .glo "BadRing"))), List.forall_mem_cons.mpr ⟨(He.glo_ok X G (c.fact 26 (f := .glo "HasRing"))), List.forall_mem_cons.mpr ⟨(He.glo_ok X G (c.fact 35 (f := .glo "NotAlike"))), List.forall_mem_cons.mpr ⟨(He.glo_ok X G (c.fact 24 (f := .glo "TooMany"))), List.forall_mem_cons.mpr ⟨(He.glo_ok X G (c.fact 23 (f := .glo "NoKind"))), List.forall_mem_cons.mpr ⟨(He.glo_ok X G (c.fact 27 (f := .glo "NoRow"))), List.forall_mem_cons.mpr ⟨(He.glo_ok X G (c.fact 25 (f := .glo "NoField"))), List.forall_mem_cons.mpr ⟨(He.glo_ok X G (c.fact 36 (f := .glo "BadValue"))), List.forall_mem_cons.mpr ⟨(He.glo_ok X G (c.fact 28 (f := .glo "Stands"))), List.forall_mem_cons.mpr ⟨(He.glo_ok X G (c.fact 37 (f := .glo "BadStatement"))), List.forall_mem_cons.mpr ⟨(He.glo_ok X G (c.fact 20 (f := .glo "Missed"))), List.forall_mem_cons.mpr ⟨(He.glo_ok X G (c.fact 21 (f := .glo "BadDeed"))), List.forall_mem_cons.mpr ⟨(He.glo_ok X G (c.fact 29 (f := .glo "BadJournal"))), List.forall_mem_cons.mpr ⟨(He.glo_ok X G (c.fact 30 (f := .glo "BadLine"))), List.forall_mem_nil _⟩⟩⟩⟩⟩⟩⟩⟩⟩⟩⟩⟩⟩⟩⟩⟩⟩⟩⟩⟩) (He.glo_ok X G (c.fact 24 (f := .glo "TooMany"))) (c.ext 26 (f := fun K => isXsB K "TooMany" [("LotError", false), ("BadSchema", false), ("BadState", false), ("BadCame", false), ("BadSoft", false), ("BadRule", false), ("BadRing", false), ("HasRing", false), ("NotAlike", false), ("TooMany", true), ("NoKind", false), ("NoRow", false), ("NoField", false), ("BadValue", false), ("Stands", false), ("BadStatement", false), ("Missed", false), ("BadDeed", false), ("BadJournal", false), ("BadLine", false)]))
  v_ValueError := isVsB_ok (List.forall_mem_cons.mpr ⟨(He.glo_ok X G (c.fact 32 (f := .glo "LotError"))), List.forall_mem_cons.mpr ⟨(He.glo_ok X G (c.fact 22 (f := .glo "BadSchema"))), List.forall_mem_cons.mpr ⟨(He.glo_ok X G (c.fact 31 (f := .glo "BadState"))), List.forall_mem_cons.mpr ⟨(He.glo_ok X G (c.fact 33 (f := .glo "BadCame"))), List.forall_mem_cons.mpr ⟨(He.glo_ok X G (c.fact 18 (f := .glo "BadSoft"))), List.forall_mem_cons.mpr ⟨(He.glo_ok X G (c.fact 19 (f := .glo "BadRule"))), List.forall_mem_cons.mpr ⟨(He.glo_ok X G (c.fact 34 (f := .glo "BadRing"))), List.forall_mem_cons.mpr ⟨(He.glo_ok X G (c.fact 26 (f := .glo "HasRing"))), List.forall_mem_cons.mpr ⟨(He.glo_ok X G (c.fact 35 (f := .glo "NotAlike"))), List.forall_mem_cons.mpr ⟨(He.glo_ok X G (c.fact 24 (f := .glo "TooMany"))), List.forall_mem_cons.mpr ⟨(He.glo_ok X G (c.fact 23 (f := .glo "NoKind"))), List.forall_mem_cons.mpr ⟨(He.glo_ok X G (c.fact 27 (f := .glo "NoRow"))), List.forall_mem_cons.mpr ⟨(He.glo_ok X G (c.fact 25 (f := .glo "NoField"))), List.forall_mem_cons.mpr ⟨(He.glo_ok X G (c.fact 36 (f := .glo "BadValue"))), List.forall_mem_cons.mpr ⟨(He.glo_ok X G (c.fact 28 (f := .glo "Stands"))), List.forall_mem_cons.mpr ⟨(He.glo_ok X G (c.fact 37 (f := .glo "BadStatement"))), List.forall_mem_cons.mpr ⟨(He.glo_ok X G (c.fact 20 (f := .glo "Missed"))), List.forall_mem_cons.mpr ⟨(He.glo_ok X G (c.fact 21 (f := .glo "BadDeed"))), List.forall_mem_cons.mpr ⟨(He.glo_ok X G (c.fact 29 (f := .glo "BadJournal"))), List.forall_mem_cons.mpr ⟨(He.glo_ok X G (c.fact 30 (f := .glo "BadLine"))), List.forall_mem_nil _⟩⟩⟩⟩⟩⟩⟩⟩⟩⟩⟩⟩⟩⟩⟩⟩⟩⟩⟩⟩) (c.ext 27 (f := fun K => isVsB K [("LotError", true), ("BadSchema", true), ("BadState", true), ("BadCame", true), ("BadSoft", true), ("BadRule", true), ("BadRing", true), ("HasRing", true), ("NotAlike", true), ("TooMany", true), ("NoKind", true), ("NoRow", true), ("NoField", true), ("BadValue", true), ("Stands", true), ("BadStatement", true), ("Missed", true), ("BadDeed", true), ("BadJournal", true), ("BadLine", true)]))
  x_BadDeed := ⟨_, _, (He.glo_ok X G (c.fact 21 (f := .glo "BadDeed"))), ErrY.sup (err_at ce 0 (d := he0)) (c.ext 28 (f := fun K => ErrY.ok K PySem.Challenge.rw_lotorder_k01_errors_told.prog.main.file he0)) het0⟩
  x_BadJournal := ⟨_, _, (He.glo_ok X G (c.fact 29 (f := .glo "BadJournal"))), ErrY.sup (err_at ce 1 (d := he1)) (c.ext 29 (f := fun K => ErrY.ok K PySem.Challenge.rw_lotorder_k01_errors_told.prog.main.file he1)) het1⟩
  x_BadLine := ⟨_, _, (He.glo_ok X G (c.fact 30 (f := .glo "BadLine"))), ErrY.sup (err_at ce 2 (d := he2)) (c.ext 30 (f := fun K => ErrY.ok K PySem.Challenge.rw_lotorder_k01_errors_told.prog.main.file he2)) het2⟩
  x_BadRule := ⟨_, _, (He.glo_ok X G (c.fact 19 (f := .glo "BadRule"))), ErrY.sup (err_at ce 3 (d := he3)) (c.ext 31 (f := fun K => ErrY.ok K PySem.Challenge.rw_lotorder_k01_errors_told.prog.main.file he3)) het3⟩
  x_BadSchema := ⟨_, _, (He.glo_ok X G (c.fact 22 (f := .glo "BadSchema"))), ErrY.sup (err_at ce 4 (d := he4)) (c.ext 32 (f := fun K => ErrY.ok K PySem.Challenge.rw_lotorder_k01_errors_told.prog.main.file he4)) het4⟩
  x_BadSoft := ⟨_, _, (He.glo_ok X G (c.fact 18 (f := .glo "BadSoft"))), ErrY.sup (err_at ce 5 (d := he5)) (c.ext 33 (f := fun K => ErrY.ok K PySem.Challenge.rw_lotorder_k01_errors_told.prog.main.file he5)) het5⟩
  x_BadState := ⟨_, _, (He.glo_ok X G (c.fact 31 (f := .glo "BadState"))), ErrY.sup (err_at ce 6 (d := he6)) (c.ext 34 (f := fun K => ErrY.ok K PySem.Challenge.rw_lotorder_k01_errors_told.prog.main.file he6)) het6⟩
  x_HasRing := ⟨_, _, (He.glo_ok X G (c.fact 26 (f := .glo "HasRing"))), ErrY.sup (err_at ce 7 (d := he7)) (c.ext 35 (f := fun K => ErrY.ok K PySem.Challenge.rw_lotorder_k01_errors_told.prog.main.file he7)) het7⟩
  x_Missed := ⟨_, _, (He.glo_ok X G (c.fact 20 (f := .glo "Missed"))), ErrY.sup (err_at ce 8 (d := he8)) (c.ext 36 (f := fun K => ErrY.ok K PySem.Challenge.rw_lotorder_k01_errors_told.prog.main.file he8)) het8⟩
  x_NoField := ⟨_, _, (He.glo_ok X G (c.fact 25 (f := .glo "NoField"))), ErrY.sup (err_at ce 9 (d := he9)) (c.ext 37 (f := fun K => ErrY.ok K PySem.Challenge.rw_lotorder_k01_errors_told.prog.main.file he9)) het9⟩
  x_NoKind := ⟨_, _, (He.glo_ok X G (c.fact 23 (f := .glo "NoKind"))), ErrY.sup (err_at ce 10 (d := he10)) (c.ext 38 (f := fun K => ErrY.ok K PySem.Challenge.rw_lotorder_k01_errors_told.prog.main.file he10)) het10⟩
  x_NoRow := ⟨_, _, (He.glo_ok X G (c.fact 27 (f := .glo "NoRow"))), ErrY.sup (err_at ce 11 (d := he11)) (c.ext 39 (f := fun K => ErrY.ok K PySem.Challenge.rw_lotorder_k01_errors_told.prog.main.file he11)) het11⟩
  x_Stands := ⟨_, _, (He.glo_ok X G (c.fact 28 (f := .glo "Stands"))), ErrY.sup (err_at ce 12 (d := he12)) (c.ext 40 (f := fun K => ErrY.ok K PySem.Challenge.rw_lotorder_k01_errors_told.prog.main.file he12)) het12⟩
  x_TooMany := ⟨_, _, (He.glo_ok X G (c.fact 24 (f := .glo "TooMany"))), ErrY.sup (err_at ce 13 (d := he13)) (c.ext 41 (f := fun K => ErrY.ok K PySem.Challenge.rw_lotorder_k01_errors_told.prog.main.file he13)) het13⟩
  y_BadCame := ownB_ok (He.glo_ok X G (c.fact 33 (f := .glo "BadCame"))) (c.ext 42 (f := fun K => ownB K "BadCame"))
  y_BadRing := ownB_ok (He.glo_ok X G (c.fact 34 (f := .glo "BadRing"))) (c.ext 43 (f := fun K => ownB K "BadRing"))
  y_BadStatement := ownB_ok (He.glo_ok X G (c.fact 37 (f := .glo "BadStatement"))) (c.ext 44 (f := fun K => ownB K "BadStatement"))
  y_BadValue := ownB_ok (He.glo_ok X G (c.fact 36 (f := .glo "BadValue"))) (c.ext 45 (f := fun K => ownB K "BadValue"))
  y_LotError := ownB_ok (He.glo_ok X G (c.fact 32 (f := .glo "LotError"))) (c.ext 46 (f := fun K => ownB K "LotError"))
  y_NotAlike := ownB_ok (He.glo_ok X G (c.fact 35 (f := .glo "NotAlike"))) (c.ext 47 (f := fun K => ownB K "NotAlike"))
  z_sys := (sysB_ok (c.ext 48 (f := fun K => sysB K)))
def LawTrue : Prop := ∀ ns : List Int, ns.length ≤ 63 → ∀ sd, sd = D.lst (ns.map .int) ∨ sd = D.klt (ns.map .int) → ∃ w, s_law (.sh sd :: .sh .drw :: List.replicate 6 .un) ⟨bigOf ns, ns, 0, 0, 7⟩ = some (.rt (.bl true), w)
end K01
open PySem PySem.W PySem.Calls PyProof.Rows
theorem K01.holds_of (hT : K01.LawTrue) : PySem.Challenge.rw_lotorder_k01_errors_told.Holds := by
  w_on; o_law
  refine HandSHeadRun.head_any (r := OpenLaw.row PySem.Challenge.rw_lotorder_k01_errors_told) (q := view (OpenLaw.row PySem.Challenge.rw_lotorder_k01_errors_told).prog [29]) (H := K01.hk) (ob := K01.ob) (M := 6000) (loose := K01.hlo) (d := HandSHeadRun.topDef (OpenLaw.row PySem.Challenge.rw_lotorder_k01_errors_told).prog 29) (kwd := []) K01.ob_eq
    (by kernel_rfl) (fun s => by kernel_rfl) K01.run (by kernel_rfl) (by kernel_rfl) (by kernel_rfl) (by rfl) (by first | assumption | decide +kernel) (by decide +kernel) ⟨rfl, rfl, rfl, rfl, rfl, by decide +kernel⟩ ?hw ?hc
  case hw => w_witness2
  case hc =>
    refine Dl.walk_ofC (l := PySem.Challenge.rw_lotorder_k01_errors_told) (n := 63) (x := "_law_script") rfl (by decide) (by kernel_rfl) ?F
    intro w mg fa h Y G hmg0
    obtain ⟨K, KX, NT, c, ce⟩ := Y
    have hmg : mg ("law" : PySem.Str) = some (.ref fa) := by
      have e : (HandSHeadRun.topDef (OpenLaw.row PySem.Challenge.rw_lotorder_k01_errors_told).prog 29).name = ("law" : PySem.Str) := by kernel_rfl
      rw [← e]
      exact hmg0
    obtain ⟨fd, F⟩ := Dl.SaysY.def_ c 7 (d := K01.hd7)
    have e := hmg.symm.trans (He.glo_ok KX G (Dl.SaysY.fact c 38 (f := .glo "law")))
    cases e
    exact ⟨K, fd, _, KX, fun s u => (L2.FunD.bindsA (ps := ["_law_script"]) F (fun _ _ _ _ _ _ us hl => match us, hl with | [_], _ => rfl)) s [u] rfl, fun H a ns hl hO hS => Dl.spLaw_of ⟨a, ns, rfl, hS, Nat.le_trans hl (by decide), hT ns hl, fun _ => rfl⟩, fun base => K01.ok_law (K01.txt KX G c ce) base F⟩
theorem PySem.Challenge.cw_lotorder_k01_errors_told_holds : PySem.Challenge.rw_lotorder_k01_errors_told.Holds :=
  K01.holds_of K01.law_true
