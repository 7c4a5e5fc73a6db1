import PyProof.Rows.All
import Wide.All
import OpenK.AllK
import Wide.FinOn
import PySem.Challenge.RW_oftenenough_k07_whole_shares_that_last
import HandS.ForMost
import HandS.ForExc
import HandS.IsInst
import HandS.TupAny
import HandS.TupMul
import HandS.Walk
import HandS.Conv
import HandS.Wide
import HandS.Zip
import HandS.Flow
import HandS.Lambda
import KE.GoesEnum
import KE.GoesNew
import PyProof.ReprRoads
import KE.KEqDict
import KE.KExcSuper
import KE.KExcInit
import HandS.ExcValue
import PyProof.ReprBulk
import KE.KDflt
import HandS.Star
import HandS.Style
import KE.SortData
import HandS.SetFor
import HandS.Strs
import KE.KRevSl
import KE.KExcIs
import HandS.TupLen
import HandS.DictComp
import HandS.Text
import PyProof.StrBlock2
import HandS.Iter
import HandS.DictTup
import HandS.Deep
import KE.KExcLine
import KE.RegKSuper
set_option Elab.async false
set_option linter.all false
set_option autoImplicit false
set_option maxRecDepth 100000
set_option maxHeartbeats 2000000
/-! A layer of plain data over the hand layer: a def's body is read as a function over data, with the draws left open. -/
namespace OE
open PySem PySem.Spec L2
/-- the tables of code objects: the name that each one's code objects bear -/
class TN where
  nm : Addr → Option Str
variable [TN]
/-- data, the draws' state among them -/
inductive D where
  | non
  | bl (b : Bool)
  | int (i : Int)
  | str (x : Str)
  | lst (l : List D)
  | scr (l : List Int)
  | tup (l : List D)
  | dic (l : List (D × D))
  | m
  | exn (x : Str) (C : Addr) (l : List D)
  | clo (f : Addr) (Hs0 : Hp)
  | mref (a : Addr)
  | obj (C : Addr) (l : List (Str × D))
  | dit (l : List (List Int × D))
  deriving Inhabited
/-- an exception of the package: its class, its field -/
structure Exn where
  cls : Str
  arg : Option D
/-- what changes: a list, a dict, an instance -/
inductive MO where
  | lst (l : List D)
  | dic (l : List (D × D))
  | ins (C : Addr) (l : List (Str × D))
  | dit (l : List (List Int × D))
  | lit (u : HO) (l : List (List Int × D))
noncomputable abbrev Mu := Addr → Option MO
noncomputable def Mu.put (μ : Mu) (a : Addr) (o : MO) : Mu := fun b => if b = a then some o else μ b
noncomputable def Mu.del (μ : Mu) (a : Addr) : Mu := fun b => if b = a then none else μ b
theorem Mu.put_same {μ : Mu} {a : Addr} {o : MO} : μ.put a o a = some o := if_pos rfl
theorem Mu.put_ne {μ : Mu} {a b : Addr} {o : MO} (h : b ≠ a) : μ.put a o b = μ b := if_neg h
theorem Mu.put_put {μ : Mu} {a : Addr} {o u : MO} : (μ.put a o).put a u = μ.put a u := by
  funext b; unfold Mu.put; split <;> rfl
theorem Mu.del_ne {μ : Mu} {a b : Addr} (h : b ≠ a) : μ.del a b = μ b := if_neg h
theorem Mu.del_same {μ : Mu} {a : Addr} : μ.del a a = none := if_pos rfl
theorem Mu.del_put {μ : Mu} {a : Addr} {o : MO} (h : μ a = none) : (μ.put a o).del a = μ := by
  funext b; unfold Mu.put Mu.del
  by_cases e : b = a
  · subst e; simp [h]
  · simp [e]
/-- where a piece of code stands: the draws so far, what changes -/
structure S where
  n : Nat
  mu : Mu
/-- what a piece of code does: what is wanted of its value, of its exception -/
noncomputable abbrev Wp (α : Type) := S → (α → S → Prop) → (Exn → S → Prop) → Prop
namespace Wp
noncomputable def ret {α : Type} (a : α) : Wp α := fun n q _ => q a n
noncomputable def bind {α β : Type} (t : Wp α) (f : α → Wp β) : Wp β := fun n q e => t n (fun a k => f a k q e) e
noncomputable def fail {α : Type} (x : Exn) : Wp α := fun n _ e => e x n
noncomputable def ask (p : Prop) : Wp Unit := fun n q _ => p ∧ q () n
noncomputable def calm {α : Type} (t : Wp α) : Wp α := fun n q _ => t n q fun _ _ => False
end Wp
noncomputable abbrev Ev := List (Option D)
/-- an exception that was caught: its class, its dict -/
noncomputable def ExF (C : Addr) (d : Option Addr) (a : Addr) : HO := .ext fun h => ∃ (oe : Obj) (vs : Array Value), h.get? a = some oe ∧ Zc (.ref C) d oe ∧ oe.data = .fields vs
/-- the package's classes' fields -/
noncomputable def fldOf (c : Str) : Str := if c = "BadPlan" then "place" else if c = "BadRow" then "place" else if c = "BadPaper" then "word" else if c = "BadText" then "word" else if c = "TooGreat" then "most" else "value"
/-- the keys of the draws' state -/
noncomputable def mKeys : List Key := [.inr "left", .inr "seed", .inr "cells", .inr "spot"]
noncomputable def isM : HO → Bool
  | .dK kvs => decide (kvs.map Prod.fst = mKeys)
  | _ => false
/-- what changes: the draws' states, the tables of code objects -/
noncomputable def isC : HO → Bool
  | .tbl _ => true
  | .met _ _ => true
  | o => isM o
/-- the mark of what changes -/
noncomputable def MK : HO := .met 0 0
noncomputable def isK : HO → Bool
  | .met _ _ => true
  | _ => false
noncomputable def kD : Key → D
  | .inl i => .int i
  | .inr x => .str x
/-- what stands, but for the draws' states: they stay such -/
noncomputable def Ext (H H' : Hp) : Prop := ∀ a o, H a = some o → (isC o = false → H' a = some o) ∧ (isM o = true → ∃ o', H' a = some o' ∧ isM o' = true)
theorem Ext.refl (H : Hp) : Ext H H := fun _ o h => ⟨fun _ => h, fun z => ⟨o, h, z⟩⟩
theorem Ext.trans {H H1 H2 : Hp} (a : Ext H H1) (b : Ext H1 H2) : Ext H H2 := fun c o h => by
  obtain ⟨p, q⟩ := a c o h
  refine ⟨fun z => (b c o (p z)).1 z, fun z => ?_⟩
  obtain ⟨o', h', z'⟩ := q z
  exact (b c o' h').2 z'
theorem Ext.of_same {H H' : Hp} (s : Same H H') : Ext H H' := fun a o h => ⟨fun _ => s a o h, fun z => ⟨o, s a o h, z⟩⟩
mutual
inductive Dv (K : PySem.W.Frag) (H : Hp) : V → D → Prop
  | non : Dv K H .non .non
  | bl (b : Bool) : Dv K H (.bl b) (.bl b)
  | int (i : Int) : Dv K H (.int i) (.int i)
  | str (x : Str) : Dv K H (.str x) (.str x)
  | lst {a : Addr} {xs : List V} {ds : List D} (h : H a = some (.lst xs)) (g : DvAll K H xs ds) : Dv K H (.ref a) (.lst ds)
  | scr {a : Addr} {ns : List Int} (h : SqL K H a (ns.map V.int)) : Dv K H (.ref a) (.scr ns)
  | tup {a : Addr} {xs : List V} {ds : List D} (h : H a = some (.tup xs)) (g : DvAll K H xs ds) : Dv K H (.ref a) (.tup ds)
  | dic {a : Addr} {kvs : List (Key × V)} {ds : List (D × D)} (h : H a = some (.dK kvs)) (z : isM (.dK kvs) = false) (g : DvKv K H kvs ds) : Dv K H (.ref a) (.dic ds)
  | m {a : Addr} {o : HO} (h : H a = some o) (z : isM o = true) : Dv K H (.ref a) .m
  | exn1 {a dd C : Addr} {x : Str} {v : V} {d : D} (h : H a = some (ExF C (some dd) a)) (hd : H dd = some (.xd [(fldOf x, v)])) (g : Dv K H v d) : Dv K H (.ref a) (.exn x C [d])
  | exn0 {a C : Addr} {x : Str} (h : H a = some (ExF C none a)) : Dv K H (.ref a) (.exn x C [])
  | clo {f : Addr} {Hs0 : Hp} (e : Ext Hs0 H) : Dv K H (.ref f) (.clo f Hs0)
  | mref (a : Addr) : Dv K H (.ref a) (.mref a)
  | dit {a : Addr} {o : Obj} {kvs : List (List Key × V)} {ds : List (List Int × D)} (h : H a = some (.frz o (.dT kvs))) (g : DvKt K H kvs ds) : Dv K H (.ref a) (.dit ds)
  | obj {a C dx : Addr} {fs : List (Str × V)} {ds : List (Str × D)} (h : H a = some (.ins C dx fs)) (hx : H dx = some (.own a)) (g : DvFs K H fs ds) : Dv K H (.ref a) (.obj C ds)
inductive DvAll (K : PySem.W.Frag) (H : Hp) : List V → List D → Prop
  | nil : DvAll K H [] []
  | cons {v : V} {vs : List V} {d : D} {ds : List D} (h : Dv K H v d) (g : DvAll K H vs ds) : DvAll K H (v :: vs) (d :: ds)
inductive DvKv (K : PySem.W.Frag) (H : Hp) : List (Key × V) → List (D × D) → Prop
  | nil : DvKv K H [] []
  | cons {k : Key} {v : V} {vs : List (Key × V)} {d : D} {ds : List (D × D)} (h : Dv K H v d) (g : DvKv K H vs ds) : DvKv K H ((k, v) :: vs) ((kD k, d) :: ds)
inductive DvKt (K : PySem.W.Frag) (H : Hp) : List (List Key × V) → List (List Int × D) → Prop
  | nil : DvKt K H [] []
  | cons {k : List Int} {v : V} {vs : List (List Key × V)} {d : D} {ds : List (List Int × D)} (h : Dv K H v d) (g : DvKt K H vs ds) : DvKt K H ((k.map Sum.inl, v) :: vs) ((k, d) :: ds)
inductive DvFs (K : PySem.W.Frag) (H : Hp) : List (Str × V) → List (Str × D) → Prop
  | nil : DvFs K H [] []
  | cons {k : Str} {v : V} {vs : List (Str × V)} {d : D} {ds : List (Str × D)} (h : Dv K H v d) (g : DvFs K H vs ds) : DvFs K H ((k, v) :: vs) ((k, d) :: ds)
end
theorem Ext.lst {K : PySem.W.Frag} {H H' : Hp} {a : Addr} {xs : List V} (e : Ext H H') (h : SqL K H a xs) : SqL K H' a xs := by
  rcases h with (h | ⟨o, h⟩) | h
  · exact .inl (.inl ((e _ _ h).1 rfl))
  · exact .inl (.inr ⟨o, (e _ _ h).1 rfl⟩)
  · exact .inr h
theorem Ext.tup {K : PySem.W.Frag} {H H' : Hp} {a : Addr} {xs : List V} (e : Ext H H') (h : SqT K H a xs) : SqT K H' a xs := by
  rcases h with (h | ⟨o, h⟩) | h
  · exact .inl (.inl ((e _ _ h).1 rfl))
  · exact .inl (.inr ⟨o, (e _ _ h).1 rfl⟩)
  · exact .inr h
mutual
theorem Dv.ext {K : PySem.W.Frag} {H H' : Hp} (e : Ext H H') : ∀ {v : V} {d : D}, Dv K H v d → Dv K H' v d
  | _, _, .non => .non
  | _, _, .bl b => .bl b
  | _, _, .int i => .int i
  | _, _, .str x => .str x
  | _, _, .lst h g => .lst ((e _ _ h).1 rfl) (DvAll.ext e g)
  | _, _, .scr h => .scr (e.lst h)
  | _, _, .tup h g => .tup ((e _ _ h).1 rfl) (DvAll.ext e g)
  | _, _, .dic h z g => .dic ((e _ _ h).1 z) z (DvKv.ext e g)
  | _, _, .m h z => let ⟨_, h', z'⟩ := (e _ _ h).2 z; .m h' z'
  | _, _, .exn1 h hd g => .exn1 ((e _ _ h).1 rfl) ((e _ _ hd).1 rfl) (Dv.ext e g)
  | _, _, .exn0 h => .exn0 ((e _ _ h).1 rfl)
  | _, _, .clo e0 => .clo (e0.trans e)
  | _, _, .mref a => .mref a
  | _, _, .dit h g => .dit ((e _ _ h).1 rfl) (DvKt.ext e g)
  | _, _, .obj h hx g => .obj ((e _ _ h).1 rfl) ((e _ _ hx).1 rfl) (DvFs.ext e g)
theorem DvAll.ext {K : PySem.W.Frag} {H H' : Hp} (e : Ext H H') : ∀ {v : List V} {d : List D}, DvAll K H v d → DvAll K H' v d
  | _, _, .nil => .nil
  | _, _, .cons h g => .cons (Dv.ext e h) (DvAll.ext e g)
theorem DvKv.ext {K : PySem.W.Frag} {H H' : Hp} (e : Ext H H') : ∀ {v : List (Key × V)} {d : List (D × D)}, DvKv K H v d → DvKv K H' v d
  | _, _, .nil => .nil
  | _, _, .cons h g => .cons (Dv.ext e h) (DvKv.ext e g)
theorem DvKt.ext {K : PySem.W.Frag} {H H' : Hp} (e : Ext H H') : ∀ {v : List (List Key × V)} {d : List (List Int × D)}, DvKt K H v d → DvKt K H' v d
  | _, _, .nil => .nil
  | _, _, .cons h g => .cons (Dv.ext e h) (DvKt.ext e g)
theorem DvFs.ext {K : PySem.W.Frag} {H H' : Hp} (e : Ext H H') : ∀ {v : List (Str × V)} {d : List (Str × D)}, DvFs K H v d → DvFs K H' v d
  | _, _, .nil => .nil
  | _, _, .cons h g => .cons (Dv.ext e h) (DvFs.ext e g)
end
theorem DvAll.length {K : PySem.W.Frag} {H : Hp} : ∀ {v : List V} {d : List D}, DvAll K H v d → v.length = d.length
  | _, _, .nil => rfl
  | _, _, .cons _ g => congrArg (· + 1) (DvAll.length g)
theorem DvAll.get {K : PySem.W.Frag} {H : Hp} : ∀ {vs : List V} {ds : List D} {i : Nat} {d : D}, DvAll K H vs ds → ds[i]? = some d → ∃ v, vs[i]? = some v ∧ Dv K H v d
  | _, _, _, _, .nil, e => by simp at e
  | _, _, 0, _, .cons h _, e => ⟨_, rfl, by simp at e; subst e; exact h⟩
  | _, _, i + 1, _, .cons _ g, e => by
    obtain ⟨v, h1, h2⟩ := DvAll.get (i := i) g (by simpa using e)
    exact ⟨v, by simpa using h1, h2⟩
theorem DvAll.getV {K : PySem.W.Frag} {H : Hp} : ∀ {vs : List V} {ds : List D} {i : Nat} {v : V}, DvAll K H vs ds → vs[i]? = some v → ∃ d, ds[i]? = some d ∧ Dv K H v d
  | _, _, _, _, .nil, e => by simp at e
  | _, _, 0, _, .cons h _, e => ⟨_, rfl, by simp at e; subst e; exact h⟩
  | _, _, i + 1, _, .cons _ g, e => by
    obtain ⟨v, h1, h2⟩ := DvAll.getV (i := i) g (by simpa using e)
    exact ⟨v, by simpa using h1, h2⟩
theorem DvAll.append {K : PySem.W.Frag} {H : Hp} : ∀ {vs ws : List V} {ds es : List D}, DvAll K H vs ds → DvAll K H ws es → DvAll K H (vs ++ ws) (ds ++ es)
  | _, _, _, _, .nil, g => g
  | _, _, _, _, .cons h g, g' => .cons h (DvAll.append g g')
theorem DvAll.take {K : PySem.W.Frag} {H : Hp} : ∀ {vs : List V} {ds : List D} (n : Nat), DvAll K H vs ds → DvAll K H (vs.take n) (ds.take n)
  | _, _, 0, _ => .nil
  | _, _, _ + 1, .nil => .nil
  | _, _, n + 1, .cons h g => .cons h (DvAll.take n g)
theorem DvAll.drop {K : PySem.W.Frag} {H : Hp} : ∀ {vs : List V} {ds : List D} (n : Nat), DvAll K H vs ds → DvAll K H (vs.drop n) (ds.drop n)
  | _, _, 0, g => g
  | _, _, _ + 1, .nil => .nil
  | _, _, n + 1, .cons _ g => DvAll.drop n g
theorem DvAll.rep {K : PySem.W.Frag} {H : Hp} {vs : List V} {ds : List D} (g : DvAll K H vs ds) : ∀ n : Nat, DvAll K H (List.replicate n vs).flatten (List.replicate n ds).flatten
  | 0 => .nil
  | n + 1 => by
    rw [List.replicate_succ, List.replicate_succ, List.flatten_cons, List.flatten_cons]
    exact g.append (DvAll.rep g n)
theorem DvAll.ints {K : PySem.W.Frag} {H : Hp} : ∀ ns : List Int, DvAll K H (ns.map V.int) (ns.map D.int)
  | [] => .nil
  | n :: ns => .cons (.int n) (DvAll.ints ns)
/-- a state of the draws that is in order: at most n draws -/
noncomputable def GoodM (n : Nat) (H : Hp) (kvs : List (Key × V)) : Prop :=
  ∃ (l s p : Int) (c : Addr) (cs : List Int), kvs = [(.inr "left", .int l), (.inr "seed", .int s), (.inr "cells", .ref c), (.inr "spot", .int p)] ∧
    0 ≤ l ∧ 0 ≤ s ∧ s < 2147483647 ∧ 0 ≤ p ∧ p ≤ n ∧ H c = some (.lst (cs.map V.int)) ∧ 0 < cs.length
noncomputable def Good (n : Nat) (H : Hp) : Prop := ∀ a kvs, H a = some (.dK kvs) → isM (.dK kvs) = true → GoodM n H kvs
theorem GoodM.mono {n k : Nat} {H H' : Hp} {kvs : List (Key × V)} (h : GoodM n H kvs) (hn : n ≤ k) (e : Ext H H') : GoodM k H' kvs := by
  obtain ⟨l, s, p, c, cs, e1, h1, h2, h3, h4, h5, h6, h7⟩ := h
  exact ⟨l, s, p, c, cs, e1, h1, h2, h3, h4, by omega, (e _ _ h6).1 rfl, h7⟩
/-- what stands at the address of something that changes -/
noncomputable def MOk (K : PySem.W.Frag) (Hs H : Hp) (a : Addr) : MO → Prop
  | .lst l => ∃ xs, H a = some (.lst xs) ∧ DvAll K Hs xs l
  | .dic l => ∃ kvs, H a = some (.dK kvs) ∧ DvKv K Hs kvs l
  | .dit l => ∃ kvs, H a = some (.dT kvs) ∧ DvKt K Hs kvs l
  | .lit u l => H a = some u ∧ ∃ o kvs, u = .frz o (.dT kvs) ∧ DvKt K Hs kvs l
  | .ins C l => ∃ dx fs, H a = some (.ins C dx fs) ∧ Hs dx = some (.own a) ∧ DvFs K Hs fs l
theorem MOk.ext {K : PySem.W.Frag} {Hs H Hs' H' : Hp} {a : Addr} {o : MO} (h : MOk K Hs H a o) (e : Ext Hs Hs') (k : H' a = H a) : MOk K Hs' H' a o := by
  cases o with
  | lst l => obtain ⟨xs, h1, h2⟩ := h; exact ⟨xs, k.trans h1, h2.ext e⟩
  | dic l => obtain ⟨kvs, h1, h2⟩ := h; exact ⟨kvs, k.trans h1, h2.ext e⟩
  | dit l => obtain ⟨kvs, h1, h2⟩ := h; exact ⟨kvs, k.trans h1, h2.ext e⟩
  | lit u l => obtain ⟨h1, o, kvs, e1, h2⟩ := h; exact ⟨k.trans h1, o, kvs, e1, h2.ext e⟩
  | ins C l => obtain ⟨dx, fs, h1, h2, h3⟩ := h; exact ⟨dx, fs, k.trans h1, (e _ _ h2).1 rfl, h3.ext e⟩
theorem MOk.some {K : PySem.W.Frag} {Hs H : Hp} {a : Addr} {o : MO} (h : MOk K Hs H a o) : ∃ u, H a = some u := by
  cases o with
  | lst l => obtain ⟨xs, h1, h2⟩ := h; exact ⟨_, h1⟩
  | dic l => obtain ⟨kvs, h1, h2⟩ := h; exact ⟨_, h1⟩
  | dit l => obtain ⟨kvs, h1, h2⟩ := h; exact ⟨_, h1⟩
  | lit u l => exact ⟨_, h.1⟩
  | ins C l => obtain ⟨dx, fs, h1, h2, h3⟩ := h; exact ⟨_, h1⟩
noncomputable def isT : HO → Bool
  | .tup _ => true
  | _ => false
theorem MOk.noT {K : PySem.W.Frag} {Hs H : Hp} {a : Addr} {o : MO} {xs : List V} (h : MOk K Hs H a o) : H a ≠ Option.some (HO.tup xs) := fun z => by
  cases o with
  | lst l => obtain ⟨xs, h1, h2⟩ := h; rw [h1] at z; cases z
  | dic l => obtain ⟨kvs, h1, h2⟩ := h; rw [h1] at z; cases z
  | dit l => obtain ⟨kvs, h1, h2⟩ := h; rw [h1] at z; cases z
  | lit u l => obtain ⟨h1, o, kvs, rfl, h2⟩ := h; rw [h1] at z; cases z
  | ins C l => obtain ⟨dx, fs, h1, h2, h3⟩ := h; rw [h1] at z; cases z
/-- what is shared stands, but for what changes -/
noncomputable def SameK (Hs H : Hp) : Prop := ∀ a o, Hs a = some o → isK o = false → H a = some o
structure Sit (K : PySem.W.Frag) (n : S) (Hs H : Hp) : Prop where
  subK : SameK Hs H
  mkd : ∀ a, Hs a = some MK → ∃ o, H a = some o
  mks : ∀ a o, Hs a = some o → isK o = true → o = MK
  good : Good n.n Hs
  tabs : ∀ P q, TN.nm P = some q → LamX.TabS Hs P q
  muts : ∀ a o, n.mu a = some o → Hs a = some MK ∧ MOk K Hs H a o
  tups : ∀ a xs, H a = some (.tup xs) → Hs a = some (.tup xs)
theorem Sit.sub {K : PySem.W.Frag} {n : S} {Hs H : Hp} (s : Sit K n Hs H) (a : Addr) (o : HO) (h : Hs a = some o) (z : isK o = false := by rfl) : H a = some o := s.subK a o h z
theorem Sit.muFree {K : PySem.W.Frag} {n : S} {Hs H : Hp} (s : Sit K n Hs H) {a : Addr} (h : Hs a = none) : n.mu a = none := by
  cases e : n.mu a with
  | none => rfl
  | some o => rw [(s.muts a o e).1] at h; cases h
theorem Sit.muNe {K : PySem.W.Frag} {n : S} {Hs H : Hp} (s : Sit K n Hs H) {a b : Addr} {o : MO} (h : n.mu a = some o) (hb : Hs b = none) : a ≠ b := fun e => by
  rw [e, s.muFree hb] at h; cases h
structure Go (Hs H Hs' H' : Hp) : Prop where
  ext : Ext Hs Hs'
  own : ∀ a o, H a = some o → Hs a = none → H' a = some o ∧ Hs' a = none
theorem Go.refl (Hs H : Hp) : Go Hs H Hs H := ⟨.refl _, fun _ _ h n => ⟨h, n⟩⟩
theorem Go.trans {Hs H Hs1 H1 Hs2 H2 : Hp} (a : Go Hs H Hs1 H1) (b : Go Hs1 H1 Hs2 H2) : Go Hs H Hs2 H2 :=
  ⟨a.ext.trans b.ext, fun c o h n => let ⟨p, q⟩ := a.own c o h n; b.own c o p q⟩
theorem Sit.free {K : PySem.W.Frag} {n : S} {Hs H : Hp} (s : Sit K n Hs H) {a : Addr} (h : H a = none) : Hs a = none := by
  cases e : Hs a with
  | none => rfl
  | some o =>
    cases z : isK o with
    | false => rw [s.subK a o e z] at h; cases h
    | true =>
      have z := s.mks a o e z
      subst z
      obtain ⟨u, hu⟩ := s.mkd a e
      rw [hu] at h; cases h
/-- a new shared object -/
theorem Sit.putG {K : PySem.W.Frag} {n : S} {Hs H : Hp} (s : Sit K n Hs H) {p : Addr} {o : HO} (hs : Hs p = none) (z : ∀ kvs, o = .dK kvs → isM (.dK kvs) = true → GoodM n.n Hs kvs) (zk : isK o = false) : Sit K n (upd Hs p o) (upd H p o) ∧ Ext Hs (upd Hs p o) := by
  have sm : Same Hs (upd Hs p o) := fun b u q => by rw [upd_ne (ne_of_none q hs)]; exact q
  have e : Ext Hs (upd Hs p o) := Ext.of_same sm
  refine ⟨⟨fun b u q y => ?_, fun b q => ?_, fun b u q y => ?_, fun b kvs q y => ?_, fun P q t => (s.tabs P q t).ext sm, fun b u q => ?_, fun b xs q => ?_⟩, e⟩
  · by_cases hb : b = p
    · subst hb; rw [upd_same] at q ⊢; exact q
    · rw [upd_ne hb] at q ⊢; exact s.subK b u q y
  · by_cases hb : b = p
    · subst hb; exact ⟨_, upd_same⟩
    · rw [upd_ne hb] at q ⊢; exact s.mkd b q
  · by_cases hb : b = p
    · subst hb; rw [upd_same] at q; cases q; rw [zk] at y; cases y
    · rw [upd_ne hb] at q; exact s.mks b u q y
  · by_cases hb : b = p
    · subst hb
      rw [upd_same] at q
      exact (z kvs (Option.some.inj q) y).mono (Nat.le_refl _) e
    · rw [upd_ne hb] at q
      exact (s.good b kvs q y).mono (Nat.le_refl _) e
  · have hb : b ≠ p := s.muNe q hs
    obtain ⟨h1, h2⟩ := s.muts b u q
    exact ⟨by rw [upd_ne hb]; exact h1, h2.ext e (upd_ne hb)⟩
  · by_cases hb : b = p
    · subst hb; rw [upd_same] at q ⊢; exact q
    · rw [upd_ne hb] at q ⊢; exact s.tups b xs q
theorem Sit.put {K : PySem.W.Frag} {n : S} {Hs H : Hp} (s : Sit K n Hs H) {p : Addr} {o : HO} (hs : Hs p = none) (z : isM o = false) (zk : isK o = false) : Sit K n (upd Hs p o) (upd H p o) ∧ Ext Hs (upd Hs p o) :=
  s.putG hs (fun kvs e y => by rw [e, y] at z; cases z) zk
/-- a new shared object that is no draws' state -/
theorem Sit.new {K : PySem.W.Frag} {n : S} {Hs H : Hp} (s : Sit K n Hs H) {p : Addr} {o : HO} (h : H p = none) (z : isM o = false) (zk : isK o = false := by rfl) : Sit K n (upd Hs p o) (upd H p o) ∧ Go Hs H (upd Hs p o) (upd H p o) := by
  have hs := s.free h
  obtain ⟨s1, e⟩ := s.put hs z zk
  refine ⟨s1, ⟨e, fun b u q y => ?_⟩⟩
  have hb : b ≠ p := fun e => by rw [e, h] at q; cases q
  rw [upd_ne hb, upd_ne hb]
  exact ⟨q, y⟩
theorem upd_id {H : Hp} {a : Addr} {o : HO} (h : H a = some o) : upd H a o = H := by
  funext b; unfold upd; split
  · rename_i e; subst e; exact h.symm
  · rfl
/-- what is not shared changes -/
theorem Sit.own {K : PySem.W.Frag} {n : S} {Hs H H' : Hp} (s : Sit K n Hs H) (k : ∀ b u, Hs b = some u → H' b = H b) (t : ∀ b xs, Hs b = none → H' b = some (.tup xs) → H b = some (.tup xs)) : Sit K n Hs H' :=
  ⟨fun b u q y => (k b u q).trans (s.subK b u q y), fun b q => let ⟨o, h⟩ := s.mkd b q; ⟨o, (k b _ q).trans h⟩, s.mks, s.good, s.tabs, fun b u q => let ⟨h1, h2⟩ := s.muts b u q; ⟨h1, h2.ext (.refl _) (k b _ h1)⟩, fun b xs q => by
    cases e : Hs b with
    | none => have z := s.tups b xs (t b xs e q); rw [e] at z; exact z
    | some u => have z := s.tups b xs ((k b u e).symm.trans q); rw [e] at z; exact z⟩
theorem Sit.ownU {K : PySem.W.Frag} {n : S} {Hs H : Hp} (s : Sit K n Hs H) {A : Addr} {o : HO} (hA : Hs A = none) (zt : isT o = false) : Sit K n Hs (upd H A o) :=
  s.own (fun b u z => upd_ne (ne_of_none z hA)) fun b xs _ q => by
    by_cases hb : b = A
    · subst hb; rw [upd_same] at q; cases q; cases zt
    · rw [upd_ne hb] at q; exact q
/-- the classes of the package: where they stand; their fields -/
noncomputable abbrev Gam := Str → Option Addr
noncomputable def XRep (K : PySem.W.Frag) (Γ : Gam) (H : Hp) (x : Exn) (cls : Value) (dd : Option Addr) : Prop :=
  ∃ C, Γ x.cls = some C ∧ cls = .ref C ∧ match x.arg with
    | none => dd = none
    | some d => ∃ a v, dd = some a ∧ H a = some (.xd [(fldOf x.cls, v)]) ∧ Dv K H v d
/-- the slots hold the data -/
structure R (K : PySem.W.Frag) (ρ : Ev) (σ : St) (Hs : Hp) : Prop where
  len : ρ.length = σ.length
  at' : ∀ (i : Nat) (d : D), ρ[i]? = some (some d) → ∃ v, σ[i]? = some (some v) ∧ Dv K Hs v d
theorem R.ext {K : PySem.W.Frag} {ρ : Ev} {σ : St} {Hs Hs' : Hp} (r : R K ρ σ Hs) (e : Ext Hs Hs') : R K ρ σ Hs' :=
  ⟨r.len, fun i d h => let ⟨v, h1, h2⟩ := r.at' i d h; ⟨v, h1, h2.ext e⟩⟩
theorem R.set {K : PySem.W.Frag} {ρ : Ev} {σ : St} {Hs : Hp} (r : R K ρ σ Hs) (i : Nat) {v : V} {d : D} (h : Dv K Hs v d) : R K (ρ.set i (some d)) (σ.set i (some v)) Hs := by
  refine ⟨by simpa using r.len, fun j d' e => ?_⟩
  by_cases hj : j = i
  · subst hj
    have hlt : j < ρ.length := by
      rcases Nat.lt_or_ge j ρ.length with h | h
      · exact h
      · rw [List.getElem?_eq_none (by simpa using h)] at e; cases e
    rw [List.getElem?_set_self hlt] at e
    cases e
    exact ⟨v, List.getElem?_set_self (by rw [← r.len]; exact hlt), h⟩
  · rw [List.getElem?_set_ne (Ne.symm hj)] at e
    obtain ⟨w, h1, h2⟩ := r.at' j d' e
    exact ⟨w, by rw [List.getElem?_set_ne (Ne.symm hj)]; exact h1, h2⟩
theorem R.unset {K : PySem.W.Frag} {ρ : Ev} {σ : St} {Hs : Hp} (r : R K ρ σ Hs) (i : Nat) (o : Option V) : R K (ρ.set i none) (σ.set i o) Hs := by
  refine ⟨by simpa using r.len, fun j d' e => ?_⟩
  by_cases hj : j = i
  · subst hj
    rcases Nat.lt_or_ge j ρ.length with h | h
    · rw [List.getElem?_set_self h] at e; cases e
    · rw [List.getElem?_eq_none (by simpa using h)] at e; cases e
  · rw [List.getElem?_set_ne (Ne.symm hj)] at e
    obtain ⟨w, h1, h2⟩ := r.at' j d' e
    exact ⟨w, by rw [List.getElem?_set_ne (Ne.symm hj)]; exact h1, h2⟩
/-- what is wanted behind, of values, of exceptions -/
noncomputable def OkQ (K : PySem.W.Frag) (Hs H : Hp) (q : D → S → Prop) (Q : VK) : Prop := ∀ v H' Hs' d n', Go Hs H Hs' H' → Sit K n' Hs' H' → Dv K Hs' v d → q d n' → Q v H'
noncomputable def OkE (K : PySem.W.Frag) (Γ : Gam) (Hs H : Hp) (e : Exn → S → Prop) (E : XK) : Prop := ∀ x cls dd H' Hs' n', Go Hs H Hs' H' → Sit K n' Hs' H' → XRep K Γ Hs' x cls dd → e x n' → E cls dd H'
theorem OkE.go {K : PySem.W.Frag} {Γ : Gam} {Hs H Hs1 H1 : Hp} {e : Exn → S → Prop} {E : XK} (h : OkE K Γ Hs H e E) (g : Go Hs H Hs1 H1) : OkE K Γ Hs1 H1 e E := fun x cls dd H' Hs' n' g' => h x cls dd H' Hs' n' (g.trans g')
theorem OkQ.go {K : PySem.W.Frag} {Hs H Hs1 H1 : Hp} {q : D → S → Prop} {Q : VK} (h : OkQ K Hs H q Q) (g : Go Hs H Hs1 H1) : OkQ K Hs1 H1 q Q := fun v H' Hs' d n' g' => h v H' Hs' d n' (g.trans g')
section
variable (Γ : Gam) (X : Cx) (W : WX)
noncomputable def DE (e : Expr) (t : Ev → Wp D) : Prop := ∃ te : TE, PE X e te ∧ ∀ (σ : St) (H Hs : Hp) (ρ : Ev) (n : S) (q : D → S → Prop) (x : Exn → S → Prop) (Q : VK),
  Sit X.K n Hs H → R X.K ρ σ Hs → t ρ n q x → OkQ X.K Hs H q Q → OkE X.K Γ Hs H x (fun c d h => W c d σ h) → te σ H Q
noncomputable def DT (e : Expr) (t : Ev → Wp Bool) : Prop := ∃ te : TT, PT X e te ∧ ∀ (σ : St) (H Hs : Hp) (ρ : Ev) (n : S) (q : Bool → S → Prop) (x : Exn → S → Prop) (Q : Bool → Hp → Prop),
  Sit X.K n Hs H → R X.K ρ σ Hs → t ρ n q x → (∀ b H' Hs' n', Go Hs H Hs' H' → Sit X.K n' Hs' H' → q b n' → Q b H') → OkE X.K Γ Hs H x (fun c d h => W c d σ h) → te σ H Q
noncomputable def DA (es : List Expr) (t : Ev → Wp (List D)) : Prop := ∃ te : TA, PA X es te ∧ ∀ (σ : St) (H Hs : Hp) (ρ : Ev) (n : S) (q : List D → S → Prop) (x : Exn → S → Prop) (Q : List V → Hp → Prop),
  Sit X.K n Hs H → R X.K ρ σ Hs → t ρ n q x → (∀ vs H' Hs' ds n', Go Hs H Hs' H' → Sit X.K n' Hs' H' → DvAll X.K Hs' vs ds → q ds n' → Q vs H') → OkE X.K Γ Hs H x (fun c d h => W c d σ h) → te σ H Q
end
section
variable {Γ : Gam} {X : Cx} {W : WX}
/-! ### names, constants -/
noncomputable def tvar (i : Nat) : Ev → Wp D := fun ρ n q _ => ∃ d, ρ[i]? = some (some d) ∧ q d n
theorem d_var (i : Nat) {x : Str} {pos : Pos} (h : PE X (.Name x pos) (tVar i)) : DE Γ X W (.Name x pos) (tvar i) :=
  ⟨_, h, fun σ H Hs ρ n q x Q s r ⟨d, h1, h2⟩ k _ => let ⟨v, h3, h4⟩ := r.at' i d h1; ⟨v, h3, k v H Hs d n (.refl _ _) s h4 h2⟩⟩
noncomputable def tconst (d : D) : Ev → Wp D := fun _ => Wp.ret d
theorem d_const {e : Expr} {v : V} {d : D} (h : PE X e (tC v)) (hd : ∀ H, Dv X.K H v d) : DE Γ X W e (tconst d) :=
  ⟨_, h, fun σ H Hs ρ n q x Q s r hq k _ => k v H Hs d n (.refl _ _) s (hd _) hq⟩
theorem d_int {i j pos} : DE Γ X W (.Constant (.int i) j pos) (tconst (.int i)) := d_const pe_int fun _ => .int i
theorem d_bl {i j pos} : DE Γ X W (.Constant (.bool i) j pos) (tconst (.bl i)) := d_const pe_bl fun _ => .bl i
theorem d_gint {x : Str} {i : Int} {t : Tok} {pos : Pos} (hg : Gl X x) (hm : X.mg x = some (.int i t)) (hd : (x == ("__debug__" : Str)) = false := by decide) : DE Γ X W (.Name x pos) (tconst (.int i)) :=
  d_const (pe_glob (v := .int i) hg hm ⟨_, rfl⟩ hd) fun _ => .int i
/-! ### arguments, tuples, lists -/
noncomputable def tnil : Ev → Wp (List D) := fun _ => Wp.ret []
noncomputable def tcons (a : Ev → Wp D) (r : Ev → Wp (List D)) : Ev → Wp (List D) := fun ρ => Wp.bind (a ρ) fun x => Wp.bind (r ρ) fun xs => Wp.ret (x :: xs)
theorem da_nil : DA Γ X W [] tnil := ⟨_, pa_nil, fun σ H Hs ρ n q x Q s r hq k _ => k [] H Hs [] n (.refl _ _) s .nil hq⟩
theorem da_cons {e : Expr} {es : List Expr} {a : Ev → Wp D} {r : Ev → Wp (List D)} (ha : DE Γ X W e a) (hr : DA Γ X W es r) (hs : starEach (e :: es) X.env = (false, eval e X.env) :: starEach es X.env := by rfl) : DA Γ X W (e :: es) (tcons a r) := by
  obtain ⟨ta, pa, fa⟩ := ha
  obtain ⟨tr, pr, fr⟩ := hr
  refine ⟨_, pa_cons pa pr hs, fun σ H Hs ρ n q x Q s r hq k ke => ?_⟩
  refine fa σ H Hs ρ n _ x _ s r hq (fun v H1 Hs1 d n1 g1 s1 hv h1 => ?_) ke
  refine fr σ H1 Hs1 ρ n1 _ x _ s1 (r.ext g1.ext) h1 (fun vs H2 Hs2 ds n2 g2 s2 hvs h2 => ?_) (ke.go g1)
  exact k _ H2 Hs2 _ n2 (g1.trans g2) s2 (.cons (hv.ext g2.ext) hvs) h2
noncomputable def ttup (t : Ev → Wp (List D)) : Ev → Wp D := fun ρ => Wp.bind (t ρ) fun ds => Wp.bind (Wp.ask (ds.length ≤ 1000000)) fun _ => Wp.ret (.tup ds)
noncomputable def tlst (t : Ev → Wp (List D)) : Ev → Wp D := fun ρ => Wp.bind (t ρ) fun ds => Wp.bind (Wp.ask (ds.length ≤ 1000000)) fun _ => Wp.ret (.lst ds)
theorem line_le {n : Nat} (h : n ≤ 1000000) : n ≤ sizeLine := by rw [sizeLine_eq]; omega
theorem new_tup {K : PySem.W.Frag} {n : S} {Hs H : Hp} (s : Sit K n Hs H) {p : Addr} {xs : List V} {ds : List D} (hp : H p = none) (g : DvAll K Hs xs ds) :
    Sit K n (upd Hs p (.tup xs)) (upd H p (.tup xs)) ∧ Go Hs H (upd Hs p (.tup xs)) (upd H p (.tup xs)) ∧ Dv K (upd Hs p (.tup xs)) (.ref p) (.tup ds) := by
  obtain ⟨s1, g1⟩ := s.new hp (o := .tup xs) rfl
  exact ⟨s1, g1, .tup upd_same (g.ext g1.ext)⟩
theorem new_lst {K : PySem.W.Frag} {n : S} {Hs H : Hp} (s : Sit K n Hs H) {p : Addr} {xs : List V} {ds : List D} (hp : H p = none) (g : DvAll K Hs xs ds) :
    Sit K n (upd Hs p (.lst xs)) (upd H p (.lst xs)) ∧ Go Hs H (upd Hs p (.lst xs)) (upd H p (.lst xs)) ∧ Dv K (upd Hs p (.lst xs)) (.ref p) (.lst ds) := by
  obtain ⟨s1, g1⟩ := s.new hp (o := .lst xs) rfl
  exact ⟨s1, g1, .lst upd_same (g.ext g1.ext)⟩
theorem d_tup {es : List Expr} {t : Ev → Wp (List D)} {k pos} (h : DA Γ X W es t) : DE Γ X W (.Tuple es k pos) (ttup t) := by
  obtain ⟨ta, pa, fa⟩ := h
  refine ⟨_, pe_tup pa, fun σ H Hs ρ n q x Q s r hq k ke => ?_⟩
  refine fa σ H Hs ρ n _ x _ s r hq (fun vs H1 Hs1 ds n1 g1 s1 hv h1 => ⟨?_, fun p hp => ?_⟩) ke
  · rw [hv.length]; exact line_le h1.1
  · obtain ⟨s2, g2, v2⟩ := new_tup s1 hp hv
    exact k _ _ _ _ n1 (g1.trans g2) s2 v2 h1.2
theorem d_lst {es : List Expr} {t : Ev → Wp (List D)} {pos} (h : DA Γ X W es t) : DE Γ X W (.List es pos) (tlst t) := by
  obtain ⟨ta, pa, fa⟩ := h
  refine ⟨_, pe_lst pa, fun σ H Hs ρ n q x Q s r hq k ke => ?_⟩
  refine fa σ H Hs ρ n _ x _ s r hq (fun vs H1 Hs1 ds n1 g1 s1 hv h1 => ⟨?_, fun p hp => ?_⟩) ke
  · rw [hv.length]; exact line_le h1.1
  · obtain ⟨s2, g2, v2⟩ := new_lst s1 hp hv
    exact k _ _ _ _ n1 (g1.trans g2) s2 v2 h1.2
end
end OE
namespace OE
open PySem PySem.Spec L2
variable [TN]
noncomputable def Wp.stuck {α : Type} : Wp α := fun _ _ _ => False
/-- two values, an operation on data -/
noncomputable def R2D (K : PySem.W.Frag) (r : R2) (f : D → D → Wp D) : Prop := ∀ (x y : V) (a b : D) (H Hs : Hp) (n : S) (q : D → S → Prop) (e : Exn → S → Prop) (Q : VK),
  Sit K n Hs H → Dv K Hs x a → Dv K Hs y b → f a b n q e → OkQ K Hs H q Q → r x y H Q
noncomputable def CD (K : PySem.W.Frag) (r : List V → Hp → VK → Prop) (f : List D → Wp D) : Prop := ∀ (xs : List V) (ds : List D) (H Hs : Hp) (n : S) (q : D → S → Prop) (e : Exn → S → Prop) (Q : VK),
  Sit K n Hs H → DvAll K Hs xs ds → f ds n q e → OkQ K Hs H q Q → r xs H Q
theorem opR_or {X : Cx} {f : Value → Value → Sem Value} {r r' : R2} (h : OpR X f r) (h' : OpR X f r') : OpR X f (fun x y H Q => r x y H Q ∨ r' x y H Q) := by
  intro pins s σ H x y v u Q I rx ry q
  rcases q with q | q
  · exact h pins s σ H x y v u Q I rx ry q
  · exact h' pins s σ H x y v u Q I rx ry q
noncomputable def tbin (f : D → D → Wp D) (ta tb : Ev → Wp D) : Ev → Wp D := fun ρ => Wp.bind (ta ρ) fun x => Wp.bind (tb ρ) fun y => f x y
noncomputable def tbind (f : D → Wp D) (ta : Ev → Wp D) : Ev → Wp D := fun ρ => Wp.bind (ta ρ) f
noncomputable def tcall (f : List D → Wp D) (ta : Ev → Wp (List D)) : Ev → Wp D := fun ρ => Wp.bind (ta ρ) f
theorem SameK.ext {Hs H : Hp} (s : SameK Hs H) : Ext Hs H := fun a o h => ⟨fun z => s a o h (by cases o <;> first | rfl | cases z), fun z => ⟨o, s a o h (by cases o <;> first | rfl | cases z), z⟩⟩
theorem Sit.same {K : PySem.W.Frag} {n : S} {Hs H : Hp} (s : Sit K n Hs H) : Ext Hs H := SameK.ext s.subK
section
variable {Γ : Gam} {X : Cx} {W : WX} {a b c : Expr} {ta tb tc : Ev → Wp D} {pos : Pos}
theorem tOp_of {r : R2} {f : D → D → Wp D} {ea eb : TE} (hr : R2D X.K r f)
    (fa : ∀ (σ : St) (H Hs : Hp) (ρ : Ev) (n : S) (q : D → S → Prop) (x : Exn → S → Prop) (Q : VK), Sit X.K n Hs H → R X.K ρ σ Hs → ta ρ n q x → OkQ X.K Hs H q Q → OkE X.K Γ Hs H x (fun c d h => W c d σ h) → ea σ H Q)
    (fb : ∀ (σ : St) (H Hs : Hp) (ρ : Ev) (n : S) (q : D → S → Prop) (x : Exn → S → Prop) (Q : VK), Sit X.K n Hs H → R X.K ρ σ Hs → tb ρ n q x → OkQ X.K Hs H q Q → OkE X.K Γ Hs H x (fun c d h => W c d σ h) → eb σ H Q)
    (σ : St) (H Hs : Hp) (ρ : Ev) (n : S) (q : D → S → Prop) (x : Exn → S → Prop) (Q : VK) (s : Sit X.K n Hs H) (rr : R X.K ρ σ Hs) (h : tbin f ta tb ρ n q x) (k : OkQ X.K Hs H q Q) (ke : OkE X.K Γ Hs H x (fun c d h => W c d σ h)) :
    tOp r ea eb σ H Q := by
  refine fa σ H Hs ρ n _ x _ s rr h (fun v H1 Hs1 d n1 g1 s1 hv h1 => ?_) ke
  refine fb σ H1 Hs1 ρ n1 _ x _ s1 (rr.ext g1.ext) h1 (fun w H2 Hs2 d2 n2 g2 s2 hw h2 => ?_) (ke.go g1)
  exact hr v w d d2 H2 Hs2 n2 q x Q s2 (hv.ext g2.ext) hw h2 (k.go (g1.trans g2))
theorem d_bin {op : Operator} {r : R2} {f : D → D → Wp D} (ho : OpR X (binaryOp op) r) (hr : R2D X.K r f) (ha : DE Γ X W a ta) (hb : DE Γ X W b tb) : DE Γ X W (.BinOp a op b pos) (tbin f ta tb) := by
  obtain ⟨ea, pa, fa⟩ := ha
  obtain ⟨eb, pb, fb⟩ := hb
  exact ⟨_, pe_op ho pa pb, tOp_of hr fa fb⟩
theorem d_cmp {op : CmpOp} {r : R2} {f : D → D → Wp D} (ho : OpR X (compareOp op) r) (hr : R2D X.K r f) (ha : DE Γ X W a ta) (hb : DE Γ X W b tb) (hm : behindInMarks op b = false) : DE Γ X W (.Compare a [op] [b] pos) (tbin f ta tb) := by
  obtain ⟨ea, pa, fa⟩ := ha
  obtain ⟨eb, pb, fb⟩ := hb
  exact ⟨_, pe_cmpR ho pa pb hm, tOp_of hr fa fb⟩
/-- a value that is a truth, as a test -/
noncomputable def ttest (t : Ev → Wp D) : Ev → Wp Bool := fun ρ => Wp.bind (t ρ) fun d => match d with
  | .bl b => Wp.ret b
  | _ => Wp.stuck
theorem test_of {te : TE}
    (fa : ∀ (σ : St) (H Hs : Hp) (ρ : Ev) (n : S) (q : D → S → Prop) (x : Exn → S → Prop) (Q : VK), Sit X.K n Hs H → R X.K ρ σ Hs → ta ρ n q x → OkQ X.K Hs H q Q → OkE X.K Γ Hs H x (fun c d h => W c d σ h) → te σ H Q)
    (σ : St) (H Hs : Hp) (ρ : Ev) (n : S) (q : Bool → S → Prop) (x : Exn → S → Prop) (Q : Bool → Hp → Prop) (s : Sit X.K n Hs H) (r : R X.K ρ σ Hs) (h : ttest ta ρ n q x) (k : ∀ b H' Hs' n', Go Hs H Hs' H' → Sit X.K n' Hs' H' → q b n' → Q b H')
    (ke : OkE X.K Γ Hs H x (fun c d h => W c d σ h)) : te σ H fun v H' => ∃ b, v = .bl b ∧ Q b H' := by
  refine fa σ H Hs ρ n _ x _ s r h (fun v H1 Hs1 d n1 g1 s1 hv h1 => ?_) ke
  cases hv with
  | bl b => exact ⟨b, rfl, k b H1 Hs1 n1 g1 s1 h1⟩
  | _ => exact (show False from h1).elim
theorem dt_val (ha : DE Γ X W a ta) (he : ∀ whole, isTrue a X.env whole = (do let v ← whole; standAt a.pos; holding [v] (truthy v)) := by intro _; rfl) : DT Γ X W a (ttest ta) := by
  obtain ⟨ea, pa, fa⟩ := ha
  exact ⟨_, pt_val pa he, test_of fa⟩
theorem dt_cmp {op : CmpOp} {r : R2} {f : D → D → Wp D} (ho : OpR X (compareOp op) r) (hr : R2D X.K r f) (ha : DE Γ X W a ta) (hb : DE Γ X W b tb) (hm : behindInMarks op b = false) : DT Γ X W (.Compare a [op] [b] pos) (ttest (tbin f ta tb)) := by
  obtain ⟨ea, pa, fa⟩ := ha
  obtain ⟨eb, pb, fb⟩ := hb
  exact ⟨_, pt_cmpR ho pa pb hm, test_of (tOp_of hr fa fb)⟩
/-- a op b op' c -/
noncomputable def tchain (f f' : D → D → Wp D) (ta tb tc : Ev → Wp D) : Ev → Wp D := fun ρ => Wp.bind (ta ρ) fun x => Wp.bind (tb ρ) fun y => Wp.bind (f x y) fun z => match z with
  | .bl true => Wp.bind (tc ρ) fun w => f' y w
  | .bl false => Wp.ret (.bl false)
  | _ => Wp.stuck
theorem tChain_of {r r' : R2} {f f' : D → D → Wp D} {ea eb ec : TE} (hr : R2D X.K r f) (hr' : R2D X.K r' f')
    (fa : ∀ (σ : St) (H Hs : Hp) (ρ : Ev) (n : S) (q : D → S → Prop) (x : Exn → S → Prop) (Q : VK), Sit X.K n Hs H → R X.K ρ σ Hs → ta ρ n q x → OkQ X.K Hs H q Q → OkE X.K Γ Hs H x (fun c d h => W c d σ h) → ea σ H Q)
    (fb : ∀ (σ : St) (H Hs : Hp) (ρ : Ev) (n : S) (q : D → S → Prop) (x : Exn → S → Prop) (Q : VK), Sit X.K n Hs H → R X.K ρ σ Hs → tb ρ n q x → OkQ X.K Hs H q Q → OkE X.K Γ Hs H x (fun c d h => W c d σ h) → eb σ H Q)
    (fc : ∀ (σ : St) (H Hs : Hp) (ρ : Ev) (n : S) (q : D → S → Prop) (x : Exn → S → Prop) (Q : VK), Sit X.K n Hs H → R X.K ρ σ Hs → tc ρ n q x → OkQ X.K Hs H q Q → OkE X.K Γ Hs H x (fun c d h => W c d σ h) → ec σ H Q)
    (σ : St) (H Hs : Hp) (ρ : Ev) (n : S) (q : D → S → Prop) (x : Exn → S → Prop) (Q : VK) (s : Sit X.K n Hs H) (rr : R X.K ρ σ Hs) (h : tchain f f' ta tb tc ρ n q x) (k : OkQ X.K Hs H q Q) (ke : OkE X.K Γ Hs H x (fun c d h => W c d σ h)) :
    tChain r r' ea eb ec σ H Q := by
  refine fa σ H Hs ρ n _ x _ s rr h (fun v H1 Hs1 d n1 g1 s1 hv h1 => ?_) ke
  refine fb σ H1 Hs1 ρ n1 _ x _ s1 (rr.ext g1.ext) h1 (fun w H2 Hs2 d2 n2 g2 s2 hw h2 => ?_) (ke.go g1)
  refine hr v w d d2 H2 Hs2 n2 _ x _ s2 (hv.ext g2.ext) hw h2 (fun z H3 Hs3 d3 n3 g3 s3 hz h3 => ?_)
  cases hz with
  | bl y =>
    refine ⟨y, rfl, ?_⟩
    cases y with
    | true =>
      rw [if_pos rfl]
      refine fc σ H3 Hs3 ρ n3 _ x _ s3 (rr.ext (g1.trans (g2.trans g3)).ext) h3 (fun u H4 Hs4 d4 n4 g4 s4 hu h4 => ?_) (ke.go (g1.trans (g2.trans g3)))
      exact hr' w u d2 d4 H4 Hs4 n4 q x Q s4 (hw.ext (g3.trans g4).ext) hu h4 (k.go (g1.trans (g2.trans (g3.trans g4))))
    | false =>
      rw [if_neg Bool.false_ne_true]
      exact k _ H3 Hs3 _ n3 (g1.trans (g2.trans g3)) s3 (.bl false) h3
  | _ => exact (show False from h3).elim
theorem d_chain {op op' : CmpOp} {r r' : R2} {f f' : D → D → Wp D} (ho : OpR X (compareOp op) r) (hr : R2D X.K r f) (ho' : OpR X (compareOp op') r') (hr' : R2D X.K r' f') (ha : DE Γ X W a ta) (hb : DE Γ X W b tb) (hc : DE Γ X W c tc)
    (hm : lastMarks [op, op'] [b, c] = false := by with_unfolding_all rfl) : DE Γ X W (.Compare a [op, op'] [b, c] pos) (tchain f f' ta tb tc) := by
  obtain ⟨ea, pa, fa⟩ := ha
  obtain ⟨eb, pb, fb⟩ := hb
  obtain ⟨ec, pc, fc⟩ := hc
  exact ⟨_, pe_chain ho ho' pa pb pc hm, tChain_of hr hr' fa fb fc⟩
theorem dt_chain {op op' : CmpOp} {r r' : R2} {f f' : D → D → Wp D} (ho : OpR X (compareOp op) r) (hr : R2D X.K r f) (ho' : OpR X (compareOp op') r') (hr' : R2D X.K r' f') (ha : DE Γ X W a ta) (hb : DE Γ X W b tb) (hc : DE Γ X W c tc)
    (hm : lastMarks [op, op'] [b, c] = false := by with_unfolding_all rfl) : DT Γ X W (.Compare a [op, op'] [b, c] pos) (ttest (tchain f f' ta tb tc)) := by
  obtain ⟨ea, pa, fa⟩ := ha
  obtain ⟨eb, pb, fb⟩ := hb
  obtain ⟨ec, pc, fc⟩ := hc
  exact ⟨_, pt_chain ho ho' pa pb pc hm, test_of (tChain_of hr hr' fa fb fc)⟩
/-- x is None, x is not None -/
noncomputable def isNon : D → Bool
  | .non => true
  | _ => false
noncomputable def tisN (ta : Ev → Wp D) : Ev → Wp D := fun ρ => Wp.bind (ta ρ) fun d => Wp.ret (.bl (isNon d))
noncomputable def tnotN (ta : Ev → Wp D) : Ev → Wp D := fun ρ => Wp.bind (ta ρ) fun d => Wp.ret (.bl (!isNon d))
/-! ### and, or, not, if -/
variable {ua ub : Ev → Wp Bool} {rest : List Expr}
noncomputable def DW (Γ : Gam) (X : Cx) (W : WX) (e : Expr) (t : Ev → Wp Bool) : Prop := ∃ te : TT, PW X e te ∧ ∀ (σ : St) (H Hs : Hp) (ρ : Ev) (n : S) (q : Bool → S → Prop) (x : Exn → S → Prop) (Q : Bool → Hp → Prop),
  Sit X.K n Hs H → R X.K ρ σ Hs → t ρ n q x → (∀ b H' Hs' n', Go Hs H Hs' H' → Sit X.K n' Hs' H' → q b n' → Q b H') → OkE X.K Γ Hs H x (fun c d h => W c d σ h) → te σ H Q
theorem DW.dt {e : Expr} {t : Ev → Wp Bool} (h : DW Γ X W e t) : DT Γ X W e t := let ⟨te, p, f⟩ := h; ⟨te, p.pt, f⟩
noncomputable def tand (t u : Ev → Wp Bool) : Ev → Wp Bool := fun ρ => Wp.bind (t ρ) fun c => if c = true then u ρ else Wp.ret false
noncomputable def tor (t u : Ev → Wp Bool) : Ev → Wp Bool := fun ρ => Wp.bind (t ρ) fun c => if c = true then Wp.ret true else u ρ
noncomputable def tnot (t : Ev → Wp Bool) : Ev → Wp Bool := fun ρ => Wp.bind (t ρ) fun c => Wp.ret (!c)
theorem dw_and1 (h : DT Γ X W a ua) : DW Γ X W (.BoolOp .And [a] pos) ua := let ⟨te, p, f⟩ := h; ⟨te, pw_and1 p, f⟩
theorem dw_or1 (h : DT Γ X W a ua) : DW Γ X W (.BoolOp .Or [a] pos) ua := let ⟨te, p, f⟩ := h; ⟨te, pw_or1 p, f⟩
theorem dw_and (h : DT Γ X W a ua) (g : DW Γ X W (.BoolOp .And (b :: rest) pos) ub) : DW Γ X W (.BoolOp .And (a :: b :: rest) pos) (tand ua ub) := by
  obtain ⟨ea, pa, fa⟩ := h
  obtain ⟨eb, pb, fb⟩ := g
  refine ⟨_, pw_and pa pb, fun σ H Hs ρ n q x Q s r h k ke => fa σ H Hs ρ n _ x _ s r h (fun c H1 Hs1 n1 g1 s1 h1 => ?_) ke⟩
  cases c with
  | true => exact fb σ H1 Hs1 ρ n1 q x Q s1 (r.ext g1.ext) h1 (fun b H2 Hs2 n2 g2 => k b H2 Hs2 n2 (g1.trans g2)) (ke.go g1)
  | false => exact k false H1 Hs1 n1 g1 s1 h1
theorem dw_or (h : DT Γ X W a ua) (g : DW Γ X W (.BoolOp .Or (b :: rest) pos) ub) : DW Γ X W (.BoolOp .Or (a :: b :: rest) pos) (tor ua ub) := by
  obtain ⟨ea, pa, fa⟩ := h
  obtain ⟨eb, pb, fb⟩ := g
  refine ⟨_, pw_or pa pb, fun σ H Hs ρ n q x Q s r h k ke => fa σ H Hs ρ n _ x _ s r h (fun c H1 Hs1 n1 g1 s1 h1 => ?_) ke⟩
  cases c with
  | false => exact fb σ H1 Hs1 ρ n1 q x Q s1 (r.ext g1.ext) h1 (fun b H2 Hs2 n2 g2 => k b H2 Hs2 n2 (g1.trans g2)) (ke.go g1)
  | true => exact k true H1 Hs1 n1 g1 s1 h1
theorem dt_not (h : DT Γ X W a ua) : DT Γ X W (.UnaryOp .Not a pos) (tnot ua) := by
  obtain ⟨ea, pa, fa⟩ := h
  exact ⟨_, pt_not pa, fun σ H Hs ρ n q x Q s r h k ke => fa σ H Hs ρ n _ x _ s r h (fun c H1 Hs1 n1 g1 s1 h1 => k (!c) H1 Hs1 n1 g1 s1 h1) ke⟩
noncomputable def tandV (t u : Ev → Wp D) : Ev → Wp D := fun ρ => Wp.bind (t ρ) fun c => match c with
  | .bl true => u ρ
  | .bl false => Wp.ret (.bl false)
  | _ => Wp.stuck
noncomputable def torV (t u : Ev → Wp D) : Ev → Wp D := fun ρ => Wp.bind (t ρ) fun c => match c with
  | .bl false => u ρ
  | .bl true => Wp.ret (.bl true)
  | _ => Wp.stuck
noncomputable def tnotV (t : Ev → Wp D) : Ev → Wp D := fun ρ => Wp.bind (t ρ) fun c => match c with
  | .bl b => Wp.ret (.bl (!b))
  | _ => Wp.stuck
theorem d_one {op} (h : DE Γ X W a ta) : DE Γ X W (.BoolOp op [a] pos) ta := let ⟨te, p, f⟩ := h; ⟨te, pe_one p, f⟩
theorem d_and (h : DE Γ X W a ta) (g : DE Γ X W (.BoolOp .And (b :: rest) pos) tb) : DE Γ X W (.BoolOp .And (a :: b :: rest) pos) (tandV ta tb) := by
  obtain ⟨ea, pa, fa⟩ := h
  obtain ⟨eb, pb, fb⟩ := g
  refine ⟨_, pe_and pa pb, fun σ H Hs ρ n q x Q s r h k ke => fa σ H Hs ρ n _ x _ s r h (fun v H1 Hs1 d n1 g1 s1 hv h1 => ?_) ke⟩
  cases hv with
  | bl c =>
    refine ⟨c, rfl, ?_⟩
    cases c with
    | true => exact fb σ H1 Hs1 ρ n1 q x Q s1 (r.ext g1.ext) h1 (k.go g1) (ke.go g1)
    | false => exact k _ H1 Hs1 _ n1 g1 s1 (.bl false) h1
  | _ => exact (show False from h1).elim
theorem d_or (h : DE Γ X W a ta) (g : DE Γ X W (.BoolOp .Or (b :: rest) pos) tb) : DE Γ X W (.BoolOp .Or (a :: b :: rest) pos) (torV ta tb) := by
  obtain ⟨ea, pa, fa⟩ := h
  obtain ⟨eb, pb, fb⟩ := g
  refine ⟨_, pe_or pa pb, fun σ H Hs ρ n q x Q s r h k ke => fa σ H Hs ρ n _ x _ s r h (fun v H1 Hs1 d n1 g1 s1 hv h1 => ?_) ke⟩
  cases hv with
  | bl c =>
    refine ⟨c, rfl, ?_⟩
    cases c with
    | false => exact fb σ H1 Hs1 ρ n1 q x Q s1 (r.ext g1.ext) h1 (k.go g1) (ke.go g1)
    | true => exact k _ H1 Hs1 _ n1 g1 s1 (.bl true) h1
  | _ => exact (show False from h1).elim
theorem d_not (h : DE Γ X W a ta) : DE Γ X W (.UnaryOp .Not a pos) (tnotV ta) := by
  obtain ⟨ea, pa, fa⟩ := h
  refine ⟨_, pe_not pa, fun σ H Hs ρ n q x Q s r h k ke => fa σ H Hs ρ n _ x _ s r h (fun v H1 Hs1 d n1 g1 s1 hv h1 => ?_) ke⟩
  cases hv with
  | bl c => exact ⟨c, rfl, k _ H1 Hs1 _ n1 g1 s1 (.bl _) h1⟩
  | _ => exact (show False from h1).elim
noncomputable def tif (c : Ev → Wp Bool) (t u : Ev → Wp D) : Ev → Wp D := fun ρ => Wp.bind (c ρ) fun z => if z = true then t ρ else u ρ
theorem d_if (hc : DT Γ X W c ua) (h : DE Γ X W a ta) (g : DE Γ X W b tb) : DE Γ X W (.IfExp c a b pos) (tif ua ta tb) := by
  obtain ⟨ec, pc, fc⟩ := hc
  obtain ⟨ea, pa, fa⟩ := h
  obtain ⟨eb, pb, fb⟩ := g
  refine ⟨_, pe_ifExp pc pa pb, fun σ H Hs ρ n q x Q s r h k ke => fc σ H Hs ρ n _ x _ s r h (fun z H1 Hs1 n1 g1 s1 h1 => ?_) ke⟩
  cases z with
  | true => exact fa σ H1 Hs1 ρ n1 q x Q s1 (r.ext g1.ext) h1 (k.go g1) (ke.go g1)
  | false => exact fb σ H1 Hs1 ρ n1 q x Q s1 (r.ext g1.ext) h1 (k.go g1) (ke.go g1)
/-! ### calls of built-ins -/
theorem d_callB {x : Str} {p : Pos} {es : List Expr} {t : Ev → Wp (List D)} {id : String} {r : List V → Hp → VK → Prop} {f : List D → Wp D} (hc : CallR X (.builtin id) r) (hr : CD X.K r f) (hg : Gl X x) (hm : X.mg x = none) (hv : bootBuiltins x = some (.builtin id)) (ha : DA Γ X W (a :: es) t)
    (hn : x ≠ "__name__" := by decide) (hdb : (x == ("__debug__" : Str)) = false := by decide) (he : starEach (a :: es) X.env = (false, eval a X.env) :: starEach es X.env := by rfl) (hpl : (backTo pos (starEach es X.env)).any (·.1) = false := by rfl) :
    DE Γ X W (.Call (.Name x p) (a :: es) [] pos) (tcall f t) := by
  obtain ⟨ea, pa, fa⟩ := ha
  refine ⟨_, pe_callB hc hg hm hv pa hn hdb he hpl, fun σ H Hs ρ n q x Q s rr h k ke => fa σ H Hs ρ n _ x _ s rr h (fun vs H1 Hs1 ds n1 g1 s1 hv h1 => ?_) ke⟩
  exact hr vs ds H1 Hs1 n1 q x Q s1 hv h1 (k.go g1)
theorem d_callTy {x : Str} {p : Pos} {es : List Expr} {t : Ev → Wp (List D)} {id : String} {r : List V → Hp → VK → Prop} {f : List D → Wp D} (hc : CallR X (.type id) r) (hr : CD X.K r f) (hg : Gl X x) (hm : X.mg x = none) (hv : bootBuiltins x = some (.type id)) (ha : DA Γ X W (a :: es) t)
    (hn : x ≠ "__name__" := by decide) (hdb : (x == ("__debug__" : Str)) = false := by decide) (he : starEach (a :: es) X.env = (false, eval a X.env) :: starEach es X.env := by rfl) (hpl : (backTo pos (starEach es X.env)).any (·.1) = false := by rfl) :
    DE Γ X W (.Call (.Name x p) (a :: es) [] pos) (tcall f t) := by
  obtain ⟨ea, pa, fa⟩ := ha
  refine ⟨_, pe_callTy hc hg hm hv pa hn hdb he hpl, fun σ H Hs ρ n q x Q s rr h k ke => fa σ H Hs ρ n _ x _ s rr h (fun vs H1 Hs1 ds n1 g1 s1 hv h1 => ?_) ke⟩
  exact hr vs ds H1 Hs1 n1 q x Q s1 hv h1 (k.go g1)
/-! ### subscripts -/
theorem d_ix {r : R2} {f : D → D → Wp D} (ho : IxR X r) (hr : R2D X.K r f) (ha : DE Γ X W a ta) (hb : DE Γ X W b tb) (hs : PlainIx b) : DE Γ X W (.Subscript a b pos) (tbin f ta tb) := by
  obtain ⟨ea, pa, fa⟩ := ha
  obtain ⟨eb, pb, fb⟩ := hb
  exact ⟨_, pe_ix ho pa pb hs, tOp_of hr fa fb⟩
end
/-! ### the operations on data -/
noncomputable def fAdd : D → D → Wp D
  | .int i, .int j => Wp.ret (.int (i + j))
  | .str x, .str y => Wp.bind (Wp.ask (x.length + y.length ≤ 1000000)) fun _ => Wp.ret (.str (x ++ y))
  | .tup a, .tup b => Wp.bind (Wp.ask (a.length + b.length ≤ 1000000)) fun _ => Wp.ret (.tup (a ++ b))
  | .lst a, .lst b => Wp.bind (Wp.ask (a.length + b.length ≤ 1000000)) fun _ => Wp.ret (.lst (a ++ b))
  | _, _ => Wp.stuck
noncomputable def rAddU (K : PySem.W.Frag) : R2 := fun x y H Q => rI0 (fun i j => .int (i + j)) x y H Q ∨ (∃ i j, x = .str i ∧ y = .str j ∧ i.length + j.length ≤ sizeLine ∧ Q (.str (i ++ j)) H) ∨ rCatA K x y H Q ∨ rCat x y H Q
theorem op_addU {X : Cx} : OpR X (binaryOp .Add) (rAddU X.K) := opR_or op_add (opR_or op_add_str (opR_or op_catA op_cat))
theorem r2_add {K : PySem.W.Frag} : R2D K (rAddU K) fAdd := by
  intro x y a b H Hs n q e Q s hx hy h k
  cases hx with
  | int i =>
    cases hy with
    | int j => exact .inl ⟨i, j, rfl, rfl, k _ H Hs _ n (.refl _ _) s (.int _) h⟩
    | _ => exact (show False from h).elim
  | str i =>
    cases hy with
    | str j => exact .inr (.inl ⟨i, j, rfl, rfl, line_le h.1, k _ H Hs _ n (.refl _ _) s (.str _) h.2⟩)
    | _ => exact (show False from h).elim
  | @tup a xs ds h1 g1 =>
    cases hy with
    | @tup b ys es h2 g2 =>
      refine .inr (.inr (.inl ⟨a, b, xs, ys, rfl, rfl, s.same.tup (SqT.of h1), s.same.tup (SqT.of h2), by rw [g1.length, g2.length]; exact line_le h.1, fun z => ?_, fun z1 z2 => ?_, fun z1 z2 p hp => ?_⟩))
      · subst z
        cases g1
        exact k _ H Hs _ n (.refl _ _) s (.tup h2 g2) h.2
      · subst z2
        cases g2
        refine k _ H Hs _ n (.refl _ _) s (.tup h1 g1) ?_
        have h2 := h.2
        rw [List.append_nil] at h2
        exact h2
      · obtain ⟨s1, g, v⟩ := new_tup s hp (g1.append g2)
        exact k _ _ _ _ n g s1 v h.2
    | _ => exact (show False from h).elim
  | @lst a xs ds h1 g1 =>
    cases hy with
    | @lst b ys es h2 g2 =>
      refine .inr (.inr (.inr ⟨a, b, xs, ys, rfl, rfl, s.sub _ _ h1, s.sub _ _ h2, by rw [g1.length, g2.length]; exact line_le h.1, fun p hp => ?_⟩))
      obtain ⟨s1, g, v⟩ := new_lst s hp (g1.append g2)
      exact k _ _ _ _ n g s1 v h.2
    | _ => exact (show False from h).elim
  | _ => exact (show False from h).elim
/-- an operation on two ints, under a condition -/
noncomputable def fII (C : Int → Int → Prop) (g : Int → Int → D) : D → D → Wp D
  | .int i, .int j => Wp.bind (Wp.ask (C i j)) fun _ => Wp.ret (g i j)
  | _, _ => Wp.stuck
theorem r2_ii {K : PySem.W.Frag} {C C' : Int → Int → Prop} {g : Int → Int → D} {gv : Int → Int → V} (hC : ∀ i j, C i j → C' i j) (hg : ∀ H i j, Dv K H (gv i j) (g i j)) : R2D K (rI C' gv) (fII C g) := by
  intro x y a b H Hs n q e Q s hx hy h k
  cases hx with
  | int i =>
    cases hy with
    | int j => exact ⟨i, j, rfl, rfl, hC _ _ h.1, k _ H Hs _ n (.refl _ _) s (hg _ _ _) h.2⟩
    | _ => exact (show False from h).elim
  | _ => exact (show False from h).elim
noncomputable def fI0 (g : Int → Int → D) : D → D → Wp D
  | .int i, .int j => Wp.ret (g i j)
  | _, _ => Wp.stuck
theorem r2_i0 {K : PySem.W.Frag} {g : Int → Int → D} {gv : Int → Int → V} (hg : ∀ H i j, Dv K H (gv i j) (g i j)) : R2D K (rI0 gv) (fI0 g) := by
  intro x y a b H Hs n q e Q s hx hy h k
  cases hx with
  | int i =>
    cases hy with
    | int j => exact ⟨i, j, rfl, rfl, k _ H Hs _ n (.refl _ _) s (hg _ _ _) h⟩
    | _ => exact (show False from h).elim
  | _ => exact (show False from h).elim
section
variable {Γ : Gam} {X : Cx} {W : WX} {a b c : Expr} {ta tb tc : Ev → Wp D} {pos : Pos}
/-- a power: a small base, or one of less than 2000 bits and at most the thousandth -/
noncomputable def CPowA (i j : Int) : Prop := CPow i j ∨ (0 ≤ j ∧ j ≤ 1000 ∧ i.natAbs.log2 < 2000)
theorem op_powA : OpR X (binaryOp .Pow) (rI CPowA fun i j => .int (i ^ j.toNat)) := opI fun i j _ _ _ _ _ hc q => by
  rcases hc with hc | ⟨h0, h1, h2⟩
  · exact PyProof.Rows.pow_int_small hc.1 hc.2.1 hc.2.2 q
  · refine PyProof.Rows.pow_int h0 ?_ q
    have b : Builtin.Int.intBits i ≤ i.natAbs.log2 + 1 := by
      unfold Builtin.Int.intBits
      split <;> omega
    have h3 : (Builtin.Int.intBits i : Int) * j ≤ 2000 * 1000 := Int.le_trans (Int.mul_le_mul_of_nonneg_right (show (Builtin.Int.intBits i : Int) ≤ 2000 by omega) h0) (Int.mul_le_mul_of_nonneg_left h1 (by decide))
    exact Int.le_trans h3 (by decide)
noncomputable abbrev fSub := fI0 fun i j => .int (i - j)
noncomputable abbrev fLt := fI0 fun i j => .bl (decide (i < j))
noncomputable abbrev fLe := fI0 fun i j => .bl (decide (i ≤ j))
noncomputable abbrev fGt := fI0 fun i j => .bl (decide (j < i))
noncomputable abbrev fGe := fI0 fun i j => .bl (decide (j ≤ i))
noncomputable abbrev fMod := fII (fun _ j => j ≠ 0) fun i j => .int (i.fmod j)
noncomputable abbrev fDiv := fII CDivW fun i j => .int (i / j)
noncomputable abbrev fPow := fII CPowA fun i j => .int (i ^ j.toNat)
theorem d_add (ha : DE Γ X W a ta) (hb : DE Γ X W b tb) : DE Γ X W (.BinOp a .Add b pos) (tbin fAdd ta tb) := d_bin op_addU r2_add ha hb
theorem d_sub (ha : DE Γ X W a ta) (hb : DE Γ X W b tb) : DE Γ X W (.BinOp a .Sub b pos) (tbin fSub ta tb) := d_bin op_sub (r2_i0 fun _ _ _ => .int _) ha hb
theorem d_mod (ha : DE Γ X W a ta) (hb : DE Γ X W b tb) : DE Γ X W (.BinOp a .Mod b pos) (tbin fMod ta tb) := d_bin op_modN (r2_ii (fun _ _ z => z) fun _ _ _ => .int _) ha hb
theorem d_div (ha : DE Γ X W a ta) (hb : DE Γ X W b tb) : DE Γ X W (.BinOp a .FloorDiv b pos) (tbin fDiv ta tb) := d_bin op_fdivW (r2_ii (fun _ _ z => z) fun _ _ _ => .int _) ha hb
theorem d_pow (ha : DE Γ X W a ta) (hb : DE Γ X W b tb) : DE Γ X W (.BinOp a .Pow b pos) (tbin fPow ta tb) := d_bin op_powA (r2_ii (fun _ _ z => z) fun _ _ _ => .int _) ha hb
theorem d_gt (ha : DE Γ X W a ta) (hb : DE Γ X W b tb) : DE Γ X W (.Compare a [.Gt] [b] pos) (tbin fGt ta tb) := d_cmp op_gt (r2_i0 fun _ _ _ => .bl _) ha hb (nomark _)
theorem dt_lt (ha : DE Γ X W a ta) (hb : DE Γ X W b tb) : DT Γ X W (.Compare a [.Lt] [b] pos) (ttest (tbin fLt ta tb)) := dt_cmp op_lt (r2_i0 fun _ _ _ => .bl _) ha hb (nomark _)
theorem dt_le (ha : DE Γ X W a ta) (hb : DE Γ X W b tb) : DT Γ X W (.Compare a [.LtE] [b] pos) (ttest (tbin fLe ta tb)) := dt_cmp op_le (r2_i0 fun _ _ _ => .bl _) ha hb (nomark _)
theorem dt_gt (ha : DE Γ X W a ta) (hb : DE Γ X W b tb) : DT Γ X W (.Compare a [.Gt] [b] pos) (ttest (tbin fGt ta tb)) := dt_cmp op_gt (r2_i0 fun _ _ _ => .bl _) ha hb (nomark _)
theorem dt_ge (ha : DE Γ X W a ta) (hb : DE Γ X W b tb) : DT Γ X W (.Compare a [.GtE] [b] pos) (ttest (tbin fGe ta tb)) := dt_cmp op_ge (r2_i0 fun _ _ _ => .bl _) ha hb (nomark _)
theorem d_lele (ha : DE Γ X W a ta) (hb : DE Γ X W b tb) (hc : DE Γ X W c tc) (hm : lastMarks [.LtE, .LtE] [b, c] = false := by with_unfolding_all rfl) : DE Γ X W (.Compare a [.LtE, .LtE] [b, c] pos) (tchain fLe fLe ta tb tc) :=
  d_chain op_le (r2_i0 fun _ _ _ => .bl _) op_le (r2_i0 fun _ _ _ => .bl _) ha hb hc hm
theorem dt_lele (ha : DE Γ X W a ta) (hb : DE Γ X W b tb) (hc : DE Γ X W c tc) (hm : lastMarks [.LtE, .LtE] [b, c] = false := by with_unfolding_all rfl) : DT Γ X W (.Compare a [.LtE, .LtE] [b, c] pos) (ttest (tchain fLe fLe ta tb tc)) :=
  dt_chain op_le (r2_i0 fun _ _ _ => .bl _) op_le (r2_i0 fun _ _ _ => .bl _) ha hb hc hm
theorem tuple_mul1 (l : Addr) (items : Array Value) (n : Nat) (dd : Option Addr) (sl : Array (Option Value)) (u : Tok) :
    Meets (Builtin.«tuple.__mul__» ⟨[.ref l, .int 1 u], []⟩) (fun _ R s => s.heap.get? l = some { cls := .type "tuple", dict := dd, data := .seq items n, slots := sl } ∧ R (.ok (.ret (Value.ref l))) s) :=
  .of_wp fun prog w A R s h => by
    obtain ⟨hp, g, d, tk, os⟩ := s
    obtain ⟨hl, h⟩ := h
    have f1 := AutoSeq1.idx_int
    have c1 : (items.isEmpty || (1 : Int) == 1) = true := by simp
    wp_walk using wpAny_loadPart' hl
    repeat (first
      | (refine wpAny_ite_false (decide_eq_false (by decide)) ?_; wp_walk using wpAny_loadPart' hl)
      | (refine wpAny_ite_true (decide_eq_true c1) ?_; wp_walk using wpAny_loadPart' hl))
    exact ⟨_, rfl, h⟩
/-- t * 1 is t itself -/
noncomputable def rRep1 (K : PySem.W.Frag) : R2 := fun x y H Q => ∃ l xs, x = .ref l ∧ y = .int 1 ∧ SqT K H l xs ∧ Q (.ref l) H
theorem op_rep1 : OpR X (binaryOp .Mult) (rRep1 X.K) := by
  intro pins s σ H x y v u Q I rx ry h
  obtain ⟨l, xs, rfl, rfl, hT, q⟩ := h
  cases rx
  obtain ⟨t, rfl⟩ := ry
  obtain ⟨its, r, ⟨⟨cls, dd, data, sl⟩, ho, hc, n, hd⟩, hs⟩ := I.tuple hT
  simp only at hc hd
  subst hc hd
  exact wpAny_binaryOp_repeat_ref (T := "tuple") (U := "int") (by decide) ⟨_, ho, rfl⟩ (fun s' => typeIs_int s' 1 t) noFill_tuple_mul F.fills_int_mul F.slot_int_rmul repeat_tuple F.slot_int_index.lookup
    (call_meets F.slot_int_rmul (typeIs_int s 1 t) F.entry_int_rmul (F.args_int_rmul_2 _ _) (int_rmul_tuple 1 t l its.toArray n dd sl)
      ⟨ho, rfl, ⟨_, ho, rfl⟩, call_meets F.slot_tuple_mul ⟨_, ho, rfl⟩ F.entry_tuple_mul (F.args_tuple_mul_2 _ _) (tuple_mul1 l its.toArray n dd sl t) ⟨ho, ⟨.ref l, H, I, rfl, q⟩⟩⟩)
/-- a product: one factor small, both together of less than a million bits, or a sequence so many times -/
noncomputable def CMulA (i j : Int) : Prop := CMul i j ∨ CMulW i j
noncomputable def fMul : D → D → Wp D
  | .int i, .int j => Wp.bind (Wp.ask (CMulA i j)) fun _ => Wp.ret (.int (i * j))
  | .tup l, .int k => Wp.bind (Wp.ask (l ≠ [] ∧ 1 ≤ k ∧ k ≤ 1000 ∧ l.length ≤ 1000)) fun _ => Wp.ret (.tup (List.replicate k.toNat l).flatten)
  | .lst l, .int k => Wp.bind (Wp.ask (0 ≤ k ∧ k ≤ 1000 ∧ l.length ≤ 1000)) fun _ => Wp.ret (.lst (List.replicate k.toNat l).flatten)
  | _, _ => Wp.stuck
noncomputable def rMulU (K : PySem.W.Frag) : R2 := fun x y H Q => rI CMul (fun i j => .int (i * j)) x y H Q ∨ rI CMulW (fun i j => .int (i * j)) x y H Q ∨ rRepT K x y H Q ∨ rRep x y H Q ∨ rRep1 K x y H Q
theorem op_mulU : OpR X (binaryOp .Mult) (rMulU X.K) := opR_or op_mul (opR_or op_mulW (opR_or op_repT (opR_or op_rep op_rep1)))
theorem r2_mul {K : PySem.W.Frag} : R2D K (rMulU K) fMul := by
  intro x y a b H Hs n q e Q s hx hy h k
  cases hx with
  | int i =>
    cases hy with
    | int j =>
      rcases h.1 with z | z
      · exact .inl ⟨i, j, rfl, rfl, z, k _ H Hs _ n (.refl _ _) s (.int _) h.2⟩
      · exact .inr (.inl ⟨i, j, rfl, rfl, z, k _ H Hs _ n (.refl _ _) s (.int _) h.2⟩)
    | _ => exact (show False from h).elim
  | @tup a xs ds h1 g1 =>
    cases hy with
    | int j =>
      obtain ⟨⟨z1, z2, z3, z4⟩, h2⟩ := h
      by_cases j1 : j = 1
      · subst j1
        rw [show (List.replicate (Int.toNat 1) ds).flatten = ds by simp] at h2
        exact .inr (.inr (.inr (.inr ⟨a, xs, rfl, rfl, s.same.tup (SqT.of h1), k _ H Hs _ n (.refl _ _) s (.tup h1 g1) h2⟩)))
      refine .inr (.inr (.inl ⟨a, j, xs, rfl, rfl, s.same.tup (SqT.of h1), fun z => z1 ?_, by omega, z3, by rw [g1.length]; exact z4, fun p hp => ?_⟩))
      · subst z; cases g1; rfl
      · obtain ⟨s1, g, v⟩ := new_tup s hp (g1.rep j.toNat)
        exact k _ _ _ _ n g s1 v h2
    | _ => exact (show False from h).elim
  | @lst a xs ds h1 g1 =>
    cases hy with
    | int j =>
      obtain ⟨⟨z1, z2, z3⟩, h2⟩ := h
      refine .inr (.inr (.inr (.inl ⟨a, j, xs, rfl, rfl, s.sub _ _ h1, by omega, by omega, ?_, fun p hp => ?_⟩)))
      · rw [g1.length]
        have : ds.length * j.toNat ≤ 1000 * 1000 := Nat.mul_le_mul z3 (by omega)
        exact line_le (by omega)
      · obtain ⟨s1, g, v⟩ := new_lst s hp (g1.rep j.toNat)
        exact k _ _ _ _ n g s1 v h2
    | _ => exact (show False from h).elim
  | _ => exact (show False from h).elim
theorem d_mul (ha : DE Γ X W a ta) (hb : DE Γ X W b tb) : DE Γ X W (.BinOp a .Mult b pos) (tbin fMul ta tb) := d_bin op_mulU r2_mul ha hb
noncomputable def fNeg : D → Wp D
  | .int i => Wp.ret (.int (-i))
  | _ => Wp.stuck
theorem d_neg (ha : DE Γ X W a ta) : DE Γ X W (.UnaryOp .USub a pos) (tbind fNeg ta) := by
  obtain ⟨ea, pa, fa⟩ := ha
  refine ⟨_, pe_un un_neg pa, fun σ H Hs ρ n q x Q s r h k ke => fa σ H Hs ρ n _ x _ s r h (fun v H1 Hs1 d n1 g1 s1 hv h1 => ?_) ke⟩
  cases hv with
  | int i => exact ⟨i, rfl, k _ H1 Hs1 _ n1 g1 s1 (.int _) h1⟩
  | _ => exact (show False from h1).elim
end
end OE
namespace OE
open PySem PySem.Spec L2
variable [TN]
/-! ### items, slices, lengths, kinds -/
noncomputable def cut {α : Type} (xs : List α) (lo hi : Option Int) : List α := (xs.drop (HT.sIx xs.length 0 lo)).take (HT.sIx xs.length xs.length hi - HT.sIx xs.length 0 lo)
theorem DvAll.cut {K : PySem.W.Frag} {H : Hp} {vs : List V} {ds : List D} (g : DvAll K H vs ds) (lo hi : Option Int) : DvAll K H (cutV vs lo hi) (OE.cut ds lo hi) := by
  unfold cutV OE.cut
  rw [g.length]
  exact (g.drop _).take _
theorem ints_cut (ns : List Int) (lo hi : Option Int) : cutV (ns.map V.int) lo hi = (OE.cut ns lo hi).map V.int := by
  unfold cutV OE.cut
  rw [List.length_map, ← List.map_drop, ← List.map_take]
theorem atI_of {K : PySem.W.Frag} {H : Hp} {vs : List V} {ds : List D} (g : DvAll K H vs ds) {i : Int} {d : D} (h : atI ds i = some d) : ∃ v, atI vs i = some v ∧ Dv K H v d := by
  unfold atI at h ⊢
  rw [g.length]
  cases e : ixN ds.length i with
  | none => rw [e] at h; cases h
  | some j =>
    rw [e] at h
    exact g.get h
noncomputable def fIx : D → D → Wp D
  | .lst l, .int i => fun n q _ => ∃ d, atI l i = some d ∧ q d n
  | .tup l, .int i => fun n q _ => ∃ d, atI l i = some d ∧ q d n
  | .scr l, .int i => fun n q _ => ∃ d, atI l i = some d ∧ q (.int d) n
  | .str z, .int i => fun n q _ => z.length ≤ 1000000 ∧ ∃ c, atI z.cps.toList i = some c ∧ q (.str ⟨#[c]⟩) n
  | .mref a, .int i => fun n q _ => ∃ l d, n.mu a = some (.lst l) ∧ atI l i = some d ∧ q d n
  | _, _ => Wp.stuck
theorem r2_ix {K : PySem.W.Frag} : R2D K (rIx K) fIx := by
  intro x y a b H Hs n q e Q s hx hy h k
  cases hx with
  | mref a =>
    cases hy with
    | int i =>
      obtain ⟨l, d, hm, h2, h3⟩ := h
      obtain ⟨_, xs, hl, g1⟩ := s.muts _ _ hm
      obtain ⟨v, h4, h5⟩ := atI_of g1 h2
      exact .inl ⟨a, xs, i, v, rfl, rfl, SqL.of hl, h4, k _ H Hs _ n (.refl _ _) s h5 h3⟩
    | _ => exact (show False from h).elim
  | @lst a xs ds h1 g1 =>
    cases hy with
    | int i =>
      obtain ⟨d, h2, h3⟩ := h
      obtain ⟨v, h4, h5⟩ := atI_of g1 h2
      exact .inl ⟨a, xs, i, v, rfl, rfl, SqL.of (s.sub _ _ h1), h4, k _ H Hs _ n (.refl _ _) s h5 h3⟩
    | _ => exact (show False from h).elim
  | @scr a ns h1 =>
    cases hy with
    | int i =>
      obtain ⟨d, h2, h3⟩ := h
      have z : atI (ns.map V.int) i = some (V.int d) := by
        unfold atI at h2 ⊢
        rw [List.length_map]
        cases e : ixN ns.length i with
        | none => rw [e] at h2; cases h2
        | some j =>
          rw [e] at h2
          show (ns.map V.int)[j]? = _
          rw [List.getElem?_map]
          have h2' : ns[j]? = some d := h2
          rw [h2']; rfl
      exact .inl ⟨a, _, i, _, rfl, rfl, s.same.lst h1, z, k _ H Hs _ n (.refl _ _) s (.int d) h3⟩
    | _ => exact (show False from h).elim
  | @tup a xs ds h1 g1 =>
    cases hy with
    | int i =>
      obtain ⟨d, h2, h3⟩ := h
      obtain ⟨v, h4, h5⟩ := atI_of g1 h2
      exact .inr (.inl ⟨a, xs, i, v, rfl, rfl, s.same.tup (SqT.of h1), h4, k _ H Hs _ n (.refl _ _) s h5 h3⟩)
    | _ => exact (show False from h).elim
  | str z =>
    cases hy with
    | int i =>
      obtain ⟨h0, c, h2, h3⟩ := h
      exact .inr (.inr ⟨z, i, c, rfl, rfl, line_le h0, h2, k _ H Hs _ n (.refl _ _) s (.str _) h3⟩)
    | _ => exact (show False from h).elim
  | _ => exact (show False from h).elim
section
variable {Γ : Gam} {X : Cx} {W : WX} {a b c : Expr} {ta tb tc : Ev → Wp D} {pos : Pos}
theorem d_item (ha : DE Γ X W a ta) (hb : DE Γ X W b tb) (hs : PlainIx b := by exact fun _ _ => rfl) : DE Γ X W (.Subscript a b pos) (tbin fIx ta tb) := d_ix ix_seq r2_ix ha hb hs
/-- the ends of a slice -/
noncomputable def DO (Γ : Gam) (X : Cx) (W : WX) (e : Option Expr) (t : Ev → Wp (Option Int)) : Prop := ∃ te : TO, PO X e te ∧ ∀ (σ : St) (H Hs : Hp) (ρ : Ev) (n : S) (q : Option Int → S → Prop) (x : Exn → S → Prop) (Q : Option Int → Hp → Prop),
  Sit X.K n Hs H → R X.K ρ σ Hs → t ρ n q x → (∀ o H' Hs' n', Go Hs H Hs' H' → Sit X.K n' Hs' H' → q o n' → Q o H') → OkE X.K Γ Hs H x (fun c d h => W c d σ h) → te σ H Q
noncomputable def tpart (t : Ev → Wp D) : Ev → Wp (Option Int) := fun ρ => Wp.bind (t ρ) fun d => match d with
  | .int i => Wp.ret (some i)
  | _ => Wp.stuck
theorem do_none : DO Γ X W none (fun _ => Wp.ret none) := ⟨_, po_none, fun σ H Hs ρ n q x Q s r h k _ => k none H Hs n (.refl _ _) s h⟩
theorem do_some (ha : DE Γ X W a ta) : DO Γ X W (some a) (tpart ta) := by
  obtain ⟨ea, pa, fa⟩ := ha
  refine ⟨_, po_some pa, fun σ H Hs ρ n q x Q s r h k ke => fa σ H Hs ρ n _ x _ s r h (fun v H1 Hs1 d n1 g1 s1 hv h1 => ?_) ke⟩
  cases hv with
  | int i => exact ⟨i, rfl, k _ H1 Hs1 n1 g1 s1 h1⟩
  | _ => exact (show False from h1).elim
noncomputable def fSl : D → Option Int → Option Int → Wp D
  | .lst l, lo, hi => Wp.ret (.lst (cut l lo hi))
  | .tup l, lo, hi => Wp.ret (.tup (cut l lo hi))
  | .scr l, lo, hi => Wp.ret (.lst ((cut l lo hi).map D.int))
  | .str z, lo, hi => Wp.bind (Wp.ask (z.length ≤ 1000000)) fun _ => Wp.ret (.str (cutS z lo hi))
  | _, _, _ => Wp.stuck
noncomputable def tslice (t : Ev → Wp D) (l h : Ev → Wp (Option Int)) : Ev → Wp D := fun ρ => Wp.bind (t ρ) fun d => Wp.bind (l ρ) fun lo => Wp.bind (h ρ) fun hi => fSl d lo hi
noncomputable def rSlU (K : PySem.W.Frag) : V → Option Int → Option Int → Hp → VK → Prop := fun x lo hi H Q => rSlL K x lo hi H Q ∨ rSlA K x lo hi H Q ∨ rSlS x lo hi H Q
theorem sl_all : SlR X (rSlU X.K) := sl_list.or (sl_tupA.or sl_str)
theorem cut_whole {α : Type} (xs : List α) (lo hi : Option Int) (h : HT.sIx xs.length 0 lo = 0 ∧ HT.sIx xs.length xs.length hi = xs.length) : cut xs lo hi = xs := by
  unfold cut
  rw [h.1, h.2]
  simp
theorem d_slice {lo hi : Option Expr} {p2 : Pos} {tl th : Ev → Wp (Option Int)} (ha : DE Γ X W a ta) (hl : DO Γ X W lo tl) (hh : DO Γ X W hi th) : DE Γ X W (.Subscript a (.Slice lo hi none p2) pos) (tslice ta tl th) := by
  obtain ⟨ea, pa, fa⟩ := ha
  obtain ⟨el, pl, fl⟩ := hl
  obtain ⟨eh, ph, fh⟩ := hh
  refine ⟨_, pe_slice sl_all pa pl ph, fun σ H Hs ρ n q x Q s r h k ke => fa σ H Hs ρ n _ x _ s r h (fun v H1 Hs1 d n1 g1 s1 hv h1 => ?_) ke⟩
  refine fl σ H1 Hs1 ρ n1 _ x _ s1 (r.ext g1.ext) h1 (fun o H2 Hs2 n2 g2 s2 h2 => ?_) (ke.go g1)
  refine fh σ H2 Hs2 ρ n2 _ x _ s2 (r.ext (g1.trans g2).ext) h2 (fun o' H3 Hs3 n3 g3 s3 h3 => ?_) (ke.go (g1.trans g2))
  have hv := hv.ext (g2.trans g3).ext
  have k := k.go (g1.trans (g2.trans g3))
  cases hv with
  | @lst a xs ds e1 g =>
    refine .inl ⟨a, xs, rfl, SqL.of (s3.sub _ _ e1), fun p hp => ?_⟩
    obtain ⟨s4, g4, v4⟩ := new_lst s3 hp (g.cut o o')
    exact k _ _ _ _ n3 g4 s4 v4 h3
  | @scr a ns e1 =>
    refine .inl ⟨a, _, rfl, s3.same.lst e1, fun p hp => ?_⟩
    rw [ints_cut]
    obtain ⟨s4, g4, v4⟩ := new_lst s3 hp (DvAll.ints (K := X.K) (OE.cut ns o o'))
    exact k _ _ _ _ n3 g4 s4 v4 h3
  | @tup a xs ds e1 g =>
    refine .inr (.inl ⟨a, xs, rfl, s3.same.tup (SqT.of e1), fun z => ?_, fun z p hp => ?_⟩)
    · rw [g.length] at z
      have h3' : q (.tup (OE.cut ds o o')) n3 := h3
      rw [cut_whole ds o o' z] at h3'
      exact k _ H3 Hs3 _ n3 (.refl _ _) s3 (.tup e1 g) h3'
    · obtain ⟨s4, g4, v4⟩ := new_tup s3 hp (g.cut o o')
      exact k _ _ _ _ n3 g4 s4 v4 h3
  | str z => exact .inr (.inr ⟨z, rfl, line_le h3.1, k _ H3 Hs3 _ n3 (.refl _ _) s3 (.str _) h3.2⟩)
  | _ => exact (show False from h3).elim
noncomputable def fLen : List D → Wp D
  | [.lst l] => Wp.ret (.int l.length)
  | [.tup l] => Wp.ret (.int l.length)
  | [.scr l] => Wp.ret (.int l.length)
  | [.str z] => Wp.bind (Wp.ask (z.length ≤ 1000000)) fun _ => Wp.ret (.int z.length)
  | [.mref a] => fun n q _ => ∃ l, n.mu a = some (.lst l) ∧ q (.int l.length) n
  | _ => Wp.stuck
theorem cd_len {K : PySem.W.Frag} : CD K (fun xs H Q => ∃ x n, xs = [x] ∧ LenV K x H n ∧ Q (.int n) H) fLen := by
  intro xs ds H Hs n q e Q s hx h k
  cases hx with
  | nil => exact (show False from h).elim
  | @cons v vs d ds hv g =>
    cases g with
    | cons _ _ => cases d <;> exact (show False from h).elim
    | nil =>
      cases hv with
      | mref a =>
        obtain ⟨l, hm, h⟩ := h
        obtain ⟨_, xs, hl, g1⟩ := s.muts _ _ hm
        exact ⟨_, xs.length, rfl, .inl ⟨xs, SqL.of hl, rfl⟩, by rw [g1.length]; exact k _ H Hs _ n (.refl _ _) s (.int _) h⟩
      | @lst a xs ds h1 g1 => exact ⟨_, xs.length, rfl, .inl ⟨xs, SqL.of (s.sub _ _ h1), rfl⟩, by rw [g1.length]; exact k _ H Hs _ n (.refl _ _) s (.int _) h⟩
      | @scr a ns h1 => exact ⟨_, ns.length, rfl, .inl ⟨_, s.same.lst h1, by rw [List.length_map]⟩, k _ H Hs _ n (.refl _ _) s (.int _) h⟩
      | @tup a xs ds h1 g1 => exact ⟨_, xs.length, rfl, .inr ⟨xs, s.same.tup (SqT.of h1), rfl⟩, by rw [g1.length]; exact k _ H Hs _ n (.refl _ _) s (.int _) h⟩
      | str z => exact ⟨_, z.length, rfl, ⟨line_le h.1, rfl⟩, k _ H Hs _ n (.refl _ _) s (.int _) h.2⟩
      | _ => exact (show False from h).elim
theorem d_len {p : Pos} {t : Ev → Wp (List D)} (hm : X.mg "len" = none) (ha : DA Γ X W [a] t) (hg : Gl X "len" := by rfl) (he : starEach [a] X.env = (false, eval a X.env) :: starEach [] X.env := by rfl) (hpl : (backTo pos (starEach [] X.env)).any (·.1) = false := by rfl) :
    DE Γ X W (.Call (.Name "len" p) [a] [] pos) (tcall fLen t) := d_callB call_len cd_len hg hm PySem.boot_len ha (by decide) (by decide) he hpl
noncomputable def fInt : List D → Wp D
  | [.int i] => Wp.ret (.int i)
  | [.bl b] => Wp.ret (.int (if b then 1 else 0))
  | _ => Wp.stuck
theorem cd_int {K : PySem.W.Frag} : CD K (fun xs H Q => (∃ i, xs = [.int i] ∧ Q (.int i) H) ∨ ∃ k, xs = [.bl k] ∧ Q (.int (if k then 1 else 0)) H) fInt := by
  intro xs ds H Hs n q e Q s hx h k
  cases hx with
  | nil => exact (show False from h).elim
  | @cons v vs d ds hv g =>
    cases g with
    | cons _ _ => cases d <;> exact (show False from h).elim
    | nil =>
      cases hv with
      | int i => exact .inl ⟨i, rfl, k _ H Hs _ n (.refl _ _) s (.int _) h⟩
      | bl i => exact .inr ⟨i, rfl, k _ H Hs _ n (.refl _ _) s (.int _) h⟩
      | _ => exact (show False from h).elim
theorem d_toInt {p : Pos} {t : Ev → Wp (List D)} (hm : X.mg "int" = none) (ha : DA Γ X W [a] t) (hg : Gl X "int" := by rfl) (he : starEach [a] X.env = (false, eval a X.env) :: starEach [] X.env := by rfl) (hpl : (backTo pos (starEach [] X.env)).any (·.1) = false := by rfl) :
    DE Γ X W (.Call (.Name "int" p) [a] [] pos) (tcall fInt t) := d_callTy call_int1 cd_int hg hm PyProof.Rows.boot_int ha (by decide) (by decide) he hpl
noncomputable def fMin : List D → Wp D
  | [.int i, .int j] => Wp.ret (.int (if j < i then j else i))
  | _ => Wp.stuck
noncomputable def fMax : List D → Wp D
  | [.int i, .int j] => Wp.ret (.int (if j > i then j else i))
  | _ => Wp.stuck
theorem cd_min {K : PySem.W.Frag} : CD K (fun xs H Q => ∃ i j, xs = [.int i, .int j] ∧ Q (.int (if j < i then j else i)) H) fMin := by
  intro xs ds H Hs n q e Q s hx h k
  rcases hx with _ | ⟨hv, _ | ⟨hw, _ | ⟨_, _⟩⟩⟩
  · exact (show False from h).elim
  · cases hv <;> exact (show False from h).elim
  · cases hv <;> cases hw <;> first | exact (show False from h).elim | exact ⟨_, _, rfl, k _ H Hs _ n (.refl _ _) s (.int _) h⟩
  · cases hv <;> cases hw <;> exact (show False from h).elim
theorem d_min {p : Pos} {t : Ev → Wp (List D)} (hm : X.mg "min" = none) (ha : DA Γ X W [a, b] t) (hc : X.calm = true := by rfl) (hg : Gl X "min" := by rfl) (he : starEach [a, b] X.env = (false, eval a X.env) :: starEach [b] X.env := by rfl) (hpl : (backTo pos (starEach [b] X.env)).any (·.1) = false := by rfl) :
    DE Γ X W (.Call (.Name "min" p) [a, b] [] pos) (tcall fMin t) := d_callB (call_min2 hc) cd_min hg hm (by decide +kernel) ha (by decide) (by decide) he hpl
noncomputable def fTuple : List D → Wp D
  | [.lst l] => Wp.ret (.tup l)
  | [.tup l] => Wp.ret (.tup l)
  | [.scr l] => Wp.ret (.tup (l.map D.int))
  | _ => Wp.stuck
theorem cd_tuple {K : PySem.W.Frag} : CD K (fun xs H Q => ∃ p ys, xs = [.ref p] ∧ ((SqL K H p ys ∧ ∀ l, H l = none → Q (.ref l) (upd H l (.tup ys))) ∨ (SqT K H p ys ∧ Q (.ref p) H))) fTuple := by
  intro xs ds H Hs n q e Q s hx h k
  cases hx with
  | nil => exact (show False from h).elim
  | @cons v vs d ds hv g =>
    cases g with
    | cons _ _ => cases d <;> exact (show False from h).elim
    | nil =>
      cases hv with
      | @lst a xs ds h1 g1 =>
        refine ⟨a, xs, rfl, .inl ⟨SqL.of (s.sub _ _ h1), fun p hp => ?_⟩⟩
        obtain ⟨s4, g4, v4⟩ := new_tup s hp g1
        exact k _ _ _ _ n g4 s4 v4 h
      | @scr a ns h1 =>
        refine ⟨a, _, rfl, .inl ⟨s.same.lst h1, fun p hp => ?_⟩⟩
        obtain ⟨s4, g4, v4⟩ := new_tup s hp (DvAll.ints (K := K) ns)
        exact k _ _ _ _ n g4 s4 v4 h
      | @tup a xs ds h1 g1 => exact ⟨a, xs, rfl, .inr ⟨s.same.tup (SqT.of h1), k _ H Hs _ n (.refl _ _) s (.tup h1 g1) h⟩⟩
      | _ => exact (show False from h).elim
theorem d_tuple {p : Pos} {t : Ev → Wp (List D)} (hm : X.mg "tuple" = none) (ha : DA Γ X W [a] t) (hg : Gl X "tuple" := by rfl) (he : starEach [a] X.env = (false, eval a X.env) :: starEach [] X.env := by rfl) (hpl : (backTo pos (starEach [] X.env)).any (·.1) = false := by rfl) :
    DE Γ X W (.Call (.Name "tuple" p) [a] [] pos) (tcall fTuple t) := d_callTy call_tuple_of cd_tuple hg hm PyProof.Rows.boot_tuple ha (by decide) (by decide) he hpl
noncomputable def fList : List D → Wp D
  | [.lst l] => Wp.ret (.lst l)
  | [.tup l] => Wp.ret (.lst l)
  | [.scr l] => Wp.ret (.lst (l.map D.int))
  | _ => Wp.stuck
/-! ### isinstance with a built-in class -/
noncomputable def tyName : D → String
  | .non => "NoneType"
  | .bl _ => "bool"
  | .int _ => "int"
  | .str _ => "str"
  | .lst _ => "list"
  | .scr _ => "list"
  | .tup _ => "tuple"
  | .dic _ => "dict"
  | .dit _ => "dict"
  | .m => "dict"
  | .exn _ _ _ => "dict"
  | .clo _ _ => "dict"
  | .mref _ => "dict"
  | .obj _ _ => "dict"
noncomputable def D.isE : D → Bool
  | .exn _ _ _ => true
  | .clo _ _ => true
  | .mref _ => true
  | .obj _ _ => true
  | .dit _ => true
  | _ => false
theorem ty_of {K : PySem.W.Frag} {n : S} {Hs H : Hp} (s : Sit K n Hs H) {x : V} {d : D} (h : Dv K Hs x d) (he : d.isE = false) : TyX K H x (.type (tyName d)) := by
  cases h with
  | exn1 _ _ _ => cases he
  | exn0 _ => cases he
  | clo _ => cases he
  | mref _ => cases he
  | obj _ _ _ => cases he
  | dit _ _ => cases he
  | non => exact .base .non
  | bl b => exact .base (.bl b)
  | int i => exact .base (.int i)
  | str y => exact .base (.str y)
  | lst h g => exact .base (.lst (s.sub _ _ h))
  | scr h =>
    rcases h with (h | ⟨o, h⟩) | ⟨o, _, _, h, hc, _⟩
    · exact .base (.lst (s.sub _ _ h))
    · exact .base (.frz (s.sub _ _ h))
    · exact .kList h hc
  | tup h g => exact .base (.tup (s.sub _ _ h))
  | dic h z g => exact .base (.dK (s.sub _ _ h))
  | @m a o h z =>
    cases o with
    | dK kvs => exact .base (.dK (s.sub _ _ h))
    | _ => cases z
/-- isinstance(d, T): T a built-in class -/
noncomputable def isiN (T t : String) : Bool := t == T || (T == "int" && t == "bool")
noncomputable def isiB (T : String) (d : D) : Bool := isiN T (tyName d)
noncomputable def isiT (T : String) : Prop := T = "int" ∨ T = "bool" ∨ T = "str" ∨ T = "list" ∨ T = "tuple" ∨ T = "dict"
theorem tyName_one (d : D) : tyName d = "NoneType" ∨ tyName d = "bool" ∨ tyName d = "int" ∨ tyName d = "str" ∨ tyName d = "list" ∨ tyName d = "tuple" ∨ tyName d = "dict" := by
  cases d <;> simp [tyName]
theorem kit_of_ty {T : String} (h : isiT T) (d : D) : kitB (tyName d) T = some (isiB T d) := by
  unfold isiB
  rcases h with h | h | h | h | h | h <;> subst h <;> rcases tyName_one d with e | e | e | e | e | e | e <;> rw [e] <;> decide +kernel
noncomputable def tisi (T : String) (t : Ev → Wp D) : Ev → Wp D := fun ρ => Wp.bind (t ρ) fun d => Wp.bind (Wp.ask (d.isE = false)) fun _ => Wp.ret (.bl (isiB T d))
theorem d_isi {y : Str} {T : String} {p p2 : Pos} (hT : isiT T) (hm : X.mg "isinstance" = none) (hmT : X.mg y = none) (hv : bootBuiltins y = some (.type T)) (ha : DE Γ X W a ta) (hg : Gl X "isinstance" := by rfl) (hgT : Gl X y := by rfl)
    (hn : y ≠ "__name__" := by decide) (hd : (y == ("__debug__" : Str)) = false := by decide) (he : starEach [a, .Name y p2] X.env = (false, eval a X.env) :: starEach [.Name y p2] X.env := by rfl) (he2 : starEach [.Name y p2] X.env = (false, eval (.Name y p2) X.env) :: starEach [] X.env := by rfl)
    (hpl : (backTo pos (starEach [.Name y p2] X.env)).any (·.1) = false := by rfl) : DE Γ X W (.Call (.Name "isinstance" p) [a, .Name y p2] [] pos) (tisi T ta) := by
  obtain ⟨ea, pa, fa⟩ := ha
  have pT : PE X (.Name y p2) (tC (.ty T)) := pe_bltn hgT hmT hv rfl hn hd
  refine ⟨_, pe_callB call_isi hg hm PyProof.Rows.boot_isinstance (pa_cons pa (pa_cons pT pa_nil he2) he) (by decide) (by decide) he hpl, fun σ H Hs ρ n q x Q s r h k ke => fa σ H Hs ρ n _ x _ s r h (fun v H1 Hs1 d n1 g1 s1 hv h1 => ?_) ke⟩
  exact ⟨v, .ty T, _, _, _, rfl, .ty T, ty_of s1 hv h1.1, kit_ty (kit_of_ty hT d), k _ H1 Hs1 _ n1 g1 s1 (.bl _) h1.2⟩
end
end OE
namespace OE
open PySem PySem.Spec L2
variable [TN]
/-! ### defs -/
/-- a def keeps its promise where no repr is under way -/
structure FnG (P : Program) (w : World) (K : PySem.W.Frag) (mg : Str → Option Value) (base : Heap) (k : Nat) (f : Addr) (fd : FuncData) (ps : List Str) (sp : Sp) : Prop where
  len : ∀ vs H Q E, sp vs H Q E → vs.length = ps.length
  run : ∀ (A : Around) (outer : List Env) (s : Shared) (H : Hp) (args : Args) (us : List Value) (vs : List V) (Q : VK) (E : XK), Room k A → A.guards = some [] → Env0 P w K mg base A outer s H → BindsTo s fd args (ps.zip us) → Vals vs us →
    sp vs H Q E → codeAny (model P w) A (.call (.ref f) args) (CR (L2.CX P w) outer P w H s Q E) s
/-- what a def does, over data -/
noncomputable def spW (K : PySem.W.Frag) (Γ : Gam) (k : Nat) (F : List D → Wp D) : Sp := fun vs H Q E =>
  ∃ (n : S) (Hs : Hp) (ds : List D) (q : D → S → Prop) (x : Exn → S → Prop), ds.length = k ∧ Sit K n Hs H ∧ DvAll K Hs vs ds ∧ F ds n q x ∧ OkQ K Hs H q Q ∧ OkE K Γ Hs H x E
/-- a def of the module, by name -/
noncomputable def Fn (Γ : Gam) (P : Program) (w : World) (K : PySem.W.Frag) (mg : Str → Option Value) (base : Heap) (x : Str) (k : Nat) (a : Nat) (F : List D → Wp D) : Prop :=
  ∃ (f : Addr) (fd : FuncData) (ps : List Str), ps.length = a ∧ FnG P w K mg base k f fd ps (spW K Γ a F) ∧ mg x = some (.ref f) ∧ PySem.W.keepIn K (.ref f) = true ∧ Binds K fd ps []
section
variable {P : Program} {w : World} {K : PySem.W.Frag} {mg : Str → Option Value} {base : Heap}
theorem fnG_of {k : Nat} {f : Addr} {x qual : Str} {st : Stmt} {fd : FuncData} {N ps : List Str} {sp : Sp} (F : Fun K x qual st f fd) (S : FnScope N ps (defScope st)) (len : ∀ vs H Q E, sp vs H Q E → vs.length = ps.length)
    (hbody : ∀ (cdv : Value), fd.code = cdv → ∀ (A : Around) (outer : List Env) (s : Shared) (H : Hp) (vs : List V) (Q : VK) (E : XK), Room k (A.deeper (PyProof.Rows.envOfC qual (defScope st) s.heap.objs.size f cdv)) → A.guards = some [] → sp vs H Q E →
      ∃ t, PSs (cxOf (L2.CX P w) P w K mg base N qual (defScope st) f cdv A outer s H E) (defBody st) t ∧ t { nx := fun _ H' => Q .non H', rt := Q } (start N vs) H) :
    FnG P w K mg base (k + 1) f fd ps sp := by
  obtain ⟨oc, od, kV, doc, pm, an, cdv, ct, osl, rfl, lk, hcd⟩ := F.ex
  refine ⟨len, fun A outer s H args us vs Q E hr hg e0 hb r hsp => ?_⟩
  have nl : s.heap.NoLimit := e0.mod.nolimit.keeps fun b o e => (e0.bs b o e).1
  have kin : K.In s.heap := e0.mod.kin.keeps fun b o e => (e0.bs b o e).1
  refine codeAny_call_function hr.depth (kin _ _ lk) rfl S.co S.gen rfl (PySem.W.codeRec_of kin hcd) (hb _ _ _ _ ?_)
  refine wpAny_newFunctionEnv_cells S.kind (fun y hy => ?_) fun env he s1 z => ?_
  · obtain ⟨n, v⟩ := y
    rcases S.par n (List.of_mem_zip hy).1 with q | q
    · exact Or.inl q
    · exact Or.inr ⟨q, PySem.W.cellsFrom_some _ _ _ (Or.inl q)⟩
  · subst he
    obtain ⟨t, ht, hq⟩ := hbody cdv rfl A outer s H vs Q E (hr.deeper _) hg hsp
    refine ⟨nl.keeps z.toInCall.keep, codeAny_func (wpAny_mono (ht.run [] s1 _ H _ (inv_start S hr.hd e0 (len _ _ _ _ hsp) r z) hq) (fun fl s' hs => ?_) fun _ _ hs => hs)⟩
    cases fl with
    | ret u =>
      obtain ⟨v, _, H', J, rv, q⟩ := hs
      exact ⟨v, H', J.os, J.bare, J.base, J.hok, rv, q⟩
    | next =>
      obtain ⟨_, H', J, q⟩ := hs
      exact ⟨V.non, H', J.os, J.bare, J.base, J.hok, rfl, q⟩
    | brk => exact (hs.elim fun _ h => h.elim fun _ h => h.2.elim)
    | cont => exact (hs.elim fun _ h => h.elim fun _ h => h.2.elim)
end
section
variable {Γ : Gam} {X : Cx} {W : WX} {a b c : Expr} {ta tb tc : Ev → Wp D} {pos : Pos}
theorem run_g {k : Nat} {f : Addr} {fd : FuncData} {ps : List Str} {sp : Sp} {pins : List (Addr × Obj)} {σ : St} {H : Hp} {s : Shared} {Q : VK} {us : List Value} {vs : List V} {E : XK} (F : FnG X.prog X.w X.K X.mg X.base k f fd ps sp) (hr : Room k X.A) (hg : X.A.guards = some []) (hb : Binds X.K fd ps [])
    (hx : PassesAt (L2.CX X.prog X.w) X σ E) (I : Inv X pins σ H s) (r : Vals vs us) (h : sp vs H Q E) : wpAny (model X.prog X.w) X.A (call (.ref f) us) (EP X pins σ Q) X.xe s := by
  have hl : (us ++ []).length = ps.length := by rw [List.append_nil, ← r.length]; exact F.len _ _ _ _ h
  have hbb := hb s us I.kIn hl
  rw [List.append_nil] at hbb
  refine wpAny_call (codeAny_mono (F.run X.A X.stack s H ⟨us, []⟩ us vs Q E hr hg I.env0 hbb r h) fun y s' hy => ?_)
  rcases y with e | (_ | u | _ | _)
  · exact hx pins H s e s' I hy
  all_goals first | exact I.after hy | exact False.elim hy
/-- a call of a def -/
noncomputable def tfn (m : Nat) (F : List D → Wp D) (t : Ev → Wp (List D)) : Ev → Wp D := fun ρ => Wp.bind (t ρ) fun ds => Wp.bind (Wp.ask (ds.length = m)) fun _ => F ds
theorem d_call {x : Str} {k m : Nat} {F : List D → Wp D} {p : Pos} {es : List Expr} {t : Ev → Wp (List D)} (G : Fn Γ X.prog X.w X.K X.mg X.base x k m F) (hr : Room k X.A) (hgd : X.A.guards = some []) (tk : Takes X W) (ha : DA Γ X W (a :: es) t) (hlen : (a :: es).length = m := by rfl)
    (hg : Gl X x := by rfl) (hdb : (x == ("__debug__" : Str)) = false := by decide) (he : starEach (a :: es) X.env = (false, eval a X.env) :: starEach es X.env := by rfl) (hpl : (backTo pos (starEach es X.env)).any (·.1) = false := by rfl) :
    DE Γ X W (.Call (.Name x p) (a :: es) [] pos) (tfn m F t) := by
  obtain ⟨f, fd, ps, hps, G, hm, hk, hb⟩ := G
  obtain ⟨ea, pa, fa⟩ := ha
  refine ⟨fun σ H Q => ea σ H fun vs H1 => spW X.K Γ m F vs H1 Q (WE W σ), ⟨fun pins s σ H Q I h => ?_⟩, fun σ H Hs ρ n q x Q s rr h k ke => fa σ H Hs ρ n _ x _ s rr h (fun vs H1 Hs1 ds n1 g1 s1 hv h1 => ?_) ke⟩
  · refine wpAny_Call_Name_kw (ld_glob I hg hm ?_ hdb)
    refine PySem.W.callWith_K (h₀ := X.base) I.ok.mod.kin hk (thn (pa.run pos pins s σ H _ I h) fun us s1 hh => ?_) he hpl
    obtain ⟨vs, H1, I1, r, q⟩ := hh
    exact ⟨I1.kIn, run_g G hr hgd hb (passAt tk σ) I1 r q⟩
  · exact ⟨n1, Hs1, ds, q, x, h1.1, s1, hv, h1.2, k.go g1, ke.go g1⟩
end
/-! ### statements -/
inductive Out where
  | nx (ρ : Ev)
  | rt (d : D)
  | bk (ρ : Ev)
  | ct (ρ : Ev)
noncomputable def OutOk (K : PySem.W.Frag) (Hs H : Hp) (E : Ends) : Out → Prop
  | .nx ρ => ∀ σ, R K ρ σ Hs → E.nx σ H
  | .rt d => ∀ v, Dv K Hs v d → E.rt v H
  | .bk ρ => ∀ σ, R K ρ σ Hs → E.bk σ H
  | .ct ρ => ∀ σ, R K ρ σ Hs → E.ct σ H
noncomputable def OkO (K : PySem.W.Frag) (Hs H : Hp) (q : Out → S → Prop) (E : Ends) : Prop := ∀ o n' H' Hs', Go Hs H Hs' H' → Sit K n' Hs' H' → q o n' → OutOk K Hs' H' E o
noncomputable def OkX (K : PySem.W.Frag) (Γ : Gam) (Hs H : Hp) (e : Exn → S → Prop) (W : WX) : Prop := ∀ σ, OkE K Γ Hs H e (fun c d h => W c d σ h)
theorem OkO.go {K : PySem.W.Frag} {Hs H Hs1 H1 : Hp} {q : Out → S → Prop} {E : Ends} (h : OkO K Hs H q E) (g : Go Hs H Hs1 H1) : OkO K Hs1 H1 q E := fun o n' H' Hs' g' => h o n' H' Hs' (g.trans g')
theorem OkX.go {K : PySem.W.Frag} {Γ : Gam} {Hs H Hs1 H1 : Hp} {e : Exn → S → Prop} {W : WX} (h : OkX K Γ Hs H e W) (g : Go Hs H Hs1 H1) : OkX K Γ Hs1 H1 e W := fun σ => (h σ).go g
section
variable (Γ : Gam) (X : Cx) (W : WX)
noncomputable def DS (st : Stmt) (t : Ev → Wp Out) : Prop := ∃ ts : TS, PS X st ts ∧ ∀ (σ : St) (H Hs : Hp) (ρ : Ev) (n : S) (q : Out → S → Prop) (x : Exn → S → Prop) (E : Ends),
  Sit X.K n Hs H → R X.K ρ σ Hs → t ρ n q x → OkO X.K Hs H q E → OkX X.K Γ Hs H x W → ts E σ H
noncomputable def DB (st : List Stmt) (t : Ev → Wp Out) : Prop := ∃ ts : TS, PSs X st ts ∧ ∀ (σ : St) (H Hs : Hp) (ρ : Ev) (n : S) (q : Out → S → Prop) (x : Exn → S → Prop) (E : Ends),
  Sit X.K n Hs H → R X.K ρ σ Hs → t ρ n q x → OkO X.K Hs H q E → OkX X.K Γ Hs H x W → ts E σ H
end
section
variable {Γ : Gam} {X : Cx} {W : WX} {a b c : Expr} {ta tb tc : Ev → Wp D} {pos : Pos} {st : Stmt} {rest : List Stmt} {t u : Ev → Wp Out}
noncomputable def tnext : Ev → Wp Out := fun ρ => Wp.ret (.nx ρ)
noncomputable def tthen (t u : Ev → Wp Out) : Ev → Wp Out := fun ρ => Wp.bind (t ρ) fun o => match o with
  | .nx ρ' => u ρ'
  | .rt d => Wp.ret (.rt d)
  | .bk ρ' => Wp.ret (.bk ρ')
  | .ct ρ' => Wp.ret (.ct ρ')
theorem db_nil : DB Γ X W [] tnext := ⟨_, pss_nil, fun σ H Hs ρ n q x E s r h k _ => k _ n H Hs (.refl _ _) s h σ r⟩
theorem db_one (h : DS Γ X W st t) : DB Γ X W [st] t := let ⟨ts, p, f⟩ := h; ⟨ts, pss_one p, f⟩
theorem db_cons (h : DS Γ X W st t) (g : DB Γ X W rest u) : DB Γ X W (st :: rest) (tthen t u) := by
  obtain ⟨ts, p, f⟩ := h
  obtain ⟨us, p2, f2⟩ := g
  refine ⟨_, pss_cons p p2, fun σ H Hs ρ n q x E s r h k ke => f σ H Hs ρ n _ x _ s r h (fun o n1 H1 Hs1 g1 s1 h1 => ?_) ke⟩
  cases o with
  | nx ρ1 => exact fun σ1 r1 => f2 σ1 H1 Hs1 ρ1 n1 q x E s1 r1 h1 (k.go g1) (ke.go g1)
  | rt d => exact k _ n1 H1 Hs1 g1 s1 h1
  | bk ρ1 => exact k _ n1 H1 Hs1 g1 s1 h1
  | ct ρ1 => exact k _ n1 H1 Hs1 g1 s1 h1
noncomputable def tret (t : Ev → Wp D) : Ev → Wp Out := fun ρ => Wp.bind (t ρ) fun d => Wp.ret (.rt d)
theorem ds_ret (ha : DE Γ X W a ta) : DS Γ X W (.Return (some a) pos) (tret ta) := by
  obtain ⟨ea, pa, fa⟩ := ha
  exact ⟨_, ps_ret pa, fun σ H Hs ρ n q x E s r h k ke => fa σ H Hs ρ n _ x _ s r h (fun v H1 Hs1 d n1 g1 s1 hv h1 => k (.rt d) n1 H1 Hs1 g1 s1 h1 v hv) (ke σ)⟩
noncomputable def tdrop (t : Ev → Wp D) : Ev → Wp Out := fun ρ => Wp.bind (t ρ) fun _ => Wp.ret (.nx ρ)
theorem ds_expr (ha : DE Γ X W a ta) (hs : swapsWith a none pos.line X.env = pure false := by rfl) : DS Γ X W (.Expr a pos) (tdrop ta) := by
  obtain ⟨ea, pa, fa⟩ := ha
  exact ⟨_, ps_expr pa hs, fun σ H Hs ρ n q x E s r h k ke => fa σ H Hs ρ n _ x _ s r h (fun v H1 Hs1 d n1 g1 s1 hv h1 => k (.nx ρ) n1 H1 Hs1 g1 s1 h1 σ (r.ext g1.ext)) (ke σ)⟩
noncomputable def tset (i : Nat) (t : Ev → Wp D) : Ev → Wp Out := fun ρ => Wp.bind (t ρ) fun d => Wp.ret (.nx (ρ.set i (some d)))
theorem ds_set (i : Nat) {y : Str} {py : Pos} (hN : X.N.Nodup) (ha : DE Γ X W a ta) (hi : X.N[i]? = some y := by rfl) (hx : Loc X.env.scope y := by first | exact Or.inl rfl | exact Or.inr rfl) (hs : swapsWith a (some (.Name y py)) pos.line X.env = pure false := by rfl)
    (hf : X.fn y = true ∨ X.env.scope.names.lookup y = some .local := by first | exact .inl rfl | exact .inr rfl) : DS Γ X W (.Assign [.Name y py] a pos) (tset i ta) := by
  obtain ⟨ea, pa, fa⟩ := ha
  exact ⟨_, ps_set hN hi hx pa hs hf, fun σ H Hs ρ n q x E s r h k ke => fa σ H Hs ρ n _ x _ s r h (fun v H1 Hs1 d n1 g1 s1 hv h1 => k (.nx (ρ.set i (some d))) n1 H1 Hs1 g1 s1 h1 _ ((r.ext g1.ext).set i hv)) (ke σ)⟩
noncomputable def tite (c : Ev → Wp Bool) (t u : Ev → Wp Out) : Ev → Wp Out := fun ρ => Wp.bind (c ρ) fun z => if z = true then t ρ else u ρ
theorem ds_if {uc : Ev → Wp Bool} {sa sb : List Stmt} (hc : DT Γ X W c uc) (ha : DB Γ X W sa t) (hb : DB Γ X W sb u) : DS Γ X W (.If c sa sb pos) (tite uc t u) := by
  obtain ⟨ec, pc, fc⟩ := hc
  obtain ⟨ea, pa, fa⟩ := ha
  obtain ⟨eb, pb, fb⟩ := hb
  refine ⟨_, ps_if pc pa pb, fun σ H Hs ρ n q x E s r h k ke => fc σ H Hs ρ n _ x _ s r h (fun z H1 Hs1 n1 g1 s1 h1 => ?_) (ke σ)⟩
  cases z with
  | true => exact fa σ H1 Hs1 ρ n1 q x E s1 (r.ext g1.ext) h1 (k.go g1) (ke.go g1)
  | false => exact fb σ H1 Hs1 ρ n1 q x E s1 (r.ext g1.ext) h1 (k.go g1) (ke.go g1)
/-- a, b = x, y -/
noncomputable def tpar (i j : Nat) (t : Ev → Wp (List D)) : Ev → Wp Out := fun ρ => Wp.bind (t ρ) fun ds => match ds with
  | [d, e] => Wp.ret (.nx ((ρ.set i (some d)).set j (some e)))
  | _ => Wp.stuck
theorem ds_par (i j : Nat) {x y : Str} {tt : Ev → Wp (List D)} {px py pt : Pos} {kt k2 : Nat} {pt2 : Pos} (hN : X.N.Nodup) (ha : DA Γ X W [a, b] tt) (hij : i ≠ j := by decide) (hc : X.calm = true := by rfl) (hi : X.N[i]? = some x := by rfl) (hj : X.N[j]? = some y := by rfl)
    (hx : X.env.scope.names.lookup x = some .local := by rfl) (hy : X.env.scope.names.lookup y = some .local := by rfl)
    (hw : swappedStores [.Tuple [.Name x px, .Name y py] kt pt] (.Tuple [a, b] k2 pt2) X.env = pure (some [x, y]) := by rfl)
    (hs : swapsWithSole [.Tuple [.Name x px, .Name y py] kt pt] (.Tuple [a, b] k2 pt2) pos.line X.env = pure false := by rfl) :
    DS Γ X W (.Assign [.Tuple [.Name x px, .Name y py] kt pt] (.Tuple [a, b] k2 pt2) pos) (tpar i j tt) := by
  obtain ⟨ea, pa, fa⟩ := ha
  refine ⟨_, ps_par hc hN hi hj hij hx hy pa hw hs, fun σ H Hs ρ n q x E s r h k ke => fa σ H Hs ρ n _ x _ s r h (fun vs H1 Hs1 ds n1 g1 s1 hv h1 => ?_) (ke σ)⟩
  rcases hv with _ | ⟨hv, _ | ⟨hw, _ | ⟨_, _⟩⟩⟩
  · exact (show False from h1).elim
  · exact (show False from h1).elim
  · exact ⟨_, _, rfl, k (.nx _) n1 H1 Hs1 g1 s1 h1 _ (((r.ext g1.ext).set i hv).set j hw)⟩
  · exact (show False from h1).elim
/-- targets: a name, a tuple of names -/
noncomputable def Sets (is : List Nat) (σ σ' : St) : Prop := ∀ vs : List Nat, (∀ i ∈ is, i ∈ vs) → wipe σ' vs = wipe σ vs
noncomputable def DG (X : Cx) (tg : Expr) (is : List Nat) (g : D → Ev → Wp Ev) : Prop := ∃ tv : TG, PG X tg tv ∧ ∀ (v : V) (d : D) (σ : St) (H Hs : Hp) (ρ : Ev) (n : S) (q : Ev → S → Prop) (x : Exn → S → Prop) (Q : St → Hp → Prop),
  Sit X.K n Hs H → R X.K ρ σ Hs → Dv X.K Hs v d → g d ρ n q x → (∀ ρ' σ', R X.K ρ' σ' Hs → Sets is σ σ' → q ρ' n → Q σ' H) → tv v σ H Q
noncomputable def DGs (X : Cx) (tg : List Expr) (is : List Nat) (g : List D → Ev → Wp Ev) : Prop := ∃ tv : TGs, PGs X tg tv ∧ ∀ (v : List V) (d : List D) (σ : St) (H Hs : Hp) (ρ : Ev) (n : S) (q : Ev → S → Prop) (x : Exn → S → Prop) (Q : St → Hp → Prop),
  Sit X.K n Hs H → R X.K ρ σ Hs → DvAll X.K Hs v d → g d ρ n q x → (∀ ρ' σ', R X.K ρ' σ' Hs → Sets is σ σ' → q ρ' n → Q σ' H) → tv v σ H Q
theorem wipe_set {σ : St} {i : Nat} {o : Option V} : ∀ {vs : List Nat}, i ∈ vs → wipe (σ.set i o) vs = wipe σ vs
  | [], h => nomatch h
  | v :: vs, h => by
    by_cases hv : i ∈ vs
    · show List.set (wipe (σ.set i o) vs) v none = List.set (wipe σ vs) v none
      rw [wipe_set hv]
    · have e : i = v := by
        rcases List.mem_cons.mp h with h | h
        · exact h
        · exact absurd h hv
      subst e
      show List.set (wipe (σ.set i o) vs) i none = List.set (wipe σ vs) i none
      refine List.ext_getElem? fun j => ?_
      by_cases hj : i = j
      · subst hj
        by_cases hlt : i < σ.length
        · rw [List.getElem?_set_self (by rw [wipe_length]; simpa using hlt), List.getElem?_set_self (by rw [wipe_length]; exact hlt)]
        · rw [List.getElem?_eq_none (by rw [List.length_set, wipe_length, List.length_set]; omega), List.getElem?_eq_none (by rw [List.length_set, wipe_length]; omega)]
      · rw [List.getElem?_set_ne hj, List.getElem?_set_ne hj]
        by_cases hjv : j ∈ vs
        · have none_at : ∀ (τ : St) {vs : List Nat}, j ∈ vs → (wipe τ vs)[j]? = (if j < τ.length then some none else none) := by
            intro τ vs
            induction vs with
            | nil => intro h; exact nomatch h
            | cons u us ih =>
              intro h
              show (List.set (wipe τ us) u none)[j]? = _
              by_cases hu : u = j
              · subst hu
                by_cases hl : u < τ.length
                · rw [List.getElem?_set_self (by rw [wipe_length]; exact hl), if_pos hl]
                · rw [List.getElem?_eq_none (by rw [List.length_set, wipe_length]; omega), if_neg hl]
              · rw [List.getElem?_set_ne hu]
                rcases List.mem_cons.mp h with h | h
                · exact absurd h.symm hu
                · exact ih h
          rw [none_at _ hjv, none_at _ hjv, List.length_set]
        · rw [wipe_out hjv, wipe_out hjv, List.getElem?_set_ne hj]
theorem Sets.refl (σ : St) : Sets [] σ σ := fun _ _ => rfl
theorem Sets.one (σ : St) (i : Nat) (o : Option V) : Sets [i] σ (σ.set i o) := fun vs h => wipe_set (h i List.mem_cons_self)
theorem Sets.trans {is js : List Nat} {σ σ1 σ2 : St} (a : Sets is σ σ1) (b : Sets js σ1 σ2) : Sets (is ++ js) σ σ2 := fun vs h =>
  (b vs fun i hi => h i (List.mem_append_right _ hi)).trans (a vs fun i hi => h i (List.mem_append_left _ hi))
noncomputable def gname (i : Nat) : D → Ev → Wp Ev := fun d ρ => Wp.ret (ρ.set i (some d))
theorem dg_name (i : Nat) {y : Str} {p : Pos} (hN : X.N.Nodup) (hi : X.N[i]? = some y := by rfl) (hx : Loc X.env.scope y := by first | exact Or.inl rfl | exact Or.inr rfl)
    (hf : X.fn y = true ∨ X.env.scope.names.lookup y = some .local := by first | exact .inl rfl | exact .inr rfl) : DG X (.Name y p) [i] (gname i) :=
  ⟨_, pg_name hN hi hx hf, fun v d σ H Hs ρ n q x Q s r hv h k => k _ _ (r.set i hv) (.one _ _ _) h⟩
noncomputable def gnil : List D → Ev → Wp Ev := fun ds ρ => match ds with
  | [] => Wp.ret ρ
  | _ => Wp.stuck
noncomputable def gcons (g : D → Ev → Wp Ev) (gs : List D → Ev → Wp Ev) : List D → Ev → Wp Ev := fun ds ρ => match ds with
  | [] => Wp.stuck
  | d :: ds => Wp.bind (g d ρ) fun ρ' => gs ds ρ'
theorem dgs_nil : DGs X [] [] gnil := ⟨_, pgs_nil, fun v d σ H Hs ρ n q x Q s r hv h k => by
  cases hv with
  | nil => exact ⟨rfl, k _ _ r (.refl _) h⟩
  | cons _ _ => exact (show False from h).elim⟩
theorem dgs_cons {e : Expr} {es : List Expr} {g : D → Ev → Wp Ev} {gs : List D → Ev → Wp Ev} {is js : List Nat} (h : DG X e is g) (h2 : DGs X es js gs) (hs : (assignEach (e :: es) X.env).map (·.2) = assign e X.env :: (assignEach es X.env).map (·.2) := by rfl) : DGs X (e :: es) (is ++ js) (gcons g gs) := by
  obtain ⟨tv, p, f⟩ := h
  obtain ⟨ts, p2, f2⟩ := h2
  refine ⟨_, pgs_cons p p2 hs, fun v d σ H Hs ρ n q x Q s r hv h k => ?_⟩
  cases hv with
  | nil => exact (show False from h).elim
  | cons hv hr => exact ⟨_, _, rfl, f _ _ σ H Hs ρ n _ x _ s r hv h fun ρ' σ' r' z' h' => f2 _ _ σ' H Hs ρ' n q x Q s r' hr h' fun ρ2 σ2 r2 z2 => k ρ2 σ2 r2 (z'.trans z2)⟩
noncomputable def gtup (k : Nat) (gs : List D → Ev → Wp Ev) : D → Ev → Wp Ev := fun d ρ => match d with
  | .tup l => Wp.bind (Wp.ask (l.length = k)) fun _ => gs l ρ
  | _ => Wp.stuck
theorem dg_tup {es : List Expr} {k m : Nat} {gs : List D → Ev → Wp Ev} {is : List Nat} {p : Pos} (h : DGs X es is gs) (hc : X.calm = true := by rfl) (hn : (assignEach es X.env).length = m := by rfl) (hst : (assignEach es X.env).findIdx? (·.1) = none := by rfl) : DG X (.Tuple es k p) is (gtup m gs) := by
  obtain ⟨ts, p2, f2⟩ := h
  refine ⟨_, pg_tup hc p2 hn hst, fun v d σ H Hs ρ n q x Q s r hv h k => ?_⟩
  cases hv with
  | @tup a xs ds h1 g1 => exact ⟨a, xs, rfl, s.same.tup (SqT.of h1), by rw [g1.length]; exact h.1, f2 _ _ σ H Hs ρ n q x Q s r g1 h.2 k⟩
  | _ => exact (show False from h).elim
/-- target = e (a tuple of names) -/
noncomputable def tasg (t : Ev → Wp D) (g : D → Ev → Wp Ev) : Ev → Wp Out := fun ρ => Wp.bind (t ρ) fun d => Wp.bind (g d ρ) fun ρ' => Wp.ret (.nx ρ')
theorem ds_asg {tg : Expr} {g : D → Ev → Wp Ev} {is : List Nat} (ha : DE Γ X W a ta) (hg : DG X tg is g) (hs : swapsWithSole [tg] a pos.line X.env = pure false := by rfl) (hw : swappedStores [tg] a X.env = pure none := by rfl)
    (h1 : (assignEach [tg] X.env).map (·.2) = [assign tg X.env] := by rfl) : DS Γ X W (.Assign [tg] a pos) (tasg ta g) := by
  obtain ⟨ea, pa, fa⟩ := ha
  obtain ⟨tv, p, f⟩ := hg
  refine ⟨_, ps_asg pa p hs hw h1, fun σ H Hs ρ n q x E s r h k ke => fa σ H Hs ρ n _ x _ s r h (fun v H1 Hs1 d n1 g1 s1 hv h1 => ?_) (ke σ)⟩
  exact f v d σ H1 Hs1 ρ n1 _ x _ s1 (r.ext g1.ext) hv h1 fun ρ' σ' r' _ h' => k (.nx ρ') n1 H1 Hs1 g1 s1 h' σ' r'
end
/-! ### what is walked -/
structure WalkD (K : PySem.W.Frag) (J : It) (Hs0 : Hp) (ds : List D) : Prop where
  go : ∀ (i : Nat) (n : S) (Hs H : Hp), Ext Hs0 Hs → Sit K n Hs H → i < ds.length → J.go i H
  stop : ∀ (n : S) (Hs H : Hp), Ext Hs0 Hs → Sit K n Hs H → J.stop ds.length H
  yld : ∀ (i : Nat) (n : S) (Hs H : Hp) (x : V) (H' : Hp), Ext Hs0 Hs → Sit K n Hs H → i < ds.length → J.yld i H x H' → ∃ Hs' d, ds[i]? = some d ∧ Go Hs H Hs' H' ∧ Sit K n Hs' H' ∧ Dv K Hs' x d
noncomputable def DI (Γ : Gam) (X : Cx) (W : WX) (tg it : Expr) (t : Ev → Wp (List D)) : Prop := ∃ wi : TI, PI X tg it wi ∧ ∀ (σ : St) (H Hs : Hp) (ρ : Ev) (n : S) (q : List D → S → Prop) (x : Exn → S → Prop) (Q : It → Hp → Prop),
  Sit X.K n Hs H → R X.K ρ σ Hs → t ρ n q x → (∀ J H' Hs' ds n', Go Hs H Hs' H' → Sit X.K n' Hs' H' → WalkD X.K J Hs' ds → q ds n' → Q J H') → OkE X.K Γ Hs H x (fun c d h => W c d σ h) → wi σ H Q
/-- the turns of a for -/
noncomputable def forW (g : D → Ev → Wp Ev) (body : Ev → Wp Out) : List D → Ev → Wp Out
  | [], ρ => Wp.ret (.nx ρ)
  | d :: ds, ρ => Wp.bind (g d ρ) fun ρ1 => Wp.bind (body ρ1) fun o => match o with
    | .nx ρ2 => forW g body ds ρ2
    | .ct ρ2 => forW g body ds ρ2
    | .bk ρ2 => Wp.ret (.nx ρ2)
    | .rt e => Wp.ret (.rt e)
noncomputable def tfor (t : Ev → Wp (List D)) (g : D → Ev → Wp Ev) (body : Ev → Wp Out) : Ev → Wp Out := fun ρ => Wp.bind (t ρ) fun ds => forW g body ds ρ
theorem drop_cons {α : Type} {l : List α} {i : Nat} {d : α} (h : l[i]? = some d) : l.drop i = d :: l.drop (i + 1) := by
  obtain ⟨h1, h2⟩ := List.getElem?_eq_some_iff.mp h
  rw [← h2]
  exact List.drop_eq_getElem_cons h1
section
variable {Γ : Gam} {X : Cx} {W : WX} {a b c : Expr} {ta tb tc : Ev → Wp D} {pos : Pos} {st : Stmt} {rest : List Stmt} {t u : Ev → Wp Out}
theorem ds_for {tg it : Expr} {body : List Stmt} {ti : Ev → Wp (List D)} {g : D → Ev → Wp Ev} {is : List Nat} (hp : PassesOwn (model X.prog X.w) X.A X.env X.xe) (hi : DI Γ X W tg it ti) (hg : DG X tg is g) (hb : DB Γ X W body t) (hc : X.calm = true := by rfl)
    (hs : ∀ x, foldedSetIterable it X.env x = pure x := by intro _; rfl) : DS Γ X W (.For tg it body [] pos) (tfor ti g t) := by
  obtain ⟨wi, pi, fi⟩ := hi
  obtain ⟨tv, pg, fg⟩ := hg
  obtain ⟨ts, pb, fb⟩ := hb
  refine ⟨_, ps_for hp hc pi pg pb hs, fun σ H Hs ρ n q x E s r h k ke => fi σ H Hs ρ n _ x _ s r h (fun J H1 Hs1 ds n1 g1 s1 wd h1 => ?_) (ke σ)⟩
  refine ⟨fun i m σ' H' => m = ds.length - i ∧ i ≤ ds.length ∧ ∃ Hs' ρ' n', Go Hs H Hs' H' ∧ Ext Hs1 Hs' ∧ Sit X.K n' Hs' H' ∧ R X.K ρ' σ' Hs' ∧ forW g t (ds.drop i) ρ' n' q x,
    ⟨_, rfl, Nat.zero_le _, Hs1, ρ, n1, g1, .refl _, s1, r.ext g1.ext, h1⟩, ?_⟩
  rintro i m σ2 H2 ⟨rfl, hi, Hs2, ρ2, n2, g2, e2, s2, r2, h2⟩
  by_cases hlt : i < ds.length
  · refine .inr ⟨wd.go i n2 Hs2 H2 e2 s2 hlt, fun σ' H' => ∃ Hs' ρ' n', Go Hs H Hs' H' ∧ Ext Hs1 Hs' ∧ Sit X.K n' Hs' H' ∧ R X.K ρ' σ' Hs' ∧ forW g t (ds.drop (i + 1)) ρ' n' q x, fun σ' H' hN => ⟨ds.length - (i + 1), by omega, rfl, hlt, hN⟩, fun y H3 hy => ?_⟩
    obtain ⟨Hs3, d, hd, g3, s3, hv⟩ := wd.yld i n2 Hs2 H2 y H3 e2 s2 hlt hy
    rw [drop_cons hd] at h2
    have G3 := g2.trans g3
    have E3 := e2.trans g3.ext
    refine fg y d σ2 H3 Hs3 ρ2 n2 _ x _ s3 (r2.ext g3.ext) hv h2 fun ρ4 σ4 r4 _ h4 => ?_
    refine fb σ4 H3 Hs3 ρ4 n2 _ x _ s3 r4 h4 (fun o n5 H5 Hs5 g5 s5 h5 => ?_) (ke.go G3)
    cases o with
    | nx ρ5 => exact fun σ5 r5 => ⟨Hs5, ρ5, n5, G3.trans g5, E3.trans g5.ext, s5, r5, h5⟩
    | ct ρ5 => exact fun σ5 r5 => ⟨Hs5, ρ5, n5, G3.trans g5, E3.trans g5.ext, s5, r5, h5⟩
    | bk ρ5 => exact k _ n5 H5 Hs5 (G3.trans g5) s5 h5
    | rt e => exact k _ n5 H5 Hs5 (G3.trans g5) s5 h5
  · have e : i = ds.length := by omega
    subst e
    rw [List.drop_length] at h2
    exact .inl ⟨wd.stop n2 Hs2 H2 e2 s2, k _ n2 H2 Hs2 g2 s2 h2 σ2 r2⟩
/-- a while, so many turns -/
noncomputable def whileN (c : Ev → Wp Bool) (body : Ev → Wp Out) : Nat → Ev → Wp Out
  | 0, _ => Wp.stuck
  | m + 1, ρ => Wp.bind (c ρ) fun z => if z = true then Wp.bind (body ρ) fun o => (match o with
    | .nx ρ2 => whileN c body m ρ2
    | .ct ρ2 => whileN c body m ρ2
    | .bk ρ2 => Wp.ret (.nx ρ2)
    | .rt e => Wp.ret (.rt e)) else Wp.ret (.nx ρ)
noncomputable def twhile (c : Ev → Wp Bool) (body : Ev → Wp Out) : Ev → Wp Out := fun ρ n q x => ∃ m, whileN c body m ρ n q x
theorem ds_while {body : List Stmt} {uc : Ev → Wp Bool} (hp : PassesOwn (model X.prog X.w) X.A X.env X.xe) (hc : DT Γ X W c uc) (hb : DB Γ X W body t) : DS Γ X W (.While c body [] pos) (twhile uc t) := by
  obtain ⟨ec, pc, fc⟩ := hc
  obtain ⟨ts, pb, fb⟩ := hb
  refine ⟨_, ps_while hp pc pb, fun σ H Hs ρ n q x E s r h k ke => ?_⟩
  obtain ⟨m0, h⟩ := h
  refine ⟨fun m σ' H' => ∃ Hs' ρ' n', Go Hs H Hs' H' ∧ Sit X.K n' Hs' H' ∧ R X.K ρ' σ' Hs' ∧ whileN uc t m ρ' n' q x, ⟨m0, Hs, ρ, n, .refl _ _, s, r, h⟩, ?_⟩
  rintro m σ1 H1 ⟨Hs1, ρ1, n1, g1, s1, r1, h1⟩
  cases m with
  | zero => exact (show False from h1).elim
  | succ m =>
    refine fc σ1 H1 Hs1 ρ1 n1 _ x _ s1 r1 h1 (fun z H2 Hs2 n2 g2 s2 h2 => ?_) (ke.go g1 σ1)
    cases z with
    | false => exact k _ n2 H2 Hs2 (g1.trans g2) s2 h2 σ1 (r1.ext g2.ext)
    | true =>
      rw [if_pos rfl]
      refine ⟨fun σ' H' => ∃ Hs' ρ' n', Go Hs H Hs' H' ∧ Sit X.K n' Hs' H' ∧ R X.K ρ' σ' Hs' ∧ whileN uc t m ρ' n' q x, fun σ' H' hN => ⟨m, by omega, hN⟩, ?_⟩
      refine fb σ1 H2 Hs2 ρ1 n2 _ x _ s2 (r1.ext g2.ext) h2 (fun o n3 H3 Hs3 g3 s3 h3 => ?_) (ke.go (g1.trans g2))
      cases o with
      | nx ρ5 => exact fun σ5 r5 => ⟨Hs3, ρ5, n3, g1.trans (g2.trans g3), s3, r5, h3⟩
      | ct ρ5 => exact fun σ5 r5 => ⟨Hs3, ρ5, n3, g1.trans (g2.trans g3), s3, r5, h3⟩
      | bk ρ5 => exact k _ n3 H3 Hs3 (g1.trans (g2.trans g3)) s3 h3
      | rt e => exact k _ n3 H3 Hs3 (g1.trans (g2.trans g3)) s3 h3
end
end OE
/-! ### enumerate over anything that begins -/
namespace PySem
namespace OEnum
theorem new1 {v : Value} {o : Obj} {H : Heap → Prop} (B : Begins v o H) : Meets (Builtin.«enumerate.__new__» ⟨[.type "enumerate", v], []⟩) (fun _ R s => H s.heap ∧
    R (.ok (.ret (.ref (s.heap.push o).objs.size))) { s with heap := (s.heap.push o).push { cls := .type "enumerate", data := .fields #[.none, .bool false, .ref s.heap.objs.size, rawInt 0, .none, .none] } }) :=
  .of_wp fun prog w A R s hh => by
    obtain ⟨hp, g, d, tk, os⟩ := s
    obtain ⟨h0, hr⟩ := hh
    have hsub := sub_enumerate
    have it : ∀ {A' : Around} {E : Value → Shared → Prop} {Q : Value → Shared → Prop}, Q (.ref hp.objs.size) ⟨hp.push o, g, d, tk, os⟩ → wpAny (model prog w) A' (pyIter v) Q E ⟨hp, g, d, tk, os⟩ :=
      fun q => B.iter prog w _ _ ⟨hp, g, d, tk, os⟩ _ h0 q
    wp_walk using it
    refine wpAny_stack_any fun st => wpAny_pure ?_
    split
    · rename_i c _ _ _ _ _
      cases (c == Value.type "enumerate") <;> (wp_walk using it; exact ⟨_, rfl, hr⟩)
    · wp_walk using it
      exact ⟨_, rfl, hr⟩
theorem call1 {prog : Program} {w : World} {A : Around} {E : Value → Shared → Prop} {s : Shared} {v : Value} {o : Obj} {H : Heap → Prop} {Q : Value → Shared → Prop} (B : Begins v o H) (h0 : H s.heap)
    (h : ∀ h', IsEnum h' (s.heap.objs.size + 1) s.heap.objs.size 0 .none → h'.get? s.heap.objs.size = some o → (∀ b o, s.heap.get? b = some o → h'.get? b = some o) → Q (.ref (s.heap.objs.size + 1)) { s with heap := h' }) :
    wpAny (model prog w) A (call (.type "enumerate") [v]) Q E s := by
  refine callType_new F.called_enumerate (by decide) (F.typeCall_enumerate_1 _) (F.newCall_enumerate_1 _) (fun obj => F.args_object_init_2 obj _) F.entry_enumerate_new (new1 B) ⟨h0, ?_⟩
  have z : (s.heap.push o).objs.size = s.heap.objs.size + 1 := Heap.size_push ..
  show _ ∧ _
  rw [z]
  have e := Heap.get?_push_size (s.heap.push o) (o := { cls := .type "enumerate", data := .fields #[.none, .bool false, .ref s.heap.objs.size, rawInt 0, .none, .none] }) rfl
  rw [z] at e
  exact ⟨⟨_, e, rfl⟩, h _ e (Heap.get?_push_of_some _ (Heap.get?_push_size _ B.free)) fun b o x => Heap.get?_push_of_some _ (Heap.get?_push_of_some _ x)⟩
end OEnum
end PySem
namespace OE
open PySem PySem.Spec L2
variable [TN]
/-- the tuple at t, its items in new pairs with their numbers -/
noncomputable def IteT (K : PySem.W.Frag) (t : Addr) : It :=
  ⟨fun i H => ∃ (xs : List V) (x : V), SqT K H t xs ∧ xs[i]? = some x, fun i H v H' => ∃ T x, v = .ref T ∧ H T = none ∧ H' = upd H T (.tup [.int (i : Nat), x]) ∧ ∀ xs, SqT K H t xs → xs[i]? = some x, fun i H => ∃ xs : List V, SqT K H t xs ∧ xs.length = i⟩
theorem turn_enumT {P : Program} {w : World} {K : PySem.W.Frag} {elts : List Expr} {kk : Nat} {tpos : Pos} (t e it : Addr) :
    Turn P w K (.Tuple elts kk tpos) (IteT K t) [e, it] e (fun i h => (∃ old, IsEnum h e it ((i : Nat) : Int) old) ∧ h.IsTupleIter it t i ∧ e ≠ it) where
  mem := List.mem_cons_self
  obj := fun i h st b hb => by
    obtain ⟨⟨old, he⟩, ⟨o, ho, _, hd⟩, _⟩ := st
    rcases List.mem_cons.mp hb with z | z
    · subst z
      exact ⟨_, he, fun v q => nomatch q⟩
    · rw [List.mem_singleton.mp z]
      exact ⟨o, ho, fun v q => by rw [hd] at q; cases q⟩
  keep := fun i h h' st k => by
    obtain ⟨⟨old, he⟩, hi, hne⟩ := st
    exact ⟨⟨old, k e List.mem_cons_self _ he⟩, hi.at fun o q => k it (List.mem_cons_of_mem _ List.mem_cons_self) o q, hne⟩
  item := by
    intro X hP hw hK hc i pins s σ H E I hf st hg
    subst hP hw hK
    obtain ⟨⟨old, he⟩, hit, hne⟩ := st
    obtain ⟨xs, x, hq, hx⟩ := hg
    obtain ⟨its, rv, pt, hz⟩ := I.tuple hq
    obtain ⟨u, hu, ru⟩ := rv.get hx
    have tne : t ≠ e := fun z => by
      obtain ⟨o, h1, h2, _⟩ := pt
      rw [z, he] at h1; cases h1; exact absurd (Value.type.inj h2) (by decide)
    have tni : t ≠ it := fun z => by
      obtain ⟨o, h1, h2, _⟩ := pt
      obtain ⟨o', h3, h4, _⟩ := hit
      rw [z, h3] at h1; cases h1; rw [h4] at h2; exact absurd (Value.type.inj h2) (by decide)
    have hlt : i < its.toArray.size := by
      rw [List.size_toArray]
      exact (List.getElem?_eq_some_iff.mp hu).1
    have WG := GoesN.enumFrom (elts := elts) (x1 := kk) (pos := tpos) 0 (Draws.tuple (prog := X.prog) (w := X.w) (A := X.A.in1) (I.ok.hd hc) it t tni its.toArray) e hne (by
      intro z
      rcases List.mem_cons.mp z with z | z
      · exact hne z
      · exact tne (List.mem_singleton.mp z).symm) List.mem_cons_self
    refine WG.goes i s _ E hlt ⟨⟨old, by rw [Int.zero_add]; exact he⟩, hit, pt⟩ fun v h' tk hY st' hk _ => ?_
    obtain ⟨T, t2, y, rfl, hT, hy, hTup⟩ := hY
    have eu : y = u := by
      have hy' : its[i]? = some y := by simpa using hy
      rw [hu] at hy'; exact (Option.some.inj hy').symm
    subst eu
    obtain ⟨⟨old', he'⟩, hit', _⟩ := st'
    have fr : H T = none := I.hok.fresh hT
    have new : ObjOk X.prog X.w (upd H T (.tup [.int (i : Nat), x])) h' T (.tup [.int (i : Nat), x]) :=
      ⟨by show 2 ≤ sizeLine; decide, [.int (0 + (i : Int)) t2, y], .cons ⟨t2, by rw [Int.zero_add]⟩ (.cons ru .nil), hTup⟩
    refine ⟨.ref T, _, I.turnedNew (ch := [e, it]) hk hf hT new, rfl, ⟨T, x, rfl, fr, rfl, fun ys hy => by rw [I.tuple_inj hy hq]; exact hx⟩, ⟨⟨old', ?_⟩, hit', hne⟩, fun b hb => ?_⟩
    · have z : (0 : Int) + ((i + 1 : Nat) : Int) = ((i + 1 : Nat) : Int) := Int.zero_add _
      rw [z] at he'
      exact he'
    · have hb2 := (hf b hb).1
      have : b ≠ T := fun z => by
        subst z
        rcases List.mem_cons.mp hb with z | z
        · subst z; exact absurd (Nat.lt_of_lt_of_le (Heap.lt_size he) hT) (Nat.lt_irrefl _)
        · rw [List.mem_singleton.mp z] at hT
          obtain ⟨o, ho, _⟩ := hit
          exact absurd (Nat.lt_of_lt_of_le (Heap.lt_size ho) hT) (Nat.lt_irrefl _)
      rw [upd_ne this]
      exact hb2
  done := by
    intro X hP hw hK hc i pins s σ H E I hf st hg
    subst hP hw hK
    obtain ⟨⟨old, he⟩, hit, hne⟩ := st
    obtain ⟨xs, hq, hx⟩ := hg
    obtain ⟨its, rv, pt, hz⟩ := I.tuple hq
    have tne : t ≠ e := fun z => by
      obtain ⟨o, h1, h2, _⟩ := pt
      rw [z, he] at h1; cases h1; exact absurd (Value.type.inj h2) (by decide)
    have tni : t ≠ it := fun z => by
      obtain ⟨o, h1, h2, _⟩ := pt
      obtain ⟨o', h3, h4, _⟩ := hit
      rw [z, h3] at h1; cases h1; rw [h4] at h2; exact absurd (Value.type.inj h2) (by decide)
    have hl : its.toArray.size = i := by rw [List.size_toArray, ← rv.length]; exact hx
    have WG := GoesN.enumFrom (elts := elts) (x1 := kk) (pos := tpos) 0 (Draws.tuple (prog := X.prog) (w := X.w) (A := X.A.in1) (I.ok.hd hc) it t tni its.toArray) e hne (by
      intro z
      rcases List.mem_cons.mp z with z | z
      · exact hne z
      · exact tne (List.mem_singleton.mp z).symm) List.mem_cons_self
    refine WG.stops s _ E ?_ fun h' tk hk _ => ?_
    · rw [hl]
      exact ⟨⟨old, by rw [Int.zero_add]; exact he⟩, hit, pt⟩
    · have nit : ∀ b u, H b = some u → b ∉ [e, it] := fun b u q z => by
        rw [(hf b z).1] at q; cases q
      refine I.step (g' := s.gens) (d' := s.drawn) (t' := tk) (ch := [e, it]) (fun b hb => ⟨(hf b hb).2.2.2.1, (hf b hb).2.1, (hf b hb).2.2.2.2.1, (hf b hb).2.2.2.2.2⟩) (fun b o _ _ hc e _ => hk b o hc e) (fun b o _ _ hc e _ => ⟨o.slots, hk b o hc e⟩)
        (fun b o _ _ n => n) (fun b o hc e => ⟨o, hk b o hc e⟩) (fun _ _ e => e) (fun _ _ _ e => e) (fun b ps q => ⟨#[], by rw [q]; simp⟩) (fun m hm => ?_) (fun b u q => ?_) I.bare
      · obtain ⟨o, es, ep, ho, r⟩ := hm
        exact ⟨o, es, ep, hk _ o (fun z => (hf _ z).2.1 rfl) ho, r⟩
      · refine (I.hok b u q).stay (fun c v hc r => hk c v ?_ r) (fun _ r => r) fun _ _ r => r
        rcases hc with z | z
        · rw [z]; exact nit b u q
        · exact nit c _ z
  self := fun A i s Q E st h => let ⟨⟨_, he⟩, _⟩ := st; wpAny_pyIter_enum he h
noncomputable def iEnumA (K : PySem.W.Frag) (ta : TA) : TI := fun σ H R => ta σ H fun vs H1 => ∃ a xs, vs = [.ref a] ∧ ((SqL K H1 a xs ∧ R (Ite K a) H1) ∨ (SqT K H1 a xs ∧ R (IteT K a) H1))
theorem pi_enumA {X : Cx} {e : Expr} {ta : TA} {p pos tpos : Pos} {elts : List Expr} {kk : Nat} (hg : Gl X "enumerate") (hm : X.mg "enumerate" = none) (ha : PA X [e] ta) (hs : starEach [e] X.env = [(false, eval e X.env)] := by rfl) :
    PI X (.Tuple elts kk tpos) (.Call (.Name "enumerate" p) [e] [] pos) (iEnumA X.K ta) := by
  refine ⟨fun pins s σ H R I h => ?_⟩
  refine PyProof.Rows.Call_ (ld_blt I hg hm PyProof.Rows.boot_enumerate (PyProof.Rows.callWith_type1 (thn (ha.run pos pins s σ H _ I h) fun us s1 hh => ?_) hs rfl))
  obtain ⟨vs, H1, I1, r1, a, xs, ex, q⟩ := hh
  subst ex
  rcases r1 with _ | ⟨r, rr⟩
  cases rr
  cases r
  have fin : ∀ {h' : Heap} {J : It} {tn : Nat → Heap → Prop}, (∀ b o, s1.heap.get? b = some o → h'.get? b = some o) → Turn X.prog X.w X.K (.Tuple elts kk tpos) J [s1.heap.objs.size + 1, s1.heap.objs.size] (s1.heap.objs.size + 1) tn → tn 0 h' → R J H1 →
      PIE X pins σ (.Tuple elts kk tpos) R (.ref (s1.heap.objs.size + 1)) { s1 with heap := h' } := fun {h' J tn} hk T t0 hR => by
    refine ⟨_, _, tn, J, H1, rfl, I1.kept (t' := s1.toks) hk, T, t0, fun b hb => ?_, hR⟩
    have hle : s1.heap.objs.size ≤ b := by
      rcases List.mem_cons.mp hb with z | z
      · rw [z]; exact Nat.le_succ _
      · rw [List.mem_singleton.mp z]; exact Nat.le_refl _
    exact I1.fpOk hle (I1.hok.fresh hle)
  rcases q with ⟨hq, q⟩ | ⟨hq, q⟩
  · obtain ⟨its, rv, p', hz⟩ := I1.list hq
    refine OEnum.call1 (begins_list a its.toArray) p'.isList fun h' he hi hk => wpAny_pyIter_enum he ?_
    exact fin hk (turn_enum a _ _) ⟨⟨.none, he⟩, ⟨_, hi, rfl, rfl⟩, Nat.succ_ne_self _⟩ q
  · obtain ⟨its, rv, p', hz⟩ := I1.tuple hq
    refine OEnum.call1 (begins_tuple a its.toArray) p' fun h' he hi hk => wpAny_pyIter_enum he ?_
    exact fin hk (turn_enumT a _ _) ⟨⟨.none, he⟩, ⟨_, hi, rfl, rfl⟩, Nat.succ_ne_self _⟩ q
end OE
namespace OE
open PySem PySem.Spec L2
variable [TN]
section
variable {Γ : Gam} {X : Cx} {W : WX} {a b c tg : Expr} {ta tb tc : Ev → Wp D} {pos : Pos}
/-- a list, a tuple, a text -/
noncomputable def iSeq (K : PySem.W.Frag) (tl : TE) : TI := fun σ H R => tl σ H fun x H1 => (∃ a xs, x = .ref a ∧ SqL K H1 a xs ∧ R (Itl K a) H1) ∨ (∃ a xs, x = .ref a ∧ SqT K H1 a xs ∧ R (Itt K a) H1) ∨ (∃ z, x = .str z ∧ R (Its z) H1)
theorem pi_seq {tl : TE} (hl : PE X a tl) : PI X tg a (iSeq X.K tl) := by
  refine ⟨fun pins s σ H R I h => thn (hl.run pins s σ H _ I h) fun v s1 hh => ?_⟩
  obtain ⟨x, H1, I1, r1, q1⟩ := hh
  have fresh : ∀ b ∈ [s1.heap.objs.size], FpOk X pins H1 b := fun b hb => by
    rw [List.mem_singleton.mp hb]
    exact I1.fpOk (Nat.le_refl _) (I1.hok.fresh (Nat.le_refl _))
  rcases q1 with ⟨p, xs, rfl, hq, q⟩ | ⟨p, xs, rfl, hq, q⟩ | ⟨z, rfl, q⟩
  · cases r1
    obtain ⟨its, rv, pl, hz⟩ := I1.list hq
    exact wpAny_pyIter_list pl.isList ⟨_, _, _, _, H1, rfl, I1.kept (t' := s1.toks) fun b o e => Heap.get?_push_of_some _ e, turn_list p _, ⟨_, Heap.get?_push_size _ rfl, rfl, rfl⟩, fresh, q⟩
  · cases r1
    obtain ⟨its, rv, pl, hz⟩ := I1.tuple hq
    exact wpAny_pyIter_tuple (show s1.heap.IsTuple p its.toArray from pl) ⟨_, _, _, _, H1, rfl, I1.kept (t' := s1.toks) fun b o e => Heap.get?_push_of_some _ e, turn_tuple p _, ⟨_, Heap.get?_push_size _ rfl, rfl, rfl⟩, fresh, q⟩
  · obtain ⟨t, rfl⟩ := r1
    cases ha : z.cps.all (· < 128)
    · exact wpAny_pyIter_wide ha ⟨_, _, _, _, H1, rfl, I1.kept (t' := s1.toks) fun b o e => Heap.get?_push_of_some _ e, turn_str _ z t "str_iterator" (.inr rfl), ⟨_, Heap.get?_push_size _ rfl, rfl, rfl⟩, fresh, q⟩
    · exact wpAny_pyIter_ascii ha ⟨_, _, _, _, H1, rfl, I1.kept (t' := s1.toks) fun b o e => Heap.get?_push_of_some _ e, turn_str _ z t "str_ascii_iterator" (.inl rfl), ⟨_, Heap.get?_push_size _ rfl, rfl, rfl⟩, fresh, q⟩
theorem walkD_list {K : PySem.W.Frag} {p : Addr} {xs : List V} {Hs : Hp} {ds : List D} (hq : SqL K Hs p xs) (g : DvAll K Hs xs ds) : WalkD K (Itl K p) Hs ds := by
  refine ⟨fun i n Hs1 H e s hi => ?_, fun n Hs1 H e s => ⟨xs, s.same.lst (e.lst hq), by rw [g.length]; exact Nat.le_refl _⟩, fun i n Hs1 H x H' e s hi y => ?_⟩
  · obtain ⟨v, h1, h2⟩ := g.get (List.getElem?_eq_getElem hi)
    exact ⟨xs, v, s.same.lst (e.lst hq), h1⟩
  · obtain ⟨e1, y⟩ := y
    subst e1
    have hx := y xs (s.same.lst (e.lst hq))
    obtain ⟨d, h1, h2⟩ := g.getV hx
    exact ⟨Hs1, d, h1, .refl _ _, s, h2.ext e⟩
theorem walkD_tup {K : PySem.W.Frag} {p : Addr} {xs : List V} {Hs : Hp} {ds : List D} (hq : SqT K Hs p xs) (g : DvAll K Hs xs ds) : WalkD K (Itt K p) Hs ds := by
  refine ⟨fun i n Hs1 H e s hi => ?_, fun n Hs1 H e s => ⟨xs, s.same.tup (e.tup hq), by rw [g.length]; exact Nat.le_refl _⟩, fun i n Hs1 H x H' e s hi y => ?_⟩
  · obtain ⟨v, h1, h2⟩ := g.get (List.getElem?_eq_getElem hi)
    exact ⟨xs, v, s.same.tup (e.tup hq), h1⟩
  · obtain ⟨e1, y⟩ := y
    subst e1
    have hx := y xs (s.same.tup (e.tup hq))
    obtain ⟨d, h1, h2⟩ := g.getV hx
    exact ⟨Hs1, d, h1, .refl _ _, s, h2.ext e⟩
theorem walkD_str {K : PySem.W.Frag} {z : Str} {Hs : Hp} : WalkD K (Its z) Hs (z.cps.toList.map fun c => D.str ⟨#[c]⟩) := by
  have hl : (z.cps.toList.map fun c => D.str ⟨#[c]⟩).length = z.cps.size := by rw [List.length_map, Array.length_toList]
  refine ⟨fun i n Hs1 H e s hi => ?_, fun n Hs1 H e s => ?_, fun i n Hs1 H x H' e s hi y => ?_⟩
  · rw [hl] at hi; exact hi
  · rw [hl]; exact Nat.le_refl _
  · obtain ⟨e1, c, hc, e2⟩ := y
    subst e1; subst e2
    refine ⟨Hs1, .str ⟨#[c]⟩, ?_, .refl _ _, s, .str _⟩
    rw [List.getElem?_map, Array.getElem?_toList, hc]
    rfl
/-- the items that are walked -/
noncomputable def items : D → Wp (List D)
  | .lst l => Wp.ret l
  | .tup l => Wp.ret l
  | .scr l => Wp.ret (l.map D.int)
  | .str z => Wp.ret (z.cps.toList.map fun c => D.str ⟨#[c]⟩)
  | _ => Wp.stuck
noncomputable def tseq (t : Ev → Wp D) : Ev → Wp (List D) := fun ρ => Wp.bind (t ρ) items
theorem di_seq (ha : DE Γ X W a ta) : DI Γ X W tg a (tseq ta) := by
  obtain ⟨ea, pa, fa⟩ := ha
  refine ⟨_, pi_seq pa, fun σ H Hs ρ n q x Q s r h k ke => fa σ H Hs ρ n _ x _ s r h (fun v H1 Hs1 d n1 g1 s1 hv h1 => ?_) ke⟩
  cases hv with
  | @lst p xs ds e1 g => exact .inl ⟨p, xs, rfl, SqL.of (s1.sub _ _ e1), k _ H1 Hs1 _ n1 g1 s1 (walkD_list (SqL.of e1) g) h1⟩
  | @scr p ns e1 => exact .inl ⟨p, _, rfl, s1.same.lst e1, k _ H1 Hs1 _ n1 g1 s1 (walkD_list e1 (DvAll.ints ns)) h1⟩
  | @tup p xs ds e1 g => exact .inr (.inl ⟨p, xs, rfl, s1.same.tup (SqT.of e1), k _ H1 Hs1 _ n1 g1 s1 (walkD_tup (SqT.of e1) g) h1⟩)
  | str z => exact .inr (.inr ⟨z, rfl, k _ H1 Hs1 _ n1 g1 s1 walkD_str h1⟩)
  | _ => exact (show False from h1).elim
/-- ranges -/
noncomputable def rangeD (lo : Int) (n : Nat) : List D := (List.range n).map fun k => D.int (lo + (k : Nat))
theorem walkD_range {K : PySem.W.Frag} {lo : Int} {m : Nat} {Hs : Hp} : WalkD K (Itr lo m) Hs (rangeD lo m) := by
  have hl : (rangeD lo m).length = m := by unfold rangeD; rw [List.length_map, List.length_range]
  refine ⟨fun i n Hs1 H e s hi => ?_, fun n Hs1 H e s => ?_, fun i n Hs1 H x H' e s hi y => ?_⟩
  · show i < m
    rw [hl] at hi; exact hi
  · show m ≤ _
    rw [hl]; exact Nat.le_refl _
  · obtain ⟨e1, e2⟩ := y
    subst e1; subst e2
    rw [hl] at hi
    refine ⟨Hs1, .int (lo + i), ?_, .refl _ _, s, .int _⟩
    unfold rangeD
    rw [List.getElem?_map, List.getElem?_range hi]
    rfl
noncomputable def fRange1 : List D → Wp (List D)
  | [.int j] => Wp.bind (Wp.ask (-(2 ^ 62) ≤ j ∧ j < 2 ^ 62)) fun _ => Wp.ret (rangeD 0 j.toNat)
  | _ => Wp.stuck
noncomputable def fRange2 : List D → Wp (List D)
  | [.int i, .int j] => Wp.bind (Wp.ask (-(2 ^ 62) ≤ i ∧ i < 2 ^ 62 ∧ -(2 ^ 62) ≤ j ∧ j < 2 ^ 62)) fun _ => Wp.ret (rangeD i (j - i).toNat)
  | _ => Wp.stuck
noncomputable def tits (f : List D → Wp (List D)) (t : Ev → Wp (List D)) : Ev → Wp (List D) := fun ρ => Wp.bind (t ρ) f
theorem di_range1 {p : Pos} {t : Ev → Wp (List D)} (hm : X.mg "range" = none) (ha : DA Γ X W [a] t) (hg : Gl X "range" := by rfl) (hs : starEach [a] X.env = [(false, eval a X.env)] := by rfl) : DI Γ X W tg (.Call (.Name "range" p) [a] [] pos) (tits fRange1 t) := by
  obtain ⟨ea, pa, fa⟩ := ha
  refine ⟨_, pi_range1 hg hm pa hs, fun σ H Hs ρ n q x Q s r h k ke => fa σ H Hs ρ n _ x _ s r h (fun vs H1 Hs1 ds n1 g1 s1 hv h1 => ?_) ke⟩
  rcases hv with _ | ⟨hv, _ | ⟨hw, _⟩⟩
  · exact (show False from h1).elim
  · cases hv with
    | int j => exact ⟨j, rfl, h1.1.1, h1.1.2, k _ H1 Hs1 _ n1 g1 s1 walkD_range h1.2⟩
    | _ => exact (show False from h1).elim
  · cases hv <;> exact (show False from h1).elim
theorem di_range2 {p : Pos} {t : Ev → Wp (List D)} (hm : X.mg "range" = none) (ha : DA Γ X W [a, b] t) (hg : Gl X "range" := by rfl) (hs : starEach [a, b] X.env = [(false, eval a X.env), (false, eval b X.env)] := by rfl) (hs2 : starEach [b] X.env = [(false, eval b X.env)] := by rfl) :
    DI Γ X W tg (.Call (.Name "range" p) [a, b] [] pos) (tits fRange2 t) := by
  obtain ⟨ea, pa, fa⟩ := ha
  refine ⟨_, pi_range2 hg hm pa hs hs2, fun σ H Hs ρ n q x Q s r h k ke => fa σ H Hs ρ n _ x _ s r h (fun vs H1 Hs1 ds n1 g1 s1 hv h1 => ?_) ke⟩
  rcases hv with _ | ⟨hv, _ | ⟨hw, _ | ⟨_, _⟩⟩⟩
  · exact (show False from h1).elim
  · cases hv <;> exact (show False from h1).elim
  · cases hv <;> cases hw <;> first | exact (show False from h1).elim | exact ⟨_, _, rfl, h1.1, k _ H1 Hs1 _ n1 g1 s1 walkD_range h1.2⟩
  · cases hv <;> cases hw <;> exact (show False from h1).elim
/-- enumerate -/
noncomputable def enumD : Nat → List D → List D
  | _, [] => []
  | i, d :: ds => .tup [.int (i : Nat), d] :: enumD (i + 1) ds
theorem enumD_length : ∀ (ds : List D) (i : Nat), (enumD i ds).length = ds.length
  | [], _ => rfl
  | _ :: ds, i => congrArg (· + 1) (enumD_length ds (i + 1))
theorem enumD_get : ∀ (ds : List D) (i j : Nat) (d : D), ds[j]? = some d → (enumD i ds)[j]? = some (.tup [.int ((i + j : Nat) : Int), d])
  | [], _, _, _, h => by simp at h
  | x :: ds, i, 0, d, h => by
    simp at h; subst h
    rfl
  | x :: ds, i, j + 1, d, h => by
    show (enumD (i + 1) ds)[j]? = _
    rw [enumD_get ds (i + 1) j d (by simpa using h)]
    have : i + 1 + j = i + (j + 1) := by omega
    rw [this]
theorem walkD_enum {K : PySem.W.Frag} {p : Addr} {xs : List V} {Hs : Hp} {ds : List D} (hq : SqL K Hs p xs) (g : DvAll K Hs xs ds) : WalkD K (Ite K p) Hs (enumD 0 ds) := by
  refine ⟨fun i n Hs1 H e s hi => ?_, fun n Hs1 H e s => ⟨xs, s.same.lst (e.lst hq), by rw [enumD_length, g.length]; exact Nat.le_refl _⟩, fun i n Hs1 H x H' e s hi y => ?_⟩
  · rw [enumD_length] at hi
    obtain ⟨v, h1, h2⟩ := g.get (List.getElem?_eq_getElem hi)
    exact ⟨xs, v, s.same.lst (e.lst hq), h1⟩
  · obtain ⟨T, y, rfl, hT, rfl, hy⟩ := y
    obtain ⟨d, h1, h2⟩ := g.getV (hy xs (s.same.lst (e.lst hq)))
    obtain ⟨s2, g2, v2⟩ := new_tup (K := K) (ds := [.int (i : Nat), d]) s hT (.cons (.int _) (.cons (h2.ext e) .nil))
    exact ⟨_, _, by rw [enumD_get ds 0 i d h1, Nat.zero_add], g2, s2, v2⟩
theorem walkD_enumT {K : PySem.W.Frag} {p : Addr} {xs : List V} {Hs : Hp} {ds : List D} (hq : SqT K Hs p xs) (g : DvAll K Hs xs ds) : WalkD K (IteT K p) Hs (enumD 0 ds) := by
  refine ⟨fun i n Hs1 H e s hi => ?_, fun n Hs1 H e s => ⟨xs, s.same.tup (e.tup hq), by rw [enumD_length, g.length]⟩, fun i n Hs1 H x H' e s hi y => ?_⟩
  · rw [enumD_length] at hi
    obtain ⟨v, h1, h2⟩ := g.get (List.getElem?_eq_getElem hi)
    exact ⟨xs, v, s.same.tup (e.tup hq), h1⟩
  · obtain ⟨T, y, rfl, hT, rfl, hy⟩ := y
    obtain ⟨d, h1, h2⟩ := g.getV (hy xs (s.same.tup (e.tup hq)))
    obtain ⟨s2, g2, v2⟩ := new_tup (K := K) (ds := [.int (i : Nat), d]) s hT (.cons (.int _) (.cons (h2.ext e) .nil))
    exact ⟨_, _, by rw [enumD_get ds 0 i d h1, Nat.zero_add], g2, s2, v2⟩
noncomputable def fEnum : List D → Wp (List D)
  | [.lst l] => Wp.ret (enumD 0 l)
  | [.tup l] => Wp.ret (enumD 0 l)
  | [.scr l] => Wp.ret (enumD 0 (l.map D.int))
  | _ => Wp.stuck
theorem di_enum {p tpos : Pos} {elts : List Expr} {kk : Nat} {t : Ev → Wp (List D)} (hm : X.mg "enumerate" = none) (ha : DA Γ X W [a] t) (hg : Gl X "enumerate" := by rfl) (hs : starEach [a] X.env = [(false, eval a X.env)] := by rfl) :
    DI Γ X W (.Tuple elts kk tpos) (.Call (.Name "enumerate" p) [a] [] pos) (tits fEnum t) := by
  obtain ⟨ea, pa, fa⟩ := ha
  refine ⟨_, pi_enumA hg hm pa hs, fun σ H Hs ρ n q x Q s r h k ke => fa σ H Hs ρ n _ x _ s r h (fun vs H1 Hs1 ds n1 g1 s1 hv h1 => ?_) ke⟩
  rcases hv with _ | ⟨hv, _ | ⟨hw, _⟩⟩
  · exact (show False from h1).elim
  · cases hv with
    | @lst p xs ds e1 g => exact ⟨p, xs, rfl, .inl ⟨SqL.of (s1.sub _ _ e1), k _ H1 Hs1 _ n1 g1 s1 (walkD_enum (SqL.of e1) g) h1⟩⟩
    | @scr p ns e1 => exact ⟨p, _, rfl, .inl ⟨s1.same.lst e1, k _ H1 Hs1 _ n1 g1 s1 (walkD_enum e1 (DvAll.ints ns)) h1⟩⟩
    | @tup p xs ds e1 g => exact ⟨p, xs, rfl, .inr ⟨s1.same.tup (SqT.of e1), k _ H1 Hs1 _ n1 g1 s1 (walkD_enumT (SqT.of e1) g) h1⟩⟩
    | _ => exact (show False from h1).elim
  · cases hv <;> exact (show False from h1).elim
/-- zip of two lists, of two tuples -/
noncomputable def zipD : List D → List D → List D
  | d :: ds, e :: es => .tup [d, e] :: zipD ds es
  | _, _ => []
noncomputable def fZip : List D → Wp (List D)
  | [.lst l, .lst l'] => Wp.ret (zipD l l')
  | [.tup l, .tup l'] => Wp.ret (zipD l l')
  | _ => Wp.stuck
/-! ### comprehensions -/
noncomputable def teD (Γ : Gam) (K : PySem.W.Frag) (W : WX) (t : Ev → Wp D) : TE := fun σ H Q => ∃ (n : S) (Hs : Hp) (ρ : Ev) (q : D → S → Prop) (x : Exn → S → Prop), Sit K n Hs H ∧ R K ρ σ Hs ∧ t ρ n q x ∧ OkQ K Hs H q Q ∧ OkE K Γ Hs H x (fun c d h => W c d σ h)
noncomputable def ttD (Γ : Gam) (K : PySem.W.Frag) (W : WX) (t : Ev → Wp Bool) : TT := fun σ H Q => ∃ (n : S) (Hs : Hp) (ρ : Ev) (q : Bool → S → Prop) (x : Exn → S → Prop), Sit K n Hs H ∧ R K ρ σ Hs ∧ t ρ n q x ∧ (∀ b H' Hs' n', Go Hs H Hs' H' → Sit K n' Hs' H' → q b n' → Q b H') ∧ OkE K Γ Hs H x (fun c d h => W c d σ h)
noncomputable def tgD (K : PySem.W.Frag) (is : List Nat) (g : D → Ev → Wp Ev) : TG := fun v σ H Q => ∃ (n : S) (Hs : Hp) (ρ : Ev) (d : D) (q : Ev → S → Prop) (x : Exn → S → Prop), Sit K n Hs H ∧ R K ρ σ Hs ∧ Dv K Hs v d ∧ g d ρ n q x ∧ ∀ ρ' σ', R K ρ' σ' Hs → Sets is σ σ' → q ρ' n → Q σ' H
theorem DE.pe {t : Ev → Wp D} (h : DE Γ X W a t) : PE X a (teD Γ X.K W t) := by
  obtain ⟨te, p, f⟩ := h
  exact ⟨fun pins s σ H Q I ⟨n, Hs, ρ, q, x, h1, h2, h3, h4, h5⟩ => p.run pins s σ H Q I (f σ H Hs ρ n q x Q h1 h2 h3 h4 h5)⟩
theorem DT.pt {t : Ev → Wp Bool} (h : DT Γ X W a t) : PT X a (ttD Γ X.K W t) := by
  obtain ⟨te, p, f⟩ := h
  exact ⟨fun pins s σ H Q I ⟨n, Hs, ρ, q, x, h1, h2, h3, h4, h5⟩ => p.run pins s σ H Q I (f σ H Hs ρ n q x Q h1 h2 h3 h4 h5)⟩
theorem DG.pg {is : List Nat} {g : D → Ev → Wp Ev} (h : DG X tg is g) : PG X tg (tgD X.K is g) := by
  obtain ⟨te, p, f⟩ := h
  exact ⟨fun pins s σ H v u Q I rv ⟨n, Hs, ρ, d, q, x, h1, h2, h3, h4, h5⟩ => p.run pins s σ H v u Q I rv (f v d σ H Hs ρ n q x Q h1 h2 h3 h4 h5)⟩
/-- the tests of a clause -/
noncomputable def DTs (Γ : Gam) (X : Cx) (W : WX) (ifs : List Expr) (t : Ev → Wp Bool) : Prop := PTs X ifs (ttD Γ X.K W t)
theorem dts_nil : DTs Γ X W [] (fun _ => Wp.ret true) := ⟨fun pins s σ H Q I ⟨n, Hs, ρ, q, x, h1, h2, h3, h4, h5⟩ => pts_nil.run pins s σ H Q I (h4 true H Hs n (.refl _ _) h1 h3)⟩
theorem dts_one {t : Ev → Wp Bool} (h : DT Γ X W a t) : DTs Γ X W [a] t := pts_one h.pt
noncomputable abbrev W0 : WX := fun _ _ _ _ => False
noncomputable def wipeE (ρ : Ev) : List Nat → Ev
  | [] => ρ
  | v :: vs => (wipeE ρ vs).set v none
theorem R.wipe {K : PySem.W.Frag} {ρ : Ev} {σ : St} {Hs : Hp} (r : R K ρ σ Hs) : ∀ vs : List Nat, R K (wipeE ρ vs) (L2.wipe σ vs) Hs
  | [] => r
  | v :: vs => (R.wipe r vs).unset v none
noncomputable def lcW (g : D → Ev → Wp Ev) (tt : Ev → Wp Bool) (te : Ev → Wp D) (ρ : Ev) : List D → Wp (List D)
  | [] => Wp.ret []
  | d :: ds => Wp.bind (g d ρ) fun ρ1 => Wp.bind (tt ρ1) fun b => if b = true then Wp.bind (te ρ1) fun y => Wp.bind (lcW g tt te ρ ds) fun ys => Wp.ret (y :: ys) else lcW g tt te ρ ds
noncomputable def tlc (ti : Ev → Wp (List D)) (g : D → Ev → Wp Ev) (tt : Ev → Wp Bool) (te : Ev → Wp D) (vs : List Nat) : Ev → Wp D := fun ρ => Wp.bind (ti ρ) fun ds => Wp.bind (Wp.ask (ds.length ≤ 1000000)) fun _ =>
  Wp.bind (Wp.calm (lcW g tt te (wipeE ρ vs) ds)) fun ys => Wp.ret (.lst ys)
theorem lc_read {Γ : Gam} {K : PySem.W.Frag} {is vs : List Nat} {g : D → Ev → Wp Ev} {tt : Ev → Wp Bool} {te : Ev → Wp D} (his : ∀ i ∈ is, i ∈ vs) {J : It} {H1 Hs1 : Hp} {ds : List D} {n1 : S} {σ : St} {ρ : Ev} {q : D → S → Prop} {Q : VK}
    (s1 : Sit K n1 Hs1 H1) (wd : WalkD K J Hs1 ds) (r : R K ρ σ Hs1) (hl : ds.length ≤ 1000000) (h : lcW g tt te (wipeE ρ vs) ds n1 (fun ys n => q (.lst ys) n) (fun _ _ => False)) (k : OkQ K Hs1 H1 q Q) (A : Addr) (hA : H1 A = none) :
    ∃ W : Nat → Nat → Hp → Prop, (∃ m, W 0 m (upd H1 A (.lst []))) ∧ ∀ i m H, W i m H → (J.stop i H ∧ Q (.ref A) H) ∨ (J.go i H ∧ ∃ Nx : Hp → Prop, (∀ H', Nx H' → ∃ m', m' < m ∧ W (i + 1) m' H') ∧
      ∀ x H', J.yld i H x H' → tgD K is g x (wipe σ vs) H' fun σ2 H2 => wipe σ2 vs = wipe σ vs ∧ ttD Γ K W0 tt σ2 H2 fun b H3 =>
        if b = true then teD Γ K W0 te σ2 H3 fun y H4 => ∃ acc, H4 A = some (.lst acc) ∧ acc.length < sizeLine ∧ Nx (upd H4 A (.lst (acc ++ [y]))) else Nx H3) := by
  have hAs := s1.free hA
  -- between the turns: the list so far is ours alone
  have inv : ∃ P : Nat → Hp → Prop, P = fun i H => ∃ (Hs : Hp) (n : S) (acc : List V) (ad : List D), i ≤ ds.length ∧ acc.length ≤ i ∧ Ext Hs1 Hs ∧ Sit K n Hs H ∧ (∀ a o, H1 a = some o → Hs1 a = none → H a = some o ∧ Hs a = none) ∧ H A = some (.lst acc) ∧ Hs A = none ∧ DvAll K Hs acc ad ∧
      lcW g tt te (wipeE ρ vs) (ds.drop i) n (fun ys n => q (.lst (ad ++ ys)) n) (fun _ _ => False) := ⟨_, rfl⟩
  obtain ⟨P, hP⟩ := inv
  have put : ∀ {H : Hp} {Hs : Hp} {n : S} {l : List V}, Sit K n Hs H → Hs A = none → Sit K n Hs (upd H A (.lst l)) := fun {H Hs n l} s e => s.ownU e rfl
  refine ⟨fun i m H => m = ds.length - i ∧ P i H, ⟨_, rfl, ?_⟩, ?_⟩
  · rw [hP]
    refine ⟨Hs1, n1, [], [], Nat.zero_le _, Nat.le_refl _, .refl _, put s1 hAs, fun a o e1 e2 => ⟨?_, e2⟩, upd_same, hAs, .nil, h⟩
    rw [upd_ne (ne_of_none e1 hA)]; exact e1
  · rintro i m H ⟨rfl, hPi⟩
    rw [hP] at hPi
    obtain ⟨Hs, n, acc, ad, hi, hal, he, s, own, hAl, hAn, g1, h⟩ := hPi
    by_cases hlt : i < ds.length
    · refine .inr ⟨wd.go i n Hs H he s hlt, P (i + 1), fun H' p => ⟨ds.length - (i + 1), by omega, rfl, p⟩, fun x H' hy => ?_⟩
      obtain ⟨Hs', d, hd, g2, s2, hv⟩ := wd.yld i n Hs H x H' he s hlt hy
      rw [drop_cons hd] at h
      obtain ⟨hAl2, hAn2⟩ := g2.own A _ hAl hAn
      refine ⟨n, Hs', wipeE ρ vs, d, _, _, s2, (r.ext (he.trans g2.ext)).wipe vs, hv, h, fun ρ3 σ3 r3 z3 h3 => ⟨?_, ?_⟩⟩
      · rw [z3 vs his]
        have : ∀ (τ : St) (us : List Nat), wipe (wipe τ us) us = wipe τ us := fun τ us => by
          have aux : ∀ (us' : List Nat), (∀ i ∈ us', i ∈ us) → wipe (wipe τ us') us = wipe τ us := by
            intro us'
            induction us' with
            | nil => intro _; rfl
            | cons u us'' ih =>
              intro hh
              show wipe ((wipe τ us'').set u none) us = _
              rw [wipe_set (hh u List.mem_cons_self)]
              exact ih fun i hi => hh i (List.mem_cons_of_mem _ hi)
          exact aux us fun _ z => z
        exact this σ vs
      · refine ⟨n, Hs', ρ3, _, _, s2, r3, h3, fun b H3 Hs3 n3 g3 s3 h4 => ?_, fun _ _ _ _ _ _ _ _ _ z => z⟩
        obtain ⟨hAl3, hAn3⟩ := g3.own A _ hAl2 hAn2
        have ownN : ∀ {H4 Hs4 : Hp}, Go Hs3 H3 Hs4 H4 → ∀ a o, H1 a = some o → Hs1 a = none → H4 a = some o ∧ Hs4 a = none := fun {H4 Hs4} g4 a o e1 e2 => by
          obtain ⟨f1, f2⟩ := own a o e1 e2
          exact (g2.trans (g3.trans g4)).own a o f1 f2
        cases b with
        | true =>
          rw [if_pos rfl]
          refine ⟨n3, Hs3, ρ3, _, _, s3, r3.ext g3.ext, h4, fun y H4 Hs4 e n4 g4 s4 hy4 h5 => ?_, fun _ _ _ _ _ _ _ _ _ z => z⟩
          obtain ⟨hAl4, hAn4⟩ := g4.own A _ hAl3 hAn3
          refine ⟨acc, hAl4, Nat.lt_of_le_of_lt (Nat.le_trans hal (Nat.le_of_lt (Nat.lt_of_lt_of_le hlt hl))) (by rw [sizeLine_eq]; decide), ?_⟩
          rw [hP]
          have E4 := g2.ext.trans (g3.ext.trans g4.ext)
          refine ⟨Hs4, n4, acc ++ [y], ad ++ [e], hlt, by rw [List.length_append]; exact Nat.succ_le_succ hal, he.trans E4, put s4 hAn4, fun a o e1 e2 => ?_, upd_same, hAn4, (g1.ext E4).append (.cons hy4 .nil), ?_⟩
          · obtain ⟨f1, f2⟩ := ownN g4 a o e1 e2
            rw [upd_ne (ne_of_none e1 hA)]; exact ⟨f1, f2⟩
          · have e5 : (fun (ys : List D) (n : S) => q (.lst (ad ++ [e] ++ ys)) n) = fun ys n => q (.lst (ad ++ e :: ys)) n := by funext ys n; rw [List.append_assoc]; rfl
            rw [e5]; exact h5
        | false =>
          rw [if_neg Bool.false_ne_true, hP]
          have E3 := g2.ext.trans g3.ext
          exact ⟨Hs3, n3, acc, ad, hlt, Nat.le_succ_of_le hal, he.trans E3, s3, ownN (.refl _ _), hAl3, hAn3, g1.ext E3, h4⟩
    · have e : i = ds.length := by omega
      subst e
      rw [List.drop_length] at h
      refine .inl ⟨wd.stop n Hs H he s, ?_⟩
      have hs : Ext Hs (upd Hs A (.lst acc)) := Ext.of_same fun b u z => by
        rw [upd_ne (ne_of_none z hAn)]; exact z
      have sA : Sit K n (upd Hs A (.lst acc)) H := by
        have z := (s.put (o := .lst acc) hAn rfl rfl).1
        rwa [upd_id hAl] at z
      refine k _ H (upd Hs A (.lst acc)) (.lst ad) n ⟨he.trans hs, fun a o e1 e2 => ?_⟩ sA (.lst upd_same (g1.ext hs)) ?_
      · obtain ⟨f1, f2⟩ := own a o e1 e2
        rw [upd_ne (ne_of_none e1 hA)]; exact ⟨f1, f2⟩
      · have h' : q (.lst (ad ++ [])) n := h
        rw [List.append_nil] at h'; exact h'
theorem d_lc {elt it : Expr} {ifs : List Expr} {scope : Scope} {own : List (Str × Nat)} {ti : Ev → Wp (List D)} {g : D → Ev → Wp Ev} {tt : Ev → Wp Bool} {te : Ev → Wp D} {is : List Nat} (hN : X.N.Nodup) (ok : BlkOk X.N X.env.scope scope own) (hi : DI Γ X W tg it ti)
    (hg : ∀ (s : Shared) (H : Hp) (C : Addr) (cl : List (Str × Addr)) (fp : List Addr), DG (X.blk s H scope (compEnvC scope cl C X.env) fp) tg is g)
    (ht : ∀ (s : Shared) (H : Hp) (C : Addr) (cl : List (Str × Addr)) (fp : List Addr), DTs Γ (X.blk s H scope (compEnvC scope cl C X.env) fp) W0 ifs tt)
    (he : ∀ (s : Shared) (H : Hp) (C : Addr) (cl : List (Str × Addr)) (fp : List Addr), DE Γ (X.blk s H scope (compEnvC scope cl C X.env) fp) W0 elt te)
    (his : ∀ i ∈ is, i ∈ own.map (·.2) := by decide) (hc : X.calm = true := by rfl) (hs : ∀ x, foldedSetIterable it X.env x = pure x := by intro _; rfl) :
    DE Γ X W (.ListComp elt [⟨tg, it, ifs, 0⟩] scope pos) (tlc ti g tt te (own.map (·.2))) := by
  obtain ⟨wi, pi, fi⟩ := hi
  refine ⟨_, pe_lc (g := tgD X.K is g) (tt := ttD Γ X.K W0 tt) (te := teD Γ X.K W0 te) hc hN pi ok (fun s H C cl fp => (hg s H C cl fp).pg) (fun s H C cl fp => ht s H C cl fp) (fun s H C cl fp => (he s H C cl fp).pe) hs, fun σ H Hs ρ n q x Q s r h k ke => fi σ H Hs ρ n _ x _ s r h (fun J H1 Hs1 ds n1 g1 s1 wd h1 => ?_) ke⟩
  intro A hA
  exact lc_read his s1 wd (r.ext g1.ext) h1.1 h1.2 (k.go g1) A hA
/-- y = [..] -/
theorem ds_setLc (i : Nat) {y : Str} {py spos : Pos} {elt it : Expr} {ifs : List Expr} {scope : Scope} {own : List (Str × Nat)} {ti : Ev → Wp (List D)} {g : D → Ev → Wp Ev} {tt : Ev → Wp Bool} {te : Ev → Wp D} {is : List Nat} (hN : X.N.Nodup) (ok : BlkOk X.N X.env.scope scope own) (hi : DI Γ X W tg it ti)
    (hg : ∀ (s : Shared) (H : Hp) (C : Addr) (cl : List (Str × Addr)) (fp : List Addr), DG (X.blk s H scope (compEnvC scope cl C X.env) fp) tg is g)
    (ht : ∀ (s : Shared) (H : Hp) (C : Addr) (cl : List (Str × Addr)) (fp : List Addr), DTs Γ (X.blk s H scope (compEnvC scope cl C X.env) fp) W0 ifs tt)
    (he : ∀ (s : Shared) (H : Hp) (C : Addr) (cl : List (Str × Addr)) (fp : List Addr), DE Γ (X.blk s H scope (compEnvC scope cl C X.env) fp) W0 elt te)
    (hsw : swapsWith (.ListComp elt [⟨tg, it, ifs, 0⟩] scope pos) (some (.Name y py)) spos.line X.env = pure true) (hy : X.N[i]? = some y := by rfl) (hyl : X.env.scope.names.lookup y = some .local := by rfl)
    (his : ∀ i ∈ is, i ∈ own.map (·.2) := by decide) (hc : X.calm = true := by rfl) (hs : ∀ x, foldedSetIterable it X.env x = pure x := by intro _; rfl) :
    DS Γ X W (.Assign [.Name y py] (.ListComp elt [⟨tg, it, ifs, 0⟩] scope pos) spos) (tset i (tlc ti g tt te (own.map (·.2)))) := by
  obtain ⟨wi, pi, fi⟩ := hi
  refine ⟨_, ps_setLc (g := tgD X.K is g) (tt := ttD Γ X.K W0 tt) (te := teD Γ X.K W0 te) hc hN hy hyl hsw pi ok (fun s H C cl fp => (hg s H C cl fp).pg) (fun s H C cl fp => ht s H C cl fp) (fun s H C cl fp => (he s H C cl fp).pe) hs, fun σ H Hs ρ n q x E s r h k ke => fi σ H Hs ρ n _ x _ s r h (fun J H1 Hs1 ds n1 g1 s1 wd h1 => ?_) (ke σ)⟩
  intro A hA
  exact lc_read (q := fun d n => q (.nx (ρ.set i (some d))) n) his s1 wd (r.ext g1.ext) h1.1 h1.2 (fun v H2 Hs2 d n2 g2 s2 hv h2 => k (.nx _) n2 H2 Hs2 (g1.trans g2) s2 h2 _ ((r.ext (g1.trans g2).ext).set i hv)) A hA
end
end OE
/-! ### a dict and a tuple compared -/
namespace PySem.ODif
open PySem PySem.Spec PySem.SeqAt
theorem tuple_eq_declines_dict (l b : Addr) (items : Array Value) (n : Nat) (dt : Data) (dd dd2 : Option Addr) (sl sl2 : Array (Option Value)) :
    Meets (Builtin.«tuple.__eq__» ⟨[.ref l, .ref b], []⟩) (fun _ R s => s.heap.get? l = some { cls := .type "tuple", dict := dd, data := .seq items n, slots := sl } ∧ s.heap.get? b = some { cls := .type "dict", dict := dd2, data := dt, slots := sl2 } ∧ R (.ok (.ret .notImplemented)) s) :=
  .of_wp fun prog w A R s h => by obtain ⟨hp, g, d, tk, os⟩ := s; obtain ⟨hl, hb, h⟩ := h; have f1 := F.sub_dict_tuple; wp_walk using wpAny_loadPart' hl, wpAny_loadPart' hb; exact ⟨_, rfl, h⟩
theorem tuple_ne_declines_dict (l b : Addr) (items : Array Value) (n : Nat) (dt : Data) (dd dd2 : Option Addr) (sl sl2 : Array (Option Value)) :
    Meets (Builtin.«tuple.__ne__» ⟨[.ref l, .ref b], []⟩) (fun _ R s => s.heap.get? l = some { cls := .type "tuple", dict := dd, data := .seq items n, slots := sl } ∧ s.heap.get? b = some { cls := .type "dict", dict := dd2, data := dt, slots := sl2 } ∧ R (.ok (.ret .notImplemented)) s) :=
  .of_wp fun prog w A R s h => by obtain ⟨hp, g, d, tk, os⟩ := s; obtain ⟨hl, hb, h⟩ := h; have f1 := F.sub_dict_tuple; wp_walk using wpAny_loadPart' hl, wpAny_loadPart' hb; exact ⟨_, rfl, h⟩
section
variable {prog : Program} {w : World} {A : Around} {s : Shared} {E Q : Value → Shared → Prop} {a b : Addr} {items : Array Value}
theorem dict_eq_tuple (hdt : s.TypeIs (.ref a) "dict") (hb : s.heap.IsTuple b items) (hu : A.units < cLine) (h : Q (.bool false) s) : wpAny (model prog w) A (richCompare .Eq (.ref a) (.ref b)) Q E s := by
  have hT : s.TypeIs (.ref b) "tuple" := by
    obtain ⟨o2, h1, h2, _⟩ := hb
    exact ⟨_, h1, h2⟩
  obtain ⟨⟨cls2, dd2, data2, sl2⟩, ho2, hc2, n2, hd2⟩ := id hb
  simp only at hc2 hd2
  subst hc2 hd2
  obtain ⟨o, ho, hc⟩ := id hdt
  obtain ⟨cls, dd, dt, sl⟩ := o
  simp only at hc
  subst hc
  have hne : a ≠ b := fun e => by
    subst e
    rw [ho] at ho2
    simp at ho2
  refine rc_eq_decline_or (k := false) hdt hT (by decide) F.sub_tuple_dict F.slot_dict_eq F.slot_tuple_eq_refl (fun Q' hq => ?_) (fun _ hq => call_meets F.slot_tuple_eq_refl hT F.entry_tuple_eq (F.args_tuple_eq_2 _ _) (tuple_eq_declines_dict b a items n2 dt dd2 dd sl2 sl) ⟨ho2, ho, hq⟩)
    (fun _ hq => wpAny_isSame_ref_other hne ho ho2 (by simp) hq) (.inr hu) h
  refine wpAny_call_entry PySem.F.slot_dict_eq hdt PySem.F.entry_dict_eq ?_ (PySem.F.args_dict_eq_2 _ _)
  show wpAny _ _ (Builtin.Dict.dictSlotArgs "__eq__" ⟨[.ref a, .ref b], []⟩ >>= _) _ _ s
  refine wpAny_bind ?_
  unfold Builtin.Dict.dictSlotArgs
  refine wpAny_bind (wpAny_notOrdered_dict hdt ?_)
  show wpAny _ _ (pure (Value.ref a, Value.ref b)) _ _ s
  refine wpAny_pure ?_
  refine wpAny_bind (wpAny_isInstance (T := "tuple") hT PySem.F.sub_tuple_dict ?_)
  simp only [Bool.not_false, if_true]
  refine wpAny_bind (wpAny_rule ?_)
  exact wpAny_pure ⟨_, rfl, hq⟩
theorem dict_ne_tuple (hdt : s.TypeIs (.ref a) "dict") (hb : s.heap.IsTuple b items) (hu : A.units < cLine) (h : Q (.bool true) s) : wpAny (model prog w) A (richCompare .NotEq (.ref a) (.ref b)) Q E s := by
  have hT : s.TypeIs (.ref b) "tuple" := by
    obtain ⟨o2, h1, h2, _⟩ := hb
    exact ⟨_, h1, h2⟩
  obtain ⟨⟨cls2, dd2, data2, sl2⟩, ho2, hc2, n2, hd2⟩ := id hb
  simp only at hc2 hd2
  subst hc2 hd2
  obtain ⟨o, ho, hc⟩ := id hdt
  obtain ⟨cls, dd, dt, sl⟩ := o
  simp only at hc
  subst hc
  have hne : a ≠ b := fun e => by
    subst e
    rw [ho] at ho2
    simp at ho2
  refine rc_ne_decline_or (k := false) hdt hT (by decide) F.sub_tuple_dict F.slot_dict_ne F.slot_tuple_ne_refl (fun Q' hq => ?_) (fun _ hq => call_meets F.slot_tuple_ne_refl hT F.entry_tuple_ne (F.args_tuple_ne_2 _ _) (tuple_ne_declines_dict b a items n2 dt dd2 dd sl2 sl) ⟨ho2, ho, hq⟩)
    (fun _ hq => wpAny_isSame_ref_other hne ho ho2 (by simp) hq) (.inr hu) h
  refine wpAny_call_entry PySem.F.slot_dict_ne hdt PySem.F.entry_dict_ne ?_ (PySem.F.args_dict_ne_2 _ _)
  show wpAny _ _ (Builtin.Dict.dictSlotArgs "__ne__" ⟨[.ref a, .ref b], []⟩ >>= _) _ _ s
  refine wpAny_bind ?_
  unfold Builtin.Dict.dictSlotArgs
  refine wpAny_bind (wpAny_notOrdered_dict hdt ?_)
  show wpAny _ _ (pure (Value.ref a, Value.ref b)) _ _ s
  refine wpAny_pure ?_
  refine wpAny_bind (wpAny_isInstance (T := "tuple") hT PySem.F.sub_tuple_dict ?_)
  simp only [Bool.not_false, if_true]
  refine wpAny_bind (wpAny_rule ?_)
  exact wpAny_pure ⟨_, rfl, hq⟩
end
end PySem.ODif
/-! ### data that stands in a heap, its dicts not the modules' -/
namespace PySem
namespace ORepr
mutual
inductive RS (h : Heap) : Value → PyData → Prop
  | none : RS h .none .none
  | bool (b : Bool) : RS h (.bool b) (.bool b)
  | int (i : Int) (t : Tok) : RS h (.int i t) (.int i)
  | str (x : Str) (t : Tok) : RS h (.str x t) (.str x)
  | list {a : Addr} {o : Obj} {vs : Array Value} {n : Nat} {xs : List PyData} (h1 : h.get? a = some o) (h2 : o.cls = .type "list") (h3 : o.data = .seq vs n) (h4 : RSAll h vs.toList xs) : RS h (.ref a) (.list xs)
  | tuple {a : Addr} {o : Obj} {vs : Array Value} {n : Nat} {xs : List PyData} (h1 : h.get? a = some o) (h2 : o.cls = .type "tuple") (h3 : o.data = .seq vs n) (h4 : RSAll h vs.toList xs) : RS h (.ref a) (.tuple xs)
  | dict {a : Addr} {o : Obj} {es : Array DictEntry} {n : Nat} {kvs : List (PyData × PyData)} (h1 : h.get? a = some o) (h2 : o.cls = .type "dict") (h3 : o.data = .dict es n) (hs : (a == sysModules) = false)
      (h4 : RSAll h (es.toList.map (·.key)) (kvs.map (·.1))) (h5 : RSAll h (es.toList.map (·.val)) (kvs.map (·.2))) : RS h (.ref a) (.dict kvs)
inductive RSAll (h : Heap) : List Value → List PyData → Prop
  | nil : RSAll h [] []
  | cons {v : Value} {vs : List Value} {d : PyData} {ds : List PyData} (r : RS h v d) (rs : RSAll h vs ds) : RSAll h (v :: vs) (d :: ds)
end
mutual
theorem RS.reads {h : Heap} : ∀ {v : Value} {d : PyData}, RS h v d → ∃ as, Reads h v d as
  | _, _, .none => ⟨_, .none⟩
  | _, _, .bool b => ⟨_, .bool b⟩
  | _, _, .int i t => ⟨_, .int i t⟩
  | _, _, .str x t => ⟨_, .str x t⟩
  | _, _, .list h1 h2 h3 h4 => let ⟨_, r⟩ := RSAll.reads h4; ⟨_, .list h1 h2 h3 r⟩
  | _, _, .tuple h1 h2 h3 h4 => let ⟨_, r⟩ := RSAll.reads h4; ⟨_, .tuple h1 h2 h3 r⟩
  | _, _, .dict h1 h2 h3 _ h4 h5 => let ⟨_, r⟩ := RSAll.reads h4; let ⟨_, r'⟩ := RSAll.reads h5; ⟨_, .dict h1 h2 h3 r r'⟩
theorem RSAll.reads {h : Heap} : ∀ {v : List Value} {d : List PyData}, RSAll h v d → ∃ as, ReadsAll h v d as
  | _, _, .nil => ⟨_, .nil⟩
  | _, _, .cons r rs => let ⟨_, a⟩ := RS.reads r; let ⟨_, b⟩ := RSAll.reads rs; ⟨_, .cons a b⟩
end
section
variable {prog : Program} {w : World} {h : Heap}
theorem nomem (d : Nat) : ReadAtMost h d [] := fun _ z => nomatch z
mutual
theorem RS.rk : ∀ {v : Value} {d : PyData}, RS h v d → d.showable = true → d.shown.length ≤ sizeLine → ∃ bs, ReadAtMost h d.depth bs ∧ ReprK prog w bs h d.depth v d.shown
  | _, _, .none, _, _ => ⟨[], nomem _, by rw [PyData.shown]; exact .of_is ReprIs.none _ _ _⟩
  | _, _, .bool b, _, _ => ⟨[], nomem _, by rw [PyData.shown]; exact .of_is (ReprIs.bool b) _ _ _⟩
  | _, _, .int i t, s, _ => ⟨[], nomem _, by rw [PyData.shown]; exact .of_is (ReprIs.int t (by simpa [PyData.showable] using s)) _ _ _⟩
  | _, _, .str x t, _, z => ⟨[], nomem _, by rw [PyData.shown] at z ⊢; exact .of_is (ReprIs.str x t z) _ _ _⟩
  | _, _, .list (a := a) (vs := vs) (xs := xs) h1 h2 h3 h4, s, z => by
    rw [PyData.shown] at z
    obtain ⟨bs, hb, hk⟩ := RSAll.rk h4 (by simpa [PyData.showable] using s) fun t ht => Nat.le_trans (listText_mem_le ht) z
    obtain ⟨as, r⟩ := RS.reads (RS.list h1 h2 h3 h4)
    have up : PyData.depthAll xs < (PyData.list xs).depth := by simp only [PyData.depth]; omega
    have ne : a ∉ bs := not_mem_of_deeper r up hb
    refine ⟨a :: bs, ReadAtMost.cons r (Nat.le_of_lt up) hb, ?_⟩
    simp only [PyData.depth, PyData.shown]
    obtain ⟨l⟩ := vs
    cases l with
    | nil =>
      cases (show RSAll h [] xs from h4)
      rw [PyData.shownAll, listText_nil]
      exact ReprK.listEmpty h1 h2 h3
    | cons x l => exact ReprK.list h1 h2 h3 ne (by simpa using hk.length_eq) fun i y e => hk.item i y (by simpa using e)
  | _, _, .tuple (a := a) (xs := xs) h1 h2 h3 h4, s, z => by
    rw [PyData.shown] at z
    obtain ⟨bs, hb, hk⟩ := RSAll.rk h4 (by simpa [PyData.showable] using s) fun t ht => Nat.le_trans (tupleText_mem_le ht) z
    obtain ⟨as, r⟩ := RS.reads (RS.tuple h1 h2 h3 h4)
    have up : PyData.depthAll xs < (PyData.tuple xs).depth := by simp only [PyData.depth]; omega
    refine ⟨a :: bs, ReadAtMost.cons r (Nat.le_of_lt up) hb, ?_⟩
    simp only [PyData.depth, PyData.shown]
    exact ReprK.tuple h1 h2 h3 (not_mem_of_deeper r up hb) hk
  | _, _, .dict (a := a) (es := es) (kvs := kvs) h1 h2 h3 hs h4 h5, s, z => by
    rw [PyData.shown] at z
    obtain ⟨z1, z2⟩ := PyData.showableKv_split kvs (by simpa [PyData.showable] using s)
    obtain ⟨b1, m1, k1⟩ := RSAll.rk h4 z1 fun t ht => let ⟨p, hp, hl⟩ := PyData.shownKv_key_le kvs t ht; Nat.le_trans hl (Nat.le_trans (dictText_mem_le hp) z)
    obtain ⟨b2, m2, k2⟩ := RSAll.rk h5 z2 fun t ht => let ⟨p, hp, hl⟩ := PyData.shownKv_val_le kvs t ht; Nat.le_trans hl (Nat.le_trans (dictText_mem_le hp) z)
    obtain ⟨as, r⟩ := RS.reads (RS.dict h1 h2 h3 hs h4 h5)
    have hb : ReadAtMost h (PyData.depthKv kvs) (b1 ++ b2) := (m1.mono (PyData.depthAll_keys_le kvs)).append (m2.mono (PyData.depthAll_vals_le kvs))
    have up : PyData.depthKv kvs < (PyData.dict kvs).depth := by simp only [PyData.depth]; omega
    refine ⟨a :: (b1 ++ b2), ReadAtMost.cons r (Nat.le_of_lt up) hb, ?_⟩
    simp only [PyData.depth, PyData.shown, PyData.shownKv_eq]
    exact ReprK.dict h1 h2 h3 hs (not_mem_of_deeper r up hb) (ReprEntriesK.of_two es.toList _ _ (k1.more_le (fun b q => List.mem_append_left _ q) (PyData.depthAll_keys_le kvs)) (k2.more_le (fun b q => List.mem_append_right _ q) (PyData.depthAll_vals_le kvs)))
theorem RSAll.rk : ∀ {vs : List Value} {ds : List PyData}, RSAll h vs ds → PyData.showableAll ds = true → (∀ t ∈ PyData.shownAll ds, t.length ≤ sizeLine) → ∃ bs, ReadAtMost h (PyData.depthAll ds) bs ∧ ReprAllK prog w bs h (PyData.depthAll ds) vs (PyData.shownAll ds)
  | _, _, .nil, _, _ => ⟨[], nomem _, by rw [PyData.shownAll]; exact .nil⟩
  | _, _, .cons (d := d) (ds := ds) r rs, s, z => by
    have s' : d.showable = true ∧ PyData.showableAll ds = true := by simpa [PyData.showableAll] using s
    simp only [PyData.shownAll] at z
    obtain ⟨b1, m1, k1⟩ := RS.rk r s'.1 (z _ List.mem_cons_self)
    obtain ⟨b2, m2, k2⟩ := RSAll.rk rs s'.2 fun t ht => z t (List.mem_cons_of_mem _ ht)
    simp only [PyData.depthAll, PyData.shownAll]
    refine ⟨b1 ++ b2, (m1.mono (Nat.le_max_left _ _)).append (m2.mono (Nat.le_max_right _ _)), ?_⟩
    exact .cons ((k1.more fun b q => List.mem_append_left _ q).level_le (Nat.le_max_left _ _)) (k2.more_le (fun b q => List.mem_append_right _ q) (Nat.le_max_right _ _))
end
variable {A : Around} {E : Value → Shared → Prop} {s : Shared} {Q : Value → Shared → Prop}
/-- repr(x) -/
theorem repr_of {v : Value} {d : PyData} (r : RS s.heap v d) (hs : d.showable = true) (hz : d.shown.length ≤ sizeLine) (hg : A.guards = some []) (hu : A.units + (d.depth + 1) < cLine) 
    (hQ : ∀ h' u tk, (∀ b o, s.heap.get? b = some o → h'.get? b = some o) → Q (.str d.shown u) { s with heap := h', toks := tk }) : wpAny (model prog w) A (call (.builtin "repr") [v]) Q E s := by
  have same : ∀ b o, s.heap.get? b = some o → s.heap.get? b = some o := fun _ _ e => e
  cases r with
  | none => exact PySem.P.repr_of_none (by rw [PyData.shown] at hQ; exact hQ _ _ _ same)
  | bool b => exact PySem.P.repr_of_bool (by rw [PyData.shown] at hQ; exact hQ _ _ _ same)
  | int i t => exact PySem.P.repr_of_int (by simpa [PyData.showable] using hs) (by rw [PyData.shown] at hQ; exact hQ _ _ _ same)
  | str x t => exact PySem.P.repr_of_str (by rw [PyData.shown] at hQ; exact hQ _ _ _ same) (by rw [PyData.shown] at hz; exact hz)
  | @list a o vs n xs h1 h2 h3 h4 =>
    simp only [PyData.shown] at hz hQ
    obtain ⟨as, rr⟩ := RS.reads (RS.list h1 h2 h3 h4)
    obtain ⟨bs, hb, hk⟩ := RSAll.rk (prog := prog) (w := w) h4 (by simpa [PyData.showable] using hs) fun t ht => Nat.le_trans (listText_mem_le ht) hz
    have up : PyData.depthAll xs < (PyData.list xs).depth := by simp only [PyData.depth]; omega
    simp only [PyData.depth] at hu
    refine call_repr_slot (by omega) ⟨o, h1, h2⟩ F.slot_list_repr.toG ?_
    obtain ⟨l⟩ := vs
    cases l with
    | nil =>
      cases (show RSAll s.heap [] xs from h4)
      simp only [PyData.shownAll, listText_nil] at hQ
      exact call_list_repr_empty ⟨o, h1, h2⟩ h1 h3 ⟨_, _, rfl, hQ _ _ _ same⟩
    | cons x l => exact call_list_reprK h1 h2 h3 (not_mem_of_deeper rr up hb) (by simpa using hk.length_eq) (fun i y e => hk.item i y (by simpa using e)) hg (fun b _ => Clear.nil b) (by show A.units + 1 + _ < _; omega) same (fun h' u tk q => ⟨_, _, rfl, hQ h' u tk q⟩) hz
  | @tuple a o vs n xs h1 h2 h3 h4 =>
    simp only [PyData.shown] at hz hQ
    obtain ⟨as, rr⟩ := RS.reads (RS.tuple h1 h2 h3 h4)
    obtain ⟨bs, hb, hk⟩ := RSAll.rk (prog := prog) (w := w) h4 (by simpa [PyData.showable] using hs) fun t ht => Nat.le_trans (tupleText_mem_le ht) hz
    have up : PyData.depthAll xs < (PyData.tuple xs).depth := by simp only [PyData.depth]; omega
    simp only [PyData.depth] at hu
    exact call_repr_slot (by omega) ⟨o, h1, h2⟩ F.slot_tuple_repr (call_tuple_reprK h1 h2 h3 (not_mem_of_deeper rr up hb) hk hg (fun b _ => Clear.nil b) (by show A.units + 1 + _ < _; omega) same (fun h' u tk q => ⟨_, _, rfl, hQ h' u tk q⟩) hz)
  | @dict a o es n kvs h1 h2 h3 hm h4 h5 =>
    simp only [PyData.shown] at hz
    obtain ⟨z1, z2⟩ := PyData.showableKv_split kvs (by simpa [PyData.showable] using hs)
    obtain ⟨b1, m1, k1⟩ := RSAll.rk (prog := prog) (w := w) h4 z1 fun t ht => let ⟨p, hp, hl⟩ := PyData.shownKv_key_le kvs t ht; Nat.le_trans hl (Nat.le_trans (dictText_mem_le hp) hz)
    obtain ⟨b2, m2, k2⟩ := RSAll.rk (prog := prog) (w := w) h5 z2 fun t ht => let ⟨p, hp, hl⟩ := PyData.shownKv_val_le kvs t ht; Nat.le_trans hl (Nat.le_trans (dictText_mem_le hp) hz)
    obtain ⟨as, rr⟩ := RS.reads (RS.dict h1 h2 h3 hm h4 h5)
    have hb : ReadAtMost s.heap (PyData.depthKv kvs) (b1 ++ b2) := (m1.mono (PyData.depthAll_keys_le kvs)).append (m2.mono (PyData.depthAll_vals_le kvs))
    have up : PyData.depthKv kvs < (PyData.dict kvs).depth := by simp only [PyData.depth]; omega
    simp only [PyData.depth] at hu
    simp only [PyData.shown, PyData.shownKv_eq] at hQ
    exact call_repr_slot (by omega) ⟨o, h1, h2⟩ F.slot_dict_repr (call_dict_reprK h1 h2 h3 hm (not_mem_of_deeper rr up hb) (ReprEntriesK.of_two es.toList _ _ (k1.more_le (fun b q => List.mem_append_left _ q) (PyData.depthAll_keys_le kvs)) (k2.more_le (fun b q => List.mem_append_right _ q) (PyData.depthAll_vals_le kvs)))
      hg (fun b _ => Clear.nil b) (by show A.units + 1 + _ < _; omega) same (fun h' u tk q => ⟨_, _, rfl, hQ h' u tk q⟩) (by rw [← PyData.shownKv_eq]; exact hz))
end
end ORepr
end PySem
namespace OE
open PySem PySem.Spec L2
variable [TN]
mutual
noncomputable def D.py : D → PyData
  | .non => .none
  | .bl b => .bool b
  | .int i => .int i
  | .str x => .str x
  | .lst l => .list (D.pyAll l)
  | .scr l => .list (l.map PyData.int)
  | .tup l => .tuple (D.pyAll l)
  | .dic l => .dict (D.pyKv l)
  | .m => .none
  | .exn _ _ _ => .none
  | .clo _ _ => .none
  | .mref _ => .none
  | .obj _ _ => .none
  | .dit _ => .none
noncomputable def D.pyAll : List D → List PyData
  | [] => []
  | d :: ds => d.py :: D.pyAll ds
noncomputable def D.pyKv : List (D × D) → List (PyData × PyData)
  | [] => []
  | (k, d) :: ds => (k.py, d.py) :: D.pyKv ds
end
noncomputable def kPlain : D → Bool
  | .tup _ => false
  | _ => true
mutual
noncomputable def D.plain : D → Bool
  | .m => false
  | .exn _ _ _ => false
  | .clo _ _ => false
  | .mref _ => false
  | .obj _ _ => false
  | .dit _ => false
  | .lst l => D.plainAll l
  | .tup l => D.plainAll l
  | .dic l => D.plainKv l
  | _ => true
noncomputable def D.plainAll : List D → Bool
  | [] => true
  | d :: ds => d.plain && D.plainAll ds
noncomputable def D.plainKv : List (D × D) → Bool
  | [] => true
  | (k, d) :: ds => kPlain k && (d.plain && D.plainKv ds)
end
section
variable {X : Cx} {pins : List (Addr × Obj)} {σ : St} {H Hs : Hp} {s : Shared}
theorem rs_ints {h : Heap} : ∀ {ns : List Int} {us : List Value}, Vals (ns.map V.int) us → ORepr.RSAll h us (ns.map PyData.int)
  | [], _, .nil => .nil
  | n :: ns, _, .cons r rr => by
    obtain ⟨t, rfl⟩ := r
    exact .cons (.int n t) (rs_ints rr)
theorem pairs_keys {P : Program} {w : World} : ∀ {es : List DictEntry} {kvs : List (Key × Value)}, Pairs (mixKind P w) es kvs → ∀ h : Heap, ORepr.RSAll h (es.map (·.key)) (kvs.map fun p => (kD p.1).py)
  | _, _, .nil, h => .nil
  | _, _, .cons k _ r, h => by
    rcases keyIs_shape k with ⟨i, t, e1, e2⟩ | ⟨x, t, e1, e2⟩
    · rw [List.map_cons, List.map_cons, e1, e2]
      exact .cons (by unfold kD; rw [D.py]; exact .int i t) (pairs_keys r h)
    · rw [List.map_cons, List.map_cons, e1, e2]
      exact .cons (by unfold kD; rw [D.py]; exact .str x t) (pairs_keys r h)
theorem pairs_vals {P : Program} {w : World} : ∀ {es : List DictEntry} {kvs : List (Key × Value)}, Pairs (mixKind P w) es kvs → es.map (·.val) = kvs.map (·.2)
  | _, _, .nil => rfl
  | _, _, .cons _ e r => by rw [List.map_cons, List.map_cons, e, pairs_vals r]
mutual
theorem Dv.rs (I : Inv X pins σ H s) (sub : SameK Hs H) : ∀ {d : D} {v : V} {u : Value}, Dv X.K Hs v d → RelV v u → d.plain = true → ORepr.RS s.heap u d.py
  | .non, _, _, .non, r, _ => by cases r; rw [D.py]; exact .none
  | .bl b, _, _, .bl _, r, _ => by cases r; rw [D.py]; exact .bool b
  | .int i, _, _, .int _, r, _ => by obtain ⟨t, rfl⟩ := r; rw [D.py]; exact .int i t
  | .str x, _, _, .str _, r, _ => by obtain ⟨t, rfl⟩ := r; rw [D.py]; exact .str x t
  | .lst l, _, _, .lst h g, r, p => by
    cases r
    obtain ⟨its, rv, ⟨o, n, ho, hc, _, hd⟩, _⟩ := I.list (SqL.of (sub _ _ h rfl))
    rw [D.py]
    exact .list ho hc hd (DvAll.rs I sub g rv (by simpa [D.plain] using p))
  | .scr l, _, _, .scr h, r, p => by
    cases r
    obtain ⟨its, rv, ⟨o, n, ho, hc, _, hd⟩, _⟩ := I.list ((SameK.ext sub).lst h)
    rw [D.py]
    exact .list ho hc hd (rs_ints rv)
  | .tup l, _, _, .tup h g, r, p => by
    cases r
    obtain ⟨its, rv, ⟨o, ho, hc, n, hd⟩, _⟩ := I.tuple (SqT.of (sub _ _ h rfl))
    rw [D.py]
    exact .tuple ho hc hd (DvAll.rs I sub g rv (by simpa [D.plain] using p))
  | .dic l, _, _, .dic h z g, r, p => by
    cases r
    obtain ⟨_, hm, vs, rv, o, es, ep, ho, hx, hd, _, hp, _⟩ := I.hok _ _ (sub _ _ h rfl)
    rw [D.py]
    obtain ⟨k1, k2⟩ := DvKv.rs I sub g rv (by simpa [D.plain] using p)
    refine .dict ho hx.1 hd hm ?_ ?_
    · rw [← k1]; exact pairs_keys hp _
    · rw [pairs_vals hp]; exact k2
  | .dit _, _, _, _, _, p => by simp [D.plain] at p
  | .mref _, _, _, _, _, p => by simp [D.plain] at p
  | .obj _ _, _, _, _, _, p => by simp [D.plain] at p
  | .m, _, _, _, _, p => by simp [D.plain] at p
  | .exn _ _ _, _, _, _, _, p => by simp [D.plain] at p
  | .clo _ _, _, _, _, _, p => by simp [D.plain] at p
theorem DvAll.rs (I : Inv X pins σ H s) (sub : SameK Hs H) : ∀ {d : List D} {v : List V} {u : List Value}, DvAll X.K Hs v d → Vals v u → D.plainAll d = true → ORepr.RSAll s.heap u (D.pyAll d)
  | [], _, _, .nil, r, _ => by cases r; rw [D.pyAll]; exact .nil
  | d :: ds, _, _, .cons h g, r, p => by
    cases r with
    | cons r rr =>
      have p' : d.plain = true ∧ D.plainAll ds = true := by simpa [D.plainAll] using p
      rw [D.pyAll]
      exact .cons (Dv.rs I sub h r p'.1) (DvAll.rs I sub g rr p'.2)
theorem DvKv.rs (I : Inv X pins σ H s) (sub : SameK Hs H) : ∀ {d : List (D × D)} {v : List (Key × V)} {u : List (Key × Value)}, DvKv X.K Hs v d → KV v u → D.plainKv d = true → (u.map fun p => (kD p.1).py) = (D.pyKv d).map (·.1) ∧ ORepr.RSAll s.heap (u.map (·.2)) ((D.pyKv d).map (·.2))
  | [], _, _, .nil, r, _ => by
    cases r
    rw [D.pyKv]
    exact ⟨rfl, .nil⟩
  | _ :: ds, _, _, .cons h g, r, p => by
    cases r with
    | @cons a b _ _ r rr =>
      have p'' : _ ∧ _ := Bool.and_eq_true_iff.mp (by rw [D.plainKv] at p; exact p)
      have p' : _ ∧ _ := Bool.and_eq_true_iff.mp p''.2
      obtain ⟨k1, k2⟩ := DvKv.rs I sub g rr p'.2
      obtain ⟨e1, e2⟩ := r
      rw [D.pyKv]
      refine ⟨?_, ?_⟩
      · rw [List.map_cons, List.map_cons, k1, ← e1]
      · rw [List.map_cons, List.map_cons]
        exact .cons (Dv.rs I sub h e2 p'.1) k2
end
end
/-! ### repr -/
noncomputable def D.rpr (d : D) : Str := d.py.shown
noncomputable def reprOk (d : D) : Prop := d.plain = true ∧ d.py.showable = true ∧ d.py.shown.length ≤ sizeLine ∧ d.py.depth ≤ 60
noncomputable def fRepr : List D → Wp D
  | [d] => Wp.bind (Wp.ask (reprOk d)) fun _ => Wp.ret (.str d.rpr)
  | _ => Wp.stuck
/-- what is compared at once -/
noncomputable def quick : D → D → Option Bool
  | .str x, .str y => some (decide (x = y))
  | .int i, .int j => some (decide (i = j))
  | .tup l, .tup [] => some l.isEmpty
  | .lst l, .lst [] => some l.isEmpty
  | .dic _, .tup _ => some false
  | _, _ => none
noncomputable def fCmp (neg : Bool) : D → D → Wp D := fun a b => match quick a b with
  | some r => Wp.ret (.bl (neg.xor r))
  | none => Wp.bind (Wp.ask (a.plain = true ∧ b.plain = true ∧ SeqAt.shaped a.py = true ∧ SeqAt.shaped b.py = true)) fun _ => Wp.ret (.bl (neg.xor (PyData.eqv a.py b.py)))
noncomputable abbrev fEq := fCmp false
noncomputable abbrev fNe := fCmp true
section
variable {Γ : Gam} {X : Cx} {W : WX} {a b c : Expr} {ta tb tc : Ev → Wp D} {pos : Pos}
/-- what the rules over data read, from the shared part -/
noncomputable def rData (K : PySem.W.Frag) (f : D → Prop) (g : D → V) : List V → Hp → VK → Prop := fun xs H Q => ∃ (x : V) (d : D) (Hs : Hp) (n : S), xs = [x] ∧ Sit K n Hs H ∧ Dv K Hs x d ∧ f d ∧ Q (g d) H
theorem call_reprD (hg : X.A.guards = some []) (hu : X.A.units + 64 < cLine) : CallR X (.builtin "repr") (rData X.K reprOk fun d => .str d.rpr) := by
  intro pins s σ H xs us Q I r h
  obtain ⟨x, d, Hs, n, rfl, st, hv, hd, q⟩ := h
  rcases r with _ | ⟨r, rr⟩
  cases rr
  exact ORepr.repr_of (hv.rs I st.subK r hd.1) hd.2.1 hd.2.2.1 hg (by have := hd.2.2.2; omega) fun h' u tk k => ⟨.str d.rpr, H, I.kept k, ⟨u, rfl⟩, q⟩
theorem cd_repr {K : PySem.W.Frag} : CD K (rData K reprOk fun d => .str d.rpr) fRepr := by
  intro xs ds H Hs n q e Q s hx h k
  rcases hx with _ | ⟨hv, _ | ⟨hw, _⟩⟩
  · exact (show False from h).elim
  · exact ⟨_, _, Hs, n, rfl, s, hv, h.1, k _ H Hs _ n (.refl _ _) s (.str _) h.2⟩
  · exact (show False from h).elim
theorem d_repr {p : Pos} {t : Ev → Wp (List D)} (hgd : X.A.guards = some []) (hu : X.A.units + 64 < cLine) (hm : X.mg "repr" = none) (ha : DA Γ X W [a] t) (hg : Gl X "repr" := by rfl) (he : starEach [a] X.env = (false, eval a X.env) :: starEach [] X.env := by rfl) (hpl : (backTo pos (starEach [] X.env)).any (·.1) = false := by rfl) :
    DE Γ X W (.Call (.Name "repr" p) [a] [] pos) (tcall fRepr t) := d_callB (call_reprD hgd hu) cd_repr hg hm PyProof.Rows.boot_repr ha (by decide) (by decide) he hpl
/-! ### == and != -/
noncomputable def rCmpD (K : PySem.W.Frag) (f : PyData → PyData → Bool) : R2 := fun x y H Q => ∃ (a b : D) (Hs : Hp) (n : S), Sit K n Hs H ∧ Dv K Hs x a ∧ Dv K Hs y b ∧ (a.plain = true ∧ b.plain = true ∧ SeqAt.shaped a.py = true ∧ SeqAt.shaped b.py = true) ∧ Q (.bl (f a.py b.py)) H
theorem op_eqA (hu : X.A.units + 64 < cLine) : OpR X (compareOp .Eq) (rCmpD X.K PyData.eqv) := by
  intro pins s σ H x y v u Q I rx ry h
  obtain ⟨a, b, Hs, n, st, h1, h2, ⟨p1, p2, s1, s2⟩, q⟩ := h
  obtain ⟨as, r1⟩ := (h1.rs I st.subK rx p1).reads
  obtain ⟨bs, r2⟩ := (h2.rs I st.subK ry p2).reads
  exact SeqAt.compareEq_shaped r1 r2 s1 s2 hu ⟨.bl _, H, I, rfl, q⟩
theorem op_neA (hu : X.A.units + 64 < cLine) : OpR X (compareOp .NotEq) (rCmpD X.K fun a b => !PyData.eqv a b) := by
  intro pins s σ H x y v u Q I rx ry h
  obtain ⟨a, b, Hs, n, st, h1, h2, ⟨p1, p2, s1, s2⟩, q⟩ := h
  obtain ⟨as, r1⟩ := (h1.rs I st.subK rx p1).reads
  obtain ⟨bs, r2⟩ := (h2.rs I st.subK ry p2).reads
  exact SeqAt.compareNe_shaped r1 r2 s1 s2 hu ⟨.bl _, H, I, rfl, q⟩
/-- a sequence and an empty one -/
noncomputable def rEmp (K : PySem.W.Frag) (neg : Bool) : R2 := fun x y H Q => ∃ a b xs, x = .ref a ∧ y = .ref b ∧ ((SqT K H a xs ∧ SqT K H b []) ∨ (SqL K H a xs ∧ SqL K H b [])) ∧ Q (.bl (neg.xor xs.isEmpty)) H
theorem isE_len {α : Type} (l : List α) : l.isEmpty = (l.length == 0) := by cases l <;> rfl
theorem op_eqE (hu : X.A.units + 64 < cLine) : OpR X (compareOp .Eq) (rEmp X.K false) := by
  intro pins s σ H x y v u Q I rx ry h
  obtain ⟨a, b, xs, rfl, rfl, h, q⟩ := h
  obtain rfl : v = Value.ref a := rx
  obtain rfl : u = Value.ref b := ry
  have hu' : X.A.units < cLine := by omega
  rcases h with ⟨h1, h2⟩ | ⟨h1, h2⟩
  · obtain ⟨its, rv, ⟨o, ho, hc, n, hd⟩, _⟩ := I.tuple h1
    obtain ⟨its2, rv2, ⟨o2, ho2, hc2, n2, hd2⟩, _⟩ := I.tuple h2
    cases rv2
    refine SeqAt.RcAt.tuples (e := fun _ => true) ⟨o, ho, hc, n, hd⟩ ⟨o2, ho2, hc2, n2, hd2⟩ hu' (fun j _ j2 => absurd j2 (by simp)) _ _ _ _ (fin_bl I q ?_)
    rw [isE_len, rv.length]; simp
  · obtain ⟨its, rv, ⟨o, n, ho, hc, dd, hd⟩, _⟩ := I.list h1
    obtain ⟨its2, rv2, ⟨o2, n2, ho2, hc2, dd2, hd2⟩, _⟩ := I.list h2
    cases rv2
    by_cases hz : its.toArray.size = 0
    · refine SeqAt.RcAt.lists (e := fun _ => true) ⟨o, ho, hc, n, hd⟩ ⟨o2, ho2, hc2, n2, hd2⟩ (by rw [hz]; rfl) hu' (fun j _ j2 => absurd j2 (by simp)) _ _ _ _ (fin_bl I q ?_)
      rw [isE_len, rv.length]; simp at hz; simp [hz]
    · refine SeqAt.RcAt.lists_lengths ⟨o, ho, hc, n, hd⟩ ⟨o2, ho2, hc2, n2, hd2⟩ (by simpa using hz) hu' _ _ _ _ (fin_bl I q ?_)
      rw [isE_len, rv.length]; simp at hz; simp [hz]
theorem op_neE (hu : X.A.units + 64 < cLine) : OpR X (compareOp .NotEq) (rEmp X.K true) := by
  intro pins s σ H x y v u Q I rx ry h
  obtain ⟨a, b, xs, rfl, rfl, h, q⟩ := h
  obtain rfl : v = Value.ref a := rx
  obtain rfl : u = Value.ref b := ry
  have hu' : X.A.units < cLine := by omega
  rcases h with ⟨h1, h2⟩ | ⟨h1, h2⟩
  · obtain ⟨its, rv, ⟨o, ho, hc, n, hd⟩, _⟩ := I.tuple h1
    obtain ⟨its2, rv2, ⟨o2, ho2, hc2, n2, hd2⟩, _⟩ := I.tuple h2
    cases rv2
    refine SeqAt.RcNeAt.tuples (e := fun _ => true) ⟨o, ho, hc, n, hd⟩ ⟨o2, ho2, hc2, n2, hd2⟩ hu' (fun j _ j2 => absurd j2 (by simp)) _ _ _ _ (fin_bl I q ?_)
    rw [isE_len, rv.length]; simp
  · obtain ⟨its, rv, ⟨o, n, ho, hc, dd, hd⟩, _⟩ := I.list h1
    obtain ⟨its2, rv2, ⟨o2, n2, ho2, hc2, dd2, hd2⟩, _⟩ := I.list h2
    cases rv2
    by_cases hz : its.toArray.size = 0
    · refine SeqAt.RcNeAt.lists (e := fun _ => true) ⟨o, ho, hc, n, hd⟩ ⟨o2, ho2, hc2, n2, hd2⟩ (by rw [hz]; rfl) hu' (fun j _ j2 => absurd j2 (by simp)) _ _ _ _ (fin_bl I q ?_)
      rw [isE_len, rv.length]; simp at hz; simp [hz]
    · refine SeqAt.RcNeAt.lists_lengths ⟨o, ho, hc, n, hd⟩ ⟨o2, ho2, hc2, n2, hd2⟩ (by simpa using hz) hu' _ _ _ _ (fin_bl I q ?_)
      rw [isE_len, rv.length]; simp at hz; simp [hz]
/-- a dict and a tuple -/
noncomputable def rDif (K : PySem.W.Frag) (neg : Bool) : R2 := fun x y H Q => ∃ a b xs, x = .ref a ∧ y = .ref b ∧ ((∃ kvs, H a = some (.dK kvs)) ∨ ∃ kvs, H a = some (.dT kvs)) ∧ SqT K H b xs ∧ Q (.bl neg) H
theorem op_eqF (hu : X.A.units + 64 < cLine) : OpR X (compareOp .Eq) (rDif X.K false) := by
  intro pins s σ H x y v u Q I rx ry h
  obtain ⟨a, b, xs, rfl, rfl, hd, h2, q⟩ := h
  obtain rfl : v = Value.ref a := rx
  obtain rfl : u = Value.ref b := ry
  obtain ⟨its2, rv2, ⟨o2, ho2, hc2, n2, hd2⟩, _⟩ := I.tuple h2
  rcases hd with ⟨kvs, hd⟩ | ⟨kvs, hd⟩
  · obtain ⟨_, _, vs, _, p⟩ := (show ObjOk X.prog X.w H s.heap a (.dK kvs) from I.hok a _ hd)
    exact ODif.dict_eq_tuple p.typeIs ⟨o2, ho2, hc2, n2, hd2⟩ (by omega) (fin_bl I q rfl)
  · obtain ⟨_, _, vs, _, o, es, ep, ho, hx, _⟩ := (show ObjOk X.prog X.w H s.heap a (.dT kvs) from I.hok a _ hd)
    exact ODif.dict_eq_tuple ⟨o, ho, hx.1⟩ ⟨o2, ho2, hc2, n2, hd2⟩ (by omega) (fin_bl I q rfl)
theorem op_neF (hu : X.A.units + 64 < cLine) : OpR X (compareOp .NotEq) (rDif X.K true) := by
  intro pins s σ H x y v u Q I rx ry h
  obtain ⟨a, b, xs, rfl, rfl, hd, h2, q⟩ := h
  obtain rfl : v = Value.ref a := rx
  obtain rfl : u = Value.ref b := ry
  obtain ⟨its2, rv2, ⟨o2, ho2, hc2, n2, hd2⟩, _⟩ := I.tuple h2
  rcases hd with ⟨kvs, hd⟩ | ⟨kvs, hd⟩
  · obtain ⟨_, _, vs, _, p⟩ := (show ObjOk X.prog X.w H s.heap a (.dK kvs) from I.hok a _ hd)
    exact ODif.dict_ne_tuple p.typeIs ⟨o2, ho2, hc2, n2, hd2⟩ (by omega) (fin_bl I q rfl)
  · obtain ⟨_, _, vs, _, o, es, ep, ho, hx, _⟩ := (show ObjOk X.prog X.w H s.heap a (.dT kvs) from I.hok a _ hd)
    exact ODif.dict_ne_tuple ⟨o, ho, hx.1⟩ ⟨o2, ho2, hc2, n2, hd2⟩ (by omega) (fin_bl I q rfl)
noncomputable def rEqU (K : PySem.W.Frag) : R2 := fun x y H Q => rEq x y H Q ∨ (rEmp K false x y H Q ∨ rDif K false x y H Q) ∨ rCmpD K PyData.eqv x y H Q
noncomputable def rNeU (K : PySem.W.Frag) : R2 := fun x y H Q => rNe x y H Q ∨ (rEmp K true x y H Q ∨ rDif K true x y H Q) ∨ rCmpD K (fun a b => !PyData.eqv a b) x y H Q
theorem op_eqU (hu : X.A.units + 64 < cLine) : OpR X (compareOp .Eq) (rEqU X.K) := opR_or op_eq (opR_or (opR_or (op_eqE hu) (op_eqF hu)) (op_eqA hu))
theorem op_neU (hu : X.A.units + 64 < cLine) : OpR X (compareOp .NotEq) (rNeU X.K) := opR_or op_ne (opR_or (opR_or (op_neE hu) (op_neF hu)) (op_neA hu))
theorem nil_len {K : PySem.W.Frag} {H : Hp} {xs : List V} (g : DvAll K H xs []) : xs = [] := by cases g; rfl
theorem isE_of {K : PySem.W.Frag} {H : Hp} {xs : List V} {ds : List D} (g : DvAll K H xs ds) : xs.isEmpty = ds.isEmpty := by rw [isE_len, isE_len, g.length]
theorem quick_of {K : PySem.W.Frag} {neg : Bool} {n : S} {Hs H : Hp} (s : Sit K n Hs H) {x y : V} {a b : D} (hx : Dv K Hs x a) (hy : Dv K Hs y b) {r : Bool} (hr : quick a b = some r) {Q : VK} (q : Q (.bl (neg.xor r)) H) :
    (scal x y = true ∧ Q (.bl (neg.xor (decide (x = y)))) H) ∨ (rEmp K neg x y H Q ∨ rDif K neg x y H Q) := by
  unfold quick at hr
  split at hr
  · rename_i i j
    cases hr; cases hx; cases hy
    refine .inl ⟨rfl, ?_⟩
    have e : decide (V.str i = V.str j) = decide (i = j) := by rw [Bool.eq_iff_iff]; simp
    rw [e]; exact q
  · rename_i i j
    cases hr; cases hx; cases hy
    refine .inl ⟨rfl, ?_⟩
    have e : decide (V.int i = V.int j) = decide (i = j) := by rw [Bool.eq_iff_iff]; simp
    rw [e]; exact q
  · cases hr
    cases hx with
    | @tup p xs ds h1 g1 =>
      cases hy with
      | @tup p2 ys es h2 g2 =>
        have e := nil_len g2
        subst e
        exact .inr (.inl ⟨p, p2, xs, rfl, rfl, .inl ⟨s.same.tup (SqT.of h1), s.same.tup (SqT.of h2)⟩, by rw [isE_of g1]; exact q⟩)
  · cases hr
    cases hx with
    | @lst p xs ds h1 g1 =>
      cases hy with
      | @lst p2 ys es h2 g2 =>
        have e := nil_len g2
        subst e
        exact .inr (.inl ⟨p, p2, xs, rfl, rfl, .inr ⟨SqL.of (s.sub _ _ h1), SqL.of (s.sub _ _ h2)⟩, by rw [isE_of g1]; exact q⟩)
  · cases hr
    have q' : Q (.bl neg) H := by simpa using q
    cases hy with
    | @tup p2 ys es h2 g2 =>
      cases hx with
      | @dic p kvs ds h1 z g1 => exact .inr (.inr ⟨p, p2, ys, rfl, rfl, .inl ⟨kvs, s.sub _ _ h1⟩, s.same.tup (SqT.of h2), q'⟩)
  · cases hr
theorem r2_eq {K : PySem.W.Frag} : R2D K (rEqU K) fEq := fun x y a b H Hs n q e Q s hx hy h k => by
  unfold fEq fCmp at h
  cases hr : quick a b with
  | some r =>
    rw [hr] at h
    rcases quick_of (neg := false) (Q := Q) s hx hy hr (k _ H Hs _ n (.refl _ _) s (.bl _) h) with ⟨z1, z2⟩ | z
    · exact .inl ⟨z1, by simpa using z2⟩
    · exact .inr (.inl z)
  | none =>
    rw [hr] at h
    exact .inr (.inr ⟨a, b, Hs, n, s, hx, hy, h.1, by have z := k _ H Hs _ n (.refl _ _) s (.bl _) h.2; simpa using z⟩)
theorem r2_ne {K : PySem.W.Frag} : R2D K (rNeU K) fNe := fun x y a b H Hs n q e Q s hx hy h k => by
  unfold fNe fCmp at h
  cases hr : quick a b with
  | some r =>
    rw [hr] at h
    rcases quick_of (neg := true) (Q := Q) s hx hy hr (k _ H Hs _ n (.refl _ _) s (.bl _) h) with ⟨z1, z2⟩ | z
    · exact .inl ⟨z1, by simpa using z2⟩
    · exact .inr (.inl z)
  | none =>
    rw [hr] at h
    exact .inr (.inr ⟨a, b, Hs, n, s, hx, hy, h.1, by have z := k _ H Hs _ n (.refl _ _) s (.bl _) h.2; simpa using z⟩)
theorem d_eq (hu : X.A.units + 64 < cLine) (ha : DE Γ X W a ta) (hb : DE Γ X W b tb) : DE Γ X W (.Compare a [.Eq] [b] pos) (tbin fEq ta tb) := d_cmp (op_eqU hu) r2_eq ha hb (nomark _)
theorem dt_eq (hu : X.A.units + 64 < cLine) (ha : DE Γ X W a ta) (hb : DE Γ X W b tb) : DT Γ X W (.Compare a [.Eq] [b] pos) (ttest (tbin fEq ta tb)) := dt_cmp (op_eqU hu) r2_eq ha hb (nomark _)
theorem dt_ne (hu : X.A.units + 64 < cLine) (ha : DE Γ X W a ta) (hb : DE Γ X W b tb) : DT Γ X W (.Compare a [.NotEq] [b] pos) (ttest (tbin fNe ta tb)) := dt_cmp (op_neU hu) r2_ne ha hb (nomark _)
/-! ### all, any, sum over lists -/
noncomputable def boolsOf : List D → Option (List Bool)
  | [] => some []
  | .bl b :: ds => (boolsOf ds).map (b :: ·)
  | _ => none
noncomputable def intsOf : List D → Option (List Int)
  | [] => some []
  | .int b :: ds => (intsOf ds).map (b :: ·)
  | _ => none
theorem DvAll.bools {K : PySem.W.Frag} {H : Hp} : ∀ {vs : List V} {ds : List D} {bs : List Bool}, DvAll K H vs ds → boolsOf ds = some bs → vs = bs.map V.bl
  | _, _, _, .nil, h => by cases h; rfl
  | _, _, _, .cons (ds := ds) hv g, h => by
    cases hv with
    | bl b =>
      cases e : boolsOf ds with
      | none => simp [boolsOf, e] at h
      | some cs =>
        have h' := h
        simp only [boolsOf, e, Option.map_some, Option.some.injEq] at h'
        rw [← h', List.map_cons, DvAll.bools g e]
    | _ => cases h
theorem DvAll.intsV {K : PySem.W.Frag} {H : Hp} : ∀ {vs : List V} {ds : List D} {bs : List Int}, DvAll K H vs ds → intsOf ds = some bs → vs = bs.map V.int
  | _, _, _, .nil, h => by cases h; rfl
  | _, _, _, .cons (ds := ds) hv g, h => by
    cases hv with
    | int b =>
      cases e : intsOf ds with
      | none => simp [intsOf, e] at h
      | some cs =>
        have h' := h
        simp only [intsOf, e, Option.map_some, Option.some.injEq] at h'
        rw [← h', List.map_cons, DvAll.intsV g e]
    | _ => cases h
noncomputable def fAll : List D → Wp D
  | [.lst l] => fun n q _ => ∃ bs, boolsOf l = some bs ∧ q (.bl (bs.all id)) n
  | _ => Wp.stuck
noncomputable def fAny : List D → Wp D
  | [.lst l] => fun n q _ => ∃ bs, boolsOf l = some bs ∧ q (.bl (bs.any id)) n
  | _ => Wp.stuck
noncomputable def fSum : List D → Wp D
  | [.lst l] => fun n q _ => ∃ bs, intsOf l = some bs ∧ q (.int bs.sum) n
  | _ => Wp.stuck
theorem cd_all {K : PySem.W.Frag} : CD K (rAll K) fAll := by
  intro xs ds H Hs n q e Q s hx h k
  rcases hx with _ | ⟨hv, _ | ⟨hw, _⟩⟩
  · exact (show False from h).elim
  · cases hv with
    | @lst p xs ds e1 g =>
      obtain ⟨bs, h1, h2⟩ := h
      exact ⟨p, bs, rfl, by rw [← g.bools h1]; exact SqL.of (s.sub _ _ e1), k _ H Hs _ n (.refl _ _) s (.bl _) h2⟩
    | _ => exact (show False from h).elim
  · cases hv <;> exact (show False from h).elim
theorem cd_sum {K : PySem.W.Frag} : CD K (rSum K) fSum := by
  intro xs ds H Hs n q e Q s hx h k
  rcases hx with _ | ⟨hv, _ | ⟨hw, _⟩⟩
  · exact (show False from h).elim
  · cases hv with
    | @lst p xs ds e1 g =>
      obtain ⟨bs, h1, h2⟩ := h
      exact ⟨p, bs, rfl, by rw [← g.intsV h1]; exact SqL.of (s.sub _ _ e1), k _ H Hs _ n (.refl _ _) s (.int _) h2⟩
    | _ => exact (show False from h).elim
  · cases hv <;> exact (show False from h).elim
theorem d_all {p : Pos} {t : Ev → Wp (List D)} (hm : X.mg "all" = none) (ha : DA Γ X W [a] t) (hc : X.calm = true := by rfl) (hg : Gl X "all" := by rfl) (he : starEach [a] X.env = (false, eval a X.env) :: starEach [] X.env := by rfl) (hpl : (backTo pos (starEach [] X.env)).any (·.1) = false := by rfl) :
    DE Γ X W (.Call (.Name "all" p) [a] [] pos) (tcall fAll t) := d_callB (cr_all hc) cd_all hg hm (by decide +kernel) ha (by decide) (by decide) he hpl
theorem d_sum {p : Pos} {t : Ev → Wp (List D)} (hm : X.mg "sum" = none) (ha : DA Γ X W [a] t) (hc : X.calm = true := by rfl) (hg : Gl X "sum" := by rfl) (he : starEach [a] X.env = (false, eval a X.env) :: starEach [] X.env := by rfl) (hpl : (backTo pos (starEach [] X.env)).any (·.1) = false := by rfl) :
    DE Γ X W (.Call (.Name "sum" p) [a] [] pos) (tcall fSum t) := d_callB (cr_sum hc) cd_sum hg hm (by decide +kernel) ha (by decide) (by decide) he hpl
end
end OE
namespace PySem
namespace OExc
open PySem.W PySem.Calls PyProof.Rows PySem.HandSPX Builtin Builtin.ObjectAttr
/-! ### an exception class of the package: super().__init__(text), then perhaps a field -/
noncomputable def initArgs (ps : List (Str × Pos)) : Arguments := { posonlyargs := [], args := ps.map fun p => { arg := p.1, annotation := none, pos := p.2 }, vararg := none, kwonlyargs := [], kw_defaults := [], kwarg := none, defaults := [] }
noncomputable def superSt (msg : Str) (a1 a2 a3 a4 a5 a6 : Pos) : Stmt := .Expr (.Call (.Attribute (.Call (.Name "super" a1) [] [] a2) "__init__" a3) [.Constant (.str msg) 0 a4] [] a5) a6
noncomputable def fieldSt (f : Str) (b1 b2 b3 b4 : Pos) : Stmt := .Assign [.Attribute (.Name "self" b1) f b2] (.Name f b3) b4
noncomputable def scopeF (f : Str) : Scope := { kind := .function, names := [("self", .local), (f, .local), ("__class__", .free), ("super", .globalImplicit)], isGenerator := false, isCoroutine := false, more := [] }
/-- what the written part says of the class at C -/
structure ExCls (prog : Program) (K : Frag) (mg : Str → Option Value) (name : Str) (B newId initId : String) (bmB : List Value) (C fI cc : Addr) : Prop where
  gC : mg name = some (.ref C)
  FB : ExcBaseFacts B newId initId bmB
  SF : StoreFacts B bmB "object.__setattr__" "object"
  KF : KxsFacts B initId
  cls : excInitIn K C bmB newId = true
  over : excOver K C bmB = true
  sa : findIn K (.ref C) "__setattr__" = some (some (.builtin "object.__setattr__"))
  ga : findIn K (.ref C) "__getattribute__" = some (some (.builtin "BaseException.__getattribute__"))
  gg : findIn K (.ref C) "__getattr__" = some none
  iC : findIn K (.ref C) "__init__" = some (some (.ref fI))
  tC : typeIn K (.ref fI) = some (.type "function")
  kC : keepIn K (.ref C) = true
  exC : subIn K (.ref C) (.type "BaseException") = some true
  subB : subIn K (.ref C) (.type B) = some true
  tyC : typeIn K (.ref C) = some (.type "type")
  hdC : hasDictIn K C = true
  self : mroIn K C (.ref C) = some true
  sup : ks_superIn K C C "__init__" = some (some (.builtin initId))
  cell : ∃ cl cld csl, K.lookup cc = some ⟨cl, cld, .cell (some (.ref C)), csl⟩
  opq : nsIn K cStatics "thirdparty.any" = some none
  noS : mg "super" = none
  top : (prog.main.scope.names.lookup ("super" : Str)).isSome = false
/-- .. and of its __init__, with a field -/
structure ExFn (prog : Program) (K : Frag) (qual : Str) (msg : Str) (ps : List Str) (sc : Scope) (rest : List Stmt → Prop) (fI cc : Addr) : Prop where
  fn : ∃ (oc : Value) (od : Option Addr) (kV doc pm : Value) (an : Option Addr) (cda : Addr) (ct : Value) (osl : Array (Option Value)) (pp : List Pos) (a1 a2 a3 a4 a5 a6 : Pos) (more : List Stmt) (ccl : Value) (cdd : Option Addr) (vs : Array Value) (ccs : Array (Option Value)) (file : Str) (tf : Tok),
    pp.length = ps.length ∧ rest more ∧ K.lookup fI = some ⟨oc, od, .func (ksFn "__init__" qual (initArgs (ps.zip pp)) (superSt msg a1 a2 a3 a4 a5 a6 :: more) sc .none kV doc pm an (.ref cda) ct cc), osl⟩ ∧ codeIn K (.ref cda) qual = true ∧
    K.lookup cda = some ⟨ccl, cdd, .fields vs, ccs⟩ ∧ vs[2]? = some (.str file tf) ∧ ((prog.main.file : Str) == file) = true ∧ (a3.endLine == a5.line) = true
section
variable {prog : Program} {w : World} {A : Around} {E : Value → Shared → Prop} {h : Heap} {g : Array GenState} {d : Drawn} {t : Nat} {os : OsState} {R : Result → Shared → Prop}
variable {K : Frag} {mg : Str → Option Value} {name : Str} {B newId initId : String} {bmB : List Value} {C fI cc : Addr}
/-- the bound __init__ of the base, called -/
theorem call_mw (T : ExCls prog K mg name B newId initId bmB C fI cc) (X : K.In h) {u e t0 : Addr} {rest : List Value} {Q : Value → Shared → Prop} (he : h.get? e = some (excO C t0)) (hu : h.get? u = some (kxs_mw initId e)) (hrest : rest.length ≤ sizeLine)
    (hq : ∀ h' t1, (∀ b o, b ≠ e → h.get? b = some o → h'.get? b = some o) → h'.get? e = some (excO C t1) → Q .none ⟨h', g, d, t, os⟩) : wpAny (model prog w) A (call (.ref u) rest) Q E ⟨h, g, d, t, os⟩ := by
  obtain ⟨nm, N', qn, bs, bm, hdct, sn, sub, ab, col, dd, k0, k1, k2, k3, k5, hC, hT⟩ := excInit_of X T.cls
  refine wpAny_call (codeAny_of_tree ?_)
  show wpAny _ A.in1 (callAny (.ref u) ⟨rest, []⟩) _ _ _
  simp only [callAny]
  refine wpAny_bind (wpAny_load hu ?_)
  refine KFB.if_so (show (Value.type "method-wrapper" == Value.type "method" || Value.type "method-wrapper" == Value.type "builtin_function_or_method" || Value.type "method-wrapper" == Value.type "method-wrapper") = true by decide) ?_
  refine wpAny_bind (check_bound_init T.FB.toExcCallFacts hC he rfl ?_)
  refine wpAny_bind (wpAny_pure (wpAny_pure ⟨plainId_quiet T.FB.init.plain _, codeAny_builtin T.FB.initEntry ?_⟩))
  exact exc_init_tree (cls := .ref C) (t0 := t0) (dv := none) (c2 := .none) (c3 := .none) (b4 := .bool false) he hrest fun h' k e' _ => hq h' _ k e'
/-- self.f = v, the first field -/
theorem set_first (T : ExCls prog K mg name B newId initId bmB C fI cc) (X : K.In h) {x : Addr} {fv : Array Value} {f : Str} {tk : Tok} {v : Value} (hx : h.get? x = some { cls := .ref C, data := .fields fv }) (hf : findIn K (.ref C) f = some none)
    (hq : ∀ h' tk' dx, (∀ b o, b ≠ x → h.get? b = some o → h'.get? b = some o) → h.objs.size ≤ dx → dx ≠ x → h'.get? x = some { cls := .ref C, dict := some dx, data := .fields fv } → h'.Ns1 dx (fun y => if y = f then some v else none) → R (.ok (.ret .none)) ⟨h', g, d, tk', os⟩) :
    codeAny (model prog w) A (.call (.builtin "object.__setattr__") ⟨[.ref x, .str f tk, v], []⟩) R ⟨h, g, d, t, os⟩ := by
  have I : InstAt h x { cls := .ref C, data := .fields fv } C none := ⟨hx, rfl, rfl, trivial⟩
  have SO := F.store_object
  have ov := T.over
  unfold excOver at ov
  cases hcd : clsIn K C with
  | none => rw [hcd] at ov; cases ov
  | some cd =>
    rw [hcd] at ov
    have ov' : (match cd.mro with | .ref C' :: bm => C' == C && excTail bmB bm | _ => false) = true := ov
    have hpass : refuseLoop (.ref x) "__setattr__" cd.mro = pure () := by
      split at ov'
      · rename_i C' bm e
        rw [e, refuseLoop_ref]
        exact excTail_pass _ (T.SF.passes _) _ (Bool.and_eq_true_iff.mp ov').2
      · cases ov'
    have hob : cd.mro.contains (.type "object") = true := by
      split at ov'
      · rename_i C' bm e
        rw [e, List.contains_cons, excTail_contains "object" _ (Bool.and_eq_true_iff.mp ov').2, T.SF.hasOwner, Bool.or_true]
      · cases ov'
    have hne : cd.mro.isEmpty = false := by
      split at ov'
      · rename_i C' bm e; rw [e]; rfl
      · cases ov'
    have hd : cd.hasDict = true := by
      have z := T.hdC
      unfold hasDictIn at z
      rw [hcd] at z
      simpa using z
    have hxs : x ≠ h.objs.size := Nat.ne_of_lt (Heap.lt_size hx)
    have sub : Looks (model prog w) h (isInstance (.ref x) (.type "object")) true := I.type.andThen (looks_mroIn X (by unfold mroIn; rw [hcd, Option.bind_some, if_neg (by rw [hne]; decide), hob]))
    refine codeAny_call_builtin SO.slot.plain SO.entry (@check_slot (model prog w) _ _ ⟨h, g, d, t, os⟩ "object.__setattr__" "object" "__setattr__" (.ref x) [.str f tk, v] [] _ SO.kind SO.split sub (SO.args (.ref x) (.str f tk) v) ?_)
    have hmr : Looks (model prog w) h (mroOf (.ref C)) cd.mro := (looks_clsIn X hcd).andThen .now
    have L3 : Looks (model prog w) h (storeTaker? none) none := .now
    have hcls : Looks (model prog w) h (classData C) cd := looks_clsIn X hcd
    rw [osa_eq, refuse_eq]
    refine wpAny_bind (wpAny_bind (I.type.at (wpAny_bind (hmr.at ?_))))
    rw [hpass]
    refine wpAny_pure (wpAny_bind (I.type.at (wpAny_bind ((looks_findIn X hf).at (wpAny_bind (L3.at ?_))))))
    show wpAny _ _ (storeInOwnDict (.ref x) (.ref C) (.str f tk) f v false) _ _ _
    obtain ⟨nm, bs, mro, ns, qn, hd', sn, sb, ab, col, del⟩ := cd
    dsimp only at hd
    subst hd
    unfold storeInOwnDict ownDictForStores
    repeat (first | with_reducible refine store_in_new ?_ ?_ | with_reducible refine wpAny_loadPart_at hx ?_ | with_reducible refine hcls.at ?_ | wp_step)
    · exact ⟨_, #[], _, (Heap.get?_update_ne _ _ _ _ hxs.symm).trans (Heap.get?_push_at rfl rfl), rfl, fun e he => absurd he (by simp), fun _ => rfl⟩
    · intro h' tk' hn' hs
      have hx1 : (h.push { cls := .type "dict", data := .dict #[] }).get? x = some { cls := .ref C, data := .fields fv } := Heap.get?_push_of_some _ hx
      refine hq h' tk' h.objs.size (fun b o hb ho => ?_) (Nat.le_refl _) hxs.symm ?_ hn'
      · exact (hs.2 b (Nat.ne_of_lt (Heap.lt_size ho))).trans ((Heap.get?_update_ne _ _ _ _ hb).trans (Heap.get?_push_of_some _ ho))
      · exact (hs.2 x hxs).trans (Heap.get?_update_self _ hx1 rfl)
/-- the start of __init__: super().__init__(msg) has run -/
theorem super_run (T : ExCls prog K mg name B newId initId bmB C fI cc) {qual msg : Str} {ps : List Str} {sc : Scope} {rest : List Stmt → Prop} (Fd : ExFn prog K qual msg (("self" : Str) :: ps) sc rest fI cc) {x t0 : Addr} {vs : List Value} (X : K.In h) (hlim : h.NoLimit) (G : h.Ns mainGlobals mg)
    (Bn : ∃ mb, h.Ns builtinsNs mb ∧ ∀ x : Str, x ≠ "__name__" → mb x = bootBuiltins x) (hx : h.get? x = some (excO C t0)) (hroom : A.depth < recursionLimit)
    (hsc : sc.kind = .function ∧ sc.isCoroutine = false ∧ sc.isGenerator = false ∧ sc.names.lookup ("super" : Str) = some .globalImplicit ∧ sc.names.lookup ("__class__" : Str) = some .free ∧ sc.names.lookup ("self" : Str) = some .local ∧ (∀ z ∈ sc.names, z.2 ≠ .cell) ∧ ∀ y ∈ ps, sc.names.lookup y = some .local)
    (hev : ∀ (a1 a2 a3 a4 a5 : Pos) (env : Env), (a3.endLine == a5.line) = true → ∃ pl : Sem Bool, eval (.Call (.Attribute (.Call (.Name "super" a1) [] [] a2) "__init__" a3) [.Constant (.str msg) 0 a4] [] a5) env = (do
      let ov ← attributeBase (.Call (.Name "super" a1) [] [] a2) "__init__" env (eval (.Call (.Name "super" a1) [] [] a2) env)
      standAt a3.atName
      let (f, first) ← holding [ov] (getMethod ov "__init__" pl)
      callWith a5 f first (backTo a5 (starEach [.Constant (.str msg) 0 a4] env)) []))
    (hl : vs.length = ps.length) (hself : ("self" : Str) ∉ ps)
    (hbind : ∀ (pp : List Pos) (body : List Stmt) (kV doc pm : Value) (an : Option Addr) (cda : Addr) (ct : Value), pp.length = ps.length + 1 → bindArgs (ksFn "__init__" qual (initArgs ((("self" : Str) :: ps).zip pp)) body sc .none kV doc pm an (.ref cda) ct cc) ⟨.ref x :: vs, []⟩ = pure ((("self" : Str) :: ps).zip (.ref x :: vs)))
    (hq : ∀ more h' tk L t1 env m, rest more → h.objs.size ≤ L → env = ksEnv qual sc L fI env.code cc → h'.Ns L m → (m = fun y => ((("self" : Str) :: ps).zip (Value.ref x :: vs)).reverse.lookup y) → (∀ b o, b ≠ x → h.get? b = some o → h'.get? b = some o) → h'.get? x = some (excO C t1) → L ≠ x →
      wpAny (model prog w) (A.deeper env) (execs more env) (fun f s' => R (.ok (.ret (match f with | .ret v => v | _ => .none))) s') (fun e s' => wpAny (model prog w) (A.deeper env) (leaving env e) (fun _ s'' => R (.error e) s'') (fun e' s'' => R (.error e') s'') s') ⟨h', g, d, tk, os⟩) :
    codeAny (model prog w) A (.call (.ref fI) ⟨.ref x :: vs, []⟩) R ⟨h, g, d, t, os⟩ := by
  obtain ⟨oc, od, kV, doc, pm, an, cda, ct, osl, pp, a1, a2, a3, a4, a5, a6, more, ccl, cdd, fvs, ccs, file, tf, hpp, hmore, ho, hcd, hcode, hvs, hfile, hline⟩ := Fd.fn
  obtain ⟨cl, cld, csl, hcell⟩ := T.cell
  obtain ⟨mb, hb1, hb2⟩ := Bn
  obtain ⟨k1, k2, k3, k4, k5, k6, k7, k8⟩ := hsc
  obtain ⟨p0, pr, rfl⟩ : ∃ p0 pr, pp = p0 :: pr := by
    cases pp with
    | nil => simp at hpp
    | cons a b => exact ⟨a, b, rfl⟩
  have hxl : x < h.objs.size := Heap.lt_size hx
  refine ks_codeAny_call_defAt (fd := ksFn "__init__" qual (initArgs ((("self" : Str) :: ps).zip (p0 :: pr))) (superSt msg a1 a2 a3 a4 a5 a6 :: more) sc .none kV doc pm an (.ref cda) ct cc) (body := superSt msg a1 a2 a3 a4 a5 a6 :: more) (binds := (("self" : Str) :: ps).zip (.ref x :: vs))
    hroom (X _ _ ho) rfl hlim (codeRec_of X hcd) rfl (BindsTo.of_eq (hbind _ _ _ _ _ _ _ _ (by simpa using hpp))) k7 (fun y hy => ?_) (fun h1 hns hk => ?_) k2 k3 k1
  · obtain ⟨n, v⟩ := y
    rcases List.mem_cons.mp (List.of_mem_zip hy).1 with z | z
    · rw [z]; exact k6
    · exact k8 n z
  · have X1 : K.In h1 := X.keeps hk
    have hx1 := hk _ _ hx
    have hself : (fun y => ((("self" : Str) :: ps).zip (Value.ref x :: vs)).reverse.lookup y) ("self" : Str) = some (.ref x) := by
      show ((("self" : Str) :: ps).zip (Value.ref x :: vs)).reverse.lookup ("self" : Str) = _
      rw [List.zip_cons_cons, List.reverse_cons]
      have no : ∀ (l : List (Str × Value)), (∀ p ∈ l, p.1 ≠ "self") → List.lookup ("self" : Str) (l ++ [(("self" : Str), Value.ref x)]) = some (.ref x) := by
        intro l
        induction l with
        | nil => intro _; simp [List.lookup]
        | cons p l ih =>
          intro hp
          have ne : (("self" : Str) == p.1) = false := beq_eq_false_iff_ne.mpr fun z => hp p List.mem_cons_self z.symm
          obtain ⟨a, b⟩ := p
          show List.lookup ("self" : Str) ((a, b) :: (l ++ [(("self" : Str), Value.ref x)])) = _
          rw [List.lookup_cons, ne]
          exact ih fun q hq => hp q (List.mem_cons_of_mem _ hq)
      refine no _ fun p hp z => hself ?_
      obtain ⟨a, b⟩ := p
      have := (List.of_mem_zip (List.mem_reverse.mp hp)).1
      rw [← z]; exact this
    obtain ⟨nm, N', qn, bs, bm, hdct, sn, sub, ab, col, dd, q0, q1, q2, q3, q5, hC, hT⟩ := excInit_of X1 T.cls
    have I : InstAt h1 x (excO C t0) C none := ⟨hx1, rfl, rfl, trivial⟩
    cases hcd0 : clsIn K C with
    | none =>
      have z := T.sup
      unfold ks_superIn at z
      rw [hcd0] at z; cases z
    | some cd =>
      obtain ⟨oD, hD1, hD2⟩ : ∃ oD, h1.get? C = some oD ∧ oD.data = .cls cd := by
        have z := hcd0
        unfold clsIn at z
        split at z
        · rename_i c d' cd' sl ho'
          cases z
          exact ⟨_, X1 _ _ ho', rfl⟩
        · cases z
      have sup := T.sup
      unfold ks_superIn at sup
      rw [hcd0] at sup
      have quiet : ∀ (e : Env), e.scope.kind = .function → interactive e = false := fun e he => by simp [interactive, he]
      obtain ⟨pl, hpl⟩ := hev a1 a2 a3 a4 a5 (callEnv (ksFn "__init__" qual (initArgs ((("self" : Str) :: ps).zip (p0 :: pr))) (superSt msg a1 a2 a3 a4 a5 a6 :: more) sc .none kV doc pm an (.ref cda) ct cc) h.objs.size fI) hline
      refine ks_wpAt_execs_cons (ks_wpAt_Expr_any (ks_wpAt_MethodCall (pl := pl) ?_ hpl) (quiet _ k1))
      refine ks_wpAt_super_base (env := callEnv (ksFn "__init__" qual (initArgs ((("self" : Str) :: ps).zip (p0 :: pr))) (superSt msg a1 a2 a3 a4 a5 a6 :: more) sc .none kV doc pm an (.ref cda) ct cc) h.objs.size fI) k4 k5 (by decide) rfl (X1 _ _ ho) rfl (ar := { arg := "self", annotation := none, pos := p0 }) rfl rfl (X1 _ _ hcode) rfl hvs hfile T.top ?_
      refine ks_loadName_global k1 k4 (loadGlobal_builtin (G.keeps hk) T.noS (hb1.keeps hk) ((hb2 _ (by decide +kernel)).trans (show bootBuiltins "super" = some (.type "super") by decide +kernel)) ⟨rfl, ?_⟩)
      refine wpAny_loadName_free k1 k5 rfl ⟨_, X1 _ _ hcell, rfl⟩ ?_
      refine wpAny_loadName_local k1 k6 hns hself ?_
      refine ks_wpAny_isType_cls hD1 hD2 ⟨rfl, ?_⟩
      refine ks_wpAny_call_super hD1 hD2 hx1 rfl (fun c e => nomatch e) (looks_mroIn X1 T.self) (fun h2 e2 kp2 => ?_)
      have X2 : K.In h2 := X1.keeps kp2
      have I2 : InstAt h2 x (excO C t0) C none := ⟨kp2 _ _ hx1, rfl, rfl, trivial⟩
      have hI : Looks (model prog w) h2 (isInstance (.ref x) (.type B)) true := I2.type.andThen (looks_subIn X2 T.subB)
      refine kxs_getMethod T.KF e2 (looks_opaque X2 T.opq) (l₀ := cd.mro) ((looks_clsIn X2 hcd0).andThen .now) rfl X2 sup hI (ks_ne X2 I2 hcd0) (by decide) ?_
      have hu : (h2.push (kxs_mw initId x)).get? h2.objs.size = some (kxs_mw initId x) := Heap.get?_push_size _ rfl
      have hx3 : (h2.push (kxs_mw initId x)).get? x = some (excO C t0) := Heap.get?_push_of_some _ (kp2 _ _ hx1)
      refine kxs_callWith (i := initId) (x := x) rfl (evalArgs_plain (spliced_cons (Constant_str (k := 0) (pos := a4) (spliced_nil ⟨hu, ?_⟩))))
      refine call_mw (h := h2.push (kxs_mw initId x)) T (X2.keeps fun b o e => Heap.get?_push_of_some _ e) hx3 hu (by show 1 ≤ sizeLine; rw [sizeLine_eq]; decide) fun h4 t1 kp4 hx4 => ?_
      refine wpAt_of_wpAny ?_
      have nL : h.objs.size ≠ x := Nat.ne_of_gt hxl
      refine hq more h4 _ h.objs.size t1 _ _ hmore (Nat.le_refl _) rfl ?_ rfl (fun b o hb e => kp4 b o hb (Heap.get?_push_of_some _ (kp2 _ _ (hk _ _ e)))) hx4 nL
      obtain ⟨oL, es, ep, hL, r⟩ := hns
      exact ⟨oL, es, ep, kp4 _ _ nL (Heap.get?_push_of_some _ (kp2 _ _ hL)), r⟩
theorem ev_super {msg : Str} (a1 a2 a3 a4 a5 : Pos) (env : Env) (he : (a3.endLine == a5.line) = true) : ∃ pl : Sem Bool, eval (.Call (.Attribute (.Call (.Name "super" a1) [] [] a2) "__init__" a3) [.Constant (.str msg) 0 a4] [] a5) env = (do
      let ov ← attributeBase (.Call (.Name "super" a1) [] [] a2) "__init__" env (eval (.Call (.Name "super" a1) [] [] a2) env)
      standAt a3.atName
      let (f, first) ← holding [ov] (getMethod ov "__init__" pl)
      callWith a5 f first (backTo a5 (starEach [.Constant (.str msg) 0 a4] env)) []) := by
  refine ⟨do return (← importBound (.Call (.Name "super" a1) [] [] a2) env).getD true, ?_⟩
  rw [arm_eval_Call]
  have one : ∀ ov, methodCall (.Call (.Name "super" a1) [] [] a2) "__init__" a3 a5 env ov 1 (backTo a5 (starEach [.Constant (.str msg) 0 a4] env)) [] = (do
      let (f, first) ← holding [ov] (getMethod ov "__init__" (do return (← importBound (.Call (.Name "super" a1) [] [] a2) env).getD true))
      callWith a5 f first (backTo a5 (starEach [.Constant (.str msg) 0 a4] env)) []) := fun ov => by
    unfold methodCall methodCallPos
    rw [if_pos (show (!methodCallForm 1 (backTo a5 (starEach [.Constant (.str msg) 0 a4] env)) [] || a3.endLine == a5.line) = true by rw [he, Bool.or_true])]
    rfl
  refine congrArg _ (funext fun ov => congrArg _ (funext fun _ => ?_))
  exact one ov
end
end OExc
end PySem
namespace PySem
namespace OExc
open PySem.W PySem.Calls PyProof.Rows PySem.HandSPX Builtin Builtin.ObjectAttr
section
variable {prog : Program} {w : World} {A : Around} {E : Value → Shared → Prop} {h : Heap} {g : Array GenState} {d : Drawn} {t : Nat} {os : OsState} {R : Result → Shared → Prop}
variable {K : Frag} {mg : Str → Option Value} {name : Str} {B newId initId : String} {bmB : List Value} {C fI cc : Addr}
/-- a made exception with a field -/
structure MadeF (h h' : Heap) (e C dx : Addr) (f : Str) (v : Value) : Prop where
  keep : ∀ b o, h.get? b = some o → h'.get? b = some o
  new : h.objs.size ≤ e
  obj : ∃ t1, h'.get? e = some { cls := .ref C, dict := some dx, data := .fields #[.ref t1, .none, .none, .none, .bool false, .none] }
  dbig : h.objs.size ≤ dx
  dne : dx ≠ e
  ns : h'.Ns1 dx (fun y => if y = f then some v else none)
noncomputable def fieldOk (f : Str) : Prop := f = "place" ∨ f = "value" ∨ f = "word" ∨ f = "most"
theorem scopeF_ok {f : Str} (hf : fieldOk f) : (scopeF f).kind = .function ∧ (scopeF f).isCoroutine = false ∧ (scopeF f).isGenerator = false ∧ (scopeF f).names.lookup ("super" : Str) = some .globalImplicit ∧ (scopeF f).names.lookup ("__class__" : Str) = some .free ∧ (scopeF f).names.lookup ("self" : Str) = some .local ∧
    (∀ z ∈ (scopeF f).names, z.2 ≠ .cell) ∧ ∀ y ∈ [f], (scopeF f).names.lookup y = some .local := by
  rcases hf with rfl | rfl | rfl | rfl <;> exact ⟨rfl, rfl, rfl, by decide +kernel, by decide +kernel, by decide +kernel, by decide +kernel, by decide +kernel⟩
theorem made_f (T : ExCls prog K mg name B newId initId bmB C fI cc) {qual msg f : Str} (hf : fieldOk f) (Fd : ExFn prog K qual msg ["self", f] (scopeF f) (fun more => ∃ b1 b2 b3 b4, more = [fieldSt f b1 b2 b3 b4]) fI cc) (hfn : findIn K (.ref C) f = some none) {v : Value}
    (X : K.In h) (hlim : h.NoLimit) (G : h.Ns mainGlobals mg) (Bn : ∃ mb, h.Ns builtinsNs mb ∧ ∀ x : Str, x ≠ "__name__" → mb x = bootBuiltins x) (hroom : A.depth + 1 < recursionLimit)
    (hq : ∀ h' tk e dx, MadeF h h' e C dx f v → R (.ok (.ret (.ref e))) ⟨h', g, d, tk, os⟩) : codeAny (model prog w) A (.call (.ref C) ⟨[v], []⟩) R ⟨h, g, d, t, os⟩ := by
  obtain ⟨nm, N', qn, bs, bm, hdct, sn, sub, ab, col, dd, q0, q1, q2, q3, q5, hC, hT⟩ := excInit_of X T.cls
  have kp : ∀ b o, h.get? b = some o → ((h.push (kdv_tup [v])).push (excO C h.objs.size)).get? b = some o := fun b o e => Heap.get?_push_of_some _ (Heap.get?_push_of_some _ e)
  have hget : ((h.push (kdv_tup [v])).push (excO C h.objs.size)).get? (h.objs.size + 1) = some (excO C h.objs.size) := by heap_get
  have size2 : ((h.push (kdv_tup [v])).push (excO C h.objs.size)).objs.size = h.objs.size + 2 := by rw [Heap.size_push, Heap.size_push]
  refine call_own T.FB hT hC (looks_findIn X T.iC) (fun self => bind_fn X self T.tC) (show 1 ≤ sizeLine by rw [sizeLine_eq]; decide) ?_
  obtain ⟨mb, hb1, hb2⟩ := Bn
  refine super_run (h := (h.push (kdv_tup [v])).push (excO C h.objs.size)) (ps := [f]) (vs := [v]) T Fd (X.keeps kp) (hlim.keeps kp) (G.keeps kp) ⟨mb, hb1.keeps kp, hb2⟩ hget (by show A.depth + 1 < recursionLimit; exact hroom) (scopeF_ok hf) (fun a1 a2 a3 a4 a5 env => ev_super a1 a2 a3 a4 a5 env) rfl
    (by rcases hf with rfl | rfl | rfl | rfl <;> decide +kernel) (fun pp body kV doc pm an cda ct hl => ?_) (fun more h2 tk L t1 env m hm hL henv hns hmm kp2 hx2 hLx => ?_)
  · obtain ⟨p0, p1, rfl⟩ : ∃ p0 p1, pp = [p0, p1] := by
      match pp, hl with
      | [a, b], _ => exact ⟨a, b, rfl⟩
    rcases hf with rfl | rfl | rfl | rfl <;> rfl
  · obtain ⟨b1, b2, b3, b4, rfl⟩ := hm
    have X2 : K.In h2 := X.keeps fun b o e => kp2 b o (fun z => by rw [z] at e; exact absurd (Heap.lt_size e) (Nat.not_lt_of_le (Nat.le_succ _))) (kp b o e)
    have old : ∀ b o, h.get? b = some o → h2.get? b = some o := fun b o e => kp2 b o (fun z => by rw [z] at e; exact absurd (Heap.lt_size e) (Nat.not_lt_of_le (Nat.le_succ _))) (kp b o e)
    have mf : m f = some v := by
      rw [hmm]
      rcases hf with rfl | rfl | rfl | rfl <;> rfl
    have ms : m ("self" : Str) = some (.ref (h.objs.size + 1)) := by
      rw [hmm]
      rcases hf with rfl | rfl | rfl | rfl <;> rfl
    obtain ⟨ksc1, ksc2, ksc3, ksc4, ksc5, ksc6, ksc7, ksc8⟩ := scopeF_ok hf
    have hloc : env.locals = L := by rw [henv]
    have hkind : env.scope.kind = .function := by rw [henv]; rfl
    have hks : env.kindOf ("self" : Str) = some .local := by rw [henv]; exact ksc6
    have hkf : env.kindOf f = some .local := by rw [henv]; exact ksc8 f List.mem_cons_self
    have hns' : h2.Ns env.locals m := by rw [hloc]; exact hns
    have hsz2 : h.objs.size ≤ h2.objs.size := Nat.le_of_lt (Nat.lt_of_le_of_lt (Nat.le_succ _) (Heap.lt_size hx2))
    refine wpAny_execs_cons (plainObj_wpAny_Assign_Attribute ?_)
    refine wpAny_Name (wpAny_loadName_local hkind hkf hns' mf ?_) (by rcases hf with rfl | rfl | rfl | rfl <;> decide)
    refine wpAny_Name (wpAny_loadName_local hkind hks hns' ms ?_) (by decide)
    refine set_plain X2 (ox := excO C t1) (od := none) ⟨hx2, rfl, rfl, trivial⟩ T.sa ?_
    refine set_first (h := h2) T X2 hx2 hfn (fun h3 tk3 dx kp3 hdx hdne hx3 hn3 => ?_)
    refine wpAny_execs_nil ⟨rfl, hq h3 tk3 (h.objs.size + 1) dx ⟨fun b o e => kp3 b o (fun z => by rw [z] at e; exact absurd (Heap.lt_size e) (Nat.not_lt_of_le (Nat.le_succ _))) (old b o e), Nat.le_succ _, ⟨t1, hx3⟩, Nat.le_trans hsz2 hdx, hdne, hn3⟩⟩
end
end OExc
end PySem
namespace OE
open PySem PySem.Spec L2
variable [TN]
theorem fld_ok (c : Str) : PySem.OExc.fieldOk (fldOf c) := by
  unfold fldOf PySem.OExc.fieldOk
  split
  · exact .inl rfl
  split
  · exact .inl rfl
  split
  · exact .inr (.inr (.inl rfl))
  split
  · exact .inr (.inr (.inl rfl))
  split
  · exact .inr (.inr (.inr rfl))
  · exact .inr (.inl rfl)
/-- a class of the package with a field -/
noncomputable def Ex1 (P : Program) (K : PySem.W.Frag) (mg : Str → Option Value) (name : Str) (C : Addr) : Prop := ∃ (B newId initId : String) (bmB : List Value) (fI cc : Addr) (qual msg : Str), PySem.OExc.ExCls P K mg name B newId initId bmB C fI cc ∧
  PySem.OExc.ExFn P K qual msg ["self", fldOf name] (PySem.OExc.scopeF (fldOf name)) (fun more => ∃ b1 b2 b3 b4, more = [PySem.OExc.fieldSt (fldOf name) b1 b2 b3 b4]) fI cc ∧ PySem.W.findIn K (.ref C) (fldOf name) = some none
theorem relO_f {v : V} {v' : Value} (r : RelV v v') (g f : Str) : RelO (List.lookup f [(g, v)]) (if f = g then some v' else none) := by
  by_cases hw : f = g
  · subst hw
    rw [if_pos rfl]
    have q : List.lookup f [(f, v)] = some v := by simp [List.lookup]
    rw [q]
    exact r
  · rw [if_neg hw]
    have qw : (f == g) = false := by simpa using hw
    have q2 : List.lookup f [(g, v)] = none := by simp [List.lookup, qw]
    rw [q2]
    trivial
section
variable {X : Cx} {C : Addr} {name : Str}
noncomputable def tMkF (C : Addr) (f : Str) (ta : TA) : St → Hp → XK → Prop := fun σ H Q => ta σ H fun vs H1 => ∃ v, vs = [v] ∧ ∀ d, H1 d = none → Q (.ref C) (some d) (upd H1 d (.xd [(f, v)]))
theorem pmk_f {a : Expr} {ta : TA} {p pos : Pos} {k : Nat} (T : Ex1 X.prog X.K X.mg name C) (hr : Room k X.A) (ha : PA X [a] ta) (hg : Gl X name := by rfl) (hdb : (name == ("__debug__" : Str)) = false := by decide)
    (he : starEach (a :: []) X.env = (false, eval a X.env) :: starEach [] X.env := by rfl) (hpl : (backTo pos (starEach [] X.env)).any (·.1) = false := by rfl) :
    PMk X (.Call (.Name name p) [a] [] pos) (tMkF C (fldOf name) ta) := by
  intro pins s σ H Q I h
  obtain ⟨B, newId, initId, bmB, fI, cc, qual, msg, T, Fd, hfn⟩ := T
  refine wpAny_Call_Name_kw (ld_glob I hg T.gC ?_ hdb)
  refine PySem.W.callWith_K (h₀ := X.base) I.ok.mod.kin T.kC (thn (ha.run pos pins s σ H _ I h) fun us s1 hh => ?_) he hpl
  obtain ⟨vs, H1, I1, r1, v, ev, q1⟩ := hh
  subst ev
  refine ⟨I1.kIn, ?_⟩
  cases r1 with
  | cons rv rn =>
    rename_i v' us'
    cases rn
    show wpAny _ _ (call (.ref C) [v']) _ _ _
    have hlim := I1.nolimit
    have hgl := I1.mod.glob.keeps I1.bk
    have hbl : ∃ mb, s1.heap.Ns builtinsNs mb ∧ ∀ x : Str, x ≠ "__name__" → mb x = bootBuiltins x := by
      obtain ⟨mb, h1, h2⟩ := I1.mod.blt
      exact ⟨mb, h1.keeps I1.bk, h2⟩
    obtain ⟨hp, g, dr, tk, os⟩ := s1
    refine wpAny_call (PySem.OExc.made_f T (fld_ok name) Fd hfn I1.kIn hlim hgl hbl (by have := hr.dp; omega) fun h' tk' e d M => ?_)
    show MkP X pins σ Q (.ref e) ⟨h', g, dr, tk', os⟩
    obtain ⟨t1, hoe⟩ := M.obj
    have hns := M.ns
    obtain ⟨G', g1, g2⟩ := restrict h' fun b => decide (b ≠ e)
    have gk : ∀ b, b ≠ e → G'.get? b = h'.get? b := fun b hb => g1 b (decide_eq_true hb)
    have ge : G'.get? e = none := g2 e (by simp)
    have old : ∀ b o, hp.get? b = some o → G'.get? b = some o := fun b o q => (gk b (Nat.ne_of_lt (Nat.lt_of_lt_of_le (Heap.lt_size q) M.new))).trans (M.keep b o q)
    have ob : ObjOk X.prog X.w (upd H1 d (.xd [(fldOf name, v)])) G' d (.xd [(fldOf name, v)]) :=
      ⟨_, hns.at (fun o q => (gk d M.dne).trans q), fun f => relO_f rv _ f⟩
    have J : Inv X pins σ (upd H1 d (.xd [(fldOf name, v)])) ⟨G', g, dr, tk', os⟩ := I1.laid (t' := tk') old M.dbig ob
    refine ⟨e, _, _, ⟨G', g, dr, tk', os⟩, _, .ref C, some d, rfl, J, fun b o q => ?_, ge, hoe, ⟨rfl, rfl⟩, rfl, rfl, ?_, rfl, I1.bare, raises_own T.exC T.tyC, q1 d (I1.hok.fresh M.dbig)⟩
    · by_cases hb : b = e
      · have q' : G'.get? b = some o := q
        rw [hb, ge] at q'; cases q'
      · exact (gk b hb).symm.trans q
    · rw [upd_ne (Ne.symm M.dne)]
      exact I1.hok.fresh M.new
end
section
variable {Γ : Gam} {X : Cx} {W : WX} {a b c : Expr} {ta tb tc : Ev → Wp D} {pos : Pos} {name : Str} {C : Addr}
/-- raise C(e) -/
noncomputable def tfail1 (name : Str) (t : Ev → Wp (List D)) : Ev → Wp Out := fun ρ => Wp.bind (t ρ) fun ds => match ds with
  | [d] => Wp.fail ⟨name, some d⟩
  | _ => Wp.stuck
theorem ds_raise {t : Ev → Wp (List D)} {p pos2 : Pos} {k : Nat} (T : Ex1 X.prog X.K X.mg name C) (hΓ : Γ name = some C) (hr : Room k X.A) (tk : Takes X W) (ha : DA Γ X W [a] t) (hc : X.calm = true := by rfl) (hg : Gl X name := by rfl) (hdb : (name == ("__debug__" : Str)) = false := by decide)
    (he : starEach (a :: []) X.env = (false, eval a X.env) :: starEach [] X.env := by rfl) (hpl : (backTo pos (starEach [] X.env)).any (·.1) = false := by rfl) :
    DS Γ X W (.Raise (some (.Call (.Name name p) [a] [] pos)) none pos2) (tfail1 name t) := by
  obtain ⟨ea, pa, fa⟩ := ha
  refine ⟨_, ps_raise hc tk (pmk_f T hr pa hg hdb he hpl), fun σ H Hs ρ n q x E s r h k ke => fa σ H Hs ρ n _ x _ s r h (fun vs H1 Hs1 ds n1 g1 s1 hv h1 => ?_) (ke σ)⟩
  cases hv with
  | nil => exact (show False from h1).elim
  | cons hv hr =>
    cases hr with
    | cons _ _ => exact (show False from h1).elim
    | nil =>
      refine ⟨_, rfl, fun d hd => ?_⟩
      obtain ⟨s2, g2⟩ := s1.new hd (o := .xd [(fldOf name, _)]) rfl
      exact ke σ ⟨name, some _⟩ _ _ _ _ n1 (g1.trans g2) s2 ⟨C, hΓ, rfl, d, _, rfl, upd_same, hv.ext g2.ext⟩ h1
noncomputable def tfail0 (name : Str) : Ev → Wp Out := fun _ => Wp.fail ⟨name, none⟩
end
end OE
namespace OE
open PySem PySem.Spec PyProof.Rows L2
variable [TN]
/-! ### at the data's level -/
noncomputable def Out.unset (i : Nat) : Out → Out
  | .nx ρ => .nx (ρ.set i none)
  | .rt d => .rt d
  | .bk ρ => .bk (ρ.set i none)
  | .ct ρ => .ct (ρ.set i none)
/-- try: .. except c as n: .. -/
noncomputable def ttry (Γ : Gam) (mt : Str → Bool) (i : Nat) (tb su : Ev → Wp Out) : Ev → Wp Out := fun ρ n q x =>
  tb ρ n q fun e n' => if mt e.cls = true then ∀ C, Γ e.cls = some C → su (ρ.set i (some (.exn e.cls C e.arg.toList))) n' (fun o n2 => q (o.unset i) n2) (fun _ _ => False) else x e n'
/-! ### the field of a caught exception -/
section
variable {Γ : Gam} {X : Cx} {W : WX} {a : Expr} {ta : Ev → Wp D} {pos : Pos}
noncomputable def tfld (Γ : Gam) (f : Str) (t : Ev → Wp D) : Ev → Wp D := fun ρ => Wp.bind (t ρ) fun d => match d with
  | .exn x C [v] => Wp.bind (Wp.ask (Γ x = some C ∧ fldOf x = f)) fun _ => Wp.ret v
  | _ => Wp.stuck
end
end OE
namespace OE
open PySem PySem.Spec L2
variable [TN]
/-! ### dicts: displays -/
/-- .. a draws' state -/
theorem Sit.shareM {K : PySem.W.Frag} {n : S} {Hs H : Hp} (s : Sit K n Hs H) {p : Addr} {kvs : List (Key × V)} (hs : Hs p = none) (gm : GoodM n.n Hs kvs) : Sit K n (upd Hs p (.dK kvs)) (upd H p (.dK kvs)) ∧ Ext Hs (upd Hs p (.dK kvs)) :=
  s.putG hs (fun kvs' e _ => by cases e; exact gm) rfl
/-- a draws' state turns -/
theorem Sit.turnM {K : PySem.W.Frag} {n n' : S} {Hs H : Hp} (s : Sit K n Hs H) {a : Addr} {kvs kvs' : List (Key × V)} (ha : Hs a = some (.dK kvs)) (z : isM (.dK kvs) = true) (z' : isM (.dK kvs') = true) (hn : n.n ≤ n'.n) (hmu : n'.mu = n.mu) (gm : GoodM n'.n Hs kvs') :
    Sit K n' (upd Hs a (.dK kvs')) (upd H a (.dK kvs')) ∧ Go Hs H (upd Hs a (.dK kvs')) (upd H a (.dK kvs')) := by
  have e : Ext Hs (upd Hs a (.dK kvs')) := fun b u q => by
    by_cases hb : b = a
    · subst hb
      rw [ha] at q
      cases q
      rw [upd_same]
      exact ⟨fun y => (by have y' : isM (.dK kvs) = false := y; rw [z] at y'; cases y'), fun _ => ⟨_, rfl, z'⟩⟩
    · rw [upd_ne hb]
      exact ⟨fun _ => q, fun y => ⟨u, q, y⟩⟩
  refine ⟨⟨fun b u q y => ?_, fun b q => ?_, fun b u q y => ?_, fun b kv q y => ?_, fun P q t => ?_, fun b u q => ?_, fun b xs q => ?_⟩, ⟨e, fun b u q y => ?_⟩⟩
  · by_cases hb : b = a
    · subst hb; rw [upd_same] at q ⊢; exact q
    · rw [upd_ne hb] at q ⊢; exact s.subK b u q y
  · by_cases hb : b = a
    · subst hb; exact ⟨_, upd_same⟩
    · rw [upd_ne hb] at q ⊢; exact s.mkd b q
  · by_cases hb : b = a
    · subst hb; rw [upd_same] at q; cases q; cases y
    · rw [upd_ne hb] at q; exact s.mks b u q y
  · by_cases hb : b = a
    · subst hb
      rw [upd_same] at q
      cases q
      exact gm.mono (Nat.le_refl _) e
    · rw [upd_ne hb] at q
      exact (s.good b kv q y).mono hn e
  · obtain ⟨ps, t1, t2, t3⟩ := s.tabs P q t
    refine ⟨ps, ?_, t2, fun pos cv hc => ?_⟩
    · rw [upd_ne (fun w => by rw [w, ha] at t1; cases t1)]; exact t1
    · obtain ⟨c, c1, c2⟩ := t3 pos cv hc
      refine ⟨c, c1, ?_⟩
      rw [upd_ne (fun w => by rw [w, ha] at c2; unfold LamX.CodeO at c2; cases c2)]; exact c2
  · rw [hmu] at q
    obtain ⟨h1, h2⟩ := s.muts b u q
    have hb : b ≠ a := fun w => by rw [w, ha] at h1; cases h1
    exact ⟨by rw [upd_ne hb]; exact h1, h2.ext e (upd_ne hb)⟩
  · have hb : b ≠ a := fun w => by rw [w, upd_same] at q; cases q
    rw [upd_ne hb] at q ⊢; exact s.tups b xs q
  · have hb : b ≠ a := fun q => by rw [q, ha] at y; cases y
    rw [upd_ne hb, upd_ne hb]
    exact ⟨q, y⟩
theorem merge_nodup : ∀ (more acc : List (Key × V)), ((acc ++ more).map Prod.fst).Nodup → mergeK acc more = acc ++ more
  | [], acc, _ => by rw [List.append_nil]; rfl
  | p :: r, acc, h => by
    have hp : putK acc p.1 p.2 = acc ++ [p] := by
      unfold putK
      rw [if_neg]
      intro z
      obtain ⟨kv, h1, h2⟩ := List.any_eq_true.mp z
      have e : kv.1 = p.1 := of_decide_eq_true h2
      rw [List.map_append, List.nodup_append] at h
      exact h.2.2 kv.1 (List.mem_map_of_mem h1) p.1 (by simp) e
    show mergeK (putK acc p.1 p.2) r = _
    rw [hp, merge_nodup r (acc ++ [p]) (by simpa using h), List.append_assoc]
    rfl
section
variable (Γ : Gam) (X : Cx) (W : WX)
/-- the pairs of a display, its keys texts -/
noncomputable def DP (pos : Pos) (keys : List (Option Expr)) (values : List Expr) (ks : List Str) (t : Ev → Wp (List D)) : Prop := ∃ trs : List (TE × TE), PPs X pos keys values trs ∧ keys.all (·.isSome) = true ∧ keys.length = values.length ∧ ks.length = keys.length ∧
  ∀ (σ : St) (H Hs : Hp) (ρ : Ev) (n : S) (q : List D → S → Prop) (x : Exn → S → Prop) (Q : List (V × V) → Hp → Prop),
  Sit X.K n Hs H → R X.K ρ σ Hs → t ρ n q x → (∀ vs H' Hs' ds n', Go Hs H Hs' H' → Sit X.K n' Hs' H' → DvAll X.K Hs' vs ds → vs.length = ks.length → q ds n' → Q (((ks.map Sum.inr).zip vs).map fun kv : Key × V => (kV kv.1, kv.2)) H') → OkE X.K Γ Hs H x (fun c d h => W c d σ h) → tPairs trs σ H Q
end
section
variable {Γ : Gam} {X : Cx} {W : WX} {a b c : Expr} {ta tb tc : Ev → Wp D} {pos : Pos}
theorem dp_nil : DP Γ X W pos [] [] [] tnil := ⟨[], pps_nil, rfl, rfl, rfl, fun σ H Hs ρ n q x Q s r h k _ => k [] H Hs [] n (.refl _ _) s .nil rfl h⟩
theorem dp_cons {key : Str} {j : Nat} {kp : Pos} {ks : List (Option Expr)} {vs : List Expr} {names : List Str} {t : Ev → Wp (List D)} (ha : DE Γ X W a ta) (hr : DP Γ X W pos ks vs names t) :
    DP Γ X W pos (some (.Constant (.str key) j kp) :: ks) (a :: vs) (key :: names) (tcons ta t) := by
  obtain ⟨ea, pa, fa⟩ := ha
  obtain ⟨trs, pp, h1, h2, h3, fr⟩ := hr
  refine ⟨(tC (.str key), ea) :: trs, pps_cons pe_str pa pp, by simpa using h1, by simp [h2], by simp [h3], fun σ H Hs ρ n q x Q s r h k ke => ?_⟩
  refine fa σ H Hs ρ n _ x _ s r h (fun v H1 Hs1 d n1 g1 s1 hv h1 => ?_) ke
  refine fr σ H1 Hs1 ρ n1 _ x _ s1 (r.ext g1.ext) h1 (fun ws H2 Hs2 ds n2 g2 s2 hvs hl h2 => ?_) (ke.go g1)
  exact k (v :: ws) H2 Hs2 _ n2 (g1.trans g2) s2 (.cons (hv.ext g2.ext) hvs) (by simp [hl]) h2
noncomputable def kvD (ks : List Str) (ds : List D) : List (D × D) := (ks.zip ds).map fun p => (.str p.1, p.2)
theorem zip_fst {α β : Type} : ∀ {l : List α} {m : List β}, m.length = l.length → (l.zip m).map Prod.fst = l
  | [], _, _ => rfl
  | a :: l, [], h => by cases h
  | a :: l, b :: m, h => by rw [List.zip_cons_cons, List.map_cons, zip_fst (by simpa using h)]
noncomputable def tdict (ks : List Str) (t : Ev → Wp (List D)) : Ev → Wp D := fun ρ => Wp.bind (t ρ) fun ds => Wp.ret (.dic (kvD ks ds))
theorem inr_nodup : ∀ {ks : List Str}, ks.Nodup → (ks.map (Sum.inr : Str → Key)).Nodup
  | [], _ => List.nodup_nil
  | k :: ks, h => by
    obtain ⟨h1, h2⟩ := List.nodup_cons.mp h
    refine List.nodup_cons.mpr ⟨fun z => ?_, inr_nodup h2⟩
    obtain ⟨y, hy, e⟩ := List.mem_map.mp z
    rw [Sum.inr.inj e] at hy
    exact h1 hy
/-- the draws' state, made -/
noncomputable def tdictM (t : Ev → Wp (List D)) : Ev → Wp D := fun ρ => Wp.bind (t ρ) fun ds => fun n q _ => ∃ (l s : Int) (cs : List Int), ds = [.int l, .int s, .lst (cs.map D.int), .int 0] ∧ 0 ≤ l ∧ 0 ≤ s ∧ s < 2147483647 ∧ 0 < cs.length ∧ q .m n
theorem ints_of {K : PySem.W.Frag} {H : Hp} : ∀ {cs : List Int} {vs : List V}, DvAll K H vs (cs.map D.int) → vs = cs.map V.int
  | [], _, .nil => rfl
  | _ :: _, _, .cons (.int _) g => by rw [ints_of g]; rfl
theorem d_dictM {keys : List (Option Expr)} {values : List Expr} {t : Ev → Wp (List D)} (h : DP Γ X W pos keys values ["left", "seed", "cells", "spot"] t) : DE Γ X W (.Dict keys values pos) (tdictM t) := by
  obtain ⟨trs, pp, h1, h2, h3, fr⟩ := h
  have h15 : keys.length ≤ 15 := by rw [← h3]; decide
  have h0 : keys ≠ [] := fun z => by rw [z] at h3; cases h3
  refine ⟨_, pe_disp pp h1 h2 h0 h15, fun σ H Hs ρ n q x Q s r h k ke p hp => ?_⟩
  have hs := s.free hp
  have s0 : Sit X.K n Hs (upd H p (.dK [])) := s.ownU hs rfl
  have g0 : Go Hs H Hs (upd H p (.dK [])) := ⟨.refl _, fun b u e y => ⟨by rw [upd_ne (ne_of_none e hp)]; exact e, y⟩⟩
  refine fr σ (upd H p (.dK [])) Hs ρ n _ x _ s0 r h (fun vs H2 Hs2 ds n2 g2 s2 hvs hl h2 => ?_) (ke.go g0)
  obtain ⟨o1, o2⟩ := g2.own p _ upd_same hs
  obtain ⟨l, sd, cs, rfl, k1, k2, k3, k4, h2⟩ := h2
  cases hvs with
  | cons v1 hvs => cases v1; cases hvs with
    | cons v2 hvs => cases v2; cases hvs with
      | cons v3 hvs => cases v3 with
        | @lst c xs _ hc gc => cases hvs with
          | cons v4 hvs => cases v4; cases hvs with
            | nil =>
              have ex := ints_of gc
              subst ex
              refine ⟨o1, ((["left", "seed", "cells", "spot"] : List Str).map Sum.inr).zip [.int l, .int sd, .ref c, .int 0], rfl, (by show 4 ≤ 15; decide), ?_⟩
              rw [merge_nodup _ [] (by rw [List.nil_append, zip_fst (by rfl)]; exact inr_nodup (by decide))]
              have gm : GoodM n2.n Hs2 [(.inr "left", .int l), (.inr "seed", .int sd), (.inr "cells", .ref c), (.inr "spot", .int 0)] := ⟨l, sd, 0, c, cs, rfl, k1, k2, k3, by omega, by omega, hc, k4⟩
              obtain ⟨s3, e3⟩ := s2.shareM o2 gm
              refine k _ _ _ _ n2 ⟨(g0.trans g2).ext.trans e3, fun b u q y => ?_⟩ s3 (.m upd_same (show decide (mKeys = mKeys) = true from decide_eq_true rfl)) h2
              have hb : b ≠ p := ne_of_none q hp
              obtain ⟨p1, p2⟩ := (g0.trans g2).own b u q y
              show upd H2 p _ b = _ ∧ upd Hs2 p _ b = _
              rw [upd_ne hb, upd_ne hb]
              exact ⟨p1, p2⟩
end
end OE
namespace OE
open PySem PySem.Spec L2
variable [TN]
/-! ### the draws' state: read, written -/
/-- m[key] -/
noncomputable def mGet (key : Str) : Wp D := fun n q _ =>
  if key = "left" then ∀ l : Int, 0 ≤ l → q (.int l) n
  else if key = "seed" then ∀ s : Int, 0 ≤ s → s < 2147483647 → q (.int s) n
  else if key = "cells" then ∀ cs : List Int, 0 < cs.length → q (.lst (cs.map D.int)) n
  else if key = "spot" then ∀ p : Int, 0 ≤ p → p ≤ n.n → q (.int p) n
  else False
/-- a dict's value, by a text -/
noncomputable def dGet (key : Str) : List (D × D) → Option D
  | [] => none
  | (.str k, d) :: r => if k = key then some d else dGet key r
  | _ :: r => dGet key r
noncomputable def fGetS (key : Str) : D → Wp D
  | .m => mGet key
  | .dic l => fun n q _ => ∃ d, dGet key l = some d ∧ q d n
  | _ => Wp.stuck
theorem dGet_of {K : PySem.W.Frag} {H : Hp} {key : Str} : ∀ {kvs : List (Key × V)} {l : List (D × D)} {d : D}, DvKv K H kvs l → dGet key l = some d → ∃ v, valV kvs (.inr key) = some v ∧ Dv K H v d
  | _, _, _, .nil, h => by cases h
  | _, _, d, .cons (k := k) hv g, h => by
    cases k with
    | inl i =>
      obtain ⟨v, h1, h2⟩ := dGet_of g h
      exact ⟨v, by rw [valV_neg (by intro z; cases z)]; exact h1, h2⟩
    | inr x =>
      by_cases e : x = key
      · have h' : (if x = key then some _ else dGet key _) = some d := h
        rw [if_pos e] at h'
        cases h'
        exact ⟨_, valV_pos (by rw [e]), hv⟩
      · have h' : (if x = key then some _ else dGet key _) = some d := h
        rw [if_neg e] at h'
        obtain ⟨v, h1, h2⟩ := dGet_of g h'
        exact ⟨v, by rw [valV_neg (fun z => e (Sum.inr.inj z))]; exact h1, h2⟩
theorem ne_k {x y : Str} {v : V} (h : x ≠ y) : ¬ ((Sum.inr x : Key), v).fst = Sum.inr y := fun z => h (Sum.inr.inj z)
noncomputable abbrev mKv (l sd : Int) (c : Addr) (sp : Int) : List (Key × V) := [(Sum.inr "left", V.int l), (Sum.inr "seed", V.int sd), (Sum.inr "cells", V.ref c), (Sum.inr "spot", V.int sp)]
section
variable {Γ : Gam} {X : Cx} {W : WX} {a b c : Expr} {ta tb tc : Ev → Wp D} {pos : Pos}
theorem mGet_of {K : PySem.W.Frag} {n : S} {Hs H : Hp} (s : Sit K n Hs H) {p : Addr} {o : HO} (h : Hs p = some o) (z : isM o = true) {key : Str} {q : D → S → Prop} {x : Exn → S → Prop} (hq : mGet key n q x) : ∃ kvs v d, o = .dK kvs ∧ valV kvs (.inr key) = some v ∧ Dv K Hs v d ∧ q d n := by
  cases o with
  | dK kvs =>
    obtain ⟨l, sd, p, c, cs, rfl, k1, k2, k3, k4, k5, k6, k7⟩ := s.good _ _ h z
    unfold mGet at hq
    split at hq
    · rename_i e; subst e; exact ⟨_, _, _, rfl, valV_pos rfl, .int l, hq l k1⟩
    split at hq
    · rename_i e; subst e; exact ⟨_, _, _, rfl, (valV_neg (ne_k (by decide))).trans (valV_pos rfl), .int sd, hq sd k2 k3⟩
    split at hq
    · rename_i e; subst e; exact ⟨_, _, _, rfl, (valV_neg (ne_k (by decide))).trans ((valV_neg (ne_k (by decide))).trans (valV_pos rfl)), .lst k6 (DvAll.ints cs), hq cs k7⟩
    split at hq
    · rename_i e; subst e; exact ⟨_, _, _, rfl, (valV_neg (ne_k (by decide))).trans ((valV_neg (ne_k (by decide))).trans ((valV_neg (ne_k (by decide))).trans (valV_pos rfl))), .int p, hq p k4 k5⟩
    · exact hq.elim
  | _ => cases z
theorem d_getS {key : Str} {j : Nat} {kp : Pos} (hu : X.A.units + 1 < cLine) (ha : DE Γ X W a ta) (hs : NoSl (.Constant (.str key) j kp) := by exact fun _ _ => rfl) : DE Γ X W (.Subscript a (.Constant (.str key) j kp) pos) (tbind (fGetS key) ta) := by
  obtain ⟨ea, pa, fa⟩ := ha
  refine ⟨_, pe_dget hu pa pe_str hs, fun σ H Hs ρ n q x Q s r h k ke => fa σ H Hs ρ n _ x _ s r h (fun v H1 Hs1 d n1 g1 s1 hv h1 => ?_) ke⟩
  cases hv with
  | @dic p kvs l h2 z g =>
    obtain ⟨d, e, hq⟩ := h1
    obtain ⟨v, e1, e2⟩ := dGet_of g e
    exact ⟨p, v, rfl, .inl ⟨kvs, .inr key, .inl (s1.sub _ _ h2), rfl, e1.symm⟩, k _ H1 Hs1 _ n1 g1 s1 e2 hq⟩
  | @m p o h2 z =>
    obtain ⟨kvs, v, d, rfl, e1, e2, hq⟩ := mGet_of (K := X.K) (x := x) s1 h2 z h1
    exact ⟨p, v, rfl, .inl ⟨kvs, .inr key, .inl (s1.sub _ _ h2), rfl, e1.symm⟩, k _ H1 Hs1 _ n1 g1 s1 e2 hq⟩
  | _ => exact (show False from h1).elim
/-- m[key] = d -/
noncomputable def mPut (key : Str) (d : D) : Wp Unit := fun n q _ =>
  if key = "left" then ∃ l : Int, d = .int l ∧ 0 ≤ l ∧ q () n
  else if key = "spot" then ∃ p : Int, d = .int p ∧ 0 ≤ p ∧ p ≤ n.n + 1 ∧ q () ⟨n.n + 1, n.mu⟩
  else False
noncomputable def tputM (key : Str) (ta tv : Ev → Wp D) : Ev → Wp Out := fun ρ => Wp.bind (tv ρ) fun d => Wp.bind (ta ρ) fun x => match x with
  | .m => Wp.bind (mPut key d) fun _ => Wp.ret (.nx ρ)
  | _ => Wp.stuck
theorem ds_putM {key : Str} {j : Nat} {kp pos' : Pos} (hu : X.A.units + 1 < cLine) (ha : DE Γ X W a ta) (hv : DE Γ X W b tb) (hs : swapsWith b (some (.Subscript a (.Constant (.str key) j kp) pos')) pos.line X.env = pure false := by rfl) :
    DS Γ X W (.Assign [.Subscript a (.Constant (.str key) j kp) pos'] b pos) (tputM key ta tb) := by
  obtain ⟨ea, pa, fa⟩ := ha
  obtain ⟨eb, pb, fb⟩ := hv
  refine ⟨_, ps_dput hu pa pe_str pb hs, fun σ H Hs ρ n q x E s r h k ke => fb σ H Hs ρ n _ x _ s r h (fun v H1 Hs1 d n1 g1 s1 hv h1 => fa σ H1 Hs1 ρ n1 _ x _ s1 (r.ext g1.ext) h1 (fun y H2 Hs2 dm n2 g2 s2 hm h2 => ?_) ((ke σ).go g1)) (ke σ)⟩
  cases hm with
  | @m p o h3 z =>
    cases o with
    | dK kvs =>
      obtain ⟨l, sd, sp, c, cs, rfl, k1, k2, k3, k4, k5, k6, k7⟩ := s2.good _ _ h3 z
      have hv2 := hv.ext g2.ext
      have h2' : mPut key d n2 (fun _ n' => q (.nx ρ) n') x := h2
      have line : 4 < sizeLine := by rw [sizeLine_eq]; decide
      unfold mPut at h2'
      split at h2'
      · rename_i e
        subst e
        obtain ⟨l', rfl, p1, hq⟩ := h2'
        cases hv2
        refine ⟨p, _, rfl, DPut.k (k := .inr "left") (s2.sub _ _ h3) line, ?_⟩
        have e : putK (mKv l sd c sp) (.inr "left") (.int l') = mKv l' sd c sp := by rfl
        rw [e]
        obtain ⟨s3, g3⟩ := s2.turnM (n' := n2) h3 z (kvs' := mKv l' sd c sp) (show decide (mKeys = mKeys) = true from decide_eq_true rfl) (Nat.le_refl _) rfl ⟨l', sd, sp, c, cs, rfl, p1, k2, k3, k4, k5, k6, k7⟩
        exact k (.nx ρ) n2 _ _ ((g1.trans g2).trans g3) s3 hq σ (r.ext ((g1.trans g2).trans g3).ext)
      split at h2'
      · rename_i e
        subst e
        obtain ⟨l', rfl, p1, p2, hq⟩ := h2'
        cases hv2
        refine ⟨p, _, rfl, DPut.k (k := .inr "spot") (s2.sub _ _ h3) line, ?_⟩
        have e : putK (mKv l sd c sp) (.inr "spot") (.int l') = mKv l sd c l' := by rfl
        rw [e]
        obtain ⟨s3, g3⟩ := s2.turnM (n' := ⟨n2.n + 1, n2.mu⟩) h3 z (kvs' := mKv l sd c l') (show decide (mKeys = mKeys) = true from decide_eq_true rfl) (Nat.le_succ _) rfl ⟨l, sd, l', c, cs, rfl, k1, k2, k3, p1, p2, k6, k7⟩
        exact k (.nx ρ) ⟨n2.n + 1, n2.mu⟩ _ _ ((g1.trans g2).trans g3) s3 hq σ (r.ext ((g1.trans g2).trans g3).ext)
      · exact h2'.elim
    | _ => cases z
  | _ => exact (show False from h2).elim
end
end OE
namespace OE
open PySem PySem.Spec L2
variable [TN]
/-! ### a def from its body -/
noncomputable def startE (N : Nat) (ds : List D) : Ev := ds.map some ++ List.replicate (N - ds.length) none
noncomputable def outQ (q : D → S → Prop) : Out → S → Prop
  | .rt d, n => q d n
  | .nx _, n => q .non n
  | _, _ => False
noncomputable def runDef (N : Nat) (t : Ev → Wp Out) (ds : List D) : Wp D := fun n q x => t (startE N ds) n (outQ q) x
noncomputable abbrev wOf (E : XK) : WX := fun cls d _ H => E cls d H
theorem r_start {K : PySem.W.Frag} {Hs : Hp} {N : List Str} {vs : List V} {ds : List D} (g : DvAll K Hs vs ds) : R K (startE N.length ds) (start N vs) Hs := by
  have hl := g.length
  refine ⟨by unfold startE L2.start; simp [hl], fun i d e => ?_⟩
  unfold startE at e
  by_cases hi : i < ds.length
  · rw [List.getElem?_append_left (by simpa using hi), List.getElem?_map] at e
    cases e1 : ds[i]? with
    | none => rw [e1] at e; cases e
    | some d' =>
      rw [e1] at e
      have e2 : d' = d := by simpa using e
      subst e2
      obtain ⟨v, h1, h2⟩ := g.get e1
      refine ⟨v, ?_, h2⟩
      unfold L2.start
      rw [List.getElem?_append_left (by rw [List.length_map, hl]; exact hi), List.getElem?_map, h1]
      rfl
  · rw [List.getElem?_append_right (by simpa using hi)] at e
    rw [List.getElem?_replicate] at e
    split at e <;> cases e
section
variable {Γ : Gam} {P : Program} {w : World} {K : PySem.W.Frag} {mg : Str → Option Value} {base : Heap}
theorem fn_of {k m : Nat} {f : Addr} {x : Str} {st : Stmt} {fd : FuncData} {N ps : List Str} {t : Ev → Wp Out} (F : Fun K x x st f fd) (hm : mg x = some (.ref f)) (hb : Binds K fd ps []) (S : FnScope N ps (defScope st)) (hps : ps.length = m)
    (h : ∀ (cdv : Value), fd.code = cdv → ∀ (A : Around) (outer : List Env) (s : Shared) (H : Hp) (E : XK), Room k (cxOf (L2.CX P w) P w K mg base N x (defScope st) f cdv A outer s H E).A → (cxOf (L2.CX P w) P w K mg base N x (defScope st) f cdv A outer s H E).A.guards = some [] →
      Takes (cxOf (L2.CX P w) P w K mg base N x (defScope st) f cdv A outer s H E) (wOf E) → PassesOwn (model P w) (cxOf (L2.CX P w) P w K mg base N x (defScope st) f cdv A outer s H E).A (cxOf (L2.CX P w) P w K mg base N x (defScope st) f cdv A outer s H E).env (cxOf (L2.CX P w) P w K mg base N x (defScope st) f cdv A outer s H E).xe →
      DB Γ (cxOf (L2.CX P w) P w K mg base N x (defScope st) f cdv A outer s H E) (wOf E) (defBody st) t) : Fn Γ P w K mg base x (k + 1) m (runDef N.length t) := by
  refine ⟨f, fd, ps, hps, fnG_of F S (fun vs H Q E ⟨n, Hs, ds, q, x, h1, _, h3, _⟩ => by rw [h3.length, h1, hps]) (fun cdv hcd A outer s H vs Q E hr hg ⟨n, Hs, ds, q, x, h1, h2, h3, h4, h5, h6⟩ => ?_), hm, F.kp, hb⟩
  obtain ⟨ts, p, g⟩ := h cdv hcd A outer s H E hr hg (takes_of rfl rfl rfl rfl) (passes_of rfl)
  refine ⟨ts, p, g (start N vs) H Hs (startE N.length ds) n _ x _ h2 (r_start h3) h4 (fun o n' H' Hs' g' s' hq => ?_) (fun σ => h6)⟩
  cases o with
  | nx ρ => exact fun σ _ => h5 .non H' Hs' .non n' g' s' .non hq
  | rt d => exact fun v hv => h5 v H' Hs' d n' g' s' hv hq
  | bk ρ => exact (show False from hq).elim
  | ct ρ => exact (show False from hq).elim
theorem Fn.imp {x : Str} {k m : Nat} {F G : List D → Wp D} (h : Fn Γ P w K mg base x k m F) (hi : ∀ ds n q e, G ds n q e → F ds n q e) : Fn Γ P w K mg base x k m G := by
  obtain ⟨f, fd, ps, h1, h2, h3⟩ := h
  refine ⟨f, fd, ps, h1, ⟨fun vs H Q E ⟨n, Hs, ds, q, x, z1, _, z3, _⟩ => by rw [z3.length, z1, h1], fun A outer s H args us vs Q E hr hg e0 hb r ⟨n, Hs, ds, q, x, z1, z2, z3, z4, z5⟩ => ?_⟩, h3⟩
  exact h2.run A outer s H args us vs Q E hr hg e0 hb r ⟨n, Hs, ds, q, x, z1, z2, z3, hi _ _ _ _ z4, z5⟩
end
/-! ### the end -/
/-- the tables of the defs that make lambdas: code object, table, the def's name -/
noncomputable abbrev Tabls := List (Addr × Addr × Str)
noncomputable def tnOf (cs : Tabls) : TN := ⟨fun P => (cs.find? fun p => decide (p.2.1 = P)).map fun p => p.2.2⟩
theorem tn_mem {cs : Tabls} {P : Addr} {q : Str} (h : (tnOf cs).nm P = some q) : ∃ p ∈ cs, p.2.1 = P ∧ p.2.2 = q := by
  have h' : ((cs.find? fun p => decide (p.2.1 = P)).map fun p => p.2.2) = some q := h
  cases e : cs.find? fun p => decide (p.2.1 = P) with
  | none => rw [e] at h'; cases h'
  | some p =>
    rw [e] at h'
    have z := List.find?_some e
    exact ⟨p, List.mem_of_find?_eq_some e, by simpa using z, by simpa using h'⟩
/-- what a def that makes lambdas wants of the module -/
noncomputable def TabsB (base : Heap) (mg : Str → Option Value) (cs : Tabls) : Prop := ∀ p ∈ cs, LamX.TabB base mg p.1 p.2.1
theorem law_g {P : Program} {w : World} {K : PySem.W.Frag} {mg mb : Str → Option Value} {k : Nat} {fa a : Addr} {x : Str} {Γ : Gam} {G : List D → Wp D} {s1 : Shared} {vs : List Value} {ns : List Int} {cs : Tabls}
    (KX : K.In s1.heap) (hns : s1.heap.Ns mainGlobals mg) (hb : s1.heap.Ns builtinsNs mb) (hbb : ∀ x : Str, x ≠ "__name__" → mb x = bootBuiltins x) (hlim : s1.heap.NoLimit) (hg : s1.gens = #[])
    (hbm : ∃ (bm : Addr) (ob : Obj), mg "__builtins__" = some (.ref bm) ∧ bm ≠ builtinsNs ∧ s1.heap.get? bm = some ob ∧ ob.cls = .type "module" ∧ ob.dict = some builtinsNs ∧ ob.data = .plain)
    (hT : ∀ p ∈ cs, s1.heap.get? p.2.1 = some { cls := .none, data := .fields #[] }) (nT : ∀ p ∈ cs, K.lookup p.2.1 = none) (hC : ∀ p ∈ cs, PySem.W.CodeHd s1.heap p.1 p.2.1)
    (ha : s1.heap.get? a = some { cls := .type "list", data := .seq vs.toArray }) (hi : PyProof.Rows.IntsAre vs ns) (hl : ns.length ≤ sizeLine) (hr : Room k callerA)
    (hmg : mg x = some (.ref fa)) (F : ∀ base : Heap, K.In base → base.Ns mainGlobals mg → TabsB base mg cs → @Fn (tnOf cs) Γ P w K mg base x k 1 G)
    (hG : G [.scr ns] ⟨0, fun _ => none⟩ (fun d _ => d = .bl true) fun _ _ => False) :
    codeAny (model P w) callerA (.call (.ref fa) ⟨[.ref a], []⟩) (fun r s' => r = .ok (.ret (.bool true)) ∧ OldK s1.heap s'.heap ∧ s'.os = s1.os ∧ PyProof.Rows.AllBare s'.gens) s1 := by
  -- tracked: the tables; the script, unless it is one of the module's own objects
  obtain ⟨ob, hob⟩ : ∃ ob : Obj, ob = { cls := .type "list", data := .seq vs.toArray } := ⟨_, rfl⟩
  rw [← hob] at ha
  obtain ⟨H, hH⟩ : ∃ H : Hp, H = fun b => if b ∈ cs.map (fun p => p.2.1) then some (.tbl #[]) else if b = a ∧ K.lookup a = none then some (.frz ob (.lst (ns.map V.int))) else none := ⟨_, rfl⟩
  have tabAt : ∀ b, b ∈ cs.map (fun p => p.2.1) → s1.heap.get? b = some { cls := .none, data := .fields #[] } ∧ K.lookup b = none := fun b hb => by
    obtain ⟨p, hp, e⟩ := List.mem_map.mp hb
    rw [← e]
    exact ⟨hT p hp, nT p hp⟩
  have kinds : ∀ b u, H b = some u → (b ∈ cs.map (fun p => p.2.1) ∧ u = .tbl #[]) ∨ (b = a ∧ K.lookup a = none ∧ u = .frz ob (.lst (ns.map V.int))) := fun b u e => by
    rw [hH] at e
    dsimp only at e
    by_cases c : b ∈ cs.map (fun p => p.2.1)
    · rw [if_pos c] at e
      cases e
      exact .inl ⟨c, rfl⟩
    · rw [if_neg c] at e
      by_cases c2 : b = a ∧ K.lookup a = none
      · rw [if_pos c2] at e
        cases e
        exact .inr ⟨c2.1, c2.2, rfl⟩
      · rw [if_neg c2] at e
        cases e
  have aT : a ∉ cs.map (fun p => p.2.1) := fun z => by
    have q := (tabAt a z).1
    rw [ha, hob] at q
    cases q
  have free : ∀ b, (∀ u, H b = some u → False) → H b = none := fun b h => by
    cases e : H b with
    | none => rfl
    | some u => exact (h u e).elim
  have hok : HOk P w H s1.heap := fun b u e => by
    rcases kinds b u e with ⟨z1, z2⟩ | ⟨z1, _, z3⟩
    · subst z2
      exact (tabAt b z1).1
    · subst z1 z3
      exact ⟨ha, by rw [List.length_map]; exact hl, vs, _, vals_ints hi, by rw [ha, hob]⟩
  have seq : SqL K H a (ns.map V.int) := by
    cases hk : K.lookup a with
    | none => exact .inl (.inr ⟨ob, by rw [hH]; dsimp only; rw [if_neg aT]; exact if_pos ⟨rfl, hk⟩⟩)
    | some o =>
      have e := KX a o hk
      rw [ha, hob] at e
      cases e
      exact .inr ⟨_, vs.toArray, _, hk, rfl, rfl, rfl, by rw [List.size_toArray, hi.length]; exact hl, by simpa using vals_ints hi⟩
  have clear : ∀ {b : Addr} {o : Obj}, s1.heap.get? b = some o → (∀ us n, o.data ≠ .seq us n) → o.data ≠ .fields #[] → (hidT s1.heap H).get? b = some o := fun {b o} e h1 h2 =>
    hidT_get e (free b fun u q => by
      rcases kinds b u q with ⟨z1, _⟩ | ⟨z1, _, _⟩
      · rw [(tabAt b z1).1] at e
        cases e
        exact h2 rfl
      · rw [z1, ha, hob] at e
        cases e
        exact h1 _ _ rfl)
  have noD : ∀ {b : Addr} {m : Str → Option Value}, s1.heap.Ns b m → (hidT s1.heap H).Ns b m := fun {b m} ⟨o, es, ep, e, d, r⟩ =>
    ⟨o, es, ep, clear e (fun us n z => by rw [d] at z; cases z) (fun z => by rw [d] at z; cases z), d, r⟩
  have inK : K.In (hidT s1.heap H) := fun b o e => hidT_get (KX b o e) (free b fun u q => by
    rcases kinds b u q with ⟨z1, _⟩ | ⟨z1, z2, _⟩
    · rw [(tabAt b z1).2] at e
      cases e
    · rw [z1, z2] at e
      cases e)
  have md : Mod K mg (hidT s1.heap H) := ⟨inK, noD hns, ⟨mb, noD hb, hbb⟩, let ⟨mc, h1, h2⟩ := hlim; ⟨mc, noD h1, h2⟩⟩
  have tb : TabsB (hidT s1.heap H) mg cs := fun p hp => by
    have hTp := hT p hp
    refine ⟨?_, ?_, fun z => ?_⟩
    · obtain ⟨o, us, file, tf, flags, tg, inF, text, tt, e1, r1, r2, r3, r4⟩ := hC p hp
      exact ⟨o, us, file, tf, flags, tg, inF, text, tt, clear e1 (fun _ _ z => by rw [r2] at z; cases z) (fun z => by rw [r2] at z; cases z; simp at r3), r1, r2, r3, r4⟩
    · obtain ⟨bm, ob', b1, b2, b3, b4, b5, b6⟩ := hbm
      refine ⟨bm, ob', b1, b2, fun q => ?_, fun q => ?_, clear b3 (fun _ _ z => by rw [b6] at z; cases z) (fun z => by rw [b6] at z; cases z), b4, b5, b6⟩
      · obtain ⟨o, es, ep, e, hd, _⟩ := hns
        rw [q, e] at b3
        cases b3
        rw [hd] at b6
        cases b6
      · rw [q, hTp] at b3
        cases b3
        cases b6
    · obtain ⟨o, es, ep, e, hd, _⟩ := hns
      rw [z, hTp] at e
      cases e
      cases hd
  have none_in : ∀ {b : Addr}, b ∈ ([] : List Addr) → False := fun z => nomatch z
  obtain ⟨f, fd, ps, hps, FG, hm, _, hbind⟩ := F _ inK (noD hns) tb
  have ef : f = fa := by rw [hmg] at hm; cases hm; rfl
  subst ef
  have hsp : @spW (tnOf cs) K Γ 1 G [.ref a] H (fun v _ => v = .bl true) fun _ _ _ => False := by
    refine ⟨⟨0, fun _ => none⟩, H, [.scr ns], _, _, rfl, ?_, .cons (.scr seq) .nil, hG, fun v H' Hs' d n' _ _ hv hq => ?_, fun _ _ _ _ _ _ _ _ _ z => z.elim⟩
    · refine @Sit.mk (tnOf cs) _ _ _ _ (fun _ _ e _ => e) (fun b e => ⟨_, e⟩) (fun b u e y => ?_) (fun b kvs e _ => ?_) (fun P' q' t => ?_) (fun _ _ e => nomatch e) (fun _ _ e => e)
      · rcases kinds b _ e with ⟨_, z⟩ | ⟨_, _, z⟩ <;> (subst z; cases y)
      · rcases kinds b _ e with ⟨_, z⟩ | ⟨_, _, z⟩ <;> cases z
      · obtain ⟨p, hp, e1, _⟩ := tn_mem t
        refine LamX.TabS.nil ?_
        rw [hH]
        dsimp only
        exact if_pos (List.mem_map.mpr ⟨p, hp, e1⟩)
    · subst hq
      cases hv
      rfl
  refine codeAny_mono (FG.run callerA [] s1 H ⟨[.ref a], []⟩ [.ref a] [.ref a] _ _ hr rfl ⟨rfl, md, fun b o e => of_hidT e, Nat.le_of_eq (hidT_size _ _), trivial, fun b hb => (none_in hb).elim, hok, .of_eq hg⟩ (hbind s1 [.ref a] KX (by rw [hps]; rfl)) (.cons rfl .nil) hsp) fun r s' h => ?_
  rcases r with e | (_ | _ | _ | u)
  · exact (let ⟨_, _, _, _, _, _, _, _, _, _, _, _, z⟩ := h; (show False from z).elim)
  · exact False.elim h
  · exact False.elim h
  · exact False.elim h
  · obtain ⟨v, H', os, bare, un, hok', r', q⟩ := h
    have q' : v = .bl true := q
    subst q'
    obtain rfl : u = Value.bool true := r'
    -- each object of the head: kept, or a table that has grown
    have each : ∀ b o, s1.heap.get? b = some o → s'.heap.get? b = some o ∨ (b ∈ cs.map (fun p => p.2.1) ∧ ∃ more : Array Value, s'.heap.get? b = some { cls := .none, data := .fields more }) := fun b o e => by
      cases q : H b with
      | none => exact .inl (un.keep b o e q (fun z => none_in z) (fun z => none_in z))
      | some u =>
        rcases kinds b u q with ⟨z1, z2⟩ | ⟨z1, _, z3⟩
        · subst z2
          obtain ⟨more, z⟩ := un.tbls b #[] q
          exact .inr ⟨z1, _, hok' b _ z⟩
        · subst z1 z3
          have z := un.frzs b _ _ q
          obtain ⟨e2, _⟩ := hok' b _ z
          rw [ha] at e
          cases e
          exact .inl e2
    refine ⟨rfl, ⟨fun b o e => ?_, fun b o e => ?_⟩, os, bare⟩
    · rcases each b o e with z | ⟨z, more, hm⟩
      · exact .inl z
      · obtain ⟨p, hp, rfl⟩ := List.mem_map.mp z
        rw [hT p hp] at e
        cases e
        exact .inr (.inl ⟨((hC p hp).tab (hT p hp)).isCodeTable, rfl, #[], more, rfl, by rw [Array.empty_append]; exact hm⟩)
    · rcases each b o e with z | ⟨_, more, hm⟩
      · exact ⟨o, z⟩
      · exact ⟨_, hm⟩
/-- the goal that k_head leaves, from the law's promise over data -/
theorem walk_g {l : PySem.W.OpenLaw} {n k : Nat} {q : Program} {loose : List Str} {XP : (Str → Option Value) → Heap → Prop} {YP : World → Heap → Prop} {d : DefRec} {K : Params → PySem.W.Frag} {G : Gam → List D → Wp D}
    (hn : l.most = some n) (hn2 : n ≤ sizeLine) (hdf : d.params.defaults = []) (hr : Room k callerA)
    (hY : ∀ (w : World) (h : Heap), YP w h → (K w.params).In h)
    (F : ∀ (w : World) (mg : Str → Option Value) (fa : Addr) (h : Heap), YP w h → (K w.params).In h → h.Ns mainGlobals mg → mg d.name = some (.ref fa) →
      ∃ (cs : Tabls) (Γ : Gam), (∀ p ∈ cs, h.get? p.2.1 = some { cls := .none, data := .fields #[] }) ∧ (∀ p ∈ cs, (K w.params).lookup p.2.1 = none) ∧ (∀ p ∈ cs, PySem.W.CodeHd h p.1 p.2.1) ∧
        ∀ base : Heap, (K w.params).In base → base.Ns mainGlobals mg → TabsB base mg cs → @Fn (tnOf cs) Γ l.prog w (K w.params) mg base d.name k 1 (G Γ))
    (hsp : ∀ (Γ : Gam) (ns : List Int), ns.length ≤ n → G Γ [.scr ns] ⟨0, fun _ => none⟩ (fun d _ => d = .bl true) fun _ _ => False) :
    PySem.W.WalkO q loose XP YP l.row.toRowW d [] (fun f vs => PySem.call f vs) := by
  refine Att.attach_call hn hdf fun w s₀ s₁ mg mb fa o pm cd doc a vs ns G Y ho hd hcd hmg hobj hints hlen hg => ?_
  have KX := hY w _ Y
  obtain ⟨cs, Γ, hT, nT, hC, hF⟩ := F w mg fa _ Y KX G.T.g hmg
  exact law_g KX G.T.g G.T.b G.T.builtins G.T.nolimit hg G.T.bmain hT nT hC hobj hints (Nat.le_trans hlen hn2) hr hmg hF (hsp Γ ns hlen)
end OE
namespace OE
open PySem PySem.Spec L2
variable [TN]
theorem unit64 {k : Nat} {A : Around} (r : Room k A) : A.units + 64 < cLine := by have := r.un; omega
theorem unit1 {k : Nat} {A : Around} (r : Room k A) : A.units + 1 < cLine := by have := r.un; omega
/-- a class of the package: raised, caught -/
noncomputable def ExG (Γ : Gam) (P : Program) (K : PySem.W.Frag) (mg : Str → Option Value) (name : Str) : Prop := ∃ C, Γ name = some C ∧ Ex1 P K mg name C
section
variable {Γ : Gam} {X : Cx} {W : WX} {a b c : Expr} {ta tb tc : Ev → Wp D} {pos : Pos} {name : Str}
theorem d_cint {x : Str} {i : Int} (hm : ∃ t, X.mg x = some (.int i t)) (hg : Gl X x := by rfl) (hd : (x == ("__debug__" : Str)) = false := by decide) : DE Γ X W (.Name x pos) (tconst (.int i)) := by
  obtain ⟨t, hm⟩ := hm
  exact d_gint hg hm hd
theorem ds_raiseG {t : Ev → Wp (List D)} {p pos2 : Pos} {k : Nat} (T : ExG Γ X.prog X.K X.mg name) (hr : Room k X.A) (tk : Takes X W) (ha : DA Γ X W [a] t) (hc : X.calm = true := by rfl) (hg : Gl X name := by rfl) (hdb : (name == ("__debug__" : Str)) = false := by decide)
    (he : starEach (a :: []) X.env = (false, eval a X.env) :: starEach [] X.env := by rfl) (hpl : (backTo pos (starEach [] X.env)).any (·.1) = false := by rfl) :
    DS Γ X W (.Raise (some (.Call (.Name name p) [a] [] pos)) none pos2) (tfail1 name t) := by
  obtain ⟨C, hC, T⟩ := T
  exact ds_raise T hC hr tk ha hc hg hdb he hpl
variable {pos' np : Pos} {x n : Str} {suite : List Stmt} {b₀ : Stmt} {su : Ev → Wp Out} {mt : Str → Bool}
end
end OE
namespace OE
open PySem PySem.Spec L2
variable [TN]
/-! ### data that can be shown -/
/-- shown in little: its leaves, its size, its depth -/
structure Ok (b e : Nat) (d : D) : Prop where
  plain : d.plain = true
  show' : d.py.showable = true
  short : d.py.leavesShort 2000 = true
  bulk : d.py.bulk ≤ b
  depth : d.py.depth ≤ e
theorem Ok.mono {b e b' e' : Nat} {d : D} (h : Ok b e d) (hb : b ≤ b') (he : e ≤ e') : Ok b' e' d := ⟨h.plain, h.show', h.short, Nat.le_trans h.bulk hb, Nat.le_trans h.depth he⟩
theorem Ok.repr {b e : Nat} {d : D} (h : Ok b e d) (hb : b ≤ 8000) (he : e ≤ 60) : reprOk d := by
  refine ⟨h.plain, h.show', ?_, Nat.le_trans h.depth he⟩
  have z := PyData.shown_le_bulk 2000 (by decide) d.py h.short
  have := h.bulk
  rw [sizeLine_eq]
  omega
theorem ok_bl (b : Bool) : Ok 0 0 (.bl b) := ⟨rfl, rfl, rfl, Nat.le_refl _, Nat.le_refl _⟩
theorem ok_int {i : Int} (h : i.natAbs.log2 < 1900) : Ok 0 0 (.int i) := by
  refine ⟨by rfl, ?_, ?_, Nat.le_refl _, Nat.le_refl _⟩
  · show decide (i.natAbs.log2 < 1920) = true
    exact decide_eq_true (by omega)
  · show decide ((PyData.shown (.int i)).length ≤ 2000) = true
    refine decide_eq_true ?_
    have z := int_text_length_le (a := i) (k := 1900) (by decide) h
    have e : (PyData.shown (.int i)).length = (toString i).length := by
      show (Str.ofString (toString i)).length = _
      exact ofString_length _
    rw [e]; omega
noncomputable def AllOk (b e : Nat) (l : List D) : Prop := ∀ x ∈ l, Ok b e x
theorem AllOk.nil {b e : Nat} : AllOk b e [] := fun _ h => nomatch h
theorem AllOk.cons {b e : Nat} {d : D} {l : List D} (h : Ok b e d) (g : AllOk b e l) : AllOk b e (d :: l) := fun x hx => by
  rcases List.mem_cons.mp hx with z | z
  · rw [z]; exact h
  · exact g x z
theorem AllOk.append {b e : Nat} {l m : List D} (h : AllOk b e l) (g : AllOk b e m) : AllOk b e (l ++ m) := fun x hx => (List.mem_append.mp hx).elim (h x) (g x)
theorem AllOk.take {b e : Nat} {l : List D} (h : AllOk b e l) (n : Nat) : AllOk b e (l.take n) := fun x hx => h x (List.mem_of_mem_take hx)
theorem AllOk.drop {b e : Nat} {l : List D} (h : AllOk b e l) (n : Nat) : AllOk b e (l.drop n) := fun x hx => h x (List.mem_of_mem_drop hx)
theorem AllOk.cut {b e : Nat} {l : List D} (h : AllOk b e l) (lo hi : Option Int) : AllOk b e (cut l lo hi) := fun x hx => by
  unfold OE.cut at hx
  first
    | exact h x (List.mem_of_mem_take (List.mem_of_mem_drop hx))
    | exact h x (List.mem_of_mem_drop (List.mem_of_mem_take hx))
theorem all_parts {b e : Nat} : ∀ {l : List D}, AllOk b e l → D.plainAll l = true ∧ PyData.showableAll (D.pyAll l) = true ∧ PyData.leavesShortAll 2000 (D.pyAll l) = true ∧ PyData.bulkAll (D.pyAll l) ≤ l.length * (b + 1) ∧ PyData.depthAll (D.pyAll l) ≤ e
  | [], _ => ⟨rfl, rfl, rfl, Nat.zero_le _, Nat.zero_le _⟩
  | d :: l, h => by
    have hd := h d List.mem_cons_self
    obtain ⟨h1, h2, h3, h4, h5⟩ := all_parts (l := l) fun x hx => h x (List.mem_cons_of_mem _ hx)
    refine ⟨?_, ?_, ?_, ?_, ?_⟩
    · rw [D.plainAll, hd.plain, h1]; rfl
    · rw [D.pyAll, PyData.showableAll, hd.show', h2]; rfl
    · rw [D.pyAll, PyData.leavesShortAll, hd.short, h3]; rfl
    · rw [D.pyAll, PyData.bulkAll, List.length_cons, Nat.add_mul]
      have := hd.bulk
      omega
    · rw [D.pyAll, PyData.depthAll]
      have := hd.depth
      exact Nat.max_le.mpr ⟨this, h5⟩
theorem ok_tup {b e m : Nat} {l : List D} (h : AllOk b e l) (hl : l.length ≤ m) : Ok (m * (b + 1)) (e + 1) (.tup l) := by
  obtain ⟨h1, h2, h3, h4, h5⟩ := all_parts h
  have z : l.length * (b + 1) ≤ m * (b + 1) := Nat.mul_le_mul_right _ hl
  refine ⟨?_, ?_, ?_, ?_, ?_⟩
  · rw [D.plain]; exact h1
  · rw [D.py, PyData.showable]; exact h2
  · rw [D.py, PyData.leavesShort]; exact h3
  · rw [D.py, PyData.bulk]; omega
  · rw [D.py, PyData.depth]; omega
theorem ok_lst {b e m : Nat} {l : List D} (h : AllOk b e l) (hl : l.length ≤ m) : Ok (m * (b + 1)) (e + 1) (.lst l) := by
  obtain ⟨h1, h2, h3, h4, h5⟩ := all_parts h
  have z : l.length * (b + 1) ≤ m * (b + 1) := Nat.mul_le_mul_right _ hl
  refine ⟨?_, ?_, ?_, ?_, ?_⟩
  · rw [D.plain]; exact h1
  · rw [D.py, PyData.showable]; exact h2
  · rw [D.py, PyData.leavesShort]; exact h3
  · rw [D.py, PyData.bulk]; omega
  · rw [D.py, PyData.depth]; omega
end OE
set_option maxHeartbeats 4000000
namespace OE
open PySem PySem.Spec L2
variable [TN]
/-! ### readings, step by step: what stands behind is kept folded -/
section
variable {α β : Type} {a b : α} {l m : List α}
theorem w_g0 : (a :: l)[0]? = some a := List.getElem?_cons_zero
theorem w_gs {i : Nat} : (a :: l)[i + 1]? = l[i]? := List.getElem?_cons_succ
theorem w_s0 : (a :: l).set 0 b = b :: l := List.set_cons_zero ..
theorem w_ss {i : Nat} : (a :: l).set (i + 1) b = a :: l.set i b := List.set_cons_succ ..
theorem w_some : (some a = some b) = (a = b) := Option.some.injEq a b
theorem w_ex {p : α → Prop} : (∃ x, a = x ∧ p x) ↔ p a := exists_eq_left'
theorem w_lc : (a :: l).length = l.length + 1 := List.length_cons
theorem w_ln : ([] : List α).length = 0 := List.length_nil
theorem w_at {p : Prop} : (p ∧ True) = p := and_true p
theorem w_ta {p : Prop} : (True ∧ p) = p := true_and p
theorem w_nt : (!true) = false := Bool.not_true
theorem w_nf : (!false) = true := Bool.not_false
theorem w_it {_ : Decidable True} {c d : α} : (if True then c else d) = c := if_true ..
theorem w_if {_ : Decidable False} {c d : α} : (if False then c else d) = d := if_false ..
theorem w_itP {_ : Decidable True} {c d : Prop} : (if True then c else d) = c := if_true ..
theorem w_ifP {_ : Decidable False} {c d : Prop} : (if False then c else d) = d := if_false ..
theorem w_ft : (false = true) = False := Bool.false_eq_true
theorem w_mc {f : α → β} : (a :: l).map f = f a :: l.map f := List.map_cons
theorem w_mn {f : α → β} : ([] : List α).map f = [] := List.map_nil
theorem w_rs {n : Nat} : List.replicate (n + 1) a = a :: List.replicate n a := List.replicate_succ
theorem w_r0 : List.replicate 0 a = [] := List.replicate_zero
theorem w_ca : (a :: l) ++ m = a :: (l ++ m) := List.cons_append
theorem w_na : [] ++ m = m := List.nil_append ..
theorem w_za (n : Nat) : 0 + n = n := Nat.zero_add n
theorem w_sb (n : Nat) : n - n = 0 := Nat.sub_self n
theorem w_sz (n : Nat) : n - 0 = n := Nat.sub_zero n
end
section
variable {n : S} {x : Exn → S → Prop} {ρ : Ev} {d : D} {i j : Nat} {f : D → D → Wp D} {ta tb tc : Ev → Wp D} {tl : Ev → Wp (List D)} {c c' : Ev → Wp Bool} {t u : Ev → Wp Out} {q : D → S → Prop} {qo : Out → S → Prop} {qb : Bool → S → Prop} {ql : List D → S → Prop}
noncomputable def kSeq (u : Ev → Wp Out) (q : Out → S → Prop) (x : Exn → S → Prop) (o : Out) (n : S) : Prop := match o with
  | .nx ρ => u ρ n q x
  | .rt d => q (.rt d) n
  | .bk ρ => q (.bk ρ) n
  | .ct ρ => q (.ct ρ) n
theorem s_then : tthen t u ρ n qo x = t ρ n (kSeq u qo x) x := congrArg (fun k => t ρ n k x) (by funext o m; cases o <;> rfl)
theorem k_seqN {ρ : Ev} : kSeq u qo x (.nx ρ) n = u ρ n qo x := rfl
theorem k_seqR : kSeq u qo x (.rt d) n = qo (.rt d) n := rfl
theorem k_seqB {ρ : Ev} : kSeq u qo x (.bk ρ) n = qo (.bk ρ) n := rfl
theorem k_seqC {ρ : Ev} : kSeq u qo x (.ct ρ) n = qo (.ct ρ) n := rfl
theorem s_next : tnext ρ n qo x = qo (.nx ρ) n := rfl
noncomputable def kRet (q : Out → S → Prop) (d : D) (n : S) : Prop := q (.rt d) n
theorem s_ret : tret ta ρ n qo x = ta ρ n (kRet qo) x := rfl
theorem k_ret : kRet qo d n = qo (.rt d) n := rfl
noncomputable def kSet (i : Nat) (ρ : Ev) (q : Out → S → Prop) (d : D) (n : S) : Prop := q (.nx (ρ.set i (some d))) n
theorem s_set : tset i ta ρ n qo x = ta ρ n (kSet i ρ qo) x := rfl
theorem k_set : kSet i ρ qo d n = qo (.nx (ρ.set i (some d))) n := rfl
noncomputable def kIte (t u : Ev → Wp Out) (ρ : Ev) (q : Out → S → Prop) (x : Exn → S → Prop) (b : Bool) (n : S) : Prop := if b = true then t ρ n q x else u ρ n q x
theorem s_ite : tite c t u ρ n qo x = c ρ n (kIte t u ρ qo x) x := congrArg (fun k => c ρ n k x) (by funext b m; unfold kIte; split <;> simp_all)
theorem k_ite {b : Bool} : kIte t u ρ qo x b n = if b = true then t ρ n qo x else u ρ n qo x := rfl
theorem o_rt : outQ q (.rt d) n = q d n := rfl
theorem o_nx : outQ q (.nx ρ) n = q .non n := rfl
theorem s_run {N : Nat} {ds : List D} : runDef N t ds n q x = t (startE N ds) n (outQ q) x := rfl
theorem s_var : tvar i ρ n q x = ∃ d, ρ[i]? = some (some d) ∧ q d n := rfl
theorem s_const : tconst d ρ n q x = q d n := rfl
theorem s_nil : tnil ρ n ql x = ql [] n := rfl
noncomputable def kCons (tl : Ev → Wp (List D)) (ρ : Ev) (q : List D → S → Prop) (x : Exn → S → Prop) (d : D) (n : S) : Prop := tl ρ n (fun ds m => q (d :: ds) m) x
noncomputable def kCons2 (d : D) (q : List D → S → Prop) (ds : List D) (n : S) : Prop := q (d :: ds) n
theorem s_cons : tcons ta tl ρ n ql x = ta ρ n (kCons tl ρ ql x) x := rfl
theorem k_cons : kCons tl ρ ql x d n = tl ρ n (kCons2 d ql) x := rfl
theorem k_cons2 {ds : List D} : kCons2 d ql ds n = ql (d :: ds) n := rfl
noncomputable def kTup (q : D → S → Prop) (ds : List D) (n : S) : Prop := ds.length ≤ 1000000 ∧ q (.tup ds) n
noncomputable def kLst (q : D → S → Prop) (ds : List D) (n : S) : Prop := ds.length ≤ 1000000 ∧ q (.lst ds) n
theorem s_tup : ttup tl ρ n q x = tl ρ n (kTup q) x := rfl
theorem s_lst : tlst tl ρ n q x = tl ρ n (kLst q) x := rfl
theorem k_tup {ds : List D} : kTup q ds n = (ds.length ≤ 1000000 ∧ q (.tup ds) n) := rfl
theorem k_lst {ds : List D} : kLst q ds n = (ds.length ≤ 1000000 ∧ q (.lst ds) n) := rfl
noncomputable def kBin (f : D → D → Wp D) (tb : Ev → Wp D) (ρ : Ev) (q : D → S → Prop) (x : Exn → S → Prop) (a : D) (n : S) : Prop := tb ρ n (fun b m => f a b m q x) x
noncomputable def kBin2 (f : D → D → Wp D) (a : D) (q : D → S → Prop) (x : Exn → S → Prop) (b : D) (n : S) : Prop := f a b n q x
theorem s_bin : tbin f ta tb ρ n q x = ta ρ n (kBin f tb ρ q x) x := rfl
theorem k_bin {a : D} : kBin f tb ρ q x a n = tb ρ n (kBin2 f a q x) x := rfl
theorem k_bin2 {a b : D} : kBin2 f a q x b n = f a b n q x := rfl
noncomputable def kAp (f : D → Wp D) (q : D → S → Prop) (x : Exn → S → Prop) (a : D) (n : S) : Prop := f a n q x
theorem s_bind {f : D → Wp D} : tbind f ta ρ n q x = ta ρ n (kAp f q x) x := rfl
theorem k_ap {f : D → Wp D} {a : D} : kAp f q x a n = f a n q x := rfl
noncomputable def kApL (f : List D → Wp D) (q : D → S → Prop) (x : Exn → S → Prop) (a : List D) (n : S) : Prop := f a n q x
theorem s_call {f : List D → Wp D} : tcall f tl ρ n q x = tl ρ n (kApL f q x) x := rfl
theorem k_apL {f : List D → Wp D} {a : List D} : kApL f q x a n = f a n q x := rfl
noncomputable def kFn (m : Nat) (F : List D → Wp D) (q : D → S → Prop) (x : Exn → S → Prop) (a : List D) (n : S) : Prop := a.length = m ∧ F a n q x
theorem s_fn {m : Nat} {F : List D → Wp D} : tfn m F tl ρ n q x = tl ρ n (kFn m F q x) x := rfl
theorem k_fn {m : Nat} {F : List D → Wp D} {a : List D} : kFn m F q x a n = (a.length = m ∧ F a n q x) := rfl
noncomputable def kTest (q : Bool → S → Prop) (x : Exn → S → Prop) (d : D) (n : S) : Prop := ttest (tconst d) [] n q x
theorem s_test : ttest ta ρ n qb x = ta ρ n (kTest qb x) x := rfl
theorem k_test {b : Bool} : kTest qb x (.bl b) n = qb b n := rfl
noncomputable def kAnd (u : Ev → Wp Bool) (ρ : Ev) (q : Bool → S → Prop) (x : Exn → S → Prop) (b : Bool) (n : S) : Prop := if b = true then u ρ n q x else q false n
theorem s_and : tand c c' ρ n qb x = c ρ n (kAnd c' ρ qb x) x := congrArg (fun k => c ρ n k x) (by funext b m; unfold kAnd; cases b <;> rfl)
theorem k_and {b : Bool} : kAnd c' ρ qb x b n = if b = true then c' ρ n qb x else qb false n := rfl
noncomputable def kOr (u : Ev → Wp Bool) (ρ : Ev) (q : Bool → S → Prop) (x : Exn → S → Prop) (b : Bool) (n : S) : Prop := if b = true then q true n else u ρ n q x
theorem s_or : tor c c' ρ n qb x = c ρ n (kOr c' ρ qb x) x := congrArg (fun k => c ρ n k x) (by funext b m; unfold kOr; cases b <;> rfl)
theorem k_or {b : Bool} : kOr c' ρ qb x b n = if b = true then qb true n else c' ρ n qb x := rfl
noncomputable def kNot (q : Bool → S → Prop) (b : Bool) (n : S) : Prop := q (!b) n
theorem s_not : tnot c ρ n qb x = c ρ n (kNot qb) x := rfl
theorem k_not {b : Bool} : kNot qb b n = qb (!b) n := rfl
noncomputable def kAndV (u : Ev → Wp D) (ρ : Ev) (q : D → S → Prop) (x : Exn → S → Prop) (d : D) (n : S) : Prop := tandV (tconst d) (fun _ => u ρ) [] n q x
theorem s_andV : tandV ta tb ρ n q x = ta ρ n (kAndV tb ρ q x) x := rfl
theorem k_andV {b : Bool} : kAndV tb ρ q x (.bl b) n = if b = true then tb ρ n q x else q (.bl false) n := by cases b <;> rfl
noncomputable def kOrV (u : Ev → Wp D) (ρ : Ev) (q : D → S → Prop) (x : Exn → S → Prop) (d : D) (n : S) : Prop := torV (tconst d) (fun _ => u ρ) [] n q x
theorem s_orV : torV ta tb ρ n q x = ta ρ n (kOrV tb ρ q x) x := rfl
theorem k_orV {b : Bool} : kOrV tb ρ q x (.bl b) n = if b = true then q (.bl true) n else tb ρ n q x := by cases b <;> rfl
noncomputable def kNotV (q : D → S → Prop) (x : Exn → S → Prop) (d : D) (n : S) : Prop := tnotV (tconst d) [] n q x
theorem s_notV : tnotV ta ρ n q x = ta ρ n (kNotV q x) x := rfl
theorem k_notV {b : Bool} : kNotV q x (.bl b) n = q (.bl (!b)) n := rfl
noncomputable def kIf (t u : Ev → Wp D) (ρ : Ev) (q : D → S → Prop) (x : Exn → S → Prop) (b : Bool) (n : S) : Prop := if b = true then t ρ n q x else u ρ n q x
theorem s_if : tif c ta tb ρ n q x = c ρ n (kIf ta tb ρ q x) x := congrArg (fun k => c ρ n k x) (by funext b m; unfold kIf; cases b <;> rfl)
theorem k_if {b : Bool} : kIf ta tb ρ q x b n = if b = true then ta ρ n q x else tb ρ n q x := rfl
noncomputable def kIsN (q : D → S → Prop) (d : D) (n : S) : Prop := q (.bl (isNon d)) n
theorem s_isN : tisN ta ρ n q x = ta ρ n (kIsN q) x := rfl
theorem k_isN : kIsN q d n = q (.bl (isNon d)) n := rfl
noncomputable def kNoN (q : D → S → Prop) (d : D) (n : S) : Prop := q (.bl (!isNon d)) n
theorem s_noN : tnotN ta ρ n q x = ta ρ n (kNoN q) x := rfl
theorem k_noN : kNoN q d n = q (.bl (!isNon d)) n := rfl
noncomputable def kCh1 (f f' : D → D → Wp D) (tb tc : Ev → Wp D) (ρ : Ev) (q : D → S → Prop) (x : Exn → S → Prop) (a : D) (n : S) : Prop := tb ρ n (fun b m => tchain f f' (tconst a) (tconst b) (fun _ => tc ρ) [] m q x) x
noncomputable def kCh2 (f f' : D → D → Wp D) (a : D) (tc : Ev → Wp D) (ρ : Ev) (q : D → S → Prop) (x : Exn → S → Prop) (b : D) (n : S) : Prop := tchain f f' (tconst a) (tconst b) (fun _ => tc ρ) [] n q x
noncomputable def kCh3 (f' : D → D → Wp D) (b : D) (tc : Ev → Wp D) (ρ : Ev) (q : D → S → Prop) (x : Exn → S → Prop) (z : D) (n : S) : Prop := match z with
  | .bl true => tc ρ n (kBin2 f' b q x) x
  | .bl false => q (.bl false) n
  | _ => False
theorem s_chain {f' : D → D → Wp D} : tchain f f' ta tb tc ρ n q x = ta ρ n (kCh1 f f' tb tc ρ q x) x := rfl
theorem k_ch1 {f' : D → D → Wp D} {a : D} : kCh1 f f' tb tc ρ q x a n = tb ρ n (kCh2 f f' a tc ρ q x) x := rfl
theorem k_ch2 {f' : D → D → Wp D} {a b : D} : kCh2 f f' a tc ρ q x b n = f a b n (kCh3 f' b tc ρ q x) x := congrArg (fun k => f a b n k x) (by funext z m; unfold kCh3; split <;> first | rfl | (rename_i h1 h2; cases z <;> first | rfl | (rename_i bb; cases bb <;> simp_all)))
theorem k_ch3 {f' : D → D → Wp D} {a : D} {b : Bool} : kCh3 f' a tc ρ q x (.bl b) n = if b = true then tc ρ n (kBin2 f' a q x) x else q (.bl false) n := by cases b <;> rfl
noncomputable def kIsi (T : String) (q : D → S → Prop) (d : D) (n : S) : Prop := d.isE = false ∧ q (.bl (isiB T d)) n
theorem s_isi {T : String} : tisi T ta ρ n q x = ta ρ n (kIsi T q) x := rfl
theorem k_isi {T : String} : kIsi T q d n = (d.isE = false ∧ q (.bl (isiB T d)) n) := rfl
noncomputable def kPart (q : Option Int → S → Prop) (x : Exn → S → Prop) (d : D) (n : S) : Prop := tpart (tconst d) [] n q x
theorem s_part {q : Option Int → S → Prop} : tpart ta ρ n q x = ta ρ n (kPart q x) x := rfl
theorem k_part {q : Option Int → S → Prop} {z : Int} : kPart q x (.int z) n = q (some z) n := rfl
noncomputable def kSl1 (l h : Ev → Wp (Option Int)) (ρ : Ev) (q : D → S → Prop) (x : Exn → S → Prop) (d : D) (n : S) : Prop := l ρ n (fun lo m => h ρ m (fun hi k => fSl d lo hi k q x) x) x
noncomputable def kSl2 (h : Ev → Wp (Option Int)) (ρ : Ev) (q : D → S → Prop) (x : Exn → S → Prop) (d : D) (lo : Option Int) (n : S) : Prop := h ρ n (fun hi k => fSl d lo hi k q x) x
noncomputable def kSl3 (q : D → S → Prop) (x : Exn → S → Prop) (d : D) (lo hi : Option Int) (n : S) : Prop := fSl d lo hi n q x
theorem s_slice {l h : Ev → Wp (Option Int)} : tslice ta l h ρ n q x = ta ρ n (kSl1 l h ρ q x) x := rfl
theorem k_sl1 {l h : Ev → Wp (Option Int)} : kSl1 l h ρ q x d n = l ρ n (kSl2 h ρ q x d) x := rfl
theorem k_sl2 {h : Ev → Wp (Option Int)} {lo : Option Int} : kSl2 h ρ q x d lo n = h ρ n (kSl3 q x d lo) x := rfl
theorem k_sl3 {lo hi : Option Int} : kSl3 q x d lo hi n = fSl d lo hi n q x := rfl
theorem s_retO {α : Type} {a : α} {q : α → S → Prop} : (Wp.ret a : Wp α) n q x = q a n := rfl
theorem s_slL {l : List D} {lo hi : Option Int} : fSl (.lst l) lo hi n q x = q (.lst (cut l lo hi)) n := rfl
theorem s_slT {l : List D} {lo hi : Option Int} : fSl (.tup l) lo hi n q x = q (.tup (cut l lo hi)) n := rfl
theorem s_slS {l : List Int} {lo hi : Option Int} : fSl (.scr l) lo hi n q x = q (.lst ((cut l lo hi).map D.int)) n := rfl
noncomputable def kItm (q : List D → S → Prop) (x : Exn → S → Prop) (d : D) (n : S) : Prop := items d n q x
theorem s_seq : tseq ta ρ n ql x = ta ρ n (kItm ql x) x := rfl
theorem k_itmL {l : List D} : kItm ql x (.lst l) n = ql l n := rfl
theorem k_itmT {l : List D} : kItm ql x (.tup l) n = ql l n := rfl
theorem k_itmS {l : List Int} : kItm ql x (.scr l) n = ql (l.map D.int) n := rfl
noncomputable def kIts (f : List D → Wp (List D)) (q : List D → S → Prop) (x : Exn → S → Prop) (a : List D) (n : S) : Prop := f a n q x
theorem s_its {f : List D → Wp (List D)} : tits f tl ρ n ql x = tl ρ n (kIts f ql x) x := rfl
theorem k_its {f : List D → Wp (List D)} {a : List D} : kIts f ql x a n = f a n ql x := rfl
theorem s_rng1 {z : Int} : fRange1 [.int z] n ql x = ((-(2 ^ 62) ≤ z ∧ z < 2 ^ 62) ∧ ql (rangeD 0 z.toNat) n) := rfl
theorem s_rng2 {z w : Int} : fRange2 [.int z, .int w] n ql x = ((-(2 ^ 62) ≤ z ∧ z < 2 ^ 62 ∧ -(2 ^ 62) ≤ w ∧ w < 2 ^ 62) ∧ ql (rangeD z (w - z).toNat) n) := rfl
theorem s_enT {l : List D} : fEnum [.tup l] n ql x = ql (enumD 0 l) n := rfl
theorem s_enL {l : List D} : fEnum [.lst l] n ql x = ql (enumD 0 l) n := rfl
theorem s_zipL {l m : List D} : fZip [.lst l, .lst m] n ql x = ql (zipD l m) n := rfl
theorem s_zipT {l m : List D} : fZip [.tup l, .tup m] n ql x = ql (zipD l m) n := rfl
/-! loops -/
noncomputable def kFor (g : D → Ev → Wp Ev) (t : Ev → Wp Out) (ρ : Ev) (q : Out → S → Prop) (x : Exn → S → Prop) (ds : List D) (n : S) : Prop := forW g t ds ρ n q x
theorem s_for {g : D → Ev → Wp Ev} : tfor tl g t ρ n qo x = tl ρ n (kFor g t ρ qo x) x := rfl
theorem k_for {g : D → Ev → Wp Ev} {ds : List D} : kFor g t ρ qo x ds n = forW g t ds ρ n qo x := rfl
theorem for_nil {g : D → Ev → Wp Ev} : forW g t [] ρ n qo x = qo (.nx ρ) n := rfl
noncomputable def kTurn (g : D → Ev → Wp Ev) (t : Ev → Wp Out) (ds : List D) (q : Out → S → Prop) (x : Exn → S → Prop) (o : Out) (n : S) : Prop := match o with
  | .nx ρ => forW g t ds ρ n q x
  | .ct ρ => forW g t ds ρ n q x
  | .bk ρ => q (.nx ρ) n
  | .rt d => q (.rt d) n
noncomputable def kGo (t : Ev → Wp Out) (k : Out → S → Prop) (x : Exn → S → Prop) (ρ : Ev) (n : S) : Prop := t ρ n k x
theorem for_cons {g : D → Ev → Wp Ev} {ds : List D} : forW g t (d :: ds) ρ n qo x = g d ρ n (kGo t (kTurn g t ds qo x) x) x := by
  show (g d ρ) n (fun ρ1 k => (t ρ1) k _ x) x = _
  refine congrArg (fun k => g d ρ n k x) (funext fun ρ1 => funext fun m => congrArg (fun k => t ρ1 m k x) (funext fun o => funext fun r => ?_))
  cases o <;> rfl
theorem k_go {k : Out → S → Prop} : kGo t k x ρ n = t ρ n k x := rfl
theorem k_tN {g : D → Ev → Wp Ev} {ds : List D} : kTurn g t ds qo x (.nx ρ) n = forW g t ds ρ n qo x := rfl
theorem k_tC {g : D → Ev → Wp Ev} {ds : List D} : kTurn g t ds qo x (.ct ρ) n = forW g t ds ρ n qo x := rfl
theorem k_tB {g : D → Ev → Wp Ev} {ds : List D} : kTurn g t ds qo x (.bk ρ) n = qo (.nx ρ) n := rfl
theorem k_tR {g : D → Ev → Wp Ev} {ds : List D} : kTurn g t ds qo x (.rt d) n = qo (.rt d) n := rfl
theorem g_name {q : Ev → S → Prop} : gname i d ρ n q x = q (ρ.set i (some d)) n := rfl
noncomputable def kGs (gs : List D → Ev → Wp Ev) (ds : List D) (q : Ev → S → Prop) (x : Exn → S → Prop) (ρ : Ev) (n : S) : Prop := gs ds ρ n q x
theorem g_tup {gs : List D → Ev → Wp Ev} {l : List D} {m : Nat} {q : Ev → S → Prop} : gtup m gs (.tup l) ρ n q x = (l.length = m ∧ gs l ρ n q x) := rfl
theorem g_cons {g : D → Ev → Wp Ev} {gs : List D → Ev → Wp Ev} {ds : List D} {q : Ev → S → Prop} : gcons g gs (d :: ds) ρ n q x = g d ρ n (kGs gs ds q x) x := rfl
theorem k_gs {gs : List D → Ev → Wp Ev} {ds : List D} {q : Ev → S → Prop} : kGs gs ds q x ρ n = gs ds ρ n q x := rfl
theorem g_nil {q : Ev → S → Prop} : gnil [] ρ n q x = q ρ n := rfl
noncomputable def kAsg (g : D → Ev → Wp Ev) (ρ : Ev) (q : Out → S → Prop) (x : Exn → S → Prop) (d : D) (n : S) : Prop := g d ρ n (fun ρ' m => q (.nx ρ') m) x
noncomputable def kNx (q : Out → S → Prop) (ρ : Ev) (n : S) : Prop := q (.nx ρ) n
theorem s_asg {g : D → Ev → Wp Ev} : tasg ta g ρ n qo x = ta ρ n (kAsg g ρ qo x) x := rfl
theorem k_asg {g : D → Ev → Wp Ev} : kAsg g ρ qo x d n = g d ρ n (kNx qo) x := rfl
theorem k_nx : kNx qo ρ n = qo (.nx ρ) n := rfl
noncomputable def kPar (i j : Nat) (ρ : Ev) (q : Out → S → Prop) (x : Exn → S → Prop) (ds : List D) (n : S) : Prop := tpar i j (fun _ => Wp.ret ds) ρ n q x
theorem s_par : tpar i j tl ρ n qo x = tl ρ n (kPar i j ρ qo x) x := rfl
theorem k_par {a b : D} : kPar i j ρ qo x [a, b] n = qo (.nx ((ρ.set i (some a)).set j (some b))) n := rfl
/-! comprehensions -/
noncomputable def kLc (g : D → Ev → Wp Ev) (c : Ev → Wp Bool) (te : Ev → Wp D) (vs : List Nat) (ρ : Ev) (q : D → S → Prop) (ds : List D) (n : S) : Prop := ds.length ≤ 1000000 ∧ lcW g c te (wipeE ρ vs) ds n (fun ys m => q (.lst ys) m) (fun _ _ => False)
theorem s_lc {g : D → Ev → Wp Ev} {vs : List Nat} : tlc tl g c ta vs ρ n q x = tl ρ n (kLc g c ta vs ρ q) x := rfl
theorem k_lc {g : D → Ev → Wp Ev} {vs : List Nat} {ds : List D} : kLc g c ta vs ρ q ds n = (ds.length ≤ 1000000 ∧ lcW g c ta (wipeE ρ vs) ds n (fun ys m => q (.lst ys) m) (fun _ _ => False)) := rfl
/-- one turn of a comprehension -/
noncomputable def lc1 (g : D → Ev → Wp Ev) (c : Ev → Wp Bool) (te : Ev → Wp D) (ρ : Ev) (d : D) (n : S) (k : Option D → S → Prop) : Prop :=
  g d ρ n (fun ρ1 m => c ρ1 m (fun b r => if b = true then te ρ1 r (fun y s => k (some y) s) (fun _ _ => False) else k none r) (fun _ _ => False)) (fun _ _ => False)
noncomputable def kLc1 (c : Ev → Wp Bool) (te : Ev → Wp D) (k : Option D → S → Prop) (ρ : Ev) (n : S) : Prop := c ρ n (fun b r => if b = true then te ρ r (fun y s => k (some y) s) (fun _ _ => False) else k none r) (fun _ _ => False)
noncomputable def kLc2 (te : Ev → Wp D) (k : Option D → S → Prop) (ρ : Ev) (b : Bool) (n : S) : Prop := if b = true then te ρ n (fun y s => k (some y) s) (fun _ _ => False) else k none n
noncomputable def kSome (k : Option D → S → Prop) (y : D) (n : S) : Prop := k (some y) n
noncomputable def xNo : Exn → S → Prop := fun _ _ => False
theorem s_lc1 {g : D → Ev → Wp Ev} {k : Option D → S → Prop} : lc1 g c ta ρ d n k = g d ρ n (kLc1 c ta k) xNo := rfl
theorem k_lc1 {k : Option D → S → Prop} : kLc1 c ta k ρ n = c ρ n (kLc2 ta k ρ) xNo := rfl
theorem k_lc2 {k : Option D → S → Prop} {b : Bool} : kLc2 ta k ρ b n = if b = true then ta ρ n (kSome k) xNo else k none n := rfl
theorem k_some {k : Option D → S → Prop} : kSome k d n = k (some d) n := rfl
theorem lc_cons {g : D → Ev → Wp Ev} {ds : List D} (h : lc1 g c ta ρ d n fun o m => lcW g c ta ρ ds m (fun ys r => ql (o.toList ++ ys) r) (fun _ _ => False)) : lcW g c ta ρ (d :: ds) n ql (fun _ _ => False) := by
  refine Eq.mp ?_ h
  refine congrArg (fun k => g d ρ n k (fun _ _ => False)) (funext fun ρ1 => funext fun m => congrArg (fun k => c ρ1 m k (fun _ _ => False)) (funext fun b => funext fun r => ?_))
  cases b <;> rfl
/-- a comprehension whose turns neither draw nor fail -/
theorem lc_pure {g : D → Ev → Wp Ev} {f : D → Option D} : ∀ {ds : List D} {n : S} {ql : List D → S → Prop}, (∀ d ∈ ds, ∀ (n : S) (k : Option D → S → Prop), k (f d) n → lc1 g c ta ρ d n k) → ql (ds.filterMap f) n → lcW g c ta ρ ds n ql (fun _ _ => False)
  | [], _, _, _, h => h
  | d :: ds, n, ql, hp, h => by
    refine lc_cons (hp d List.mem_cons_self n _ (lc_pure (fun e he => hp e (List.mem_cons_of_mem _ he)) ?_))
    rw [List.filterMap_cons] at h
    cases e : f d with
    | none => rw [e] at h; simpa using h
    | some y => rw [e] at h; simpa using h
/-! failing, trying -/
noncomputable def kFail (name : Str) (x : Exn → S → Prop) (ds : List D) (n : S) : Prop := tfail1 name (fun _ => Wp.ret ds) [] n (fun _ _ => False) x
theorem s_fail {name : Str} : tfail1 name tl ρ n qo x = tl ρ n (kFail name x) x := congrArg (fun k => tl ρ n k x) (by funext ds m; unfold kFail tfail1; cases ds with | nil => rfl | cons a l => cases l <;> rfl)
theorem k_fail {name : Str} : kFail name x [d] n = x ⟨name, some d⟩ n := rfl
theorem s_fail0 {name : Str} : tfail0 name ρ n qo x = x ⟨name, none⟩ n := rfl
noncomputable def kCatch (Γ : Gam) (mt : Str → Bool) (i : Nat) (su : Ev → Wp Out) (ρ : Ev) (q : Out → S → Prop) (x : Exn → S → Prop) (e : Exn) (n : S) : Prop :=
  if mt e.cls = true then ∀ C, Γ e.cls = some C → su (ρ.set i (some (.exn e.cls C e.arg.toList))) n (fun o n2 => q (o.unset i) n2) (fun _ _ => False) else x e n
theorem s_try {Γ : Gam} {mt : Str → Bool} : ttry Γ mt i t u ρ n qo x = t ρ n qo (kCatch Γ mt i u ρ qo x) := rfl
noncomputable def kUn (i : Nat) (q : Out → S → Prop) (o : Out) (n : S) : Prop := q (o.unset i) n
theorem k_unN : kUn i qo (.nx ρ) n = qo (.nx (ρ.set i none)) n := rfl
theorem k_unR : kUn i qo (.rt d) n = qo (.rt d) n := rfl
noncomputable def kFld (Γ : Gam) (f : Str) (q : D → S → Prop) (x : Exn → S → Prop) (d : D) (n : S) : Prop := tfld Γ f (tconst d) [] n q x
theorem s_fld {Γ : Gam} {f : Str} : tfld Γ f ta ρ n q x = ta ρ n (kFld Γ f q x) x := rfl
theorem k_fld {Γ : Gam} {f nm : Str} {C : Addr} {v : D} : kFld Γ f q x (.exn nm C [v]) n = ((Γ nm = some C ∧ fldOf nm = f) ∧ q v n) := rfl
/-! operations -/
theorem f_addI {a b : Int} : fAdd (.int a) (.int b) n q x = q (.int (a + b)) n := rfl
theorem f_addT {a b : List D} : fAdd (.tup a) (.tup b) n q x = (a.length + b.length ≤ 1000000 ∧ q (.tup (a ++ b)) n) := rfl
theorem f_addL {a b : List D} : fAdd (.lst a) (.lst b) n q x = (a.length + b.length ≤ 1000000 ∧ q (.lst (a ++ b)) n) := rfl
theorem f_addS {a b : Str} : fAdd (.str a) (.str b) n q x = (a.length + b.length ≤ 1000000 ∧ q (.str (a ++ b)) n) := rfl
theorem f_ii {C : Int → Int → Prop} {g : Int → Int → D} {a b : Int} : fII C g (.int a) (.int b) n q x = (C a b ∧ q (g a b) n) := rfl
theorem f_i0 {g : Int → Int → D} {a b : Int} : fI0 g (.int a) (.int b) n q x = q (g a b) n := rfl
theorem f_mulI {a b : Int} : fMul (.int a) (.int b) n q x = (CMulA a b ∧ q (.int (a * b)) n) := rfl
theorem f_mulT {l : List D} {k : Int} : fMul (.tup l) (.int k) n q x = ((l ≠ [] ∧ 1 ≤ k ∧ k ≤ 1000 ∧ l.length ≤ 1000) ∧ q (.tup (List.replicate k.toNat l).flatten) n) := rfl
theorem f_mulL {l : List D} {k : Int} : fMul (.lst l) (.int k) n q x = ((0 ≤ k ∧ k ≤ 1000 ∧ l.length ≤ 1000) ∧ q (.lst (List.replicate k.toNat l).flatten) n) := rfl
theorem f_neg {a : Int} : fNeg (.int a) n q x = q (.int (-a)) n := rfl
theorem f_ixL {l : List D} {z : Int} : fIx (.lst l) (.int z) n q x = ∃ d, atI l z = some d ∧ q d n := rfl
theorem f_ixT {l : List D} {z : Int} : fIx (.tup l) (.int z) n q x = ∃ d, atI l z = some d ∧ q d n := rfl
theorem f_ixS {l : List Int} {z : Int} : fIx (.scr l) (.int z) n q x = ∃ d, atI l z = some d ∧ q (.int d) n := rfl
theorem f_lenL {l : List D} : fLen [.lst l] n q x = q (.int l.length) n := rfl
theorem f_lenT {l : List D} : fLen [.tup l] n q x = q (.int l.length) n := rfl
theorem f_lenS {l : List Int} : fLen [.scr l] n q x = q (.int l.length) n := rfl
theorem f_int {a : Int} : fInt [.int a] n q x = q (.int a) n := rfl
theorem f_min {a b : Int} : fMin [.int a, .int b] n q x = q (.int (if b < a then b else a)) n := rfl
theorem f_max {a b : Int} : fMax [.int a, .int b] n q x = q (.int (if b > a then b else a)) n := rfl
theorem f_tupL {l : List D} : fTuple [.lst l] n q x = q (.tup l) n := rfl
theorem f_lstT {l : List D} : fList [.tup l] n q x = q (.lst l) n := rfl
theorem f_lstL {l : List D} : fList [.lst l] n q x = q (.lst l) n := rfl
theorem f_repr : fRepr [d] n q x = (reprOk d ∧ q (.str d.rpr) n) := rfl
theorem f_cmpS {neg : Bool} {a b : Str} : fCmp neg (.str a) (.str b) n q x = q (.bl (neg.xor (decide (a = b)))) n := rfl
theorem f_cmpI {neg : Bool} {a b : Int} : fCmp neg (.int a) (.int b) n q x = q (.bl (neg.xor (decide (a = b)))) n := rfl
theorem f_cmpT {neg : Bool} {l : List D} : fCmp neg (.tup l) (.tup []) n q x = q (.bl (neg.xor l.isEmpty)) n := rfl
theorem f_cmpL {neg : Bool} {l : List D} : fCmp neg (.lst l) (.lst []) n q x = q (.bl (neg.xor l.isEmpty)) n := rfl
noncomputable def kDic (ks : List Str) (q : D → S → Prop) (ds : List D) (n : S) : Prop := q (.dic (kvD ks ds)) n
theorem s_dict {ks : List Str} : tdict ks tl ρ n q x = tl ρ n (kDic ks q) x := rfl
theorem k_dic {ks : List Str} {ds : List D} : kDic ks q ds n = q (.dic (kvD ks ds)) n := rfl
/-! the draws' state -/
theorem f_getM {key : Str} : fGetS key .m n q x = mGet key n q x := rfl
noncomputable def kPut1 (key : Str) (ta : Ev → Wp D) (ρ : Ev) (q : Out → S → Prop) (x : Exn → S → Prop) (d : D) (n : S) : Prop := ta ρ n (fun y m => tputM key (tconst y) (tconst d) ρ m q x) x
noncomputable def kPut2 (key : Str) (ρ : Ev) (q : Out → S → Prop) (x : Exn → S → Prop) (d : D) (y : D) (n : S) : Prop := tputM key (tconst y) (tconst d) ρ n q x
theorem s_putM {key : Str} : tputM key ta tb ρ n qo x = tb ρ n (kPut1 key ta ρ qo x) x := rfl
theorem k_put1 {key : Str} : kPut1 key ta ρ qo x d n = ta ρ n (kPut2 key ρ qo x d) x := rfl
theorem k_put2 {key : Str} : kPut2 key ρ qo x d .m n = mPut key d n (fun _ m => qo (.nx ρ) m) x := rfl
noncomputable def kDm (q : D → S → Prop) (ds : List D) (n : S) : Prop := ∃ (l s : Int) (cs : List Int), ds = [.int l, .int s, .lst (cs.map D.int), .int 0] ∧ 0 ≤ l ∧ 0 ≤ s ∧ s < 2147483647 ∧ 0 < cs.length ∧ q .m n
theorem s_dm : tdictM tl ρ n q x = tl ρ n (kDm q) x := rfl
theorem mGet_left : mGet "left" n q x = ∀ l : Int, 0 ≤ l → q (.int l) n := if_pos rfl
theorem mGet_seed : mGet "seed" n q x = ∀ s : Int, 0 ≤ s → s < 2147483647 → q (.int s) n := (if_neg (by decide)).trans (if_pos rfl)
theorem mGet_cells : mGet "cells" n q x = ∀ cs : List Int, 0 < cs.length → q (.lst (cs.map D.int)) n := (if_neg (by decide)).trans ((if_neg (by decide)).trans (if_pos rfl))
theorem mGet_spot : mGet "spot" n q x = ∀ p : Int, 0 ≤ p → p ≤ n.n → q (.int p) n := (if_neg (by decide)).trans ((if_neg (by decide)).trans ((if_neg (by decide)).trans (if_pos rfl)))
theorem mPut_left {q : Unit → S → Prop} : mPut "left" d n q x = ∃ l : Int, d = .int l ∧ 0 ≤ l ∧ q () n := if_pos rfl
theorem mPut_spot {q : Unit → S → Prop} : mPut "spot" d n q x = ∃ p : Int, d = .int p ∧ 0 ≤ p ∧ p ≤ n.n + 1 ∧ q () ⟨n.n + 1, n.mu⟩ := (if_neg (by decide)).trans (if_pos rfl)
end
end OE
local macro_rules | `(tactic| wp_walk) => `(tactic| wp_walk using Nat.reduceAdd)
local macro_rules | `(tactic| wp_walk using $[$ts],*) => `(tactic| simp -implicitDefEqProofs only [$[$ts:term],*, OE.w_g0, OE.w_gs, OE.w_s0, OE.w_ss, OE.w_some, OE.w_ex, OE.w_lc, OE.w_ln, OE.w_at, OE.w_ta, OE.w_nt, OE.w_nf, OE.w_it, OE.w_if, OE.w_itP, OE.w_ifP, OE.w_ft, OE.w_mc, OE.w_mn, OE.w_rs, OE.w_r0, OE.w_ca, OE.w_na, OE.w_za, OE.w_sb, OE.w_sz, OE.s_then, OE.k_seqN, OE.k_seqR, OE.k_seqB, OE.k_seqC, OE.s_next, OE.s_ret, OE.k_ret, OE.s_set, OE.k_set, OE.s_ite, OE.k_ite, OE.o_rt, OE.o_nx, OE.s_run, OE.s_var, OE.s_const, OE.s_nil, OE.s_cons, OE.k_cons, OE.k_cons2, OE.s_tup, OE.s_lst, OE.k_tup, OE.k_lst, OE.s_bin, OE.k_bin, OE.k_bin2, OE.s_bind, OE.k_ap, OE.s_call, OE.k_apL, OE.s_fn, OE.k_fn, OE.s_test, OE.k_test, OE.s_and, OE.k_and, OE.s_or, OE.k_or, OE.s_not, OE.k_not, OE.s_andV, OE.k_andV, OE.s_orV, OE.k_orV, OE.s_notV, OE.k_notV, OE.s_if, OE.k_if, OE.s_isN, OE.k_isN, OE.s_noN, OE.k_noN, OE.s_chain, OE.k_ch1, OE.k_ch2, OE.k_ch3, OE.s_isi, OE.k_isi, OE.s_part, OE.k_part, OE.s_slice, OE.k_sl1, OE.k_sl2, OE.k_sl3, OE.s_retO, OE.s_slL, OE.s_slT, OE.s_slS, OE.s_seq, OE.k_itmL, OE.k_itmT, OE.k_itmS, OE.s_its, OE.k_its, OE.s_rng1, OE.s_rng2, OE.s_enT, OE.s_enL, OE.s_zipL, OE.s_zipT, OE.s_for, OE.k_for, OE.for_nil, OE.k_go, OE.k_tN, OE.k_tC, OE.k_tB, OE.k_tR, OE.g_name, OE.g_tup, OE.g_cons, OE.k_gs, OE.g_nil, OE.s_asg, OE.k_asg, OE.k_nx, OE.s_par, OE.k_par, OE.s_lc, OE.k_lc, OE.k_lc1, OE.k_lc2, OE.k_some, OE.s_fail, OE.k_fail, OE.s_fail0, OE.s_try, OE.k_unN, OE.k_unR, OE.s_fld, OE.k_fld, OE.f_addI, OE.f_addT, OE.f_addL, OE.f_addS, OE.f_ii, OE.f_i0, OE.f_mulI, OE.f_mulT, OE.f_mulL, OE.f_neg, OE.f_ixL, OE.f_ixT, OE.f_ixS, OE.f_lenL, OE.f_lenT, OE.f_lenS, OE.f_int, OE.f_min, OE.f_max, OE.f_tupL, OE.f_lstT, OE.f_lstL, OE.f_repr, OE.f_cmpS, OE.f_cmpI, OE.f_cmpT, OE.f_cmpL, OE.s_dict, OE.k_dic, OE.f_getM, OE.s_putM, OE.k_put1, OE.k_put2, OE.s_dm, OE.mGet_left, OE.mGet_seed, OE.mGet_cells, OE.mGet_spot, OE.mPut_left, OE.mPut_spot, OE.startE, Nat.reduceAdd, Nat.reduceLeDiff, Nat.reduceSub])
namespace OE
open PySem PySem.Spec L2
variable [TN]
/-! ### the draws of the laws, over data -/
theorem fmod_lt {i j : Int} (h : 0 < j) : 0 ≤ i.fmod j ∧ i.fmod j < j := ⟨Int.fmod_nonneg_of_pos _ h, Int.fmod_lt_of_pos _ h⟩
theorem atI_nat {α : Type} {l : List α} {i : Int} (h0 : 0 ≤ i) (h1 : i < l.length) : ∃ d, atI l i = some d ∧ l[i.toNat]? = some d := by
  have hl : i.toNat < l.length := by omega
  refine ⟨l[i.toNat], ?_, List.getElem?_eq_getElem hl⟩
  unfold atI ixN
  rw [if_pos h0, if_pos h1]
  exact List.getElem?_eq_getElem hl
theorem cmul_l {i j : Int} (h : -18446744073709551616 < i ∧ i < 18446744073709551616) : CMulA i j := .inl (.inl (by omega))
theorem cmul_r {i j : Int} (h : -18446744073709551616 < j ∧ j < 18446744073709551616) : CMulA i j := .inl (.inr (by omega))
noncomputable def tBegun : Ev → Wp Out :=
  tthen (tset 2 (tbin fAdd (tslice (tvar 0) (tpart (tvar 1)) (fun _ => Wp.ret none)) (tslice (tvar 0) (fun _ => Wp.ret none) (tpart (tvar 1)))))
  (tthen (tset 3 (tlc (tseq (tvar 2)) (gname 5) (ttest (tbin fGe (tvar 5) (tbin fPow (tconst (.int 10)) (tconst (.int 18))))) (tvar 5) [5]))
  (tthen (tset 4 (tbin fAdd (tconst (.int 83)) (tvar 1)))
  (tthen (tfor (tseq (tvar 2)) (gname 5) (tset 4 (tbin fMod (tcall fInt (tcons (tbin fAdd (tbin fMul (tvar 4) (tconst (.int 48271))) (tvar 5)) (tnil))) (tconst (.int 2147483647)))))
  (tret (tdictM (tcons (tif (ttest (tbin fNe (tvar 3) (tlst (tnil)))) (tbin fIx (tvar 3) (tconst (.int 0))) (tconst (.int 0))) (tcons (tvar 4) (tcons (tbin fAdd (tvar 2) (tlst (tcons (tbin fAdd (tbin fMul (tconst (.int 37)) (tvar 1)) (tconst (.int 11))) (tnil)))) (tcons (tconst (.int 0)) (tnil))))))))))
noncomputable def tDraw : Ev → Wp Out :=
  tthen (tite (ttest (tbin fGt (tbind (fGetS "left") (tvar 0)) (tconst (.int 0)))) (tthen (tset 2 (tbin fMod (tcall fInt (tcons (tbind (fGetS "left") (tvar 0)) (tnil))) (tvar 1)))
  (tthen (tputM "left" (tvar 0) (tbin fDiv (tbind (fGetS "left") (tvar 0)) (tvar 1)))
  (tret (tvar 2)))) (tnext))
  (tthen (tset 3 (tbind (fGetS "spot") (tvar 0)))
  (tthen (tputM "spot" (tvar 0) (tbin fAdd (tvar 3) (tconst (.int 1))))
  (tthen (tpar 4 5 (tcons (tbind (fGetS "cells") (tvar 0)) (tcons (tbin fAdd (tbind (fGetS "seed") (tvar 0)) (tbin fMul (tbin fMul (tconst (.int 40503)) (tvar 3)) (tvar 3))) (tnil))))
  (tthen (tset 6 (tbin fIx (tvar 4) (tbin fMod (tcall fInt (tcons (tvar 3) (tnil))) (tcall fLen (tcons (tvar 4) (tnil))))))
  (tthen (tset 7 (tbin fMod (tcall fInt (tcons (tbin fAdd (tbin fMul (tvar 6) (tbin fAdd (tbin fMul (tconst (.int 2)) (tvar 3)) (tconst (.int 3)))) (tvar 5)) (tnil))) (tconst (.int 2147483647))))
  (tthen (tset 7 (tbin fMod (tcall fInt (tcons (tbin fAdd (tbin fAdd (tbin fMul (tvar 7) (tvar 7)) (tbin fMul (tconst (.int 69621)) (tvar 3))) (tbind (fGetS "seed") (tvar 0))) (tnil))) (tconst (.int 2147483629))))
  (tret (tbin fMod (tbin fDiv (tbin fMod (tcall fInt (tcons (tbin fAdd (tbin fMul (tvar 7) (tconst (.int 48271))) (tvar 3)) (tnil))) (tconst (.int 2147483647))) (tconst (.int 11))) (tvar 1)))))))))
noncomputable def FDraw : List D → Wp D := runDef 8 tDraw
noncomputable def FBegun : List D → Wp D := runDef 6 tBegun
theorem draw_spec {many : Int} {n : Nat} {μ : Mu} {q : D → S → Prop} {x : Exn → S → Prop} (h1 : 1 ≤ many) (hb : many.natAbs.log2 < 9000) (hn : n < 2 ^ 40) (h : ∀ i, 0 ≤ i → i < many → ∀ n', n ≤ n' → n' ≤ n + 1 → q (.int i) ⟨n', μ⟩) : FDraw [.m, .int many] ⟨n, μ⟩ q x := by
  have hm0 : many ≠ 0 := by omega
  have hp : 0 < many := by omega
  wp_walk using FDraw, tDraw
  intro l hl
  split
  · intro l1 hl1
    exact ⟨hm0, fun l2 hl2 => ⟨⟨hp, hb⟩, _, rfl, Int.ediv_nonneg hl2 (by omega), h _ (fmod_lt hp).1 (fmod_lt hp).2 n (Nat.le_refl _) (Nat.le_succ _)⟩⟩
  · intro p hp0 hpn
    refine ⟨_, rfl, by omega, by omega, fun cs hcs s hs0 hs1 => ⟨cmul_l (by omega), cmul_r (by omega), by rw [List.length_map]; omega, ?_⟩⟩
    have hl0 : (0 : Int) < ((cs.map D.int).length : Nat) := by rw [List.length_map]; omega
    obtain ⟨d, hd1, hd2⟩ := atI_nat (l := cs.map D.int) (i := p.fmod ((cs.map D.int).length : Nat)) (fmod_lt hl0).1 (fmod_lt hl0).2
    rw [List.getElem?_map] at hd2
    obtain ⟨z, hz⟩ : ∃ z, d = .int z := by
      cases e : cs[(p.fmod ((cs.map D.int).length : Nat)).toNat]? with
      | none => rw [e] at hd2; cases hd2
      | some z => rw [e] at hd2; cases hd2; exact ⟨z, rfl⟩
    subst hz
    refine ⟨_, hd1, cmul_l (by omega), ?_⟩
    wp_walk
    refine ⟨cmul_r (by omega), by omega, ?_⟩
    have b1 := fmod_lt (i := z * (2 * p + 3) + (s + 40503 * p * p)) (j := 2147483647) (by omega)
    refine ⟨cmul_l (by omega), cmul_l (by omega), fun s2 h20 h21 => ⟨by omega, ?_⟩⟩
    have b2 := fmod_lt (i := (z * (2 * p + 3) + (s + 40503 * p * p)).fmod 2147483647 * (z * (2 * p + 3) + (s + 40503 * p * p)).fmod 2147483647 + 69621 * p + s2) (j := 2147483629) (by omega)
    refine ⟨cmul_r (by omega), by omega, ⟨by omega, by decide⟩, hm0, h _ (fmod_lt hp).1 (fmod_lt hp).2 _ (Nat.le_succ _) (Nat.le_refl _)⟩
/-- a for by its invariant -/
theorem for_inv {g : D → Ev → Wp Ev} {t : Ev → Wp Out} {qo : Out → S → Prop} {x : Exn → S → Prop} (I : List D → Ev → S → Prop)
    (step : ∀ d ds ρ n (k : Out → S → Prop), I (d :: ds) ρ n → (∀ ρ' m, I ds ρ' m → k (.nx ρ') m) → (∀ e m, qo (.rt e) m → k (.rt e) m) → g d ρ n (kGo t k x) x) (last : ∀ ρ n, I [] ρ n → qo (.nx ρ) n) :
    ∀ ds ρ n, I ds ρ n → forW g t ds ρ n qo x
  | [], ρ, n, h => last ρ n h
  | d :: ds, ρ, n, h => by
    rw [for_cons]
    exact step d ds ρ n _ h (fun ρ' m z => for_inv I step last ds ρ' m z) (fun e m z => z)
theorem begun_spec {ns : List Int} {k : Int} {n : S} {q : D → S → Prop} {x : Exn → S → Prop} (hn : ns.length ≤ 63) (h0 : 0 ≤ k) (h1 : k < 100) (h : q .m n) : FBegun [.scr ns, .int k] n q x := by
  wp_walk using FBegun, tBegun
  obtain ⟨A, hA⟩ : ∃ A, A = cut ns (some k) none := ⟨_, rfl⟩
  obtain ⟨B, hB⟩ : ∃ B, B = cut ns none (some k) := ⟨_, rfl⟩
  have lA : A.length ≤ 63 := by rw [hA]; unfold cut; rw [List.length_take, List.length_drop]; omega
  have lB : B.length ≤ 63 := by rw [hB]; unfold cut; rw [List.length_take, List.length_drop]; omega
  rw [← hA, ← hB, ← List.map_append]
  obtain ⟨C, hC⟩ : ∃ C, C = A ++ B := ⟨_, rfl⟩
  have lC : C.length ≤ 126 := by rw [hC, List.length_append]; omega
  rw [← hC]
  refine ⟨by rw [List.length_map, List.length_map]; omega, by rw [List.length_map]; omega, ?_⟩
  refine lc_pure (f := fun d => match d with | .int i => if (1000000000000000000 : Int) ≤ i then some (.int i) else none | _ => none) (fun d hd m kk hk => ?_) ?_
  · obtain ⟨z, hz, rfl⟩ := List.mem_map.mp hd
    rw [s_lc1]
    wp_walk using wipeE
    refine ⟨.inl ⟨by omega, by omega, by decide⟩, ?_⟩
    have e : (10 : Int) ^ Int.toNat 18 = 1000000000000000000 := by decide
    rw [e]
    by_cases c : (1000000000000000000 : Int) ≤ z
    · rw [if_pos (decide_eq_true c)]
      simpa only [if_pos c] using hk
    · rw [if_neg (by simpa using c)]
      simpa only [if_neg c] using hk
  · obtain ⟨G, hG⟩ : ∃ G : List Int, G = C.filter fun i => decide ((1000000000000000000 : Int) ≤ i) := ⟨_, rfl⟩
    have eG : (C.map D.int).filterMap (fun d => match d with | .int i => if (1000000000000000000 : Int) ≤ i then some (.int i) else none | _ => none) = G.map D.int := by
      rw [hG]
      clear hC lC hG
      induction C with
      | nil => rfl
      | cons c C ih =>
        rw [List.map_cons, List.filterMap_cons, List.filter_cons]
        by_cases z : (1000000000000000000 : Int) ≤ c
        · simp -implicitDefEqProofs only [z, if_true, decide_true, List.map_cons]
          rw [ih]
        · simp -implicitDefEqProofs only [z, if_false, decide_false, Bool.false_eq_true]
          exact ih
    rw [eG]
    refine for_inv (I := fun ds ρ m => m = n ∧ (∀ d ∈ ds, ∃ z, d = .int z) ∧ ∃ (s : Int) (o : Option D), 0 ≤ s ∧ s < 2147483647 ∧ ρ = [some (.scr ns), some (.int k), some (.lst (C.map D.int)), some (.lst (G.map D.int)), some (.int s), o]) ?_ ?_ _ _ _ ⟨rfl, fun d hd => ?_, 83 + k, none, by omega, by omega, rfl⟩
    · rintro d ds ρ m kk ⟨rfl, hds, s, o, s0, s1, rfl⟩ k1 k2
      obtain ⟨z, rfl⟩ := hds d List.mem_cons_self
      wp_walk
      have b := fmod_lt (i := s * 48271 + z) (j := 2147483647) (by omega)
      exact ⟨cmul_l (by omega), by omega, k1 _ _ ⟨rfl, fun e he => hds e (List.mem_cons_of_mem _ he), _, _, b.1, b.2, rfl⟩⟩
    · rintro ρ m ⟨rfl, _, s, o, s0, s1, rfl⟩
      wp_walk
      have fin : ∀ l : Int, 0 ≤ l → CMulA 37 k ∧ (C.map D.int).length + 1 ≤ 1000000 ∧ kDm (kRet (outQ q)) [.int l, .int s, .lst (C.map D.int ++ [.int (37 * k + 11)]), .int 0] m := fun l hl =>
        ⟨cmul_l (by omega), by rw [List.length_map]; omega, l, s, C ++ [37 * k + 11], by rw [List.map_append]; rfl, hl, s0, s1, by simp, h⟩
      cases G with
      | nil => simpa using fin 0 (by omega)
      | cons g G =>
        have hg : (1000000000000000000 : Int) ≤ g := by
          have := List.mem_cons_self (a := g) (l := G)
          rw [hG] at this
          simpa using (List.mem_filter.mp this).2
        have := fin g (by omega)
        simp [atI, ixN]
        simpa using this
    · obtain ⟨z, _, rfl⟩ := List.mem_map.mp hd
      exact ⟨z, rfl⟩
end OE
namespace OE
open PySem PySem.Spec L2
/-! ### lambdas that are handed on -/
end OE
namespace OE
open PySem PySem.Spec PyProof.Rows L2
variable [TN]
/-! ### a lambda made -/
/-- the table at P asked for a code object: it is there, or it is new and written in -/
inductive TabStep (H : Hp) (P : Addr) (q : Str) (ps : Array Value) : Hp → Addr → Prop
  | hit {c' : Addr} (pos : Pos) (h : codeAmong pos ps.toList = some (.ref c')) : TabStep H P q ps H c'
  | miss {c' : Addr} (more : Array Value) (hn : H c' = none) (ht : TriplesOk (ps ++ more).toList) (hc : ∀ p cv, codeAmong p (ps ++ more).toList = some cv → codeAmong p ps.toList = some cv ∨ cv = .ref c') : TabStep H P q ps (upd (upd H P (.tbl (ps ++ more))) c' (LamX.CodeO c' q)) c'
/-- the shared part goes along -/
theorem Sit.tab {K : PySem.W.Frag} {n : S} {Hs H H1 : Hp} (s : Sit K n Hs H) {P c' : Addr} {q : Str} {ps : Array Value} (hq : TN.nm P = some q) (hP : H P = some (.tbl ps)) (st : TabStep H P q ps H1 c') : ∃ Hs1, Sit K n Hs1 H1 ∧ Go Hs H Hs1 H1 ∧ Hs1 c' = some (LamX.CodeO c' q) := by
  obtain ⟨ps', t1, t2, t3⟩ := s.tabs P q hq
  have e : ps' = ps := by
    have z := s.sub _ _ t1
    rw [hP] at z
    cases z
    rfl
  subst e
  cases st with
  | hit pos h =>
    obtain ⟨c0, e1, e2⟩ := t3 pos _ h
    cases e1
    exact ⟨Hs, s, .refl _ _, e2⟩
  | miss more hn ht hc =>
    have hs := s.free hn
    have nPc : P ≠ c' := ne_of_none t1 hs
    have kp : ∀ b o, Hs b = some o → (∀ r, o ≠ .tbl r) → upd (upd Hs P (.tbl (ps' ++ more))) c' (LamX.CodeO c' q) b = some o := fun b o e1 e2 => by
      rw [upd_ne (ne_of_none e1 hs), upd_ne (fun z => by rw [z, t1] at e1; cases e1; exact e2 _ rfl)]
      exact e1
    have ex : Ext Hs (upd (upd Hs P (.tbl (ps' ++ more))) c' (LamX.CodeO c' q)) := fun b o e1 => by
      refine ⟨fun z => kp b o e1 (fun r q => by rw [q] at z; cases z), fun z => ⟨o, kp b o e1 (fun r q => by rw [q] at z; cases z), z⟩⟩
    refine ⟨upd (upd Hs P (.tbl (ps' ++ more))) c' (LamX.CodeO c' q), ⟨fun b o e1 y => ?_, fun b e1 => ?_, fun b o e1 y => ?_, fun b kvs e1 y => ?_, fun P' q' t' => ?_, fun b o e1 => ?_, fun b xs e1 => ?_⟩, ⟨ex, fun b o e1 e2 => ?_⟩, upd_same⟩
    · by_cases h1 : b = c'
      · rw [h1, upd_same] at e1 ⊢; exact e1
      · rw [upd_ne h1] at e1 ⊢
        by_cases h2 : b = P
        · rw [h2, upd_same] at e1 ⊢; exact e1
        · rw [upd_ne h2] at e1 ⊢; exact s.subK b o e1 y
    · have h1 : b ≠ c' := fun z => by rw [z, upd_same] at e1; unfold LamX.CodeO MK at e1; cases e1
      rw [upd_ne h1] at e1
      have h2 : b ≠ P := fun z => by rw [z, upd_same] at e1; cases e1
      rw [upd_ne h2] at e1
      rw [upd_ne h1, upd_ne h2]
      exact s.mkd b e1
    · have h1 : b ≠ c' := fun z => by rw [z, upd_same] at e1; unfold LamX.CodeO at e1; cases e1; cases y
      rw [upd_ne h1] at e1
      have h2 : b ≠ P := fun z => by rw [z, upd_same] at e1; cases e1; cases y
      rw [upd_ne h2] at e1
      exact s.mks b o e1 y
    · have h1 : b ≠ c' := fun z => by rw [z, upd_same] at e1; unfold LamX.CodeO at e1; cases e1
      rw [upd_ne h1] at e1
      have h2 : b ≠ P := fun z => by rw [z, upd_same] at e1; cases e1
      rw [upd_ne h2] at e1
      exact (s.good b kvs e1 y).mono (Nat.le_refl _) ex
    · by_cases hb : P' = P
      · subst hb
        rw [hq] at t'
        cases t'
        refine ⟨ps' ++ more, by rw [upd_ne nPc, upd_same], ht, fun p cv hcv => ?_⟩
        rcases hc p cv hcv with z | z
        · obtain ⟨c0, e1, e2⟩ := t3 p cv z
          exact ⟨c0, e1, kp _ _ e2 LamX.codeO_ne⟩
        · exact ⟨c', z, upd_same⟩
      · obtain ⟨ps2, a1, a2, a3⟩ := s.tabs P' q' t'
        refine ⟨ps2, by rw [upd_ne (ne_of_none a1 hs), upd_ne hb]; exact a1, a2, fun p cv hcv => ?_⟩
        obtain ⟨c0, e1, e2⟩ := a3 p cv hcv
        exact ⟨c0, e1, kp _ _ e2 LamX.codeO_ne⟩
    · obtain ⟨h3, h4⟩ := s.muts b o e1
      have h1 : b ≠ c' := s.muNe e1 hs
      have h2 : b ≠ P := fun z => by rw [z, t1] at h3; cases h3
      exact ⟨by rw [upd_ne h1, upd_ne h2]; exact h3, h4.ext ex (by rw [upd_ne h1, upd_ne h2])⟩
    · have h1 : b ≠ c' := fun z => by rw [z, upd_same] at e1; unfold LamX.CodeO at e1; cases e1
      rw [upd_ne h1] at e1
      have h2 : b ≠ P := fun z => by rw [z, upd_same] at e1; cases e1
      rw [upd_ne h2] at e1
      rw [upd_ne h1, upd_ne h2]
      exact s.tups b xs e1
    · have h1 : b ≠ c' := ne_of_none e1 hn
      have h2 : b ≠ P := fun z => by rw [z, t1] at e2; cases e2
      rw [upd_ne h1, upd_ne h2, upd_ne h1, upd_ne h2]
      exact ⟨e1, e2⟩
end OE
namespace OE
open PySem PySem.Spec PyProof.Rows L2
variable [TN]
/-- the names of a lambda: captured ones, globals, a parameter whose name is none of the def's -/
structure LamD (N : List Str) (sc scope : Scope) : Prop where
  kind : scope.kind = .function
  co : scope.isCoroutine = false
  gen : scope.isGenerator = false
  own : ∀ y ∈ scope.names, y.2 ≠ .cell ∧ (y.2 = .local → y.1 ∉ N)
  free : ∀ y ∈ scope.names, y.2 = .free → sc.names.lookup y.1 = some .cell ∨ sc.names.lookup y.1 = some .free
section
variable {X : Cx} {pins : List (Addr × Obj)} {σ : L2.St} {H HZ : Hp} {s s1 : Shared}
theorem LamD.has {scope : Scope} (L : LamD X.N X.env.scope scope) (ok : X.Ok) : ∀ y ∈ scope.names, y.2 = .free → ∃ c, X.env.cells.lookup y.1 = some c := fun y hy e => by
  rcases L.free y hy e with k | k
  · exact ok.has _ (.inl k)
  · exact ok.has _ (.inr k)
end
end OE
namespace OE
open PySem PySem.Spec PyProof.Rows L2
/-! ### g(lambda: e) -/
end OE
namespace OE
open PySem PySem.Spec PyProof.Rows L2
end OE
namespace OE
open PySem PySem.Spec L2
variable [TN]
section
variable {Γ : Gam} {X : Cx} {W : WX} {a : Expr} {ta : Ev → Wp D} {pos : Pos}
/-- *e among the items of a tuple -/
noncomputable def tstar (t : Ev → Wp D) (r : Ev → Wp (List D)) : Ev → Wp (List D) := fun ρ => Wp.bind (t ρ) fun d => match d with
  | .tup l => Wp.bind (r ρ) fun xs => Wp.ret (l ++ xs)
  | .lst l => Wp.bind (r ρ) fun xs => Wp.ret (l ++ xs)
  | _ => Wp.stuck
theorem da_star {es : List Expr} {r : Ev → Wp (List D)} {p : Pos} (ha : DE Γ X W a ta) (hr : DA Γ X W es r) (hs : starEach (.Starred a p :: es) X.env = (true, eval a X.env) :: starEach es X.env := by rfl) : DA Γ X W (.Starred a p :: es) (tstar ta r) := by
  obtain ⟨te, pe, fe⟩ := ha
  obtain ⟨tr, pr, fr⟩ := hr
  refine ⟨_, StX.pa_star pe pr hs, fun σ H Hs ρ n q x Q s rr h k ke => fe σ H Hs ρ n _ x _ s rr h (fun v H1 Hs1 d n1 g1 s1 hv h1 => ?_) ke⟩
  cases hv with
  | @tup b xs ds e1 g =>
    refine ⟨b, xs, rfl, .inl (s1.same.tup (SqT.of e1)), fr σ H1 Hs1 ρ n1 _ x _ s1 (rr.ext g1.ext) h1 (fun vs H2 Hs2 ds2 n2 g2 s2 hvs h2 => ?_) (ke.go g1)⟩
    exact k _ H2 Hs2 _ n2 (g1.trans g2) s2 ((g.ext g2.ext).append hvs) h2
  | @lst b xs ds e1 g =>
    refine ⟨b, xs, rfl, .inr (SqL.of (s1.sub _ _ e1)), fr σ H1 Hs1 ρ n1 _ x _ s1 (rr.ext g1.ext) h1 (fun vs H2 Hs2 ds2 n2 g2 s2 hvs h2 => ?_) (ke.go g1)⟩
    exact k _ H2 Hs2 _ n2 (g1.trans g2) s2 ((g.ext g2.ext).append hvs) h2
  | _ => exact (show False from h1).elim
end
end OE
namespace OE
open PySem PySem.Spec PyProof.Rows L2
end OE
namespace OE
open PySem PySem.Spec PyProof.Rows L2
variable [TN]
noncomputable abbrev Hds := List ((Str → Bool) × Nat × (Ev → Wp Out))
/-- the clauses of a try, one after the other -/
noncomputable def catchN (Γ : Gam) (ρ : Ev) (q : Out → S → Prop) (x : Exn → S → Prop) : Hds → Exn → S → Prop
  | [] => x
  | (mt, i, su) :: r => fun e n' => if mt e.cls = true then ∀ C, Γ e.cls = some C → su (ρ.set i (some (.exn e.cls C e.arg.toList))) n' (fun o n2 => q (o.unset i) n2) (fun _ _ => False) else catchN Γ ρ q x r e n'
noncomputable def ttryN (Γ : Gam) (hs : Hds) (tb : Ev → Wp Out) : Ev → Wp Out := fun ρ n q x => tb ρ n q (catchN Γ ρ q x hs)
end OE
namespace OE
open PySem PySem.Spec PyProof.Rows L2
end OE
namespace OE
open PySem PySem.Spec L2
variable [TN]
/-! ### words for gen.py -/
/-- a, b, c = x, y, z -/
noncomputable def tpar3 (i j l : Nat) (t : Ev → Wp (List D)) : Ev → Wp Out := fun ρ => Wp.bind (t ρ) fun ds => match ds with
  | [d, e, f] => Wp.ret (.nx (((ρ.set i (some d)).set j (some e)).set l (some f)))
  | _ => Wp.stuck
/-! ### list(range(..)), tuple(range(..)) -/
noncomputable def RgD (a b : Int) : Prop := -(2 ^ 62) ≤ a ∧ a < 2 ^ 62 ∧ -(2 ^ 62) ≤ b ∧ b < 2 ^ 62 ∧ (b - a).toNat ≤ 1000000
noncomputable def fLRg1 : D → Wp D
  | .int b => Wp.bind (Wp.ask (RgD 0 b)) fun _ => Wp.ret (.lst (rangeD 0 b.toNat))
  | _ => Wp.stuck
noncomputable def fTRg1 : D → Wp D
  | .int b => Wp.bind (Wp.ask (RgD 0 b)) fun _ => Wp.ret (.tup (rangeD 0 b.toNat))
  | _ => Wp.stuck
noncomputable def fLRg2 : D → D → Wp D
  | .int a, .int b => Wp.bind (Wp.ask (RgD a b)) fun _ => Wp.ret (.lst (rangeD a (b - a).toNat))
  | _, _ => Wp.stuck
noncomputable def fTRg2 : D → D → Wp D
  | .int a, .int b => Wp.bind (Wp.ask (RgD a b)) fun _ => Wp.ret (.tup (rangeD a (b - a).toNat))
  | _, _ => Wp.stuck
theorem RgD.ok {a b : Int} (h : RgD a b) : RgOk a b := ⟨h.1, h.2.1, h.2.2.1, h.2.2.2.1, Nat.le_trans h.2.2.2.2 (by decide)⟩
/-! ### x in y, x not in y -/
noncomputable def flatD : D → Bool
  | .non => true
  | .bl _ => true
  | .int _ => true
  | .str _ => true
  | _ => false
noncomputable def eqF : D → D → Bool
  | .non, .non => true
  | .bl a, .bl b => a == b
  | .bl a, .int b => (if a then 1 else 0) == b
  | .int a, .bl b => a == (if b then 1 else 0)
  | .int a, .int b => a == b
  | .str a, .str b => a == b
  | _, _ => false
theorem flat_of {K : PySem.W.Frag} {H : Hp} {v : V} {d : D} (h : Dv K H v d) (f : flatD d = true) : flatV v = true := by
  cases h <;> first | rfl | exact absurd f Bool.false_ne_true
theorem eqF_of {K : PySem.W.Frag} {H : Hp} {v w : V} {d e : D} (h : Dv K H v d) (g : Dv K H w e) (f : flatD d = true) (f' : flatD e = true) : eqV v w = eqF d e := by
  cases h <;> first | exact absurd f Bool.false_ne_true | (cases g <;> first | exact absurd f' Bool.false_ne_true | rfl)
theorem flat_all {K : PySem.W.Frag} {H : Hp} : ∀ {vs : List V} {ds : List D}, DvAll K H vs ds → ds.all flatD = true → vs.all flatV = true
  | _, _, .nil, _ => rfl
  | _, _, .cons h g, f => by
    rw [List.all_cons, Bool.and_eq_true] at f ⊢
    exact ⟨flat_of h f.1, flat_all g f.2⟩
theorem inV_of {K : PySem.W.Frag} {H : Hp} {x : V} {d : D} (hx : Dv K H x d) (fx : flatD d = true) : ∀ {vs : List V} {ds : List D}, DvAll K H vs ds → ds.all flatD = true → inV x vs = ds.any fun e => eqF e d
  | _, _, .nil, _ => rfl
  | _, _, .cons h g, f => by
    rw [List.all_cons, Bool.and_eq_true] at f
    have e := inV_of hx fx g f.2
    unfold inV at e ⊢
    rw [List.any_cons, List.any_cons, e, eqF_of h hx f.1 fx]
noncomputable def fIn (neg : Bool) : D → D → Wp D := fun x y => match y with
  | .tup l => Wp.bind (Wp.ask (flatD x = true ∧ l.all flatD = true)) fun _ => Wp.ret (.bl (neg.xor (l.any fun e => eqF e x)))
  | .lst l => Wp.bind (Wp.ask (flatD x = true ∧ l.all flatD = true)) fun _ => Wp.ret (.bl (neg.xor (l.any fun e => eqF e x)))
  | .str z => fun n q _ => ∃ c : Nat, x = .str ⟨#[c]⟩ ∧ q (.bl (neg.xor (decide (c ∈ z.cps.toList)))) n
  | _ => Wp.stuck
theorem neg_ite (neg b : Bool) : (if neg = true then !b else b) = neg.xor b := by cases neg <;> cases b <;> rfl
noncomputable def rInU (K : PySem.W.Frag) (neg : Bool) : R2 := fun x y H Q => rIn K neg x y H Q ∨ ∃ (c : Nat) (z : Str), x = .str ⟨#[c]⟩ ∧ y = .str z ∧ Q (.bl (neg.xor (decide (c ∈ z.cps.toList)))) H
theorem op_inU {X : Cx} : OpR X (compareOp .In) (rInU X.K false) := by
  have h := opR_or (X := X) op_in_seq op_in_sign
  intro pins s σ H x y v u Q I rx ry q
  refine h pins s σ H x y v u Q I rx ry ?_
  rcases q with q | ⟨c, z, q1, q2, q3⟩
  · exact .inl q
  · exact .inr ⟨c, z, q1, q2, by rwa [Bool.false_xor] at q3⟩
theorem r2_in {K : PySem.W.Frag} {neg : Bool} : R2D K (rInU K neg) (fIn neg) := by
  intro x y a b H Hs n q e Q s hx hy h k
  cases hy with
  | @lst p xs ds h1 g1 =>
    obtain ⟨⟨f1, f2⟩, h⟩ := h
    refine .inl ⟨p, xs, rfl, .inl (SqL.of (s.sub _ _ h1)), flat_of hx f1, flat_all g1 f2, ?_⟩
    rw [inV_of hx f1 g1 f2, neg_ite]
    exact k _ H Hs _ n (.refl _ _) s (.bl _) h
  | @tup p xs ds h1 g1 =>
    obtain ⟨⟨f1, f2⟩, h⟩ := h
    refine .inl ⟨p, xs, rfl, .inr (s.same.tup (SqT.of h1)), flat_of hx f1, flat_all g1 f2, ?_⟩
    rw [inV_of hx f1 g1 f2, neg_ite]
    exact k _ H Hs _ n (.refl _ _) s (.bl _) h
  | str z =>
    obtain ⟨c, rfl, h⟩ := h
    cases hx
    exact .inr ⟨c, z, rfl, rfl, k _ H Hs _ n (.refl _ _) s (.bl _) h⟩
  | _ => exact (show False from h).elim
section
variable {Γ : Gam} {X : Cx} {W : WX} {a b c : Expr} {ta tb tc : Ev → Wp D} {pos : Pos}
theorem d_in (ha : DE Γ X W a ta) (hb : DE Γ X W b tb) (hm : behindInMarks .In b = false := by rfl) : DE Γ X W (.Compare a [.In] [b] pos) (tbin (fIn false) ta tb) := d_cmp op_inU r2_in ha hb hm
theorem dt_in (ha : DE Γ X W a ta) (hb : DE Γ X W b tb) (hm : behindInMarks .In b = false := by rfl) : DT Γ X W (.Compare a [.In] [b] pos) (ttest (tbin (fIn false) ta tb)) := dt_cmp op_inU r2_in ha hb hm
end
end OE
namespace OE
open PySem PySem.Spec L2
variable [TN]
/-! ### further readings, step by step -/
section
variable {n : S} {x : Exn → S → Prop} {ρ : Ev} {d : D} {i j l : Nat} {f : D → D → Wp D} {ta tb tc : Ev → Wp D} {tl : Ev → Wp (List D)} {c c' : Ev → Wp Bool} {t u : Ev → Wp Out} {q : D → S → Prop} {qo : Out → S → Prop} {qb : Bool → S → Prop} {ql : List D → S → Prop}
noncomputable def kWh (t : Ev → Wp Out) (ρ : Ev) (q : Out → S → Prop) (k : Out → S → Prop) (x : Exn → S → Prop) (b : Bool) (n : S) : Prop := if b = true then t ρ n k x else q (.nx ρ) n
theorem k_wh {k : Out → S → Prop} {b : Bool} : kWh t ρ qo k x b n = if b = true then t ρ n k x else qo (.nx ρ) n := rfl
/-- a while by its invariant and its measure -/
theorem wh_inv (I : Nat → Ev → S → Prop)
    (step : ∀ m ρ n (k : Out → S → Prop), I m ρ n → (∀ m' ρ' n', m' < m → I m' ρ' n' → k (.nx ρ') n') → (∀ e s, qo (.rt e) s → k (.rt e) s) → c ρ n (kWh t ρ qo k x) x) (m : Nat) (ρ : Ev) (n : S) (h : I m ρ n) : twhile c t ρ n qo x := by
  refine ⟨m + 1, ?_⟩
  have main : ∀ M m ρ n, m ≤ M → I m ρ n → whileN c t (M + 1) ρ n qo x := by
    intro M
    induction M with
    | zero =>
      intro m ρ n hm hI
      refine Eq.mp ?_ (step m ρ n (fun o s => match o with | .nx ρ2 => whileN c t 0 ρ2 s qo x | .ct ρ2 => whileN c t 0 ρ2 s qo x | .bk ρ2 => qo (.nx ρ2) s | .rt e => qo (.rt e) s) hI (fun m' ρ' n' hlt _ => by omega) (fun e s h => h))
      refine congrArg (fun k => c ρ n k x) (funext fun b => funext fun s => ?_)
      unfold kWh
      cases b with
      | false => rfl
      | true =>
        refine congrArg (fun k => t ρ s k x) (funext fun o => funext fun r => ?_)
        cases o <;> rfl
    | succ M ih =>
      intro m ρ n hm hI
      refine Eq.mp ?_ (step m ρ n (fun o s => match o with | .nx ρ2 => whileN c t (M + 1) ρ2 s qo x | .ct ρ2 => whileN c t (M + 1) ρ2 s qo x | .bk ρ2 => qo (.nx ρ2) s | .rt e => qo (.rt e) s) hI (fun m' ρ' n' hlt hI' => ih m' ρ' n' (by omega) hI') (fun e s h => h))
      refine congrArg (fun k => c ρ n k x) (funext fun b => funext fun s => ?_)
      unfold kWh
      cases b with
      | false => rfl
      | true =>
        refine congrArg (fun k => t ρ s k x) (funext fun o => funext fun r => ?_)
        cases o <;> rfl
  exact main m m ρ n (Nat.le_refl _) h
noncomputable def kStar (tl : Ev → Wp (List D)) (ρ : Ev) (q : List D → S → Prop) (x : Exn → S → Prop) (d : D) (n : S) : Prop := tstar (tconst d) (fun _ => tl ρ) [] n q x
noncomputable def kStar2 (l : List D) (q : List D → S → Prop) (ds : List D) (n : S) : Prop := q (l ++ ds) n
theorem s_star : tstar ta tl ρ n ql x = ta ρ n (kStar tl ρ ql x) x := by
  refine congrArg (fun k => ta ρ n k x) (funext fun d => funext fun m => ?_)
  cases d <;> rfl
theorem k_starT {l : List D} : kStar tl ρ ql x (.tup l) n = tl ρ n (kStar2 l ql) x := rfl
theorem k_starL {l : List D} : kStar tl ρ ql x (.lst l) n = tl ρ n (kStar2 l ql) x := rfl
theorem k_star2 {l ds : List D} : kStar2 l ql ds n = ql (l ++ ds) n := rfl
noncomputable def kDrop (ρ : Ev) (q : Out → S → Prop) (_ : D) (n : S) : Prop := q (.nx ρ) n
theorem s_drop : tdrop ta ρ n qo x = ta ρ n (kDrop ρ qo) x := rfl
theorem k_drop : kDrop ρ qo d n = qo (.nx ρ) n := rfl
noncomputable def kPar3 (i j l : Nat) (ρ : Ev) (q : Out → S → Prop) (x : Exn → S → Prop) (ds : List D) (n : S) : Prop := tpar3 i j l (fun _ => Wp.ret ds) ρ n q x
theorem s_par3 : tpar3 i j l tl ρ n qo x = tl ρ n (kPar3 i j l ρ qo x) x := rfl
theorem k_par3 {a b e : D} : kPar3 i j l ρ qo x [a, b, e] n = qo (.nx (((ρ.set i (some a)).set j (some b)).set l (some e))) n := rfl
theorem f_lrg1 {z : Int} : fLRg1 (.int z) n q x = (RgD 0 z ∧ q (.lst (rangeD 0 z.toNat)) n) := rfl
theorem f_trg1 {z : Int} : fTRg1 (.int z) n q x = (RgD 0 z ∧ q (.tup (rangeD 0 z.toNat)) n) := rfl
theorem f_lrg2 {y z : Int} : fLRg2 (.int y) (.int z) n q x = (RgD y z ∧ q (.lst (rangeD y (z - y).toNat)) n) := rfl
theorem f_trg2 {y z : Int} : fTRg2 (.int y) (.int z) n q x = (RgD y z ∧ q (.tup (rangeD y (z - y).toNat)) n) := rfl
theorem f_ixM {a : Addr} {z : Int} : fIx (.mref a) (.int z) n q x = ∃ l d, n.mu a = some (.lst l) ∧ atI l z = some d ∧ q d n := rfl
theorem f_lenM {a : Addr} : fLen [.mref a] n q x = ∃ l, n.mu a = some (.lst l) ∧ q (.int l.length) n := rfl
theorem f_inT {neg : Bool} {l : List D} : fIn neg d (.tup l) n q x = ((flatD d = true ∧ l.all flatD = true) ∧ q (.bl (neg.xor (l.any fun e => eqF e d))) n) := rfl
theorem f_inL {neg : Bool} {l : List D} : fIn neg d (.lst l) n q x = ((flatD d = true ∧ l.all flatD = true) ∧ q (.bl (neg.xor (l.any fun e => eqF e d))) n) := rfl
theorem f_inS {neg : Bool} {z : Str} : fIn neg d (.str z) n q x = ∃ c : Nat, d = .str ⟨#[c]⟩ ∧ q (.bl (neg.xor (decide (c ∈ z.cps.toList)))) n := rfl
theorem s_tryN {Γ : Gam} {hs : Hds} : ttryN Γ hs t ρ n qo x = t ρ n qo (catchN Γ ρ qo x hs) := rfl
end
section
variable {n : S} {x : Exn → S → Prop} {ρ : Ev} {i : Nat} {u : Ev → Wp Out} {qo : Out → S → Prop} {q : D → S → Prop}
theorem c_nil {Γ : Gam} {e : Exn} : catchN Γ ρ qo x [] e n = x e n := rfl
end
end OE
namespace OE
open PySem PySem.Spec L2
variable [TN]
/-! ### what changes: made, written, frozen -/
section
variable {K : PySem.W.Frag} {n : S} {Hs H : Hp}
theorem mk_ext {p : Addr} (hs : Hs p = none) : Ext Hs (upd Hs p MK) := Ext.of_same fun b u q => by rw [upd_ne (ne_of_none q hs)]; exact q
/-- a new object that changes -/
theorem Sit.newMut (s : Sit K n Hs H) {p : Addr} {o : HO} {m : MO} (hp : H p = none) (hm : MOk K (upd Hs p MK) (upd H p o) p m) :
    Sit K ⟨n.n, n.mu.put p m⟩ (upd Hs p MK) (upd H p o) ∧ Go Hs H (upd Hs p MK) (upd H p o) := by
  have hs := s.free hp
  have sm : Same Hs (upd Hs p MK) := fun b u q => by rw [upd_ne (ne_of_none q hs)]; exact q
  have e := mk_ext (Hs := Hs) hs
  refine ⟨⟨fun b u q y => ?_, fun b q => ?_, fun b u q y => ?_, fun b kvs q y => ?_, fun P q t => (s.tabs P q t).ext sm, fun b u q => ?_, fun b xs q => ?_⟩, ⟨e, fun b u q y => ?_⟩⟩
  · by_cases hb : b = p
    · subst hb; rw [upd_same] at q; cases q; cases y
    · rw [upd_ne hb] at q ⊢; exact s.subK b u q y
  · by_cases hb : b = p
    · subst hb; exact ⟨_, upd_same⟩
    · rw [upd_ne hb] at q ⊢; exact s.mkd b q
  · by_cases hb : b = p
    · subst hb; rw [upd_same] at q; cases q; rfl
    · rw [upd_ne hb] at q; exact s.mks b u q y
  · by_cases hb : b = p
    · subst hb; rw [upd_same] at q; cases q
    · rw [upd_ne hb] at q
      exact (s.good b kvs q y).mono (Nat.le_refl _) e
  · by_cases hb : b = p
    · subst hb
      have q' : n.mu.put b m b = some u := q
      rw [Mu.put_same] at q'
      cases q'
      exact ⟨upd_same, hm⟩
    · have q' : n.mu.put p m b = some u := q
      rw [Mu.put_ne hb] at q'
      obtain ⟨h1, h2⟩ := s.muts b u q'
      exact ⟨by rw [upd_ne hb]; exact h1, h2.ext e (upd_ne hb)⟩
  · have hb : b ≠ p := fun w => by subst w; exact hm.noT q
    rw [upd_ne hb] at q ⊢; exact s.tups b xs q
  · have hb : b ≠ p := fun e => by rw [e, hp] at q; cases q
    rw [upd_ne hb, upd_ne hb]
    exact ⟨q, y⟩
/-- an object that changes is written -/
theorem Sit.mutate (s : Sit K n Hs H) {a : Addr} {o : HO} {m m' : MO} (ha : n.mu a = some m) (hm : MOk K Hs (upd H a o) a m') :
    Sit K ⟨n.n, n.mu.put a m'⟩ Hs (upd H a o) ∧ Go Hs H Hs (upd H a o) := by
  obtain ⟨hk, _⟩ := s.muts a m ha
  refine ⟨⟨fun b u q y => ?_, fun b q => ?_, s.mks, s.good, s.tabs, fun b u q => ?_, fun b xs q => ?_⟩, ⟨.refl _, fun b u q y => ?_⟩⟩
  · have hb : b ≠ a := fun e => by rw [e, hk] at q; cases q; cases y
    rw [upd_ne hb]; exact s.subK b u q y
  · by_cases hb : b = a
    · subst hb; exact ⟨_, upd_same⟩
    · rw [upd_ne hb]; exact s.mkd b q
  · by_cases hb : b = a
    · subst hb
      have q' : n.mu.put b m' b = some u := q
      rw [Mu.put_same] at q'
      cases q'
      exact ⟨hk, hm⟩
    · have q' : n.mu.put a m' b = some u := q
      rw [Mu.put_ne hb] at q'
      obtain ⟨h1, h2⟩ := s.muts b u q'
      exact ⟨h1, h2.ext (.refl _) (upd_ne hb)⟩
  · have hb : b ≠ a := fun w => by subst w; exact hm.noT q
    rw [upd_ne hb] at q; exact s.tups b xs q
  · have hb : b ≠ a := fun e => by rw [e, hk] at y; cases y
    rw [upd_ne hb]
    exact ⟨q, y⟩
/-- an object that changed changes no more -/
theorem Sit.freeze (s : Sit K n Hs H) {a : Addr} {o : HO} {m : MO} (ha : n.mu a = some m) (ho : H a = some o) (zk : isK o = false) (zm : isM o = false) :
    Sit K ⟨n.n, n.mu.del a⟩ (upd Hs a o) H ∧ Go Hs H (upd Hs a o) H ∧ Ext Hs (upd Hs a o) := by
  obtain ⟨hk, _⟩ := s.muts a m ha
  have e : Ext Hs (upd Hs a o) := fun b u q => by
    by_cases hb : b = a
    · subst hb
      rw [hk] at q
      have q' := Option.some.inj q
      subst q'
      exact ⟨fun z => (Bool.noConfusion z : _), fun z => (Bool.noConfusion z : _)⟩
    · rw [upd_ne hb]; exact ⟨fun _ => q, fun z => ⟨u, q, z⟩⟩
  have keep : ∀ b u, Hs b = some u → isK u = false → upd Hs a o b = some u := fun b u q y => by
    have hb : b ≠ a := fun e => by rw [e, hk] at q; cases q; cases y
    rw [upd_ne hb]; exact q
  refine ⟨⟨fun b u q y => ?_, fun b q => ?_, fun b u q y => ?_, fun b kvs q y => ?_, fun P q t => ?_, fun b u q => ?_, fun b xs q => ?_⟩, ⟨e, fun b u q y => ?_⟩, e⟩
  · by_cases hb : b = a
    · subst hb; rw [upd_same] at q; cases q; exact ho
    · rw [upd_ne hb] at q; exact s.subK b u q y
  · by_cases hb : b = a
    · subst hb; exact ⟨_, ho⟩
    · rw [upd_ne hb] at q; exact s.mkd b q
  · by_cases hb : b = a
    · subst hb; rw [upd_same] at q; cases q; rw [zk] at y; cases y
    · rw [upd_ne hb] at q; exact s.mks b u q y
  · by_cases hb : b = a
    · subst hb; rw [upd_same] at q; cases q; rw [zm] at y; cases y
    · rw [upd_ne hb] at q
      exact (s.good b kvs q y).mono (Nat.le_refl _) e
  · obtain ⟨ps, t1, t2, t3⟩ := s.tabs P q t
    refine ⟨ps, keep _ _ t1 rfl, t2, fun pos cv hc => ?_⟩
    obtain ⟨c, c1, c2⟩ := t3 pos cv hc
    exact ⟨c, c1, keep _ _ c2 rfl⟩
  · have hb : b ≠ a := fun e => by
      have q' : n.mu.del a b = some u := q
      rw [e, Mu.del_same] at q'
      cases q'
    have q' : n.mu.del a b = some u := q
    rw [Mu.del_ne hb] at q'
    obtain ⟨h1, h2⟩ := s.muts b u q'
    exact ⟨by rw [upd_ne hb]; exact h1, h2.ext e rfl⟩
  · by_cases hb : b = a
    · subst hb; rw [ho] at q; rw [upd_same]; exact q
    · rw [upd_ne hb]; exact s.tups b xs q
  · have hb : b ≠ a := fun e => by rw [e, hk] at y; cases y
    rw [upd_ne hb]
    exact ⟨q, y⟩
end
section
variable {Γ : Gam} {X : Cx} {W : WX} {a b c : Expr} {ta tb tc : Ev → Wp D} {pos : Pos}
/-- [..] that will change -/
noncomputable def fNew (o : MO) : Wp D := fun n q _ => ∀ a, n.mu a = none → q (.mref a) ⟨n.n, n.mu.put a o⟩
noncomputable def tmlst (t : Ev → Wp (List D)) : Ev → Wp D := fun ρ => Wp.bind (t ρ) fun ds => Wp.bind (Wp.ask (ds.length ≤ 1000000)) fun _ => fNew (.lst ds)
theorem d_mlst {es : List Expr} {t : Ev → Wp (List D)} {pos} (h : DA Γ X W es t) : DE Γ X W (.List es pos) (tmlst t) := by
  obtain ⟨ta, pa, fa⟩ := h
  refine ⟨_, pe_lst pa, fun σ H Hs ρ n q x Q s r hq k ke => ?_⟩
  refine fa σ H Hs ρ n _ x _ s r hq (fun vs H1 Hs1 ds n1 g1 s1 hv h1 => ⟨?_, fun p hp => ?_⟩) ke
  · rw [hv.length]; exact line_le h1.1
  · have hs := s1.free hp
    obtain ⟨s2, g2⟩ := s1.newMut (o := .lst vs) (m := .lst ds) hp ⟨vs, upd_same, hv.ext (mk_ext hs)⟩
    exact k _ _ _ _ _ (g1.trans g2) s2 (.mref p) (h1.2 p (s1.muFree hs))
/-- a value that is frozen, if it is a list that changes -/
noncomputable def fFrz (d : D) : Wp D := match d with
  | .mref a => fun n q _ => (∃ l, n.mu a = some (.lst l) ∧ q (.lst l) ⟨n.n, n.mu.del a⟩) ∨ (n.mu a = some (.dic []) ∧ q (.dic []) ⟨n.n, n.mu.del a⟩) ∨ ∃ l, n.mu a = some (.dic l) ∧ (∀ p ∈ l, ∀ k, p.1 ≠ .str k) ∧ q (.dic l) ⟨n.n, n.mu.del a⟩
  | d => Wp.ret d
theorem frz_of {K : PySem.W.Frag} {n : S} {Hs H : Hp} {v : V} {d : D} {q : D → S → Prop} {x : Exn → S → Prop} (s : Sit K n Hs H) (hv : Dv K Hs v d) (h : fFrz d n q x) : ∃ Hs' n' d', Go Hs H Hs' H ∧ Sit K n' Hs' H ∧ Dv K Hs' v d' ∧ q d' n' := by
  cases d with
  | mref a =>
    cases hv
    have kvM : ∀ {kvs : List (Key × V)} {l : List (D × D)}, DvKv K Hs kvs l → (l = [] ∨ ∀ p ∈ l, ∀ k, p.1 ≠ .str k) → isM (.dK kvs) = false := fun {kvs l} g hl => by
      cases g with
      | nil => rfl
      | @cons k v vs d ds h g =>
        rcases hl with hl | hl
        · cases hl
        · cases k with
          | inr y => exact absurd rfl (hl _ List.mem_cons_self y)
          | inl i =>
            show decide ((((Sum.inl i : Key), v) :: vs).map Prod.fst = mKeys) = false
            refine decide_eq_false fun z => ?_
            rw [List.map_cons] at z
            unfold mKeys at z
            injection z with z1 z2
            cases z1
    rcases h with ⟨l, hm, h⟩ | ⟨hm, h⟩ | ⟨l, hm, hk, h⟩
    · obtain ⟨_, xs, hl, g⟩ := s.muts _ _ hm
      obtain ⟨s2, g2, e2⟩ := s.freeze hm hl rfl rfl
      exact ⟨_, _, _, g2, s2, .lst upd_same (g.ext e2), h⟩
    · obtain ⟨_, kvs, hl, g⟩ := s.muts _ _ hm
      obtain ⟨s2, g2, e2⟩ := s.freeze hm hl rfl (kvM g (.inl rfl))
      exact ⟨_, _, _, g2, s2, .dic upd_same (kvM g (.inl rfl)) (g.ext e2), h⟩
    · obtain ⟨_, kvs, hl, g⟩ := s.muts _ _ hm
      obtain ⟨s2, g2, e2⟩ := s.freeze hm hl rfl (kvM g (.inr hk))
      exact ⟨_, _, _, g2, s2, .dic upd_same (kvM g (.inr hk)) (g.ext e2), h⟩
  | _ => exact ⟨Hs, n, _, .refl _ _, s, hv, h⟩
/-- a slot is frozen ahead of what follows -/
noncomputable def tfrz (i : Nat) (t : Ev → Wp Out) : Ev → Wp Out := fun ρ n q x => match ρ[i]? with
  | some (some d) => fFrz d n (fun d' n' => t (ρ.set i (some d')) n' q x) x
  | _ => t ρ n q x
theorem set_self {α : Type} {l : List α} {i : Nat} {a : α} (h : l[i]? = some a) : l.set i a = l := by
  refine List.ext_getElem? fun j => ?_
  by_cases hj : i = j
  · subst hj
    have hlt : i < l.length := by
      rcases Nat.lt_or_ge i l.length with z | z
      · exact z
      · rw [List.getElem?_eq_none z] at h; cases h
    rw [List.getElem?_set_self hlt, h]
  · rw [List.getElem?_set_ne hj]
theorem db_frz (i : Nat) {st : List Stmt} {t : Ev → Wp Out} (h : DB Γ X W st t) : DB Γ X W st (tfrz i t) := by
  obtain ⟨ts, p, f⟩ := h
  refine ⟨ts, p, fun σ H Hs ρ n q x E s r h k ke => ?_⟩
  unfold tfrz at h
  split at h
  · rename_i d e
    obtain ⟨v, h1, h2⟩ := r.at' i d e
    obtain ⟨Hs2, n2, d2, g2, s2, v2, h3⟩ := frz_of s h2 h
    have r2 := (r.ext g2.ext).set i v2
    rw [set_self h1] at r2
    exact f σ H Hs2 _ n2 q x E s2 r2 h3 (k.go g2) (ke.go g2)
  · exact f σ H Hs ρ n q x E s r h k ke
/-- x.append(e) -/
noncomputable def fAppend (x d : D) : Wp D := match x with
  | .mref a => fun n q _ => ∃ l, n.mu a = some (.lst l) ∧ l.length < 1000000 ∧ q .non ⟨n.n, n.mu.put a (.lst (l ++ [d]))⟩
  | _ => Wp.stuck
noncomputable def fExtend (x d : D) : Wp D := match x, d with
  | .mref a, .lst m => fun n q _ => ∃ l, n.mu a = some (.lst l) ∧ l.length + m.length ≤ 1000000 ∧ q .non ⟨n.n, n.mu.put a (.lst (l ++ m))⟩
  | _, _ => Wp.stuck
theorem tyL {K : PySem.W.Frag} {H : Hp} {a : Addr} {xs : List V} (h : H a = some (.lst xs)) : tyV K "list" (.ref a) H := Or.inl ⟨rfl, _, Or.inl (Or.inl h)⟩
noncomputable def fIsL (x : D) : Wp Unit := match x with
  | .mref a => fun n q _ => (∃ l, n.mu a = some (.lst l)) ∧ q () n
  | _ => Wp.stuck
noncomputable def tmeth (f : D → D → Wp D) (ta tb : Ev → Wp D) : Ev → Wp D := fun ρ => Wp.bind (ta ρ) fun x => Wp.bind (fIsL x) fun _ => Wp.bind (tb ρ) fun d => f x d
theorem meth_of {f : D → D → Wp D} {r : V → List V → Hp → VK → Prop} {ea eb : TE}
    (fa : ∀ (σ : St) (H Hs : Hp) (ρ : Ev) (n : S) (q : D → S → Prop) (x : Exn → S → Prop) (Q : VK), Sit X.K n Hs H → R X.K ρ σ Hs → ta ρ n q x → OkQ X.K Hs H q Q → OkE X.K Γ Hs H x (fun c d h => W c d σ h) → ea σ H Q)
    (fb : ∀ (σ : St) (H Hs : Hp) (ρ : Ev) (n : S) (q : D → S → Prop) (x : Exn → S → Prop) (Q : VK), Sit X.K n Hs H → R X.K ρ σ Hs → tb ρ n q x → OkQ X.K Hs H q Q → OkE X.K Γ Hs H x (fun c d h => W c d σ h) → eb σ H Q)
    (hf : ∀ (p : Addr) (w : V) (d : D) (H Hs : Hp) (n : S) (q : D → S → Prop) (e : Exn → S → Prop) (Q : VK), Sit X.K n Hs H → Dv X.K Hs w d → f (.mref p) d n q e → OkQ X.K Hs H q Q → r (.ref p) [w] H Q)
    (σ : St) (H Hs : Hp) (ρ : Ev) (n : S) (q : D → S → Prop) (x : Exn → S → Prop) (Q : VK) (s : Sit X.K n Hs H) (rr : R X.K ρ σ Hs) (h : tmeth f ta tb ρ n q x) (k : OkQ X.K Hs H q Q) (ke : OkE X.K Γ Hs H x (fun c d h => W c d σ h)) :
    tBM X.K "list" r ea (fun σ H Q => eb σ H fun v H' => Q [v] H') σ H Q := by
  refine fa σ H Hs ρ n _ x _ s rr h (fun v H1 Hs1 d n1 g1 s1 hv h1 => ?_) ke
  cases hv with
  | mref p =>
    obtain ⟨⟨l, hm⟩, h1⟩ := h1
    obtain ⟨_, xs, hl, g⟩ := s1.muts _ _ hm
    refine ⟨tyL hl, fb σ H1 Hs1 ρ n1 _ x _ s1 (rr.ext g1.ext) h1 (fun w H2 Hs2 d2 n2 g2 s2 hw h2 => ?_) (ke.go g1)⟩
    exact hf p w d2 H2 Hs2 n2 q x Q s2 hw h2 (k.go (g1.trans g2))
  | _ => exact (show False from h1).elim
theorem pa_1 {eb : TE} (pb : PE X b eb) (hs : starEach [b] X.env = (false, eval b X.env) :: starEach [] X.env) : PA X [b] (fun σ H Q => eb σ H fun v H' => Q [v] H') := pa_cons pb pa_nil hs
theorem d_append {ap : Pos} (ha : DE Γ X W a ta) (hb : DE Γ X W b tb) (hbase : attributeBase a "append" X.env (eval a X.env) = eval a X.env := by rfl)
    (hfew : ((backTo pos (starEach [b] X.env)).all (fun x => !x.1) && (backToKw pos (keywordEach [] X.env)).all (fun x => x.1.isSome) && decide ([b].length + ([] : List Keyword).length + (if ([] : List Keyword).isEmpty then 0 else 1) < 30)) = true := by rfl)
    (hline : (ap.endLine == pos.line) = true := by rfl) (hs : starEach [b] X.env = (false, eval b X.env) :: starEach [] X.env := by rfl) (hpl : (backTo pos (starEach [] X.env)).any (·.1) = false := by rfl) :
    DE Γ X W (.Call (.Attribute a "append" ap) [b] [] pos) (tmeth fAppend ta tb) := by
  obtain ⟨ea, pa, fa⟩ := ha
  obtain ⟨eb, pb, fb⟩ := hb
  refine ⟨_, pe_bm PySem.F.plainAttrs_list PySem.F.slot_list_append PySem.F.type_list_append mt_append pa (pa_1 pb hs) hbase hfew hline hs hpl, meth_of fa fb fun p w d H Hs n q e Q s hw h k => ?_⟩
  obtain ⟨l, hm, hl, h⟩ := h
  obtain ⟨_, xs, hx, g⟩ := s.muts _ _ hm
  obtain ⟨s2, g2⟩ := s.mutate (o := .lst (xs ++ [w])) (m' := .lst (l ++ [d])) hm ⟨_, upd_same, g.append (.cons hw .nil)⟩
  exact ⟨p, xs, w, rfl, rfl, hx, by rw [g.length, sizeLine_eq]; omega, k _ _ _ _ _ g2 s2 .non h⟩
theorem d_extend {ap : Pos} (ha : DE Γ X W a ta) (hb : DE Γ X W b tb) (hbase : attributeBase a "extend" X.env (eval a X.env) = eval a X.env := by rfl)
    (hfew : ((backTo pos (starEach [b] X.env)).all (fun x => !x.1) && (backToKw pos (keywordEach [] X.env)).all (fun x => x.1.isSome) && decide ([b].length + ([] : List Keyword).length + (if ([] : List Keyword).isEmpty then 0 else 1) < 30)) = true := by rfl)
    (hline : (ap.endLine == pos.line) = true := by rfl) (hs : starEach [b] X.env = (false, eval b X.env) :: starEach [] X.env := by rfl) (hpl : (backTo pos (starEach [] X.env)).any (·.1) = false := by rfl) :
    DE Γ X W (.Call (.Attribute a "extend" ap) [b] [] pos) (tmeth fExtend ta tb) := by
  obtain ⟨ea, pa, fa⟩ := ha
  obtain ⟨eb, pb, fb⟩ := hb
  refine ⟨_, pe_bm PySem.F.plainAttrs_list PySem.F.slot_list_extend PySem.F.type_list_extend mt_extend pa (pa_1 pb hs) hbase hfew hline hs hpl, meth_of fa fb fun p w d H Hs n q e Q s hw h k => ?_⟩
  cases hw with
  | @lst b ys ds h1 g1 =>
    obtain ⟨l, hm, hl, h⟩ := h
    obtain ⟨_, xs, hx, g⟩ := s.muts _ _ hm
    obtain ⟨s2, g2⟩ := s.mutate (o := .lst (xs ++ ys)) (m' := .lst (l ++ ds)) hm ⟨_, upd_same, g.append g1⟩
    exact ⟨p, b, xs, ys, rfl, rfl, hx, s.sub _ _ h1, by rw [g.length, g1.length, sizeLine_eq]; omega, k _ _ _ _ _ g2 s2 .non h⟩
  | _ => exact (show False from h).elim
end
end OE
namespace OE
open PySem PySem.Spec L2
variable [TN]
/-! ### comprehensions of two clauses -/
noncomputable def wiD (Γ : Gam) (K : PySem.W.Frag) (W : WX) (t : Ev → Wp (List D)) : TI := fun σ H Q => ∃ (n : S) (Hs : Hp) (ρ : Ev) (q : List D → S → Prop) (x : Exn → S → Prop), Sit K n Hs H ∧ R K ρ σ Hs ∧ t ρ n q x ∧ (∀ J H' Hs' ds n', Go Hs H Hs' H' → Sit K n' Hs' H' → WalkD K J Hs' ds → q ds n' → Q J H') ∧ OkE K Γ Hs H x (fun c d h => W c d σ h)
theorem DI.pi {Γ : Gam} {X : Cx} {W : WX} {tg it : Expr} {t : Ev → Wp (List D)} (h : DI Γ X W tg it t) : PI X tg it (wiD Γ X.K W t) := by
  obtain ⟨te, p, f⟩ := h
  exact ⟨fun pins s σ H Q I ⟨n, Hs, ρ, q, x, h1, h2, h3, h4, h5⟩ => p.run pins s σ H Q I (f σ H Hs ρ n q x Q h1 h2 h3 h4 h5)⟩
noncomputable def lc2W (g : D → Ev → Wp Ev) (tt : Ev → Wp Bool) (ti1 : Ev → Wp (List D)) (g1 : D → Ev → Wp Ev) (tt1 : Ev → Wp Bool) (te : Ev → Wp D) (vs1 : List Nat) (ρ : Ev) : Nat → List D → Wp (List D)
  | _, [] => Wp.ret []
  | c, d :: ds => Wp.bind (g d ρ) fun ρ1 => Wp.bind (tt ρ1) fun b => if b = true then Wp.bind (ti1 ρ1) fun ds1 => Wp.bind (Wp.ask (c + ds1.length ≤ 1000000)) fun _ => Wp.bind (lcW g1 tt1 te (wipeE ρ1 vs1) ds1) fun ys =>
      Wp.bind (lc2W g tt ti1 g1 tt1 te vs1 ρ (c + ys.length) ds) fun zs => Wp.ret (ys ++ zs) else lc2W g tt ti1 g1 tt1 te vs1 ρ c ds
noncomputable def tlc2 (ti : Ev → Wp (List D)) (g : D → Ev → Wp Ev) (tt : Ev → Wp Bool) (ti1 : Ev → Wp (List D)) (g1 : D → Ev → Wp Ev) (tt1 : Ev → Wp Bool) (te : Ev → Wp D) (vs vs1 : List Nat) : Ev → Wp D := fun ρ => Wp.bind (ti ρ) fun ds =>
  Wp.bind (Wp.calm (lc2W g tt ti1 g1 tt1 te vs1 (wipeE ρ vs) 0 ds)) fun ys => Wp.ret (.lst ys)
theorem wipe_wipe (τ : St) (us : List Nat) : wipe (wipe τ us) us = wipe τ us := by
  have aux : ∀ (us' : List Nat), (∀ i ∈ us', i ∈ us) → wipe (wipe τ us') us = wipe τ us := by
    intro us'
    induction us' with
    | nil => intro _; rfl
    | cons u us'' ih =>
      intro hh
      show wipe ((wipe τ us'').set u none) us = _
      rw [wipe_set (hh u List.mem_cons_self)]
      exact ih fun i hi => hh i (List.mem_cons_of_mem _ hi)
  exact aux us fun _ z => z
theorem lc2_read {Γ : Gam} {K : PySem.W.Frag} {is vs is1 vs1 : List Nat} {g g1 : D → Ev → Wp Ev} {tt tt1 : Ev → Wp Bool} {ti1 : Ev → Wp (List D)} {te : Ev → Wp D} (his : ∀ i ∈ is, i ∈ vs) (his1 : ∀ i ∈ is1, i ∈ vs1) {J : It} {H1 Hs1 : Hp} {ds : List D} {n1 : S} {σ : St} {ρ : Ev} {q : D → S → Prop} {Q : VK}
    (s1 : Sit K n1 Hs1 H1) (wd : WalkD K J Hs1 ds) (r : R K ρ σ Hs1) (h : lc2W g tt ti1 g1 tt1 te vs1 (wipeE ρ vs) 0 ds n1 (fun ys n => q (.lst ys) n) (fun _ _ => False)) (k : OkQ K Hs1 H1 q Q) (A : Addr) (hA : H1 A = none) :
    ∃ W : Nat → Nat → Hp → Prop, (∃ m, W 0 m (upd H1 A (.lst []))) ∧ ∀ i m H, W i m H → (J.stop i H ∧ Q (.ref A) H) ∨ (J.go i H ∧ ∃ Nx : Hp → Prop, (∀ H', Nx H' → ∃ m', m' < m ∧ W (i + 1) m' H') ∧
      ∀ x H', J.yld i H x H' → tgD K is g x (wipe σ vs) H' fun σ2 H2 => wipe σ2 vs = wipe σ vs ∧ ttD Γ K W0 tt σ2 H2 fun b H3 =>
        if b = true then wiD Γ K W0 ti1 σ2 H3 fun J1 H4 => ∃ W1 : Nat → Nat → Hp → Prop, (∃ m, W1 0 m H4) ∧ ∀ j k H, W1 j k H →
          (J1.stop j H ∧ Nx H) ∨ (J1.go j H ∧ ∃ Nx1 : Hp → Prop, (∀ H', Nx1 H' → ∃ k', k' < k ∧ W1 (j + 1) k' H') ∧ ∀ x H', J1.yld j H x H' → tgD K is1 g1 x (wipe σ2 vs1) H' fun σ3 H5 => wipe σ3 vs1 = wipe σ2 vs1 ∧ ttD Γ K W0 tt1 σ3 H5 fun b H6 =>
            if b = true then teD Γ K W0 te σ3 H6 fun y H7 => ∃ acc, H7 A = some (.lst acc) ∧ acc.length < sizeLine ∧ Nx1 (upd H7 A (.lst (acc ++ [y]))) else Nx1 H6)
        else Nx H3) := by
  have hAs := s1.free hA
  obtain ⟨P, hP⟩ : ∃ P : Nat → Hp → Prop, P = fun i H => ∃ (Hs : Hp) (n : S) (acc : List V) (ad : List D), i ≤ ds.length ∧ Ext Hs1 Hs ∧ Sit K n Hs H ∧ (∀ a o, H1 a = some o → Hs1 a = none → H a = some o ∧ Hs a = none) ∧ H A = some (.lst acc) ∧ Hs A = none ∧ DvAll K Hs acc ad ∧
      lc2W g tt ti1 g1 tt1 te vs1 (wipeE ρ vs) ad.length (ds.drop i) n (fun ys n => q (.lst (ad ++ ys)) n) (fun _ _ => False) := ⟨_, rfl⟩
  have put : ∀ {H : Hp} {Hs : Hp} {n : S} {l : List V}, Sit K n Hs H → Hs A = none → Sit K n Hs (upd H A (.lst l)) := fun {H Hs n l} s e => s.ownU e rfl
  refine ⟨fun i m H => m = ds.length - i ∧ P i H, ⟨_, rfl, ?_⟩, ?_⟩
  · rw [hP]
    refine ⟨Hs1, n1, [], [], Nat.zero_le _, .refl _, put s1 hAs, fun a o e1 e2 => ⟨?_, e2⟩, upd_same, hAs, .nil, h⟩
    rw [upd_ne (ne_of_none e1 hA)]; exact e1
  · rintro i m H ⟨rfl, hPi⟩
    rw [hP] at hPi
    obtain ⟨Hs, n, acc, ad, hi, he, s, own, hAl, hAn, g1', h⟩ := hPi
    by_cases hlt : i < ds.length
    · refine .inr ⟨wd.go i n Hs H he s hlt, P (i + 1), fun H' p => ⟨ds.length - (i + 1), by omega, rfl, p⟩, fun x H' hy => ?_⟩
      obtain ⟨Hs', d, hd, g2, s2, hv⟩ := wd.yld i n Hs H x H' he s hlt hy
      rw [drop_cons hd] at h
      obtain ⟨hAl2, hAn2⟩ := g2.own A _ hAl hAn
      refine ⟨n, Hs', wipeE ρ vs, d, _, _, s2, (r.ext (he.trans g2.ext)).wipe vs, hv, h, fun ρ3 σ3 r3 z3 h3 => ⟨?_, ?_⟩⟩
      · rw [z3 vs his]; exact wipe_wipe σ vs
      · refine ⟨n, Hs', ρ3, _, _, s2, r3, h3, fun b H3 Hs3 n3 g3 s3 h4 => ?_, fun _ _ _ _ _ _ _ _ _ z => z⟩
        obtain ⟨hAl3, hAn3⟩ := g3.own A _ hAl2 hAn2
        have ownN : ∀ {H4 Hs4 : Hp}, Go Hs3 H3 Hs4 H4 → ∀ a o, H1 a = some o → Hs1 a = none → H4 a = some o ∧ Hs4 a = none := fun {H4 Hs4} g4 a o e1 e2 => by
          obtain ⟨f1, f2⟩ := own a o e1 e2
          exact (g2.trans (g3.trans g4)).own a o f1 f2
        cases b with
        | false =>
          rw [if_neg Bool.false_ne_true, hP]
          have E3 := g2.ext.trans g3.ext
          exact ⟨Hs3, n3, acc, ad, hlt, he.trans E3, s3, ownN (.refl _ _), hAl3, hAn3, g1'.ext E3, h4⟩
        | true =>
          rw [if_pos rfl]
          refine ⟨n3, Hs3, ρ3, _, _, s3, r3.ext g3.ext, h4, fun J1 H4 Hs4 ds1 n4 g4 s4 wd1 h5 => ?_, fun _ _ _ _ _ _ _ _ _ z => z⟩
          obtain ⟨hAl4, hAn4⟩ := g4.own A _ hAl3 hAn3
          obtain ⟨hc, h5⟩ := h5
          have E4 := he.trans (g2.ext.trans (g3.ext.trans g4.ext))
          have r4 : R K ρ3 σ3 Hs4 := r3.ext (g3.ext.trans g4.ext)
          obtain ⟨P1, hP1⟩ : ∃ P1 : Nat → Hp → Prop, P1 = fun j H => ∃ (Hs : Hp) (n : S) (acc' : List V) (yd : List D), j ≤ ds1.length ∧ yd.length ≤ j ∧ Ext Hs4 Hs ∧ Sit K n Hs H ∧ (∀ a o, H1 a = some o → Hs1 a = none → H a = some o ∧ Hs a = none) ∧ H A = some (.lst acc') ∧ Hs A = none ∧ DvAll K Hs acc' (ad ++ yd) ∧
              lcW g1 tt1 te (wipeE ρ3 vs1) (ds1.drop j) n (fun ys n => lc2W g tt ti1 g1 tt1 te vs1 (wipeE ρ vs) (ad.length + (yd ++ ys).length) (ds.drop (i + 1)) n (fun zs n => q (.lst (ad ++ ((yd ++ ys) ++ zs))) n) (fun _ _ => False)) (fun _ _ => False) := ⟨_, rfl⟩
          refine ⟨fun j m H => m = ds1.length - j ∧ P1 j H, ⟨_, rfl, ?_⟩, ?_⟩
          · rw [hP1]
            exact ⟨Hs4, n4, acc, [], Nat.zero_le _, Nat.le_refl _, .refl _, s4, ownN g4, hAl4, hAn4, by rw [List.append_nil]; exact g1'.ext (g2.ext.trans (g3.ext.trans g4.ext)), h5⟩
          · rintro j m H ⟨rfl, hPj⟩
            rw [hP1] at hPj
            obtain ⟨Hs5, n5, acc5, yd, hj, hyl, e5, s5, own5, hAl5, hAn5, g5, h6⟩ := hPj
            by_cases hlj : j < ds1.length
            · refine .inr ⟨wd1.go j n5 Hs5 H e5 s5 hlj, P1 (j + 1), fun H' p => ⟨ds1.length - (j + 1), by omega, rfl, p⟩, fun x H' hy => ?_⟩
              obtain ⟨Hs6, d6, hd6, g6, s6, hv6⟩ := wd1.yld j n5 Hs5 H x H' e5 s5 hlj hy
              rw [drop_cons hd6] at h6
              obtain ⟨hAl6, hAn6⟩ := g6.own A _ hAl5 hAn5
              refine ⟨n5, Hs6, wipeE ρ3 vs1, d6, _, _, s6, (r4.ext (e5.trans g6.ext)).wipe vs1, hv6, h6, fun ρ7 σ7 r7 z7 h7 => ⟨?_, ?_⟩⟩
              · rw [z7 vs1 his1]; exact wipe_wipe σ3 vs1
              · refine ⟨n5, Hs6, ρ7, _, _, s6, r7, h7, fun b H8 Hs8 n8 g8 s8 h8 => ?_, fun _ _ _ _ _ _ _ _ _ z => z⟩
                obtain ⟨hAl8, hAn8⟩ := g8.own A _ hAl6 hAn6
                have ownM : ∀ {H9 Hs9 : Hp}, Go Hs8 H8 Hs9 H9 → ∀ a o, H1 a = some o → Hs1 a = none → H9 a = some o ∧ Hs9 a = none := fun {H9 Hs9} g9 a o e1 e2 => by
                  obtain ⟨f1, f2⟩ := own5 a o e1 e2
                  exact (g6.trans (g8.trans g9)).own a o f1 f2
                cases b with
                | false =>
                  rw [if_neg Bool.false_ne_true, hP1]
                  have E8 := g6.ext.trans g8.ext
                  exact ⟨Hs8, n8, acc5, yd, hlj, Nat.le_succ_of_le hyl, e5.trans E8, s8, ownM (.refl _ _), hAl8, hAn8, g5.ext E8, h8⟩
                | true =>
                  rw [if_pos rfl]
                  refine ⟨n8, Hs8, ρ7, _, _, s8, r7.ext g8.ext, h8, fun y H9 Hs9 e9 n9 g9 s9 hy9 h9 => ?_, fun _ _ _ _ _ _ _ _ _ z => z⟩
                  obtain ⟨hAl9, hAn9⟩ := g9.own A _ hAl8 hAn8
                  have len5 : acc5.length = ad.length + yd.length := by rw [g5.length, List.length_append]
                  refine ⟨acc5, hAl9, by rw [len5, sizeLine_eq]; omega, ?_⟩
                  rw [hP1]
                  have E9 := g6.ext.trans (g8.ext.trans g9.ext)
                  refine ⟨Hs9, n9, acc5 ++ [y], yd ++ [e9], hlj, by rw [List.length_append]; exact Nat.succ_le_succ hyl, e5.trans E9, put s9 hAn9, fun a o e1 e2 => ?_, upd_same, hAn9, by rw [← List.append_assoc]; exact (g5.ext E9).append (.cons hy9 .nil), ?_⟩
                  · obtain ⟨f1, f2⟩ := ownM g9 a o e1 e2
                    rw [upd_ne (ne_of_none e1 hA)]; exact ⟨f1, f2⟩
                  · have ee : ∀ ys : List D, yd ++ [e9] ++ ys = yd ++ e9 :: ys := fun ys => by rw [List.append_assoc]; rfl
                    simp only [ee]
                    exact h9
            · have e : j = ds1.length := by omega
              subst e
              rw [List.drop_length] at h6
              refine .inl ⟨wd1.stop n5 Hs5 H e5 s5, ?_⟩
              have h6' : lc2W g tt ti1 g1 tt1 te vs1 (wipeE ρ vs) (ad.length + (yd ++ []).length) (ds.drop (i + 1)) n5 (fun zs n => q (.lst (ad ++ ((yd ++ []) ++ zs))) n) (fun _ _ => False) := h6
              rw [List.append_nil] at h6'
              rw [hP]
              refine ⟨Hs5, n5, acc5, ad ++ yd, hlt, E4.trans e5, s5, own5, hAl5, hAn5, g5, ?_⟩
              have ee : ∀ zs : List D, ad ++ yd ++ zs = ad ++ (yd ++ zs) := fun zs => List.append_assoc ..
              rw [List.length_append]
              simp only [ee]
              exact h6'
    · have e : i = ds.length := by omega
      subst e
      rw [List.drop_length] at h
      refine .inl ⟨wd.stop n Hs H he s, ?_⟩
      have hs : Ext Hs (upd Hs A (.lst acc)) := Ext.of_same fun b u z => by
        rw [upd_ne (ne_of_none z hAn)]; exact z
      have sA : Sit K n (upd Hs A (.lst acc)) H := by
        have z := (s.put (o := .lst acc) hAn rfl rfl).1
        rwa [upd_id hAl] at z
      refine k _ H (upd Hs A (.lst acc)) (.lst ad) n ⟨he.trans hs, fun a o e1 e2 => ?_⟩ sA (.lst upd_same (g1'.ext hs)) ?_
      · obtain ⟨f1, f2⟩ := own a o e1 e2
        rw [upd_ne (ne_of_none e1 hA)]; exact ⟨f1, f2⟩
      · have h' : q (.lst (ad ++ [])) n := h
        rw [List.append_nil] at h'; exact h'
section
variable {Γ : Gam} {X : Cx} {W : WX} {tg tg1 : Expr} {pos : Pos}
theorem ds_setLc2 (i : Nat) {y : Str} {py spos : Pos} {elt it it1 : Expr} {ifs ifs1 : List Expr} {scope : Scope} {own : List (Str × Nat)} {ti ti1 : Ev → Wp (List D)} {g g1 : D → Ev → Wp Ev} {tt tt1 : Ev → Wp Bool} {te : Ev → Wp D} {is is1 : List Nat} (vs1 : List Nat) (hN : X.N.Nodup) (ok : BlkOk X.N X.env.scope scope own) (hi : DI Γ X W tg it ti)
    (hg : ∀ (s : Shared) (H : Hp) (C : Addr) (cl : List (Str × Addr)) (fp : List Addr), DG (X.blk s H scope (compEnvC scope cl C X.env) fp) tg is g)
    (ht : ∀ (s : Shared) (H : Hp) (C : Addr) (cl : List (Str × Addr)) (fp : List Addr), DTs Γ (X.blk s H scope (compEnvC scope cl C X.env) fp) W0 ifs tt)
    (hi1 : ∀ (s : Shared) (H : Hp) (C : Addr) (cl : List (Str × Addr)) (fp : List Addr), DI Γ (X.blk s H scope (compEnvC scope cl C X.env) fp) W0 tg1 it1 ti1)
    (hg1 : ∀ (s : Shared) (H : Hp) (C : Addr) (cl : List (Str × Addr)) (fp : List Addr), DG (X.blk s H scope (compEnvC scope cl C X.env) fp) tg1 is1 g1)
    (ht1 : ∀ (s : Shared) (H : Hp) (C : Addr) (cl : List (Str × Addr)) (fp : List Addr), DTs Γ (X.blk s H scope (compEnvC scope cl C X.env) fp) W0 ifs1 tt1)
    (he : ∀ (s : Shared) (H : Hp) (C : Addr) (cl : List (Str × Addr)) (fp : List Addr), DE Γ (X.blk s H scope (compEnvC scope cl C X.env) fp) W0 elt te)
    (hsw : swapsWith (.ListComp elt [⟨tg, it, ifs, 0⟩, ⟨tg1, it1, ifs1, 0⟩] scope pos) (some (.Name y py)) spos.line X.env = pure true) (hy : X.N[i]? = some y := by rfl) (hyl : X.env.scope.names.lookup y = some .local := by rfl)
    (hv : ∀ i ∈ vs1, i ∈ own.map (·.2) := by decide) (his : ∀ i ∈ is, i ∈ own.map (·.2) := by decide) (his1 : ∀ i ∈ is1, i ∈ vs1 := by decide) (hc : X.calm = true := by rfl) (hs : ∀ x, foldedSetIterable it X.env x = pure x := by intro _; rfl) (hs1 : ∀ env x, foldedSetIterable it1 env x = pure x := by intro _ _; rfl) :
    DS Γ X W (.Assign [.Name y py] (.ListComp elt [⟨tg, it, ifs, 0⟩, ⟨tg1, it1, ifs1, 0⟩] scope pos) spos) (tset i (tlc2 ti g tt ti1 g1 tt1 te (own.map (·.2)) vs1)) := by
  obtain ⟨wi, pi, fi⟩ := hi
  refine ⟨_, ps_setLc2 (g := tgD X.K is g) (tt := ttD Γ X.K W0 tt) (wi1 := wiD Γ X.K W0 ti1) (g1 := tgD X.K is1 g1) (tt1 := ttD Γ X.K W0 tt1) (te := teD Γ X.K W0 te) hc hN hy hyl hsw pi ok hv (fun s H C cl fp => (hg s H C cl fp).pg) (fun s H C cl fp => ht s H C cl fp) (fun s H C cl fp => (hi1 s H C cl fp).pi) (fun s H C cl fp => (hg1 s H C cl fp).pg) (fun s H C cl fp => ht1 s H C cl fp) (fun s H C cl fp => (he s H C cl fp).pe) hs hs1, fun σ H Hs ρ n q x E s r h k ke => fi σ H Hs ρ n _ x _ s r h (fun J H1 Hs1 ds n1 g1 s1 wd h1 => ?_) (ke σ)⟩
  intro A hA
  exact lc2_read (q := fun d n => q (.nx (ρ.set i (some d))) n) his his1 s1 wd (r.ext g1.ext) h1 (fun v H2 Hs2 d n2 g2 s2 hv h2 => k (.nx _) n2 H2 Hs2 (g1.trans g2) s2 h2 _ ((r.ext (g1.trans g2).ext).set i hv)) A hA
end
end OE
/-! sorted: tuples, the first of them empty -/
namespace PySem.W
open PySem PySem.Calls PySem.SeqAt PyProof.Rows
section
variable {prog : Program} {w : World} {A : Around} {E : Value → Shared → Prop} {s : Shared}
theorem call_tuple_lt {Q : Value → Shared → Prop} {l b : Addr} {items items2 : Array Value} {e r : Nat → Bool} (hl : s.heap.IsTuple l items) (hb : s.heap.IsTuple b items2)
    (he : ∀ j (h1 : j < items.size) (h2 : j < items2.size), EqAt A.in1 s items[j] items2[j] (e j)) (hr : ∀ j (h1 : j < items.size) (h2 : j < items2.size), e j = false → RcLt A.in1 s items[j] items2[j] (r j))
    (h : Q (.bool (firstLt e r (decide (items.size < items2.size)) (List.range (min items.size items2.size)))) s) : wpAny (model prog w) A (call (.builtin "tuple.__lt__") [.ref l, .ref b]) Q E s := by
  obtain ⟨⟨cls, dd, data, sl⟩, ho, hc, n, hd⟩ := id hl
  obtain ⟨⟨cls2, dd2, data2, sl2⟩, ho2, hc2, n2, hd2⟩ := id hb
  simp only at hc hd hc2 hd2
  subst hc hd hc2 hd2
  exact call_meets F.slot_tuple_lt ⟨_, ho, rfl⟩ F.entry_tuple_lt (F.args_tuple_lt_2 _ _) (tuple_ltAt l b items items2 n n2 dd dd2 sl sl2 e r) ⟨ho, ho2, he, hr, h⟩
theorem oneLt_tuple {xs ys : List PyData} {a b : Value} {as bs : List Addr} {Q : Bool → Shared → Prop} (ra : Reads s.heap a (.tuple xs) as) (rb : Reads s.heap b (.tuple ys) bs) (h : alike (.tuple xs) (.tuple ys) = true)
    (hu : A.units + min (PyData.tuple xs).depth (PyData.tuple ys).depth < cLine) (hq : Q (dataLt (.tuple xs) (.tuple ys)) s) : wpAny (model prog w) A (oneLt' true a b) Q E s := by
  have hal : alikeAll xs ys = true := by simpa [alike] using h
  cases ra with
  | @tuple l o vs n _ as₁ h1 h2 h3 h4 =>
    cases rb with
    | @tuple l' o' vs' n' _ bs₁ k1 k2 k3 k4 =>
      have n1 : vs.size = xs.length := by simpa using ReadsAll.length _ _ _ h4
      have n2 : vs'.size = ys.length := by simpa using ReadsAll.length _ _ _ k4
      rw [dataLt_tuple, ← firstLt_toks xs ys hal, ← n1, ← n2] at hq
      rw [oneLt'_eq]
      simp only [if_true]
      refine wpAny_bind (wpAny_cRoomFor (room_here hu) ?_)
      refine wpAny_bind (wpAny_callSpecialIfBound?_slot (T := "tuple") ⟨_, h1, h2⟩ F.slot_tuple_lt (call_tuple_lt (e := pairEq xs ys) (r := fun j => dataLt (xs.getD j .none) (ys.getD j .none)) ⟨_, h1, h2, _, h3⟩ ⟨_, k1, k2, _, k3⟩ (fun j j1 j2 => ?_) (fun j j1 j2 hj => ?_) ?_))
      · have := eqAt_alikeAll xs ys A.in1 s vs.toList vs'.toList _ _ h4 k4 hal (room_in hu) j (by simpa using j1) (by simpa using j2)
        simpa using this
      · have := rcLt_alikeAll xs ys A.in1 s vs.toList vs'.toList _ _ h4 k4 hal (room_in hu) j (by simpa using j1) (by simpa using j2) hj
        simpa using this
      · exact wpAny_truthy_bool hq
theorem firsts_run {M : Model} : ∀ {vs : List Value} {ds : List PyData}, EachIs (fun v d => ∃ as, Reads s.heap v d as) vs ds → (∀ d, d ∈ ds → ∃ xs, d = .tuple xs) →
    ∃ os : List (Option Value), (∀ ds', ds = .tuple [] :: ds' → ∃ os', os = none :: os') ∧ ∀ {Q : List (Option Value) → Shared → Prop}, Q os s → wpAny M A (vs.mapM firstOfTuple') Q E s
  | _, _, .nil, _ => by
    refine ⟨[], ?_, ?_⟩
    · intro ds' h; cases h
    · intro Q h; rw [List.mapM_nil]; exact wpAny_pure h
  | _, _, .cons (b := d) ⟨as, r⟩ t, ht => by
    obtain ⟨os, _, h2⟩ := firsts_run (M := M) t fun d hd => ht d (List.mem_cons_of_mem _ hd)
    obtain ⟨xs, rfl⟩ := ht d (List.mem_cons_self ..)
    cases r with
    | @tuple a o us n _ _ ho hc hd hr =>
      refine ⟨us[0]? :: os, fun ds' e => ?_, fun {Q} h => ?_⟩
      · injection e with e1 e2
        injection e1 with e1
        subst e1
        have z : us.toList = [] := by cases h : us.toList with
          | nil => rfl
          | cons x y => rw [h] at hr; cases hr
        have z' : us = #[] := Array.toList_inj.mp (by rw [z])
        exact ⟨os, by rw [z']; rfl⟩
      · rw [List.mapM_cons]
        refine wpAny_bind ?_
        rw [kas_first_eq]
        refine wpAny_bind (Looks.here (show Looks M s.heap (typeOf (.ref a)) o.cls from (Looks.ld ho).andThen .now) ?_)
        rw [hc, if_neg (by first | decide | simp)]
        refine wpAny_bind (listItems_at ho hd (wpAny_pure ?_))
        exact wpAny_bind (h2 (Q := fun bs s' => wpAny M A (pure (us[0]? :: bs)) Q E s') (wpAny_pure h))
theorem SortsAt.data2 {vs : List Value} {ds ds' : List PyData} (e : EachIs (fun v d => ∃ as, Reads s.heap v d as) vs ds) (hal : AllAlike ds) (h0 : ds = .tuple [] :: ds') (ht : ∀ d, d ∈ ds → ∃ xs, d = .tuple xs) (hu : ∀ d, d ∈ ds → A.units + d.depth < cLine) : SortsAt prog w A s (dataKind s.heap ds) vs := by
  have room : ∀ {d d' : PyData}, d ∈ ds → A.units + min d.depth d'.depth < cLine := fun {d d'} hd => Nat.lt_of_le_of_lt (Nat.add_le_add_left (Nat.min_le_left _ _) _) (hu d hd)
  refine ⟨fun v hv => ?_, oneType', ?_, fun h2 E Q hq => ?_⟩
  · obtain ⟨d, hd, as, r⟩ := e.left v hv
    exact ⟨_, dataKind_some hal hd r⟩
  · intro E x y a b Q ha hb hq
    obtain ⟨d, as, hd, ra, rfl⟩ := dataKind_inv ha
    obtain ⟨d', as', hd', rb, rfl⟩ := dataKind_inv hb
    rw [keyLt'_oneType]
    obtain ⟨xs, rfl⟩ := ht d hd
    obtain ⟨ys, rfl⟩ := ht d' hd'
    exact oneLt_tuple ra rb (hal _ hd _ hd') (room hd) hq
  · obtain ⟨os, h1, run⟩ := firsts_run (M := model prog w) (A := A) (E := E) e ht
    obtain ⟨os', rfl⟩ := h1 _ h0
    obtain ⟨v₁, v₂, rest, rfl⟩ : ∃ v₁ v₂ rest, vs = v₁ :: v₂ :: rest := by
      match vs, h2 with
      | [], h2 => simp at h2
      | [_], h2 => simp at h2
      | v₁ :: v₂ :: rest, _ => exact ⟨v₁, v₂, rest, rfl⟩
    rw [keyKind'_eq, List.mapM_toArray, map_eq_pure_bind]
    refine wpAny_bind (wpAny_bind (run (wpAny_pure ?_)))
    rw [if_neg (by simp), if_neg (by simp)]
    rw [oneTypeOnly'_eq, List.mapM_toArray, map_eq_pure_bind]
    have hT : ∀ v ∈ v₁ :: v₂ :: rest, Looks (model prog w) s.heap (typeOf v) (Value.type "tuple") := fun v hv => by
      obtain ⟨d, hd, as, r⟩ := e.left v hv
      obtain ⟨xs, rfl⟩ := ht d hd
      exact looks_reads r
    refine wpAny_bind (wpAny_bind (wpAny_bind (kas_mapM (r := Value.type "tuple") _ (fun v hv Q' hq => (hT v hv).here hq) (wpAny_pure ?_))))
    have hall : ((List.map (fun _ => Value.type "tuple") (v₁ :: v₂ :: rest)).toArray.all fun x => x == Value.type "tuple") = true := by
      simp only [List.all_toArray, List.all_map, List.all_eq_true]
      intro _ _
      rfl
    have h0' : (List.map (fun _ => Value.type "tuple") (v₁ :: v₂ :: rest)).toArray[0]? = some (Value.type "tuple") := by simp
    rw [h0']
    simp only [hall, if_true]
    exact wpAny_pure (wpAny_pure hq)
noncomputable def Sortable2 (ds : List PyData) : Prop := Sortable ds ∨ (∃ ds', ds = .tuple [] :: ds') ∧ ∀ d, d ∈ ds → ∃ xs, d = .tuple xs
theorem sorted_data2 {β : Type} {vs : List Value} {bs : List β} {enc : β → PyData} {R : Value → β → Prop} {l : Addr} {Q : Value → Shared → Prop} (hl : s.heap.IsList l vs.toArray) (e : EachIs R vs bs) (er : EachIs (fun v b => ∃ as, Reads s.heap v (enc b) as) vs bs) (hal : AllAlike (bs.map enc)) (hk : Sortable2 (bs.map enc)) (hL : bs.length ≤ sizeLine)
    (hu : ∀ b, b ∈ bs → A.units + 2 + (enc b).depth < cLine) (h : ∀ out, out.length = bs.length → EachIs R out (bs.mergeSort (dataLe false enc)) → Q (.ref (s.heap.objs.size + 1)) { s with heap := sortedAll s.heap vs (List.toArray out) }) :
    wpAny (model prog w) A (call (.builtin "sorted") [.ref l]) Q E s := by
  rcases hk with hk | ⟨⟨ds', h0⟩, ht⟩
  · exact sorted_data hl e er hal hk hL hu h
  · have er' : EachIs (fun v b => ∃ as, Reads (sortingHeap (copyHeap s.heap vs) (s.heap.objs.size + 1) vs) v (enc b) as) vs bs := er.mono fun _ _ ⟨as, r⟩ => ⟨as, PyProof.Rows.Reads.keeps (fun _ _ => sorting_copy_old) r⟩
    exact sorted_vals hl (SortsAt.data2 (s := { s with heap := sortingHeap (copyHeap s.heap vs) (s.heap.objs.size + 1) vs }) (each_map (R := fun v d => ∃ as, Reads (sortingHeap (copyHeap s.heap vs) (s.heap.objs.size + 1) vs) v d as) enc er') hal h0 ht (bound_map hu)) (by rw [e.length]; exact hL)
      (h _ (by rw [sortVals_length false rfl]; exact e.length) (sortVals_data false e er' hal))
end
end PySem.W
namespace OE
open PySem PySem.Spec L2
variable [TN]
/-- the sorted list -/
noncomputable def leD (a b : D) : Bool := !PySem.W.dataLt b.py a.py
noncomputable def sortD (l : List D) : List D := l.mergeSort leD
noncomputable def SortOk (l : List D) : Prop := (∀ d ∈ l, d.plain = true ∧ d.py.depth ≤ 60) ∧ PySem.W.AllAlike (l.map D.py) ∧ PySem.W.Sortable2 (l.map D.py)
noncomputable def fSorted : List D → Wp D
  | [.lst l] => Wp.bind (Wp.ask (SortOk l)) fun _ => Wp.ret (.lst (sortD l))
  | _ => Wp.stuck
noncomputable def rSortD (K : PySem.W.Frag) : List V → Hp → VK → Prop := fun xs H Q => ∃ (p : Addr) (vs : List V) (ds : List D) (Hs : Hp) (n : S), xs = [.ref p] ∧ Sit K n Hs H ∧ SqL K H p vs ∧ DvAll K Hs vs ds ∧ SortOk ds ∧
  ∀ ys q, DvAll K Hs ys (sortD ds) → H q = none → Q (.ref q) (upd H q (.lst ys))
theorem each_of {X : Cx} {pins : List (Addr × Obj)} {σ : L2.St} {H Hs : Hp} {s : Shared} (I : Inv X pins σ H s) (sub : SameK Hs H) : ∀ {vs : List V} {ds : List D} {us : List Value}, DvAll X.K Hs vs ds → Vals vs us → (∀ d ∈ ds, d.plain = true) →
    PySem.W.EachIs (fun u (p : V × D) => RelV p.1 u ∧ Dv X.K Hs p.1 p.2) us (vs.zip ds) ∧ PySem.W.EachIs (fun u (p : V × D) => ∃ as, Reads s.heap u p.2.py as) us (vs.zip ds)
  | _, _, _, .nil, .nil, _ => ⟨.nil, .nil⟩
  | _, _, _, .cons h g, .cons r rr, hp => by
    obtain ⟨e1, e2⟩ := each_of I sub g rr fun d hd => hp d (List.mem_cons_of_mem _ hd)
    exact ⟨.cons ⟨r, h⟩ e1, .cons (h.rs I sub r (hp _ List.mem_cons_self)).reads e2⟩
theorem zip_snd {α β : Type} : ∀ {l : List α} {m : List β}, l.length = m.length → (l.zip m).map Prod.snd = m
  | [], [], _ => rfl
  | _ :: _, [], h => by cases h
  | [], _ :: _, h => by cases h
  | a :: l, b :: m, h => by rw [List.zip_cons_cons, List.map_cons, zip_snd (by simpa using h)]
theorem each_back {K : PySem.W.Frag} {Hs : Hp} : ∀ {us : List Value} {zs : List (V × D)}, PySem.W.EachIs (fun u (p : V × D) => RelV p.1 u ∧ Dv K Hs p.1 p.2) us zs → Vals (zs.map Prod.fst) us ∧ DvAll K Hs (zs.map Prod.fst) (zs.map Prod.snd)
  | _, _, .nil => ⟨.nil, .nil⟩
  | _, _, .cons h t => by
    obtain ⟨a, b⟩ := each_back t
    exact ⟨.cons h.1 a, .cons h.2 b⟩
theorem call_sortD {X : Cx} (hu : X.A.units + 64 < cLine) : CallR X (.builtin "sorted") (rSortD X.K) := by
  intro pins s σ H xs us Q I r h
  obtain ⟨p, vs, ds, Hs, n, rfl, st, sq, hv, ⟨ok1, ok2, ok3⟩, q⟩ := h
  obtain ⟨u, rfl, ru⟩ := vals1 r
  obtain rfl : u = Value.ref p := ru
  obtain ⟨its, rv, hl, hz⟩ := I.list sq
  obtain ⟨e1, e2⟩ := each_of I st.subK hv rv fun d hd => (ok1 d hd).1
  have hzip : (vs.zip ds).map Prod.snd = ds := zip_snd hv.length
  have henc : (vs.zip ds).map (fun p => p.2.py) = ds.map D.py := by
    have e : (fun p : V × D => p.2.py) = D.py ∘ Prod.snd := rfl
    rw [e, ← List.map_map, hzip]
  have hlen : (vs.zip ds).length = vs.length := by rw [List.length_zip, hv.length, Nat.min_self]
  refine PySem.W.sorted_data2 (enc := fun p : V × D => p.2.py) hl.isList e1 e2 (by rw [henc]; exact ok2) (by rw [henc]; exact ok3) (by rw [hlen]; exact hz) (fun b hb => ?_) fun out ho eo => ?_
  · have hm : b.2 ∈ ds := by rw [← hzip]; exact List.mem_map.mpr ⟨b, hb, rfl⟩
    have := (ok1 _ hm).2
    omega
  · obtain ⟨b1, b2⟩ := each_back eo
    have es : ((vs.zip ds).mergeSort (PySem.W.dataLe false fun p : V × D => p.2.py)).map Prod.snd = sortD ds := by
      have z := PySem.W.sort_maps (r := PySem.W.dataLe false fun p : V × D => p.2.py) (s := leD) Prod.snd (l := vs.zip ds) (fun a _ b _ => rfl)
      rw [z, hzip]
      rfl
    rw [es] at b2
    obtain ⟨e, he⟩ := PyProof.Rows.sortedAll_at s.heap its (List.toArray out)
    refine ⟨.ref (s.heap.objs.size + 1), upd H (s.heap.objs.size + 1) (.lst _), I.laid (t' := s.toks) (fun b o hb => PyProof.Rows.sortedAll_old hb) (Nat.le_succ _) (show ObjOk X.prog X.w _ _ _ (.lst _) from ⟨?_, out, e, b1, he⟩), rfl, q _ _ b2 (I.hok.fresh (Nat.le_succ _))⟩
    rw [b1.length, ho, hlen]
    exact hz
theorem cd_sorted {K : PySem.W.Frag} : CD K (rSortD K) fSorted := by
  intro xs ds H Hs n q e Q s hx h k
  cases hx with
  | nil => exact (show False from h).elim
  | @cons v vs d ds hv g =>
   cases g with
   | cons _ _ => cases d <;> exact (show False from h).elim
   | nil =>
    cases hv with
    | @lst p vs ds h1 g1 =>
      refine ⟨p, vs, ds, Hs, n, rfl, s, SqL.of (s.sub _ _ h1), g1, h.1, fun ys q' hy hq => ?_⟩
      obtain ⟨s4, g4, v4⟩ := new_lst s hq hy
      exact k _ _ _ _ n g4 s4 v4 h.2
    | _ => exact (show False from h).elim
section
variable {Γ : Gam} {X : Cx} {W : WX} {a : Expr} {pos : Pos}
theorem d_sorted {p : Pos} {t : Ev → Wp (List D)} (hu : X.A.units + 64 < cLine) (hm : X.mg "sorted" = none) (ha : DA Γ X W [a] t) (hg : Gl X "sorted" := by rfl) (he : starEach [a] X.env = (false, eval a X.env) :: starEach [] X.env := by rfl) (hpl : (backTo pos (starEach [] X.env)).any (·.1) = false := by rfl) :
    DE Γ X W (.Call (.Name "sorted" p) [a] [] pos) (tcall fSorted t) := d_callB (call_sortD hu) cd_sorted hg hm (by decide +kernel) ha (by decide) (by decide) he hpl
end
end OE
namespace OE
open PySem PySem.Spec L2
variable [TN]
section
variable {n : S} {x : Exn → S → Prop} {ρ : Ev} {d : D} {i j l : Nat} {f : D → D → Wp D} {ta tb tc : Ev → Wp D} {tl : Ev → Wp (List D)} {c c' : Ev → Wp Bool} {t u : Ev → Wp Out} {q : D → S → Prop} {qo : Out → S → Prop} {qb : Bool → S → Prop} {ql : List D → S → Prop}
theorem f_all {l : List D} : fAll [.lst l] n q x = ∃ bs, boolsOf l = some bs ∧ q (.bl (bs.all id)) n := rfl
theorem f_any {l : List D} : fAny [.lst l] n q x = ∃ bs, boolsOf l = some bs ∧ q (.bl (bs.any id)) n := rfl
theorem f_sum {l : List D} : fSum [.lst l] n q x = ∃ bs, intsOf l = some bs ∧ q (.int bs.sum) n := rfl
noncomputable def kFz (i : Nat) (t : Ev → Wp Out) (ρ : Ev) (q : Out → S → Prop) (x : Exn → S → Prop) (d : D) (n : S) : Prop := t (ρ.set i (some d)) n q x
noncomputable def kFrz (i : Nat) (t : Ev → Wp Out) (ρ : Ev) (q : Out → S → Prop) (x : Exn → S → Prop) (o : Option (Option D)) (n : S) : Prop := match o with
  | some (some d) => fFrz d n (kFz i t ρ q x) x
  | _ => t ρ n q x
theorem s_frz : tfrz i t ρ n qo x = kFrz i t ρ qo x ρ[i]? n := by
  unfold tfrz kFrz
  cases h : ρ[i]? with
  | none => rfl
  | some o => cases o <;> rfl
theorem k_frzS : kFrz i t ρ qo x (some (some d)) n = fFrz d n (kFz i t ρ qo x) x := rfl
theorem k_fz : kFz i t ρ qo x d n = t (ρ.set i (some d)) n qo x := rfl
theorem f_frzLs {l : List D} : fFrz (.lst l) n q x = q (.lst l) n := rfl
theorem f_frzT {l : List D} : fFrz (.tup l) n q x = q (.tup l) n := rfl
theorem f_frzI {z : Int} : fFrz (.int z) n q x = q (.int z) n := rfl
theorem f_frzN : fFrz .non n q x = q .non n := rfl
noncomputable def kMl (q : D → S → Prop) (ds : List D) (n : S) : Prop := ds.length ≤ 1000000 ∧ ∀ a, n.mu a = none → q (.mref a) ⟨n.n, n.mu.put a (.lst ds)⟩
theorem s_mlst : tmlst tl ρ n q x = tl ρ n (kMl q) x := rfl
theorem k_ml {ds : List D} : kMl q ds n = (ds.length ≤ 1000000 ∧ ∀ a, n.mu a = none → q (.mref a) ⟨n.n, n.mu.put a (.lst ds)⟩) := rfl
noncomputable def kMe (f : D → D → Wp D) (tb : Ev → Wp D) (ρ : Ev) (q : D → S → Prop) (x : Exn → S → Prop) (d : D) (n : S) : Prop := fIsL d n (fun _ m => tb ρ m (kBin2 f d q x) x) x
theorem s_meth : tmeth f ta tb ρ n q x = ta ρ n (kMe f tb ρ q x) x := rfl
theorem k_me {a : Addr} : kMe f tb ρ q x (.mref a) n = ((∃ l, n.mu a = some (.lst l)) ∧ tb ρ n (kBin2 f (.mref a) q x) x) := rfl
theorem f_app {a : Addr} : fAppend (.mref a) d n q x = ∃ l, n.mu a = some (.lst l) ∧ l.length < 1000000 ∧ q .non ⟨n.n, n.mu.put a (.lst (l ++ [d]))⟩ := rfl
theorem f_extd {a : Addr} {m : List D} : fExtend (.mref a) (.lst m) n q x = ∃ l, n.mu a = some (.lst l) ∧ l.length + m.length ≤ 1000000 ∧ q .non ⟨n.n, n.mu.put a (.lst (l ++ m))⟩ := rfl
theorem f_sorted {l : List D} : fSorted [.lst l] n q x = (SortOk l ∧ q (.lst (sortD l)) n) := rfl
noncomputable def kLcc (g : D → Ev → Wp Ev) (c : Ev → Wp Bool) (ti1 : Ev → Wp (List D)) (g1 : D → Ev → Wp Ev) (c1 : Ev → Wp Bool) (te : Ev → Wp D) (vs vs1 : List Nat) (ρ : Ev) (q : D → S → Prop) (ds : List D) (n : S) : Prop := lc2W g c ti1 g1 c1 te vs1 (wipeE ρ vs) 0 ds n (fun ys m => q (.lst ys) m) (fun _ _ => False)
theorem s_lc2 {g g1 : D → Ev → Wp Ev} {ti1 : Ev → Wp (List D)} {vs vs1 : List Nat} : tlc2 tl g c ti1 g1 c' ta vs vs1 ρ n q x = tl ρ n (kLcc g c ti1 g1 c' ta vs vs1 ρ q) x := rfl
theorem k_lcc {g g1 : D → Ev → Wp Ev} {ti1 : Ev → Wp (List D)} {vs vs1 : List Nat} {ds : List D} : kLcc g c ti1 g1 c' ta vs vs1 ρ q ds n = lc2W g c ti1 g1 c' ta vs1 (wipeE ρ vs) 0 ds n (fun ys m => q (.lst ys) m) (fun _ _ => False) := rfl
end
section
variable {n : S} {x : Exn → S → Prop} {q : D → S → Prop} {ρ : Ev} {c c' : Ev → Wp Bool} {ta : Ev → Wp D}
theorem f_frzL {a : Addr} {l : List D} (h : n.mu a = some (.lst l)) (hq : q (.lst l) ⟨n.n, n.mu.del a⟩) : fFrz (.mref a) n q x := .inl ⟨l, h, hq⟩
/-- a comprehension that maps -/
theorem lc_map {g : D → Ev → Wp Ev} {f : D → D} {ds : List D} {ql : List D → S → Prop} (hp : ∀ d ∈ ds, ∀ (n : S) (k : Option D → S → Prop), k (some (f d)) n → lc1 g c ta ρ d n k) (h : ql (ds.map f) n) : lcW g c ta ρ ds n ql (fun _ _ => False) :=
  lc_pure (f := fun d => some (f d)) hp (by rw [List.filterMap_eq_map']; exact h)
theorem bools_map {α : Type} (p : α → Bool) : ∀ l : List α, boolsOf (l.map fun a => D.bl (p a)) = some (l.map p)
  | [] => rfl
  | a :: l => by rw [List.map_cons, boolsOf, bools_map p l]; rfl
theorem ints_map {α : Type} (p : α → Int) : ∀ l : List α, intsOf (l.map fun a => D.int (p a)) = some (l.map p)
  | [] => rfl
  | a :: l => by rw [List.map_cons, intsOf, ints_map p l]; rfl
/-- two clauses that neither draw nor fail -/
theorem lc2_map {g g1 : D → Ev → Wp Ev} {ti1 : Ev → Wp (List D)} {vs1 : List Nat} {f : D → List D} {M : Nat}
    : ∀ {ds : List D} {n : S} {ql : List D → S → Prop} {k0 : Nat}, (∀ d ∈ ds, ∀ (n : S) (cc : Nat) (k : List D → S → Prop), cc + M ≤ 1000000 → k (f d) n →
        g d ρ n (fun ρ1 m => c ρ1 m (fun b r => if b = true then ti1 ρ1 r (fun ds1 s => cc + ds1.length ≤ 1000000 ∧ lcW g1 c' ta (wipeE ρ1 vs1) ds1 s k (fun _ _ => False)) (fun _ _ => False) else k [] r) (fun _ _ => False)) (fun _ _ => False)) →
      (∀ d ∈ ds, (f d).length ≤ M) → k0 + (ds.length + 1) * M ≤ 1000000 → ql (ds.flatMap f) n → lc2W g c ti1 g1 c' ta vs1 ρ k0 ds n ql (fun _ _ => False)
  | [], _, _, _, _, _, _, h => h
  | d :: ds, n, ql, k0, hp, hm, hk, h => by
    have hmd := hm d List.mem_cons_self
    have e : (ds.length + 1 + 1) * M = (ds.length + 1) * M + M := by rw [Nat.add_mul, Nat.one_mul]
    rw [List.length_cons] at hk
    have rc : lc2W g c ti1 g1 c' ta vs1 ρ (k0 + (f d).length) ds n (fun zs m => ql (f d ++ zs) m) (fun _ _ => False) :=
      lc2_map (fun d' h' => hp d' (List.mem_cons_of_mem _ h')) (fun d' h' => hm d' (List.mem_cons_of_mem _ h')) (by omega) (by rw [List.flatMap_cons] at h; exact h)
    have z := hp d List.mem_cons_self n k0 (fun ys m => lc2W g c ti1 g1 c' ta vs1 ρ (k0 + ys.length) ds m (fun zs r => ql (ys ++ zs) r) (fun _ _ => False)) (by
      have : M ≤ (ds.length + 1) * M := Nat.le_mul_of_pos_left _ (by omega)
      omega) rc
    refine Eq.mp ?_ z
    refine congrArg (fun k => g d ρ n k (fun _ _ => False)) (funext fun ρ1 => funext fun m => congrArg (fun k => c ρ1 m k (fun _ _ => False)) (funext fun b => funext fun r => ?_))
    cases b <;> rfl
end
end OE
namespace OE
open PySem PySem.Spec L2 PyProof.Rows
variable [TN]
/-! ### is, is not of bools -/
noncomputable def fIsB (neg : Bool) : D → D → Wp D := fun x y n q _ => ∃ a b : Bool, x = .bl a ∧ y = .bl b ∧ q (.bl (neg.xor (decide (a = b)))) n
theorem r2_notB {K : PySem.W.Frag} : R2D K rNotB (fIsB true) := by
  intro x y a b H Hs n q e Q s hx hy h k
  obtain ⟨u, v, rfl, rfl, h⟩ := h
  cases hx
  cases hy
  rw [Bool.true_xor] at h
  exact ⟨u, v, rfl, rfl, k _ H Hs _ n (.refl _ _) s (.bl _) h⟩
section
variable {Γ : Gam} {X : Cx} {W : WX} {a b c : Expr} {ta tb tc : Ev → Wp D} {pos : Pos}
theorem dt_notB (ha : DE Γ X W a ta) (hb : DE Γ X W b tb) (hm : behindInMarks .IsNot b = false := by rfl) : DT Γ X W (.Compare a [.IsNot] [b] pos) (ttest (tbin (fIsB true) ta tb)) := dt_cmp op_notBl r2_notB ha hb hm
/-! ### isinstance(d, (T, U)) -/
noncomputable def tisi2 (T U : String) (t : Ev → Wp D) : Ev → Wp D := fun ρ => Wp.bind (t ρ) fun d => Wp.bind (Wp.ask (d.isE = false)) fun _ => Wp.ret (.bl (isiB T d || isiB U d))
/-! ### sorted(set(t)), t a tuple of ints -/
theorem dv_ints {K : PySem.W.Frag} {H : Hp} : ∀ {ns : List Int} {xs : List V}, DvAll K H xs (ns.map D.int) → xs = ns.map V.int
  | [], _, .nil => rfl
  | n :: ns, _, .cons h g => by cases h; rw [dv_ints g]; rfl
theorem ints_dv {K : PySem.W.Frag} {H : Hp} : ∀ ns : List Int, DvAll K H (ns.map V.int) (ns.map D.int)
  | [] => .nil
  | n :: ns => .cons (.int n) (ints_dv ns)
/-! ### name op= e, ints -/
noncomputable def taug (i : Nat) (f : Int → Int → Int) (ta : Ev → Wp D) : Ev → Wp Out := fun ρ n q x => ∃ u : Int, ρ[i]? = some (some (.int u)) ∧ ta ρ n (fun d n' => ∃ v : Int, d = .int v ∧ q (.nx (ρ.set i (some (.int (f u v))))) n') x
theorem ds_aug (i : Nat) {y : Str} {py : Pos} {op : Operator} {f : Int → Int → Int} (ho : PIp X op (ipI f)) (hN : X.N.Nodup) (ha : DE Γ X W a ta) (hi : X.N[i]? = some y := by rfl) (hx : Loc X.env.scope y := by first | exact Or.inl rfl | exact Or.inr rfl)
    (hf : X.fn y = true ∨ X.env.scope.names.lookup y = some .local := by first | exact .inl rfl | exact .inr rfl) : DS Γ X W (.AugAssign (.Name y py) op a pos) (taug i f ta) := by
  obtain ⟨ea, pa, fa⟩ := ha
  refine ⟨_, ps_aug hN hi hx pa ho hf, fun σ H Hs ρ n q x E s r h k ke => ?_⟩
  obtain ⟨u, hu, h⟩ := h
  obtain ⟨w, hw, dw⟩ := r.2 i _ hu
  cases dw
  refine ⟨_, hw, fa σ H Hs ρ n _ x _ s r h (fun v H1 Hs1 d n1 g1 s1 hv h1 => ?_) (ke σ)⟩
  obtain ⟨z, rfl, h1⟩ := h1
  cases hv
  exact ⟨u, z, rfl, rfl, k (.nx (ρ.set i (some (.int (f u z))))) n1 H1 Hs1 g1 s1 h1 _ ((r.ext g1.ext).set i (.int _))⟩
/-! ### chains -/
end
end OE
namespace OE
open PySem PySem.Spec PyProof.Rows L2 HT
/-! ### e[::-1] -/
variable [TN]
noncomputable def fRev : D → Wp D := fun d n q _ => match d with
  | .lst l => q (.lst l.reverse) n
  | .tup l => q (.tup l.reverse) n
  | _ => False
theorem DvAll.snoc {K : PySem.W.Frag} {H : Hp} : ∀ {xs : List V} {ds : List D} {v : V} {d : D}, DvAll K H xs ds → Dv K H v d → DvAll K H (xs ++ [v]) (ds ++ [d])
  | _, _, _, _, .nil, h => .cons h .nil
  | _, _, _, _, .cons g t, h => .cons g (DvAll.snoc t h)
end OE
namespace OE
open PySem PySem.Spec PyProof.Rows L2
variable [TN]
/-! ### isinstance(e, C) of a caught exception -/
section
variable {Γ : Gam} {X : Cx} {W : WX} {a b c : Expr} {ta tb tc : Ev → Wp D} {pos : Pos} {mt : Str → Bool}
noncomputable def tisx (Γ : Gam) (mt : Str → Bool) (t : Ev → Wp D) : Ev → Wp D := fun ρ => Wp.bind (t ρ) fun d => match d with
  | .exn x C _ => Wp.bind (Wp.ask (Γ x = some C)) fun _ => Wp.ret (.bl (mt x))
  | _ => Wp.stuck
end
end OE
namespace OE
open PySem PySem.Spec L2
variable [TN]
section
variable {n : S} {x : Exn → S → Prop} {ρ : Ev} {d : D} {i : Nat} {ta tb : Ev → Wp D} {q : D → S → Prop} {qo : Out → S → Prop}
theorem f_isB {neg a b : Bool} : fIsB neg (.bl a) (.bl b) n q x = q (.bl (neg.xor (decide (a = b)))) n := propext ⟨fun ⟨_, _, h1, h2, h⟩ => by cases h1; cases h2; exact h, fun h => ⟨a, b, rfl, rfl, h⟩⟩
noncomputable def kIsi2 (T U : String) (q : D → S → Prop) (d : D) (n : S) : Prop := d.isE = false ∧ q (.bl (isiB T d || isiB U d)) n
theorem s_isi2 {T U : String} : tisi2 T U ta ρ n q x = ta ρ n (kIsi2 T U q) x := rfl
theorem k_isi2 {T U : String} : kIsi2 T U q d n = (d.isE = false ∧ q (.bl (isiB T d || isiB U d)) n) := rfl
noncomputable def kAug (i : Nat) (f : Int → Int → Int) (u : Int) (ρ : Ev) (q : Out → S → Prop) (d : D) (n : S) : Prop := ∃ v : Int, d = .int v ∧ q (.nx (ρ.set i (some (.int (f u v))))) n
theorem s_aug {f : Int → Int → Int} : taug i f ta ρ n qo x = ∃ u : Int, ρ[i]? = some (some (.int u)) ∧ ta ρ n (kAug i f u ρ qo) x := rfl
theorem k_aug {f : Int → Int → Int} {u v : Int} : kAug i f u ρ qo (.int v) n = qo (.nx (ρ.set i (some (.int (f u v))))) n := propext ⟨fun ⟨_, h1, h⟩ => by cases h1; exact h, fun h => ⟨v, rfl, h⟩⟩
theorem w_int {a b : Int} : (D.int a = D.int b) = (a = b) := D.int.injEq a b
theorem f_revL {l : List D} : fRev (.lst l) n q x = q (.lst l.reverse) n := rfl
theorem f_revT {l : List D} : fRev (.tup l) n q x = q (.tup l.reverse) n := rfl
noncomputable def kIsx (Γ : Gam) (mt : Str → Bool) (q : D → S → Prop) (d : D) (n : S) : Prop := match d with
  | .exn x C _ => Γ x = some C ∧ q (.bl (mt x)) n
  | _ => False
theorem s_isx {Γ : Gam} {mt : Str → Bool} : tisx Γ mt ta ρ n q x = ta ρ n (kIsx Γ mt q) x := by
  unfold tisx
  show ta ρ n _ x = _
  refine congrArg (fun k => ta ρ n k x) (funext fun d => funext fun m => ?_)
  cases d <;> rfl
theorem k_isx {Γ : Gam} {mt : Str → Bool} {y : Str} {C : Addr} {l : List D} : kIsx Γ mt q (.exn y C l) n = (Γ y = some C ∧ q (.bl (mt y)) n) := rfl
end
end OE
/-! ### what is walked while it may change still: a guard at each turn -/
namespace OE
open PySem PySem.Spec L2
variable [TN]
structure WalkG (K : PySem.W.Frag) (J : It) (G : S → Prop) (Hs0 : Hp) (ds : List D) : Prop where
  go : ∀ (i : Nat) (n : S) (Hs H : Hp), Ext Hs0 Hs → Sit K n Hs H → G n → i < ds.length → J.go i H
  stop : ∀ (n : S) (Hs H : Hp), Ext Hs0 Hs → Sit K n Hs H → G n → J.stop ds.length H
  yld : ∀ (i : Nat) (n : S) (Hs H : Hp) (x : V) (H' : Hp), Ext Hs0 Hs → Sit K n Hs H → G n → i < ds.length → J.yld i H x H' → ∃ Hs' d, ds[i]? = some d ∧ Go Hs H Hs' H' ∧ Sit K n Hs' H' ∧ Dv K Hs' x d
theorem WalkD.g {K : PySem.W.Frag} {J : It} {Hs : Hp} {ds : List D} (w : WalkD K J Hs ds) : WalkG K J (fun _ => True) Hs ds :=
  ⟨fun i n Hs1 H e s _ => w.go i n Hs1 H e s, fun n Hs1 H e s _ => w.stop n Hs1 H e s, fun i n Hs1 H x H' e s _ => w.yld i n Hs1 H x H' e s⟩
noncomputable abbrev LG := List D × (S → Prop)
noncomputable def DIG (Γ : Gam) (X : Cx) (W : WX) (tg it : Expr) (t : Ev → Wp LG) : Prop := ∃ wi : TI, PI X tg it wi ∧ ∀ (σ : St) (H Hs : Hp) (ρ : Ev) (n : S) (q : LG → S → Prop) (x : Exn → S → Prop) (Q : It → Hp → Prop),
  Sit X.K n Hs H → R X.K ρ σ Hs → t ρ n q x → (∀ J H' Hs' (l : LG) n', Go Hs H Hs' H' → Sit X.K n' Hs' H' → WalkG X.K J l.2 Hs' l.1 → q l n' → Q J H') → OkE X.K Γ Hs H x (fun c d h => W c d σ h) → wi σ H Q
theorem walkG_list {K : PySem.W.Frag} {p : Addr} {Hs : Hp} {ds : List D} : WalkG K (Itl K p) (fun s => s.mu p = some (.lst ds)) Hs ds := by
  have rd : ∀ {n : S} {Hs1 H : Hp}, Sit K n Hs1 H → n.mu p = some (.lst ds) → ∃ xs, SqL K H p xs ∧ DvAll K Hs1 xs ds := fun {n Hs1 H} s g => by
    obtain ⟨xs, h1, h2⟩ := (s.muts p _ g).2
    exact ⟨xs, SqL.of h1, h2⟩
  refine ⟨fun i n Hs1 H e s g hi => ?_, fun n Hs1 H e s g => ?_, fun i n Hs1 H x H' e s g hi y => ?_⟩
  · obtain ⟨xs, h1, h2⟩ := rd s g
    obtain ⟨v, h3, _⟩ := h2.get (List.getElem?_eq_getElem hi)
    exact ⟨xs, v, h1, h3⟩
  · obtain ⟨xs, h1, h2⟩ := rd s g
    exact ⟨xs, h1, by rw [h2.length]; exact Nat.le_refl _⟩
  · obtain ⟨e1, y⟩ := y
    subst e1
    obtain ⟨xs, h1, h2⟩ := rd s g
    obtain ⟨d, h3, h4⟩ := h2.getV (y xs h1)
    exact ⟨Hs1, d, h3, .refl _ _, s, h4⟩
noncomputable def itemsG : D → Wp LG
  | .mref a => fun n q _ => ∃ l, n.mu a = some (.lst l) ∧ q (l, fun s => s.mu a = some (.lst l)) n
  | d => Wp.bind (items d) fun l => Wp.ret (l, fun _ => True)
noncomputable def tseqG (t : Ev → Wp D) : Ev → Wp LG := fun ρ => Wp.bind (t ρ) itemsG
noncomputable def forG (G : S → Prop) (g : D → Ev → Wp Ev) (body : Ev → Wp Out) : List D → Ev → Wp Out
  | [], ρ => fun n q _ => G n ∧ q (.nx ρ) n
  | d :: ds, ρ => fun n q x => G n ∧ (Wp.bind (g d ρ) fun ρ1 => Wp.bind (body ρ1) fun o => match o with
    | .nx ρ2 => forG G g body ds ρ2
    | .ct ρ2 => forG G g body ds ρ2
    | .bk ρ2 => Wp.ret (.nx ρ2)
    | .rt e => Wp.ret (.rt e)) n q x
noncomputable def tforG (t : Ev → Wp LG) (g : D → Ev → Wp Ev) (body : Ev → Wp Out) : Ev → Wp Out := fun ρ => Wp.bind (t ρ) fun l => forG l.2 g body l.1 ρ
noncomputable def lcG (G : S → Prop) (g : D → Ev → Wp Ev) (tt : Ev → Wp Bool) (te : Ev → Wp D) (ρ : Ev) : List D → Wp (List D)
  | [] => fun n q _ => G n ∧ q [] n
  | d :: ds => fun n q x => G n ∧ (Wp.bind (g d ρ) fun ρ1 => Wp.bind (tt ρ1) fun b => if b = true then Wp.bind (te ρ1) fun y => Wp.bind (lcG G g tt te ρ ds) fun ys => Wp.ret (y :: ys) else lcG G g tt te ρ ds) n q x
noncomputable def tlcG (ti : Ev → Wp LG) (g : D → Ev → Wp Ev) (tt : Ev → Wp Bool) (te : Ev → Wp D) (vs : List Nat) : Ev → Wp D := fun ρ => Wp.bind (ti ρ) fun l => Wp.bind (Wp.ask (l.1.length ≤ 1000000)) fun _ =>
  Wp.bind (Wp.calm (lcG l.2 g tt te (wipeE ρ vs) l.1)) fun ys => Wp.ret (.lst ys)
section
variable {Γ : Gam} {X : Cx} {W : WX} {a b c tg : Expr} {ta tb tc : Ev → Wp D} {pos : Pos} {t u : Ev → Wp Out}
theorem dig_seq (ha : DE Γ X W a ta) : DIG Γ X W tg a (tseqG ta) := by
  obtain ⟨ea, pa, fa⟩ := ha
  refine ⟨_, pi_seq pa, fun σ H Hs ρ n q x Q s r h k ke => fa σ H Hs ρ n _ x _ s r h (fun v H1 Hs1 d n1 g1 s1 hv h1 => ?_) ke⟩
  cases hv with
  | @lst p xs ds e1 g => exact .inl ⟨p, xs, rfl, SqL.of (s1.sub _ _ e1), k _ H1 Hs1 _ n1 g1 s1 (walkD_list (SqL.of e1) g).g h1⟩
  | @scr p ns e1 => exact .inl ⟨p, _, rfl, s1.same.lst e1, k _ H1 Hs1 _ n1 g1 s1 (walkD_list e1 (DvAll.ints ns)).g h1⟩
  | @tup p xs ds e1 g => exact .inr (.inl ⟨p, xs, rfl, s1.same.tup (SqT.of e1), k _ H1 Hs1 _ n1 g1 s1 (walkD_tup (SqT.of e1) g).g h1⟩)
  | str z => exact .inr (.inr ⟨z, rfl, k _ H1 Hs1 _ n1 g1 s1 walkD_str.g h1⟩)
  | mref p =>
    obtain ⟨l, h2, h3⟩ := h1
    obtain ⟨xs, h4, h5⟩ := (s1.muts p _ h2).2
    exact .inl ⟨p, xs, rfl, SqL.of h4, k _ H1 Hs1 (l, _) n1 g1 s1 walkG_list h3⟩
  | _ => exact (show False from h1).elim
theorem ds_forG {tg it : Expr} {body : List Stmt} {ti : Ev → Wp LG} {g : D → Ev → Wp Ev} {is : List Nat} (hp : PassesOwn (model X.prog X.w) X.A X.env X.xe) (hi : DIG Γ X W tg it ti) (hg : DG X tg is g) (hb : DB Γ X W body t) (hc : X.calm = true := by rfl)
    (hs : ∀ x, foldedSetIterable it X.env x = pure x := by intro _; rfl) : DS Γ X W (.For tg it body [] pos) (tforG ti g t) := by
  obtain ⟨wi, pi, fi⟩ := hi
  obtain ⟨tv, pg, fg⟩ := hg
  obtain ⟨ts, pb, fb⟩ := hb
  refine ⟨_, ps_for hp hc pi pg pb hs, fun σ H Hs ρ n q x E s r h k ke => fi σ H Hs ρ n _ x _ s r h (fun J H1 Hs1 lg n1 g1 s1 wd h1 => ?_) (ke σ)⟩
  obtain ⟨ds, G⟩ := lg
  dsimp only at wd h1
  refine ⟨fun i m σ' H' => m = ds.length - i ∧ i ≤ ds.length ∧ ∃ Hs' ρ' n', Go Hs H Hs' H' ∧ Ext Hs1 Hs' ∧ Sit X.K n' Hs' H' ∧ R X.K ρ' σ' Hs' ∧ forG G g t (ds.drop i) ρ' n' q x,
    ⟨_, rfl, Nat.zero_le _, Hs1, ρ, n1, g1, .refl _, s1, r.ext g1.ext, h1⟩, ?_⟩
  rintro i m σ2 H2 ⟨rfl, hi, Hs2, ρ2, n2, g2, e2, s2, r2, h2⟩
  by_cases hlt : i < ds.length
  · rw [drop_cons (List.getElem?_eq_getElem hlt)] at h2
    obtain ⟨hG, h2⟩ := h2
    refine .inr ⟨wd.go i n2 Hs2 H2 e2 s2 hG hlt, fun σ' H' => ∃ Hs' ρ' n', Go Hs H Hs' H' ∧ Ext Hs1 Hs' ∧ Sit X.K n' Hs' H' ∧ R X.K ρ' σ' Hs' ∧ forG G g t (ds.drop (i + 1)) ρ' n' q x, fun σ' H' hN => ⟨ds.length - (i + 1), by omega, rfl, hlt, hN⟩, fun y H3 hy => ?_⟩
    obtain ⟨Hs3, d, hd, g3, s3, hv⟩ := wd.yld i n2 Hs2 H2 y H3 e2 s2 hG hlt hy
    have ed : ds[i] = d := by rw [List.getElem?_eq_getElem hlt] at hd; exact Option.some.inj hd
    rw [ed] at h2
    have G3 := g2.trans g3
    have E3 := e2.trans g3.ext
    refine fg y d σ2 H3 Hs3 ρ2 n2 _ x _ s3 (r2.ext g3.ext) hv h2 fun ρ4 σ4 r4 _ h4 => ?_
    refine fb σ4 H3 Hs3 ρ4 n2 _ x _ s3 r4 h4 (fun o n5 H5 Hs5 g5 s5 h5 => ?_) (ke.go G3)
    cases o with
    | nx ρ5 => exact fun σ5 r5 => ⟨Hs5, ρ5, n5, G3.trans g5, E3.trans g5.ext, s5, r5, h5⟩
    | ct ρ5 => exact fun σ5 r5 => ⟨Hs5, ρ5, n5, G3.trans g5, E3.trans g5.ext, s5, r5, h5⟩
    | bk ρ5 => exact k _ n5 H5 Hs5 (G3.trans g5) s5 h5
    | rt e => exact k _ n5 H5 Hs5 (G3.trans g5) s5 h5
  · have e : i = ds.length := by omega
    subst e
    rw [List.drop_length] at h2
    exact .inl ⟨wd.stop n2 Hs2 H2 e2 s2 h2.1, k _ n2 H2 Hs2 g2 s2 h2.2 σ2 r2⟩
theorem lc_readG {Γ : Gam} {K : PySem.W.Frag} {is vs : List Nat} {g : D → Ev → Wp Ev} {tt : Ev → Wp Bool} {te : Ev → Wp D} (his : ∀ i ∈ is, i ∈ vs) {J : It} {H1 Hs1 : Hp} {ds : List D} {n1 : S} {σ : St} {ρ : Ev} {q : D → S → Prop} {Q : VK}
    (s1 : Sit K n1 Hs1 H1) {G : S → Prop} (wd : WalkG K J G Hs1 ds) (r : R K ρ σ Hs1) (hl : ds.length ≤ 1000000) (h : lcG G g tt te (wipeE ρ vs) ds n1 (fun ys n => q (.lst ys) n) (fun _ _ => False)) (k : OkQ K Hs1 H1 q Q) (A : Addr) (hA : H1 A = none) :
    ∃ W : Nat → Nat → Hp → Prop, (∃ m, W 0 m (upd H1 A (.lst []))) ∧ ∀ i m H, W i m H → (J.stop i H ∧ Q (.ref A) H) ∨ (J.go i H ∧ ∃ Nx : Hp → Prop, (∀ H', Nx H' → ∃ m', m' < m ∧ W (i + 1) m' H') ∧
      ∀ x H', J.yld i H x H' → tgD K is g x (wipe σ vs) H' fun σ2 H2 => wipe σ2 vs = wipe σ vs ∧ ttD Γ K W0 tt σ2 H2 fun b H3 =>
        if b = true then teD Γ K W0 te σ2 H3 fun y H4 => ∃ acc, H4 A = some (.lst acc) ∧ acc.length < sizeLine ∧ Nx (upd H4 A (.lst (acc ++ [y]))) else Nx H3) := by
  have hAs := s1.free hA
  -- between the turns: the list so far is ours alone
  have inv : ∃ P : Nat → Hp → Prop, P = fun i H => ∃ (Hs : Hp) (n : S) (acc : List V) (ad : List D), i ≤ ds.length ∧ acc.length ≤ i ∧ Ext Hs1 Hs ∧ Sit K n Hs H ∧ (∀ a o, H1 a = some o → Hs1 a = none → H a = some o ∧ Hs a = none) ∧ H A = some (.lst acc) ∧ Hs A = none ∧ DvAll K Hs acc ad ∧
      lcG G g tt te (wipeE ρ vs) (ds.drop i) n (fun ys n => q (.lst (ad ++ ys)) n) (fun _ _ => False) := ⟨_, rfl⟩
  obtain ⟨P, hP⟩ := inv
  have put : ∀ {H : Hp} {Hs : Hp} {n : S} {l : List V}, Sit K n Hs H → Hs A = none → Sit K n Hs (upd H A (.lst l)) := fun {H Hs n l} s e => s.ownU e rfl
  refine ⟨fun i m H => m = ds.length - i ∧ P i H, ⟨_, rfl, ?_⟩, ?_⟩
  · rw [hP]
    refine ⟨Hs1, n1, [], [], Nat.zero_le _, Nat.le_refl _, .refl _, put s1 hAs, fun a o e1 e2 => ⟨?_, e2⟩, upd_same, hAs, .nil, h⟩
    rw [upd_ne (ne_of_none e1 hA)]; exact e1
  · rintro i m H ⟨rfl, hPi⟩
    rw [hP] at hPi
    obtain ⟨Hs, n, acc, ad, hi, hal, he, s, own, hAl, hAn, g1, h⟩ := hPi
    by_cases hlt : i < ds.length
    · rw [drop_cons (List.getElem?_eq_getElem hlt)] at h
      obtain ⟨hG, h⟩ := h
      refine .inr ⟨wd.go i n Hs H he s hG hlt, P (i + 1), fun H' p => ⟨ds.length - (i + 1), by omega, rfl, p⟩, fun x H' hy => ?_⟩
      obtain ⟨Hs', d, hd, g2, s2, hv⟩ := wd.yld i n Hs H x H' he s hG hlt hy
      have ed : ds[i] = d := by rw [List.getElem?_eq_getElem hlt] at hd; exact Option.some.inj hd
      rw [ed] at h
      obtain ⟨hAl2, hAn2⟩ := g2.own A _ hAl hAn
      refine ⟨n, Hs', wipeE ρ vs, d, _, _, s2, (r.ext (he.trans g2.ext)).wipe vs, hv, h, fun ρ3 σ3 r3 z3 h3 => ⟨?_, ?_⟩⟩
      · rw [z3 vs his]
        have : ∀ (τ : St) (us : List Nat), wipe (wipe τ us) us = wipe τ us := fun τ us => by
          have aux : ∀ (us' : List Nat), (∀ i ∈ us', i ∈ us) → wipe (wipe τ us') us = wipe τ us := by
            intro us'
            induction us' with
            | nil => intro _; rfl
            | cons u us'' ih =>
              intro hh
              show wipe ((wipe τ us'').set u none) us = _
              rw [wipe_set (hh u List.mem_cons_self)]
              exact ih fun i hi => hh i (List.mem_cons_of_mem _ hi)
          exact aux us fun _ z => z
        exact this σ vs
      · refine ⟨n, Hs', ρ3, _, _, s2, r3, h3, fun b H3 Hs3 n3 g3 s3 h4 => ?_, fun _ _ _ _ _ _ _ _ _ z => z⟩
        obtain ⟨hAl3, hAn3⟩ := g3.own A _ hAl2 hAn2
        have ownN : ∀ {H4 Hs4 : Hp}, Go Hs3 H3 Hs4 H4 → ∀ a o, H1 a = some o → Hs1 a = none → H4 a = some o ∧ Hs4 a = none := fun {H4 Hs4} g4 a o e1 e2 => by
          obtain ⟨f1, f2⟩ := own a o e1 e2
          exact (g2.trans (g3.trans g4)).own a o f1 f2
        cases b with
        | true =>
          rw [if_pos rfl]
          refine ⟨n3, Hs3, ρ3, _, _, s3, r3.ext g3.ext, h4, fun y H4 Hs4 e n4 g4 s4 hy4 h5 => ?_, fun _ _ _ _ _ _ _ _ _ z => z⟩
          obtain ⟨hAl4, hAn4⟩ := g4.own A _ hAl3 hAn3
          refine ⟨acc, hAl4, Nat.lt_of_le_of_lt (Nat.le_trans hal (Nat.le_of_lt (Nat.lt_of_lt_of_le hlt hl))) (by rw [sizeLine_eq]; decide), ?_⟩
          rw [hP]
          have E4 := g2.ext.trans (g3.ext.trans g4.ext)
          refine ⟨Hs4, n4, acc ++ [y], ad ++ [e], hlt, by rw [List.length_append]; exact Nat.succ_le_succ hal, he.trans E4, put s4 hAn4, fun a o e1 e2 => ?_, upd_same, hAn4, (g1.ext E4).append (.cons hy4 .nil), ?_⟩
          · obtain ⟨f1, f2⟩ := ownN g4 a o e1 e2
            rw [upd_ne (ne_of_none e1 hA)]; exact ⟨f1, f2⟩
          · have e5 : (fun (ys : List D) (n : S) => q (.lst (ad ++ [e] ++ ys)) n) = fun ys n => q (.lst (ad ++ e :: ys)) n := by funext ys n; rw [List.append_assoc]; rfl
            rw [e5]; exact h5
        | false =>
          rw [if_neg Bool.false_ne_true, hP]
          have E3 := g2.ext.trans g3.ext
          exact ⟨Hs3, n3, acc, ad, hlt, Nat.le_succ_of_le hal, he.trans E3, s3, ownN (.refl _ _), hAl3, hAn3, g1.ext E3, h4⟩
    · have e : i = ds.length := by omega
      subst e
      rw [List.drop_length] at h
      obtain ⟨hG, h⟩ := h
      refine .inl ⟨wd.stop n Hs H he s hG, ?_⟩
      have hs : Ext Hs (upd Hs A (.lst acc)) := Ext.of_same fun b u z => by
        rw [upd_ne (ne_of_none z hAn)]; exact z
      have sA : Sit K n (upd Hs A (.lst acc)) H := by
        have z := (s.put (o := .lst acc) hAn rfl rfl).1
        rwa [upd_id hAl] at z
      refine k _ H (upd Hs A (.lst acc)) (.lst ad) n ⟨he.trans hs, fun a o e1 e2 => ?_⟩ sA (.lst upd_same (g1.ext hs)) ?_
      · obtain ⟨f1, f2⟩ := own a o e1 e2
        rw [upd_ne (ne_of_none e1 hA)]; exact ⟨f1, f2⟩
      · have h' : q (.lst (ad ++ [])) n := h
        rw [List.append_nil] at h'; exact h'
theorem d_lcG {elt it : Expr} {ifs : List Expr} {scope : Scope} {own : List (Str × Nat)} {ti : Ev → Wp LG} {g : D → Ev → Wp Ev} {tt : Ev → Wp Bool} {te : Ev → Wp D} {is : List Nat} (hN : X.N.Nodup) (ok : BlkOk X.N X.env.scope scope own) (hi : DIG Γ X W tg it ti)
    (hg : ∀ (s : Shared) (H : Hp) (C : Addr) (cl : List (Str × Addr)) (fp : List Addr), DG (X.blk s H scope (compEnvC scope cl C X.env) fp) tg is g)
    (ht : ∀ (s : Shared) (H : Hp) (C : Addr) (cl : List (Str × Addr)) (fp : List Addr), DTs Γ (X.blk s H scope (compEnvC scope cl C X.env) fp) W0 ifs tt)
    (he : ∀ (s : Shared) (H : Hp) (C : Addr) (cl : List (Str × Addr)) (fp : List Addr), DE Γ (X.blk s H scope (compEnvC scope cl C X.env) fp) W0 elt te)
    (his : ∀ i ∈ is, i ∈ own.map (·.2) := by decide) (hc : X.calm = true := by rfl) (hs : ∀ x, foldedSetIterable it X.env x = pure x := by intro _; rfl) :
    DE Γ X W (.ListComp elt [⟨tg, it, ifs, 0⟩] scope pos) (tlcG ti g tt te (own.map (·.2))) := by
  obtain ⟨wi, pi, fi⟩ := hi
  refine ⟨_, pe_lc (g := tgD X.K is g) (tt := ttD Γ X.K W0 tt) (te := teD Γ X.K W0 te) hc hN pi ok (fun s H C cl fp => (hg s H C cl fp).pg) (fun s H C cl fp => ht s H C cl fp) (fun s H C cl fp => (he s H C cl fp).pe) hs, fun σ H Hs ρ n q x Q s r h k ke => fi σ H Hs ρ n _ x _ s r h (fun J H1 Hs1 lg n1 g1 s1 wd h1 => ?_) ke⟩
  obtain ⟨ds, G⟩ := lg
  dsimp only at wd h1
  intro A hA
  exact lc_readG his s1 wd (r.ext g1.ext) h1.1 h1.2 (k.go g1) A hA
end
/-! step lemmas -/
section
variable {n : S} {x : Exn → S → Prop} {ρ : Ev} {d : D} {t : Ev → Wp Out} {ta : Ev → Wp D} {c : Ev → Wp Bool} {q : D → S → Prop} {qo : Out → S → Prop} {qg : LG → S → Prop} {ql : List D → S → Prop} {g : D → Ev → Wp Ev} {tg : Ev → Wp LG}
noncomputable def kItmG (q : LG → S → Prop) (x : Exn → S → Prop) (d : D) (n : S) : Prop := itemsG d n q x
theorem s_seqG : tseqG ta ρ n qg x = ta ρ n (kItmG qg x) x := rfl
theorem k_itmGL {l : List D} : kItmG qg x (.lst l) n = qg (l, fun _ => True) n := rfl
theorem k_itmGT {l : List D} : kItmG qg x (.tup l) n = qg (l, fun _ => True) n := rfl
theorem k_itmGM {a : Addr} : kItmG qg x (.mref a) n = ∃ l, n.mu a = some (.lst l) ∧ qg (l, fun s => s.mu a = some (.lst l)) n := rfl
noncomputable def kForG (g : D → Ev → Wp Ev) (t : Ev → Wp Out) (ρ : Ev) (q : Out → S → Prop) (x : Exn → S → Prop) (l : LG) (n : S) : Prop := forG l.2 g t l.1 ρ n q x
theorem s_forG : tforG tg g t ρ n qo x = tg ρ n (kForG g t ρ qo x) x := rfl
theorem k_forG {ds : List D} {G : S → Prop} : kForG g t ρ qo x (ds, G) n = forG G g t ds ρ n qo x := rfl
noncomputable def kLcG (g : D → Ev → Wp Ev) (c : Ev → Wp Bool) (te : Ev → Wp D) (vs : List Nat) (ρ : Ev) (q : D → S → Prop) (l : LG) (n : S) : Prop := l.1.length ≤ 1000000 ∧ lcG l.2 g c te (wipeE ρ vs) l.1 n (fun ys m => q (.lst ys) m) (fun _ _ => False)
theorem s_lcG {vs : List Nat} : tlcG tg g c ta vs ρ n q x = tg ρ n (kLcG g c ta vs ρ q) x := rfl
theorem k_lcG {vs : List Nat} {ds : List D} {G : S → Prop} : kLcG g c ta vs ρ q (ds, G) n = (ds.length ≤ 1000000 ∧ lcG G g c ta (wipeE ρ vs) ds n (fun ys m => q (.lst ys) m) (fun _ _ => False)) := rfl
end
section
variable {n : S} {x : Exn → S → Prop} {ρ : Ev} {d : D} {t : Ev → Wp Out} {ta : Ev → Wp D} {c : Ev → Wp Bool} {qo : Out → S → Prop} {ql : List D → S → Prop} {g : D → Ev → Wp Ev} {G : S → Prop}
theorem forG_cons {ds : List D} : forG G g t (d :: ds) ρ n qo x = (G n ∧ g d ρ n (kGo t (fun o m => match o with | .nx ρ2 => forG G g t ds ρ2 m qo x | .ct ρ2 => forG G g t ds ρ2 m qo x | .bk ρ2 => qo (.nx ρ2) m | .rt e => qo (.rt e) m) x) x) := by
  refine congrArg (G n ∧ ·) ?_
  show (g d ρ) n (fun ρ1 k => (t ρ1) k _ x) x = _
  refine congrArg (fun k => g d ρ n k x) (funext fun ρ1 => funext fun m => congrArg (fun k => t ρ1 m k x) (funext fun o => funext fun r => ?_))
  cases o <;> rfl
/-- a guarded for by its invariant -/
theorem forG_inv (I : List D → Ev → S → Prop) (hG : ∀ ds ρ n, I ds ρ n → G n)
    (step : ∀ d ds ρ n (k : Out → S → Prop), I (d :: ds) ρ n → (∀ ρ' m, I ds ρ' m → k (.nx ρ') m) → (∀ e m, qo (.rt e) m → k (.rt e) m) → g d ρ n (kGo t k x) x) (last : ∀ ρ n, I [] ρ n → qo (.nx ρ) n) :
    ∀ ds ρ n, I ds ρ n → forG G g t ds ρ n qo x
  | [], ρ, n, h => ⟨hG _ _ _ h, last ρ n h⟩
  | d :: ds, ρ, n, h => by
    rw [forG_cons]
    exact ⟨hG _ _ _ h, step d ds ρ n _ h (fun ρ' m z => forG_inv I hG step last ds ρ' m z) (fun e m z => z)⟩
theorem lcG_cons {ds : List D} (hG : G n) (h : lc1 g c ta ρ d n fun o m => lcG G g c ta ρ ds m (fun ys r => ql (o.toList ++ ys) r) (fun _ _ => False)) : lcG G g c ta ρ (d :: ds) n ql (fun _ _ => False) := by
  refine ⟨hG, Eq.mp ?_ h⟩
  refine congrArg (fun k => g d ρ n k (fun _ _ => False)) (funext fun ρ1 => funext fun m => congrArg (fun k => c ρ1 m k (fun _ _ => False)) (funext fun b => funext fun r => ?_))
  cases b <;> rfl
/-- a guarded comprehension whose turns change nothing -/
theorem lcG_pure {f : D → Option D} : ∀ {ds : List D} {ql : List D → S → Prop}, G n → (∀ d ∈ ds, ∀ (k : Option D → S → Prop), k (f d) n → lc1 g c ta ρ d n k) → ql (ds.filterMap f) n → lcG G g c ta ρ ds n ql (fun _ _ => False)
  | [], _, hG, _, h => ⟨hG, h⟩
  | d :: ds, ql, hG, hp, h => by
    refine lcG_cons hG (hp d List.mem_cons_self _ (lcG_pure hG (fun e he => hp e (List.mem_cons_of_mem _ he)) ?_))
    rw [List.filterMap_cons] at h
    cases e : f d with
    | none => rw [e] at h; simpa using h
    | some y => rw [e] at h; simpa using h
end
end OE
/-! ### new lists that will change: a + b, [.. for ..], list(..) -/
namespace OE
open PySem PySem.Spec L2
variable [TN]
/-- what is new already, and ours alone, changes from here on -/
theorem Sit.adopt {K : PySem.W.Frag} {n : S} {Hs H : Hp} (s : Sit K n Hs H) {p : Addr} {o : HO} {m : MO} (hs : Hs p = none) (ho : H p = some o) (hm : MOk K (upd Hs p MK) H p m) : Sit K ⟨n.n, n.mu.put p m⟩ (upd Hs p MK) H := by
  have sm : Same Hs (upd Hs p MK) := fun b u q => by rw [upd_ne (ne_of_none q hs)]; exact q
  have e := mk_ext (Hs := Hs) hs
  refine ⟨fun b u q y => ?_, fun b q => ?_, fun b u q y => ?_, fun b kvs q y => ?_, fun P q t => (s.tabs P q t).ext sm, fun b u q => ?_, fun b xs q => ?_⟩
  · by_cases hb : b = p
    · subst hb; rw [upd_same] at q; cases q; cases y
    · rw [upd_ne hb] at q; exact s.subK b u q y
  · by_cases hb : b = p
    · subst hb; exact ⟨_, ho⟩
    · rw [upd_ne hb] at q; exact s.mkd b q
  · by_cases hb : b = p
    · subst hb; rw [upd_same] at q; cases q; rfl
    · rw [upd_ne hb] at q; exact s.mks b u q y
  · by_cases hb : b = p
    · subst hb; rw [upd_same] at q; cases q
    · rw [upd_ne hb] at q
      exact (s.good b kvs q y).mono (Nat.le_refl _) e
  · by_cases hb : b = p
    · subst hb
      have q' : n.mu.put b m b = some u := q
      rw [Mu.put_same] at q'
      cases q'
      exact ⟨upd_same, hm⟩
    · have q' : n.mu.put p m b = some u := q
      rw [Mu.put_ne hb] at q'
      obtain ⟨h1, h2⟩ := s.muts b u q'
      exact ⟨by rw [upd_ne hb]; exact h1, h2.ext e rfl⟩
  · have hb : b ≠ p := fun w => by subst w; exact hm.noT q
    rw [upd_ne hb]; exact s.tups b xs q
noncomputable def fNewQ (o : MO) (q : D → S → Prop) (n : S) : Prop := ∀ a, n.mu a = none → q (.mref a) ⟨n.n, n.mu.put a o⟩
section
variable {Γ : Gam} {X : Cx} {W : WX} {a b c tg : Expr} {ta tb tc : Ev → Wp D} {pos : Pos}
/-- a + b that will change -/
noncomputable def fMAdd : D → D → Wp D
  | .lst a, .lst b => Wp.bind (Wp.ask (a.length + b.length ≤ 1000000)) fun _ => fNew (.lst (a ++ b))
  | _, _ => Wp.stuck
noncomputable def tmlc (ti : Ev → Wp (List D)) (g : D → Ev → Wp Ev) (tt : Ev → Wp Bool) (te : Ev → Wp D) (vs : List Nat) : Ev → Wp D := fun ρ => Wp.bind (ti ρ) fun ds => Wp.bind (Wp.ask (ds.length ≤ 1000000)) fun _ =>
  Wp.bind (Wp.calm (lcW g tt te (wipeE ρ vs) ds)) fun ys => fNew (.lst ys)
end
section
variable {n : S} {x : Exn → S → Prop} {ρ : Ev} {ta : Ev → Wp D} {c : Ev → Wp Bool} {q : D → S → Prop} {tl : Ev → Wp (List D)} {g : D → Ev → Wp Ev}
theorem f_maddL {a b : List D} : fMAdd (.lst a) (.lst b) n q x = (a.length + b.length ≤ 1000000 ∧ ∀ p, n.mu p = none → q (.mref p) ⟨n.n, n.mu.put p (.lst (a ++ b))⟩) := rfl
noncomputable def kMlc (g : D → Ev → Wp Ev) (c : Ev → Wp Bool) (te : Ev → Wp D) (vs : List Nat) (ρ : Ev) (q : D → S → Prop) (ds : List D) (n : S) : Prop := ds.length ≤ 1000000 ∧ lcW g c te (wipeE ρ vs) ds n (fun ys m => fNewQ (.lst ys) q m) (fun _ _ => False)
theorem s_mlc {vs : List Nat} : tmlc tl g c ta vs ρ n q x = tl ρ n (kMlc g c ta vs ρ q) x := rfl
theorem k_mlc {vs : List Nat} {ds : List D} : kMlc g c ta vs ρ q ds n = (ds.length ≤ 1000000 ∧ lcW g c ta (wipeE ρ vs) ds n (fun ys m => fNewQ (.lst ys) q m) (fun _ _ => False)) := rfl
theorem k_newQ {o : MO} : fNewQ o q n = ∀ a, n.mu a = none → q (.mref a) ⟨n.n, n.mu.put a o⟩ := rfl
end
end OE
/-! ### dicts whose keys are tuples of ints -/
namespace OE
open PySem PySem.Spec L2
variable [TN]
noncomputable abbrev TL := List (List Int × D)
/-- in its place, or at the end -/
noncomputable def putT (l : TL) (k : List Int) (d : D) : TL := if (l.lookup k).isSome = true then l.map (fun p => if p.1 = k then (p.1, d) else p) else l ++ [(k, d)]
theorem inl_inj {a b : List Int} (h : a.map (Sum.inl : Int → Key) = b.map Sum.inl) : a = b := by
  induction a generalizing b with
  | nil => cases b with
    | nil => rfl
    | cons _ _ => cases h
  | cons x a ih => cases b with
    | nil => cases h
    | cons y b =>
      rw [List.map_cons, List.map_cons] at h
      injection h with h1 h2
      injection h1 with h1
      rw [h1, ih h2]
section
variable {K : PySem.W.Frag} {H : Hp}
theorem DvKt.look : ∀ {kvs : List (List Key × V)} {l : TL}, DvKt K H kvs l → ∀ k : List Int, (∃ v d, valV kvs (k.map Sum.inl) = some v ∧ l.lookup k = some d ∧ Dv K H v d) ∨ (valV kvs (k.map Sum.inl) = none ∧ l.lookup k = none)
  | _, _, .nil, _ => .inr ⟨rfl, rfl⟩
  | _, _, .cons (k := k') hv g, k => by
    by_cases e : k' = k
    · subst e
      exact .inl ⟨_, _, valV_pos rfl, by simp [List.lookup], hv⟩
    · rcases g.look k with ⟨v, d, h1, h2, h3⟩ | ⟨h1, h2⟩
      · exact .inl ⟨v, d, by rw [valV_neg (fun z => e (inl_inj z))]; exact h1, by rw [List.lookup_cons]; have : (k == k') = false := by rw [beq_eq_false_iff_ne]; exact fun z => e z.symm
                                                                                  rw [this]; exact h2, h3⟩
      · exact .inr ⟨by rw [valV_neg (fun z => e (inl_inj z))]; exact h1, by rw [List.lookup_cons]; have : (k == k') = false := by rw [beq_eq_false_iff_ne]; exact fun z => e z.symm
                                                                            rw [this]; exact h2⟩
theorem DvKt.length : ∀ {kvs : List (List Key × V)} {l : TL}, DvKt K H kvs l → kvs.length = l.length
  | _, _, .nil => rfl
  | _, _, .cons _ g => congrArg (· + 1) g.length
theorem DvKt.snoc {k : List Int} {v : V} {d : D} (hv : Dv K H v d) : ∀ {kvs : List (List Key × V)} {l : TL}, DvKt K H kvs l → DvKt K H (kvs ++ [(k.map Sum.inl, v)]) (l ++ [(k, d)])
  | _, _, .nil => .cons hv .nil
  | _, _, .cons h g => .cons h (g.snoc hv)
theorem DvKt.repl {k : List Int} {v : V} {d : D} (hv : Dv K H v d) : ∀ {kvs : List (List Key × V)} {l : TL}, DvKt K H kvs l → DvKt K H (kvs.map fun kv => if kv.1 = k.map Sum.inl then (kv.1, v) else kv) (l.map fun p => if p.1 = k then (p.1, d) else p)
  | _, _, .nil => .nil
  | _, _, .cons (k := k') h g => by
    rw [List.map_cons, List.map_cons]
    by_cases e : k' = k
    · subst e
      rw [if_pos rfl, if_pos rfl]
      exact .cons hv (g.repl hv)
    · rw [if_neg (fun z => e (inl_inj z)), if_neg e]
      exact .cons h (g.repl hv)
theorem DvKt.put {kvs : List (List Key × V)} {l : TL} (g : DvKt K H kvs l) {k : List Int} {v : V} {d : D} (hv : Dv K H v d) : DvKt K H (putK kvs (k.map Sum.inl) v) (putT l k d) := by
  unfold putK putT
  rw [valV_any]
  rcases g.look k with ⟨v', d', h1, h2, _⟩ | ⟨h1, h2⟩
  · rw [h1, h2, if_pos (show (some v').isSome = true from rfl), if_pos (show (some d').isSome = true from rfl)]; exact g.repl hv
  · rw [h1, h2, if_neg (by simp), if_neg (by simp)]; exact g.snoc hv
theorem DvKt.get : ∀ {kvs : List (List Key × V)} {l : TL} {i : Nat} {k : List Key} {v : V}, DvKt K H kvs l → kvs[i]? = some (k, v) → ∃ p : List Int × D, l[i]? = some p ∧ k = p.1.map Sum.inl ∧ Dv K H v p.2
  | _, _, _, _, _, .nil, e => by simp at e
  | _, _, 0, _, _, .cons h _, e => by cases e; exact ⟨_, rfl, rfl, h⟩
  | _, _, i + 1, _, _, .cons _ g, e => by
    rw [List.getElem?_cons_succ] at e
    obtain ⟨p, h1, h2⟩ := g.get e
    exact ⟨p, by rw [List.getElem?_cons_succ]; exact h1, h2⟩
theorem ints_kV : ∀ k : List Int, (k.map (Sum.inl : Int → Key)).map kV = k.map V.int
  | [] => rfl
  | _ :: k => by rw [List.map_cons, List.map_cons, List.map_cons, ints_kV k]; rfl
/-- a tuple of ints stands as a key does -/
theorem key_at {n : S} {Hs H : Hp} (s : Sit K n Hs H) {y : V} {k : List Int} (h : Dv K Hs y (.tup (k.map D.int))) : ∃ b, y = .ref b ∧ H b = some (.tup ((k.map (Sum.inl : Int → Key)).map kV)) := by
  cases h with
  | @tup b xs ds h1 g1 =>
    have e := dv_ints g1
    subst e
    exact ⟨b, rfl, by rw [ints_kV]; exact s.sub _ _ h1⟩
end
/-! what is read off a dict -/
noncomputable def dOf (d : D) (n : S) (l : TL) : Prop := d = .dit l ∨ ∃ a, d = .mref a ∧ (n.mu a = some (.dit l) ∨ ∃ u, n.mu a = some (.lit u l))
theorem d_get_of {K : PySem.W.Frag} {n : S} {Hs H : Hp} (s : Sit K n Hs H) {x y : V} {d : D} {l : TL} {k : List Int} (hx : Dv K Hs x d) (hd : dOf d n l) (hy : Dv K Hs y (.tup (k.map D.int))) : ∃ a, x = .ref a ∧ ((∃ v e, DGet H a y (some v) ∧ l.lookup k = some e ∧ Dv K Hs v e) ∨ (DGet H a y none ∧ l.lookup k = none)) := by
  obtain ⟨b, rfl, hb⟩ := key_at s hy
  rcases hd with rfl | ⟨a, rfl, hm⟩
  · cases hx with
    | @dit a o kvs ds h g =>
      refine ⟨a, rfl, ?_⟩
      rcases g.look k with ⟨v, e, h1, h2, h3⟩ | ⟨h1, h2⟩
      · exact .inl ⟨v, e, .inr ⟨kvs, _, b, .inr ⟨o, s.sub _ _ h⟩, rfl, hb, h1.symm⟩, h2, h3⟩
      · exact .inr ⟨.inr ⟨kvs, _, b, .inr ⟨o, s.sub _ _ h⟩, rfl, hb, h1.symm⟩, h2⟩
  · cases hx
    rcases hm with hm | ⟨u, hm⟩
    · obtain ⟨_, kvs, h, g⟩ := s.muts _ _ hm
      refine ⟨a, rfl, ?_⟩
      rcases g.look k with ⟨v, e, h1, h2, h3⟩ | ⟨h1, h2⟩
      · exact .inl ⟨v, e, .inr ⟨kvs, _, b, .inl h, rfl, hb, h1.symm⟩, h2, h3⟩
      · exact .inr ⟨.inr ⟨kvs, _, b, .inl h, rfl, hb, h1.symm⟩, h2⟩
    · obtain ⟨_, h, o, kvs, rfl, g⟩ := s.muts _ _ hm
      refine ⟨a, rfl, ?_⟩
      rcases g.look k with ⟨v, e, h1, h2, h3⟩ | ⟨h1, h2⟩
      · exact .inl ⟨v, e, .inr ⟨kvs, _, b, .inr ⟨o, h⟩, rfl, hb, h1.symm⟩, h2, h3⟩
      · exact .inr ⟨.inr ⟨kvs, _, b, .inr ⟨o, h⟩, rfl, hb, h1.symm⟩, h2⟩
section
variable {Γ : Gam} {X : Cx} {W : WX} {a b c tg : Expr} {ta tb tc : Ev → Wp D} {pos : Pos}
/-- d[k] -/
noncomputable def fDGet (d k : D) : Wp D := fun n q _ => ∃ (l : TL) (j : List Int) (v : D), dOf d n l ∧ k = .tup (j.map D.int) ∧ l.lookup j = some v ∧ q v n
theorem d_dget (hu : X.A.units + 1 < cLine) (ha : DE Γ X W a ta) (hb : DE Γ X W b tb) (hs : NoSl b := by exact fun _ _ => rfl) : DE Γ X W (.Subscript a b pos) (tbin fDGet ta tb) := by
  obtain ⟨ea, pa, fa⟩ := ha
  obtain ⟨eb, pb, fb⟩ := hb
  refine ⟨_, pe_dget hu pa pb hs, fun σ H Hs ρ n q x Q s r h k ke => fa σ H Hs ρ n _ x _ s r h (fun v H1 Hs1 d n1 g1 s1 hv h1 => ?_) ke⟩
  refine fb σ H1 Hs1 ρ n1 _ x _ s1 (r.ext g1.ext) h1 (fun w H2 Hs2 e n2 g2 s2 hw h2 => ?_) (ke.go g1)
  obtain ⟨l, j, z, hd, rfl, hl, hq⟩ := h2
  obtain ⟨p, rfl, h3⟩ := d_get_of s2 (hv.ext g2.ext) hd hw
  rcases h3 with ⟨u, e, h4, h5, h6⟩ | ⟨h4, h5⟩
  · rw [hl] at h5
    cases h5
    exact ⟨p, u, rfl, h4, k _ H2 Hs2 _ n2 (g1.trans g2) s2 h6 hq⟩
  · rw [hl] at h5; cases h5
/-- k in d, k not in d -/
noncomputable def fDIn (neg : Bool) (k d : D) : Wp D := fun n q _ => ∃ (l : TL) (j : List Int), dOf d n l ∧ k = .tup (j.map D.int) ∧ q (.bl (neg.xor (l.lookup j).isSome)) n
theorem din_of {K : PySem.W.Frag} {neg : Bool} {n : S} {Hs H : Hp} (s : Sit K n Hs H) {x y : V} {d e : D} {q : D → S → Prop} {z : Exn → S → Prop} (hx : Dv K Hs x d) (hy : Dv K Hs y e) (h : fDIn neg e d n q z) : ∃ p o, x = .ref p ∧ DGet H p y o ∧ q (.bl (neg.xor o.isSome)) n := by
  obtain ⟨l, j, hd, rfl, hq⟩ := h
  obtain ⟨p, rfl, h3⟩ := d_get_of s hx hd hy
  rcases h3 with ⟨u, e, h4, h5, h6⟩ | ⟨h4, h5⟩
  · rw [h5] at hq; exact ⟨p, _, rfl, h4, hq⟩
  · rw [h5] at hq; exact ⟨p, _, rfl, h4, hq⟩
theorem dc_notin (hu : X.A.units + 1 < cLine) (ha : DE Γ X W a ta) (hb : DE Γ X W b tb) : ∃ t, PC X .NotIn a b t ∧ ∀ (σ : St) (H Hs : Hp) (ρ : Ev) (n : S) (q : D → S → Prop) (x : Exn → S → Prop) (Q : VK), Sit X.K n Hs H → R X.K ρ σ Hs → tbin (fDIn true) ta tb ρ n q x → OkQ X.K Hs H q Q → OkE X.K Γ Hs H x (fun c d h => W c d σ h) → t σ H Q := by
  obtain ⟨ea, pa, fa⟩ := ha
  obtain ⟨eb, pb, fb⟩ := hb
  refine ⟨_, pc_dnotin hu pa pb, fun σ H Hs ρ n q x Q s r h k ke => fa σ H Hs ρ n _ x _ s r h (fun v H1 Hs1 d n1 g1 s1 hv h1 => ?_) ke⟩
  refine fb σ H1 Hs1 ρ n1 _ x _ s1 (r.ext g1.ext) h1 (fun w H2 Hs2 e n2 g2 s2 hw h2 => ?_) (ke.go g1)
  obtain ⟨p, o, h3, h4, h5⟩ := din_of s2 hw (hv.ext g2.ext) h2
  exact ⟨p, o, h3, h4, k _ H2 Hs2 _ n2 (g1.trans g2) s2 (.bl _) (by simpa using h5)⟩
/-- {} that will change -/
noncomputable def tmdit : Ev → Wp D := fun _ => fNew (.dit [])
theorem d_mdit : DE Γ X W (.Dict [] [] pos) tmdit := by
  refine ⟨_, pe_dnewT, fun σ H Hs ρ n q x Q s r h k ke p hp => ?_⟩
  have hs := s.free hp
  obtain ⟨s2, g2⟩ := s.newMut (o := .dT []) (m := .dit []) hp ⟨[], upd_same, .nil⟩
  exact k _ _ _ _ _ g2 s2 (.mref p) (h p (s.muFree hs))
/-- d[k] = v -/
noncomputable def fDPut (v d k : D) : Wp Unit := fun n q _ => ∃ (p : Addr) (l : TL) (j : List Int), d = .mref p ∧ n.mu p = some (.dit l) ∧ k = .tup (j.map D.int) ∧ l.length < 1000000 ∧ q () ⟨n.n, n.mu.put p (.dit (putT l j v))⟩
noncomputable def tdput (ta tb tv : Ev → Wp D) : Ev → Wp Out := fun ρ => Wp.bind (tv ρ) fun v => Wp.bind (ta ρ) fun d => Wp.bind (tb ρ) fun k => Wp.bind (fDPut v d k) fun _ => Wp.ret (.nx ρ)
theorem put_of {K : PySem.W.Frag} {n : S} {Hs H : Hp} (s : Sit K n Hs H) {x y u : V} {d e v : D} {q : Unit → S → Prop} {z : Exn → S → Prop} (hx : Dv K Hs x d) (hy : Dv K Hs y e) (hv : Dv K Hs u v) (h : fDPut v d e n q z) : ∃ p H' n', x = .ref p ∧ DPut H p y u H' ∧ Go Hs H Hs H' ∧ Sit K n' Hs H' ∧ q () n' := by
  obtain ⟨p, l, j, rfl, hm, rfl, hl, hq⟩ := h
  cases hx
  obtain ⟨b, rfl, hb⟩ := key_at s hy
  obtain ⟨_, kvs, hk, g⟩ := s.muts _ _ hm
  obtain ⟨s2, g2⟩ := s.mutate (o := .dT (putK kvs (j.map Sum.inl) u)) (m' := .dit (putT l j v)) hm ⟨_, upd_same, g.put hv⟩
  exact ⟨p, _, _, rfl, .inr ⟨kvs, _, b, hk, rfl, hb, by rw [g.length, sizeLine_eq]; omega, rfl⟩, g2, s2, hq⟩
theorem ds_dput {pos' : Pos} {value : Expr} {tv : Ev → Wp D} (hu : X.A.units + 1 < cLine) (ha : DE Γ X W a ta) (hb : DE Γ X W b tb) (hv : DE Γ X W value tv) (hs : swapsWith value (some (.Subscript a b pos')) pos.line X.env = pure false := by rfl) :
    DS Γ X W (.Assign [.Subscript a b pos'] value pos) (tdput ta tb tv) := by
  obtain ⟨ea, pa, fa⟩ := ha
  obtain ⟨eb, pb, fb⟩ := hb
  obtain ⟨ev, pv, fv⟩ := hv
  refine ⟨_, ps_dput hu pa pb pv hs, fun σ H Hs ρ n q x E s r h k ke => fv σ H Hs ρ n _ x _ s r h (fun v H1 Hs1 d n1 g1 s1 hv h1 => ?_) (ke σ)⟩
  refine fa σ H1 Hs1 ρ n1 _ x _ s1 (r.ext g1.ext) h1 (fun w H2 Hs2 e n2 g2 s2 hw h2 => ?_) ((ke σ).go g1)
  refine fb σ H2 Hs2 ρ n2 _ x _ s2 (r.ext (g1.trans g2).ext) h2 (fun y H3 Hs3 f n3 g3 s3 hy h3 => ?_) ((ke σ).go (g1.trans g2))
  obtain ⟨p, H4, n4, e1, e2, g4, s4, hq⟩ := put_of s3 (hw.ext g3.ext) hy (hv.ext (g2.trans g3).ext) h3
  exact ⟨p, H4, e1, e2, k (.nx ρ) n4 H4 Hs3 ((g1.trans (g2.trans g3)).trans g4) s4 hq σ (r.ext (g1.trans (g2.trans g3)).ext)⟩
/-- d[k] op= i, of ints -/
noncomputable def tdaug (f : Int → Int → Int) (ta tb tv : Ev → Wp D) : Ev → Wp Out := fun ρ => Wp.bind (ta ρ) fun d => Wp.bind (tb ρ) fun k => fun n q x => ∃ (p : Addr) (l : TL) (j : List Int) (u : Int), d = .mref p ∧ n.mu p = some (.dit l) ∧ k = .tup (j.map D.int) ∧ l.lookup j = some (.int u) ∧
  tv ρ n (fun w m => ∃ z : Int, w = .int z ∧ m.mu p = some (.dit l) ∧ l.length < 1000000 ∧ q (.nx ρ) ⟨m.n, m.mu.put p (.dit (putT l j (.int (f u z))))⟩) x
theorem ds_daug {tpos : Pos} {op : Operator} {f : Int → Int → Int} {value : Expr} {tv : Ev → Wp D} {rd : V → V → Hp → VK → Prop} (hop : InOp X op rd) (hrd : ∀ (i j : Int) (H : Hp) (Q : VK), Q (.int (f i j)) H → rd (.int i) (.int j) H Q) (hu : X.A.units + 1 < cLine) (ha : DE Γ X W a ta) (hb : DE Γ X W b tb) (hv : DE Γ X W value tv)
    (hst : ∀ ov iv new, augStore b ov iv new = (do holding [new, ov, iv] (setItem ov iv new); release [new, ov, iv] []; pure .next) := by exact fun _ _ _ => rfl) : DS Γ X W (.AugAssign (.Subscript a b tpos) op value pos) (tdaug f ta tb tv) := by
  obtain ⟨ea, pa, fa⟩ := ha
  obtain ⟨eb, pb, fb⟩ := hb
  obtain ⟨ev, pv, fv⟩ := hv
  refine ⟨_, ps_daug hu pa pb pv hop hst, fun σ H Hs ρ n q x E s r h k ke => fa σ H Hs ρ n _ x _ s r h (fun v H1 Hs1 d n1 g1 s1 hv h1 => ?_) (ke σ)⟩
  refine fb σ H1 Hs1 ρ n1 _ x _ s1 (r.ext g1.ext) h1 (fun y H2 Hs2 e n2 g2 s2 hy h2 => ?_) ((ke σ).go g1)
  obtain ⟨p, l, j, u, rfl, hm, rfl, hl, h3⟩ := h2
  obtain ⟨p', hp', h4⟩ := d_get_of s2 (hv.ext g2.ext) (.inr ⟨p, rfl, .inl hm⟩) hy
  cases hv
  cases hp'
  rcases h4 with ⟨w, e, h5, h6, h7⟩ | ⟨h5, h6⟩
  · rw [hl] at h6
    cases h6
    cases h7
    refine ⟨p, _, rfl, h5, fv σ H2 Hs2 ρ n2 _ x _ s2 (r.ext (g1.trans g2).ext) h3 (fun w H3 Hs3 e3 n3 g3 s3 hw h8 => ?_) ((ke σ).go (g1.trans g2))⟩
    obtain ⟨z, rfl, hm3, hlen, hq⟩ := h8
    cases hw
    refine hrd u z H3 _ ?_
    obtain ⟨p2, H4, n4, e1, e2, g4, s4, hq⟩ := put_of (q := fun _ m => q (.nx ρ) m) (z := fun _ _ => False) s3 (.mref p) (hy.ext g3.ext) (.int (f u z)) ⟨p, l, j, rfl, hm3, rfl, hlen, hq⟩
    cases e1
    exact ⟨H4, e2, k (.nx ρ) n4 H4 Hs3 ((g1.trans (g2.trans g3)).trans g4) s4 hq σ (r.ext (g1.trans (g2.trans g3)).ext)⟩
  · rw [hl] at h6; cases h6
/-- d.get(k), d.get(k, e) -/
noncomputable def fDGet1 (d k : D) : Wp D := fun n q _ => ∃ (l : TL) (j : List Int), dOf d n l ∧ k = .tup (j.map D.int) ∧ q ((l.lookup j).getD .non) n
end
end OE
/-! ### texts: split, join, str(int), int(text), text * int -/
namespace OE
open PySem PySem.Spec L2
variable [TN]
section
variable {Γ : Gam} {X : Cx} {W : WX} {a b c tg : Expr} {ta tb tc : Ev → Wp D} {pos : Pos}
/-- a method of a text, with one argument -/
noncomputable def tmtx (f : Str → D → Wp D) (ta tb : Ev → Wp D) : Ev → Wp D := fun ρ => Wp.bind (ta ρ) fun x => match x with
  | .str z => Wp.bind (tb ρ) fun y => f z y
  | _ => Wp.stuck
noncomputable def fSplit (z : Str) (y : D) : Wp D := match y with
  | .str w => fun n q _ => ((w.length == 0) = false ∧ z.length ≤ 1000000) ∧ q (.lst ((Txt.split z w).map D.str)) n
  | _ => Wp.stuck
/-- str(int) -/
noncomputable def fStr : List D → Wp D
  | [.int i] => Wp.bind (Wp.ask (i.natAbs.log2 < 1920)) fun _ => Wp.ret (.str (toString i))
  | _ => Wp.stuck
/-- text * int -/
noncomputable def fMulS : D → D → Wp D
  | .str z, .int i => fun n q _ => MulOk z i ∧ q (.str (Txt.mul z i)) n
  | _, _ => Wp.stuck
end
section
variable {n : S} {x : Exn → S → Prop} {ρ : Ev} {ta tb : Ev → Wp D} {q : D → S → Prop} {f : Str → D → Wp D}
noncomputable def kMtx (f : Str → D → Wp D) (tb : Ev → Wp D) (ρ : Ev) (q : D → S → Prop) (x : Exn → S → Prop) (d : D) (n : S) : Prop := tmtx f (tconst d) (fun _ => tb ρ) [] n q x
noncomputable def kMt2 (f : Str → D → Wp D) (z : Str) (q : D → S → Prop) (x : Exn → S → Prop) (y : D) (n : S) : Prop := f z y n q x
theorem s_mtx : tmtx f ta tb ρ n q x = ta ρ n (kMtx f tb ρ q x) x := by
  refine congrArg (fun k => ta ρ n k x) (funext fun d => funext fun m => ?_)
  cases d <;> rfl
theorem k_mtx {z : Str} : kMtx f tb ρ q x (.str z) n = tb ρ n (kMt2 f z q x) x := rfl
theorem k_mt2 {z : Str} {y : D} : kMt2 f z q x y n = f z y n q x := rfl
theorem f_split {z w : Str} : fSplit z (.str w) n q x = (((w.length == 0) = false ∧ z.length ≤ 1000000) ∧ q (.lst ((Txt.split z w).map D.str)) n) := rfl
theorem f_str {i : Int} : fStr [.int i] n q x = (i.natAbs.log2 < 1920 ∧ q (.str (toString i)) n) := rfl
theorem f_mulS {z : Str} {i : Int} : fMulS (.str z) (.int i) n q x = (MulOk z i ∧ q (.str (Txt.mul z i)) n) := rfl
theorem f_lenT1 {z : Str} : fLen [.str z] n q x = (z.length ≤ 1000000 ∧ q (.int z.length) n) := rfl
theorem f_ixT1 {z : Str} {i : Int} : fIx (.str z) (.int i) n q x = (z.length ≤ 1000000 ∧ ∃ c, atI z.cps.toList i = some c ∧ q (.str ⟨#[c]⟩) n) := rfl
theorem k_itmStr {z : Str} {ql : List D → S → Prop} : kItm ql x (.str z) n = ql (z.cps.toList.map fun c => D.str ⟨#[c]⟩) n := rfl
end
end OE
/-! ### dicts with tuple keys: locked while they are walked; len, in; what is no more wanted of mu -/
namespace OE
open PySem PySem.Spec L2
variable [TN]
section
variable {K : PySem.W.Frag} {n : S} {Hs H : Hp}
/-- what is no more wanted is dropped -/
theorem Sit.shrink (s : Sit K n Hs H) {μ : Mu} (h : ∀ a o, μ a = some o → n.mu a = some o) : Sit K ⟨n.n, μ⟩ Hs H := ⟨s.subK, s.mkd, s.mks, s.good, s.tabs, fun a o e => s.muts a o (h a o e), s.tups⟩
theorem Sit.lockd (s : Sit K n Hs H) {p : Addr} {l : TL} (h : n.mu p = some (.dit l)) : ∃ kvs, H p = some (.dT kvs) ∧ ∀ o, Sit K ⟨n.n, n.mu.put p (.lit (.frz o (.dT kvs)) l)⟩ Hs (upd H p (.frz o (.dT kvs))) ∧ Go Hs H Hs (upd H p (.frz o (.dT kvs))) := by
  obtain ⟨_, kvs, hk, g⟩ := s.muts p _ h
  exact ⟨kvs, hk, fun o => s.mutate h ⟨upd_same, o, kvs, rfl, g⟩⟩
theorem Sit.free' (s : Sit K n Hs H) {p : Addr} {l : TL} {o : Obj} {kvs : List (List Key × V)} (h : n.mu p = some (.lit (.frz o (.dT kvs)) l)) : H p = some (.frz o (.dT kvs)) ∧ Sit K ⟨n.n, n.mu.put p (.dit l)⟩ Hs (upd H p (.dT kvs)) ∧ Go Hs H Hs (upd H p (.dT kvs)) := by
  obtain ⟨_, hk, o', kvs', e, g⟩ := s.muts p _ h
  cases e
  exact ⟨hk, s.mutate h ⟨kvs, upd_same, g⟩⟩
end
section
variable {Γ : Gam} {X : Cx} {W : WX} {a b c tg : Expr} {ta tb tc : Ev → Wp D} {pos : Pos} {st : Stmt} {t : Ev → Wp Out}
/-- an expression is read while one dict is locked -/
noncomputable def tlkE (t : Ev → Wp D) : Ev → Wp D := fun ρ n q x => ∃ (p : Addr) (l : TL), n.mu p = some (.dit l) ∧ ∀ u, t ρ ⟨n.n, n.mu.put p (.lit u l)⟩ (fun r s => s.mu p = some (.lit u l) ∧ q r ⟨s.n, s.mu.put p (.dit l)⟩) x
theorem d_lock (h : DE Γ X W a ta) : DE Γ X W a (tlkE ta) := by
  obtain ⟨te, pe, fe⟩ := h
  refine ⟨_, pe_lock pe, fun σ H Hs ρ n q x Q s r h k ke => ?_⟩
  obtain ⟨p, l, hp, h⟩ := h
  obtain ⟨kvs, hk, lk⟩ := s.lockd hp
  refine ⟨p, .dT kvs, hk, trivial, fun od => ?_⟩
  obtain ⟨s1, g1⟩ := lk od
  refine fe σ _ Hs ρ _ _ x _ s1 r (h _) (fun v H' Hs' d n' g s' hv hq => ?_) (ke.go g1)
  obtain ⟨hm, hq⟩ := hq
  obtain ⟨h1, s2, g2⟩ := s'.free' hm
  exact ⟨h1, k v _ Hs' d _ (g1.trans (g.trans g2)) s2 hv hq⟩
/-- a dict is locked for good -/
noncomputable def tlkB (t : Ev → Wp Out) : Ev → Wp Out := fun ρ n q x => ∃ (p : Addr) (l : TL), n.mu p = some (.dit l) ∧ ∀ u, t ρ ⟨n.n, n.mu.put p (.lit u l)⟩ q x
/-- the keys of a locked dict -/
noncomputable def itemsK : D → Wp LG
  | .mref a => fun n q _ => ∃ u l, n.mu a = some (.lit u l) ∧ q (l.map fun p => .tup (p.1.map D.int), fun s => s.mu a = some (.lit u l)) n
  | _ => Wp.stuck
noncomputable def tkeys (t : Ev → Wp D) : Ev → Wp LG := fun ρ => Wp.bind (t ρ) itemsK
theorem walk_keys {K : PySem.W.Frag} {p : Addr} {Hs : Hp} {l : TL} {o : Obj} {kvs : List (List Key × V)} : WalkG K (Itkt p o kvs) (fun s => s.mu p = some (.lit (.frz o (.dT kvs)) l)) Hs (l.map fun p => .tup (p.1.map D.int)) := by
  have rd : ∀ {n : S} {Hs1 H : Hp}, Sit K n Hs1 H → n.mu p = some (.lit (.frz o (.dT kvs)) l) → H p = some (.frz o (.dT kvs)) ∧ DvKt K Hs1 kvs l := fun {n Hs1 H} s g => by
    obtain ⟨_, h1, o', kvs', e, h2⟩ := s.muts p _ g
    cases e
    exact ⟨h1, h2⟩
  refine ⟨fun i n Hs1 H e s g hi => ?_, fun n Hs1 H e s g => ?_, fun i n Hs1 H x H' e s g hi y => ?_⟩
  · obtain ⟨h1, h2⟩ := rd s g
    exact ⟨h1, by rw [h2.length]; simpa using hi⟩
  · obtain ⟨h1, h2⟩ := rd s g
    exact ⟨h1, by rw [h2.length]; simp⟩
  · obtain ⟨e1, k, v, q, h3, rfl, h4⟩ := y
    subst e1
    obtain ⟨h1, h2⟩ := rd s g
    obtain ⟨w, h5, rfl, _⟩ := h2.get h3
    refine ⟨Hs1, .tup (w.1.map D.int), by rw [List.getElem?_map, h5]; rfl, .refl _ _, s, .tup (s.tups _ _ h4) ?_⟩
    rw [ints_kV]
    exact ints_dv _
theorem dig_keys (ha : DE Γ X W a ta) : DIG Γ X W tg a (tkeys ta) := by
  obtain ⟨ea, pa, fa⟩ := ha
  refine ⟨_, pi_keys pa, fun σ H Hs ρ n q x Q s r h k ke => fa σ H Hs ρ n _ x _ s r h (fun v H1 Hs1 d n1 g1 s1 hv h1 => ?_) ke⟩
  cases hv with
  | mref p =>
    obtain ⟨u, l, h2, h3⟩ := h1
    obtain ⟨_, h4, o, kvs, rfl, h5⟩ := s1.muts p _ h2
    exact ⟨p, o, rfl, .inr ⟨kvs, h4, k _ H1 Hs1 (_, _) n1 g1 s1 walk_keys h3⟩⟩
  | _ => exact (show False from h1).elim
theorem d_dnin (hu : X.A.units + 1 < cLine) (ha : DE Γ X W a ta) (hb : DE Γ X W b tb) (hm : behindInMarks .NotIn b = false := by rfl) : DE Γ X W (.Compare a [.NotIn] [b] pos) (tbin (fDIn true) ta tb) := by
  obtain ⟨t, pc, f⟩ := dc_notin hu ha hb
  exact ⟨t, pe_cmp pc hm, f⟩
/-- max(list), min(list) of ints -/
noncomputable def fMaxL : List D → Wp D
  | [.lst l] => fun n q _ => ∃ ns : List Int, l = ns.map D.int ∧ 0 < ns.length ∧ ∀ m, m ∈ ns → (∀ y, y ∈ ns → y ≤ m) → q (.int m) n
  | _ => Wp.stuck
theorem cd_maxL {K : PySem.W.Frag} : CD K (rMax K) fMaxL := by
  intro xs ds H Hs n q e Q s hx h k
  rcases hx with _ | ⟨hv, _ | ⟨hw, _⟩⟩
  · exact (show False from h).elim
  · cases hv with
    | @lst a vs ds h1 g =>
      obtain ⟨ns, rfl, h2, h3⟩ := h
      have e := dv_ints g
      subst e
      exact ⟨a, ns, rfl, SqL.of (s.sub _ _ h1), h2, fun m hm hy => k _ H Hs _ n (.refl _ _) s (.int _) (h3 m hm hy)⟩
    | _ => exact (show False from h).elim
  · cases hv <;> exact (show False from h).elim
theorem d_maxL {p : Pos} {t : Ev → Wp (List D)} (hm : X.mg "max" = none) (ha : DA Γ X W [a] t) (hc : X.calm = true := by rfl) (hg : Gl X "max" := by rfl) (he : starEach [a] X.env = (false, eval a X.env) :: starEach [] X.env := by rfl) (hpl : (backTo pos (starEach [] X.env)).any (·.1) = false := by rfl) :
    DE Γ X W (.Call (.Name "max" p) [a] [] pos) (tcall fMaxL t) := d_callB (cr_max hc) cd_maxL hg hm (by decide +kernel) ha (by decide) (by decide) he hpl
end
end OE
/-! ### instances of the module's classes: made, read, written, their methods -/
namespace OE
open PySem PySem.Spec L2
variable [TN]
noncomputable abbrev FL := List (Str × D)
noncomputable def putFd (f : Str) (d : D) : FL → FL
  | [] => [(f, d)]
  | (g, e) :: r => if g = f then (g, d) :: r else (g, e) :: putFd f d r
section
variable {K : PySem.W.Frag} {H : Hp}
theorem DvFs.look {f : Str} : ∀ {fs : List (Str × V)} {l : FL}, DvFs K H fs l → (∃ v d, fs.lookup f = some v ∧ l.lookup f = some d ∧ Dv K H v d) ∨ (fs.lookup f = none ∧ l.lookup f = none)
  | _, _, .nil => .inr ⟨rfl, rfl⟩
  | _, _, .cons (k := k) hv g => by
    rw [List.lookup_cons, List.lookup_cons]
    cases e : f == k with
    | true => exact .inl ⟨_, _, rfl, rfl, hv⟩
    | false => exact g.look
theorem DvFs.put {f : Str} {v : V} {d : D} (hv : Dv K H v d) : ∀ {fs : List (Str × V)} {l : FL}, DvFs K H fs l → DvFs K H (putF f v fs) (putFd f d l)
  | _, _, .nil => .cons hv .nil
  | _, _, .cons (k := k) h g => by
    rw [putF, putFd]
    by_cases e : k = f
    · rw [if_pos e, if_pos e]; exact .cons hv g
    · rw [if_neg e, if_neg e]; exact .cons h (g.put hv)
theorem DvFs.length : ∀ {fs : List (Str × V)} {l : FL}, DvFs K H fs l → fs.length = l.length
  | _, _, .nil => rfl
  | _, _, .cons _ g => congrArg (· + 1) g.length
end
/-- a method of it -/
noncomputable def FnM (Γ : Gam) (P : Program) (w : World) (K : PySem.W.Frag) (mg : Str → Option Value) (base : Heap) (c m : Str) (k : Nat) (a : Nat) (F : List D → Wp D) : Prop :=
  ∃ (C f : Addr) (fd : FuncData) (ps : List Str), Γ c = some C ∧ Cls K C ∧ Meth K C m f ∧ ps.length = a ∧ FnG P w K mg base k f fd ps (spW K Γ a F) ∧ Binds K fd ps []
/-- its __init__ -/
noncomputable def FnI (Γ : Gam) (P : Program) (w : World) (K : PySem.W.Frag) (mg : Str → Option Value) (base : Heap) (c : Str) (k : Nat) (a : Nat) (F : List D → Wp D) : Prop :=
  ∃ (C f : Addr) (fd : FuncData) (ps : List Str), Γ c = some C ∧ mg c = some (.ref C) ∧ Mk K C f ∧ ps.length = a ∧ FnG P w K mg base k f fd ps (spW K Γ a F) ∧ Binds K fd ps []
section
variable {Γ : Gam} {X : Cx} {W : WX} {a b c o value : Expr} {ta tb tc tv : Ev → Wp D} {pos apos pos' p : Pos} {cn f m : Str}
/-- e.f -/
noncomputable def fMFld (Γ : Gam) (cn f : Str) (d : D) : Wp D := fun n q _ => ∃ (i C : Addr) (l : FL) (e : D), d = .mref i ∧ Γ cn = some C ∧ n.mu i = some (.ins C l) ∧ l.lookup f = some e ∧ q e n
theorem d_mfld (hC : ∀ C, Γ cn = some C → Cls X.K C ∧ NoAttr X.K C f) (ha : DE Γ X W a ta) (hb : attributeBase a f X.env (eval a X.env) = eval a X.env := by rfl) : DE Γ X W (.Attribute a f pos) (tbind (fMFld Γ cn f) ta) := by
  obtain ⟨ea, pa, fa⟩ := ha
  refine ⟨_, pe_fld pa hb, fun σ H Hs ρ n q x Q s r h k ke => fa σ H Hs ρ n _ x _ s r h (fun v H1 Hs1 d n1 g1 s1 hv h1 => ?_) ke⟩
  obtain ⟨i, C, l, e, rfl, hc, hm, hl, hq⟩ := h1
  cases hv
  obtain ⟨_, dx, fs, h2, h3, h4⟩ := s1.muts _ _ hm
  obtain ⟨c1, c2⟩ := hC C hc
  rcases h4.look (f := f) with ⟨u, e', h5, h6, h7⟩ | ⟨h5, h6⟩
  · rw [hl] at h6
    cases h6
    exact ⟨i, C, dx, fs, u, rfl, h2, c1, c2, h5, k _ H1 Hs1 _ n1 g1 s1 h7 hq⟩
  · rw [hl] at h6; cases h6
/-- o.f = value -/
noncomputable def tmfset (Γ : Gam) (cn f : Str) (ta tv : Ev → Wp D) : Ev → Wp Out := fun ρ => Wp.bind (tv ρ) fun v => Wp.bind (ta ρ) fun d => fun n q _ => ∃ (i C : Addr) (l : FL), d = .mref i ∧ Γ cn = some C ∧ n.mu i = some (.ins C l) ∧ l.length < 1000 ∧ q (.nx ρ) ⟨n.n, n.mu.put i (.ins C (putFd f v l))⟩
theorem ds_mfset (hC : ∀ C, Γ cn = some C → Cls X.K C ∧ NoAttr X.K C f) (ha : DE Γ X W o ta) (hv : DE Γ X W value tv) (hs : swapsWith value (some (.Attribute o f pos')) pos.line X.env = pure false := by rfl) : DS Γ X W (.Assign [.Attribute o f pos'] value pos) (tmfset Γ cn f ta tv) := by
  obtain ⟨ea, pa, fa⟩ := ha
  obtain ⟨ev, pv, fv⟩ := hv
  refine ⟨_, ps_fld pa pv hs, fun σ H Hs ρ n q x E s r h k ke => fv σ H Hs ρ n _ x _ s r h (fun v H1 Hs1 d n1 g1 s1 hv h1 => ?_) (ke σ)⟩
  refine fa σ H1 Hs1 ρ n1 _ x _ s1 (r.ext g1.ext) h1 (fun w H2 Hs2 e n2 g2 s2 hw h2 => ?_) ((ke σ).go g1)
  obtain ⟨i, C, l, rfl, hc, hm, hl, hq⟩ := h2
  cases hw
  obtain ⟨_, dx, fs, h3, h4, h5⟩ := s2.muts _ _ hm
  obtain ⟨c1, c2⟩ := hC C hc
  obtain ⟨s3, g3⟩ := s2.mutate (o := .ins C dx (putF f v fs)) (m' := .ins C (putFd f d l)) hm ⟨dx, _, upd_same, h4, h5.put (hv.ext g2.ext)⟩
  exact ⟨i, C, dx, fs, rfl, h3, c1, c2, by rw [h5.length]; exact hl, k (.nx ρ) _ _ Hs2 (g1.trans (g2.trans g3)) s3 hq σ (r.ext (g1.trans g2).ext)⟩
/-- o.m(..) -/
noncomputable def tmth (Γ : Gam) (cn m : Str) (k : Nat) (F : List D → Wp D) (to : Ev → Wp D) (t : Ev → Wp (List D)) : Ev → Wp D := fun ρ => Wp.bind (to ρ) fun d => fun n q x => ∃ (i C : Addr) (l : FL), d = .mref i ∧ Γ cn = some C ∧ n.mu i = some (.ins C l) ∧ l.lookup m = none ∧ t ρ n (fun ds n1 => ds.length + 1 = k ∧ F (d :: ds) n1 q x) x
theorem d_meth {k j : Nat} {F : List D → Wp D} {es : List Expr} {t : Ev → Wp (List D)} {to : Ev → Wp D} {pl : Sem Bool} (G : FnM Γ X.prog X.w X.K X.mg X.base cn m k j F) (hr : Room k X.A) (hgd : X.A.guards = some []) (tk : Takes X W) (ho : DE Γ X W o to) (ha : DA Γ X W (a :: es) t)
    (hst : starEach (a :: es) X.env = (false, eval a X.env) :: starEach es X.env := by rfl) (hpl : (backTo pos (starEach es X.env)).any (·.1) = false := by rfl)
    (ht : eval (.Call (.Attribute o m apos) (a :: es) [] pos) X.env = (eval o X.env >>= fun ov => standAt apos.atName >>= fun _ => holding [ov] (getMethod ov m pl) >>= fun z => callWith pos z.1 z.2 (backTo pos (starEach (a :: es) X.env)) (backToKw pos (keywordEach [] X.env))) := by rfl) :
    DE Γ X W (.Call (.Attribute o m apos) (a :: es) [] pos) (tmth Γ cn m j F to t) := by
  obtain ⟨C, g, fd, ps, hC, hc, hm, hps, G, hb⟩ := G
  obtain ⟨eo, po, fo⟩ := ho
  obtain ⟨ea, pa, fa⟩ := ha
  refine ⟨fun σ H Q => eo σ H fun v H1 => ∃ i dx fs, v = .ref i ∧ H1 i = some (.ins C dx fs) ∧ fs.lookup m = none ∧ ea σ H1 fun vs H2 => spW X.K Γ j F (v :: vs) H2 Q (WE W σ), ⟨fun pins s σ H Q I h => ?_⟩, fun σ H Hs ρ n q x Q s rr h k ke => fo σ H Hs ρ n _ x _ s rr h (fun v H1 Hs1 d n1 g1 s1 hv h1 => ?_) ke⟩
  · refine PySem.W.methodCall_KW (pl := pl) (thn (po.run pins s σ H _ I h) fun u s1 hh => ?_) ht
    obtain ⟨v, H1, I1, rv, i, dx, fs, rfl, hi, hl, q⟩ := hh
    obtain rfl : u = Value.ref i := rv
    refine getmeth_ok I1 hi hc hm hl ?_
    refine PySem.W.callWith_K (first := [.ref i]) (h₀ := X.base) I.ok.mod.kin hm.kp (thn (pa.run pos pins s1 σ H1 _ I1 q) fun us s2 hh => ?_) hst hpl
    obtain ⟨vs, H2, I2, r, q2⟩ := hh
    exact ⟨I2.kIn, run_g (us := .ref i :: us) (vs := .ref i :: vs) G hr hgd hb (passAt tk σ) I2 (.cons rfl r) q2⟩
  · obtain ⟨i, C', l, rfl, hC', hmu, hl, h2⟩ := h1
    rw [hC] at hC'
    cases hC'
    cases hv
    obtain ⟨_, dx, fs, h3, h4, h5⟩ := s1.muts _ _ hmu
    have hn : fs.lookup m = none := by
      rcases h5.look (f := m) with ⟨_, e, _, h6, _⟩ | ⟨h6, _⟩
      · rw [hl] at h6; cases h6
      · exact h6
    exact ⟨i, dx, fs, rfl, h3, hn, fa σ H1 Hs1 ρ n1 _ x _ s1 (rr.ext g1.ext) h2 (fun vs H2 Hs2 ds n2 g2 s2 hvs h6 => ⟨n2, Hs2, .mref i :: ds, q, x, h6.1, s2, .cons (.mref i) hvs, h6.2, k.go (g1.trans g2), ke.go (g1.trans g2)⟩) (ke.go g1)⟩
/-- o.m() -/
noncomputable def tmth0 (Γ : Gam) (cn m : Str) (F : List D → Wp D) (to : Ev → Wp D) : Ev → Wp D := fun ρ => Wp.bind (to ρ) fun d => fun n q x => ∃ (i C : Addr) (l : FL), d = .mref i ∧ Γ cn = some C ∧ n.mu i = some (.ins C l) ∧ l.lookup m = none ∧ F [d] n q x
theorem d_meth0 {k : Nat} {F : List D → Wp D} {to : Ev → Wp D} {pl : Sem Bool} (G : FnM Γ X.prog X.w X.K X.mg X.base cn m k 1 F) (hr : Room k X.A) (hgd : X.A.guards = some []) (tk : Takes X W) (ho : DE Γ X W o to)
    (ht : eval (.Call (.Attribute o m apos) [] [] pos) X.env = (eval o X.env >>= fun ov => standAt apos.atName >>= fun _ => holding [ov] (getMethod ov m pl) >>= fun z => callWith pos z.1 z.2 (backTo pos (starEach [] X.env)) (backToKw pos (keywordEach [] X.env))) := by rfl) :
    DE Γ X W (.Call (.Attribute o m apos) [] [] pos) (tmth0 Γ cn m F to) := by
  obtain ⟨C, g, fd, ps, hC, hc, hm, hps, G, hb⟩ := G
  obtain ⟨eo, po, fo⟩ := ho
  refine ⟨fun σ H Q => eo σ H fun v H1 => ∃ i dx fs, v = .ref i ∧ H1 i = some (.ins C dx fs) ∧ fs.lookup m = none ∧ spW X.K Γ 1 F [v] H1 Q (WE W σ), ⟨fun pins s σ H Q I h => ?_⟩, fun σ H Hs ρ n q x Q s rr h k ke => fo σ H Hs ρ n _ x _ s rr h (fun v H1 Hs1 d n1 g1 s1 hv h1 => ?_) ke⟩
  · refine PySem.W.methodCall_KW (pl := pl) (thn (po.run pins s σ H _ I h) fun u s1 hh => ?_) ht
    obtain ⟨v, H1, I1, rv, i, dx, fs, rfl, hi, hl, q⟩ := hh
    obtain rfl : u = Value.ref i := rv
    refine getmeth_ok I1 hi hc hm hl ?_
    exact PySem.W.callWith_K0 (first := [.ref i]) I1.kIn hm.kp (run_g (us := [.ref i]) (vs := [.ref i]) G hr hgd hb (passAt tk σ) I1 (.cons rfl .nil) q)
  · obtain ⟨i, C', l, rfl, hC', hmu, hl, h2⟩ := h1
    rw [hC] at hC'
    cases hC'
    cases hv
    obtain ⟨_, dx, fs, h3, h4, h5⟩ := s1.muts _ _ hmu
    have hn : fs.lookup m = none := by
      rcases h5.look (f := m) with ⟨_, e, _, h6, _⟩ | ⟨h6, _⟩
      · rw [hl] at h6; cases h6
      · exact h6
    exact ⟨i, dx, fs, rfl, h3, hn, n1, Hs1, _, q, x, rfl, s1, .cons (.mref i) .nil, h2, k.go g1, ke.go g1⟩
/-- C(..) -/
noncomputable def tmk (Γ : Gam) (cn : Str) (k : Nat) (F : List D → Wp D) (t : Ev → Wp (List D)) : Ev → Wp D := fun ρ => Wp.bind (t ρ) fun ds => fun n q x => ds.length + 1 = k ∧ ∀ C, Γ cn = some C → ∀ i, n.mu i = none → F (.mref i :: ds) ⟨n.n, n.mu.put i (.ins C [])⟩ (fun d s => d = .non ∧ q (.mref i) s) x
theorem d_mk {k j : Nat} {F : List D → Wp D} {es : List Expr} {t : Ev → Wp (List D)} (G : FnI Γ X.prog X.w X.K X.mg X.base cn k j F) (hr : Room (k + 1) X.A) (hgd : X.A.guards = some []) (tk : Takes X W) (ha : DA Γ X W (a :: es) t)
    (hg : Gl X cn := by rfl) (hdb : (cn == ("__debug__" : Str)) = false := by decide) (he : starEach (a :: es) X.env = (false, eval a X.env) :: starEach es X.env := by rfl) (hpl : (backTo pos (starEach es X.env)).any (·.1) = false := by rfl) :
    DE Γ X W (.Call (.Name cn p) (a :: es) [] pos) (tmk Γ cn j F t) := by
  obtain ⟨C, f, fd, ps, hC, hm, M, hps, G, hb⟩ := G
  obtain ⟨ea, pa, fa⟩ := ha
  refine ⟨fun σ H Q => ea σ H fun vs H1 => ∀ i dx, H1 i = none → H1 dx = none → dx ≠ i → spW X.K Γ j F (.ref i :: vs) (upd (upd H1 dx (.own i)) i (.ins C dx [])) (fun v H2 => v = .non ∧ Q (.ref i) H2) (WE W σ), ⟨fun pins s σ H Q I h => ?_⟩, fun σ H Hs ρ n q x Q s rr h k ke => fa σ H Hs ρ n _ x _ s rr h (fun vs H1 Hs1 ds n1 g1 s1 hv h1 => ?_) ke⟩
  · refine wpAny_Call_Name_kw (ld_glob I hg hm ?_ hdb)
    refine PySem.W.callWith_K (h₀ := X.base) I.ok.mod.kin M.kp (thn (pa.run pos pins s σ H _ I h) fun us s1 hh => ?_) he hpl
    obtain ⟨vs, H1, I1, r, q⟩ := hh
    refine ⟨I1.kIn, ?_⟩
    have hq := q (s1.heap.objs.size + 1) s1.heap.objs.size (I1.hok.fresh (Nat.le_succ _)) (I1.hok.fresh (Nat.le_refl _)) (Nat.ne_of_lt (Nat.lt_succ_self _))
    have J := Inv.made (C := C) I1
    have rr : Vals (V.ref (s1.heap.objs.size + 1) :: vs) (Value.ref (s1.heap.objs.size + 1) :: us) := .cons rfl r
    have hl : ((Value.ref (s1.heap.objs.size + 1) :: us) ++ []).length = ps.length := by rw [List.append_nil, ← rr.length]; exact G.len _ _ _ _ hq
    have bb := hb _ (Value.ref (s1.heap.objs.size + 1) :: us) J.kIn hl
    rw [List.append_nil] at bb
    refine wpAny_call (make_map (f := f) I1.kIn M.makes M.init (beq_iff_eq.mp M.fn) (codeAny_mono (G.run _ X.stack _ _ ⟨Value.ref (s1.heap.objs.size + 1) :: us, []⟩ _ _ _ (WE W σ) (hr.make C us []) hgd (J.env0.make C us []) bb rr hq) fun y s' hy => ?_))
    rcases y with e | (_ | _ | _ | u)
    · exact passAt tk σ pins _ _ e s' J hy
    · exact False.elim hy
    · exact False.elim hy
    · exact False.elim hy
    · obtain ⟨v, H', J2, rv, ev, q3⟩ := J.after hy
      subst ev
      exact ⟨rv, ⟨V.ref (s1.heap.objs.size + 1), H', J2, rfl, q3⟩⟩
  · intro i dx hi hd hne
    obtain ⟨hlen, hF⟩ := h1
    have hs := s1.free hi
    obtain ⟨s2, g2⟩ := s1.new (o := .own i) hd rfl
    have hi2 : upd H1 dx (.own i) i = none := by rw [upd_ne (Ne.symm hne)]; exact hi
    have hsi : upd Hs1 dx (HO.own i) i = none := by rw [upd_ne (Ne.symm hne)]; exact hs
    obtain ⟨s3, g3⟩ := s2.newMut (o := .ins C dx []) (m := .ins C []) hi2 ⟨dx, [], upd_same, by rw [upd_ne hne, upd_same], .nil⟩
    have gg := g1.trans (g2.trans g3)
    refine ⟨_, _, .mref i :: ds, fun d n' => d = .non ∧ q (.mref i) n', x, hlen, s3, .cons (.mref i) (hv.ext (g2.trans g3).ext), hF C hC i (s1.muFree hs), fun v H' Hs' d n' g s' hv' hq => ?_, ke.go gg⟩
    obtain ⟨rfl, hq⟩ := hq
    cases hv'
    exact ⟨rfl, k _ H' Hs' _ n' (gg.trans g) s' (.mref i) hq⟩
end
end OE
/-! ### a dict locked for good; writing d[k] by a comprehension -/
namespace OE
open PySem PySem.Spec L2
variable [TN]
section
variable {Γ : Gam} {X : Cx} {W : WX} {st : Stmt} {rest : List Stmt} {t : Ev → Wp Out}
/-- one key and its value are written into a dict with tuple keys -/
theorem dictSetT {pins : List (Addr × Obj)} {σ : L2.St} {H : Hp} {s : Shared} {E : Value → Shared → Prop} {A : Addr} {kvs : List (List Key × V)} {k : List Key} {b : Addr} {v : V} {r : Value} {Q : Unit → Shared → Prop} (hu : X.A.units + 1 < cLine) (J : Inv X pins σ H s) (hA : H A = some (.dT kvs)) (hb : H b = some (.tup (k.map kV)))
    (hl : kvs.length < sizeLine) (rv : RelV v r) (fin : ∀ s', Inv X pins σ (upd H A (.dT (putK kvs k v))) s' → Q () s') : wpAny (model X.prog X.w) X.A (dictSet A (.ref b) r) Q E s := by
  obtain ⟨small, sysm, ent, rel, at'⟩ := dt_of J.hok hA
  have fit : ent.length ≤ sizeLine := by rw [← Paired.length rel]; exact small
  have fit2 : (putK kvs k v).length ≤ sizeLine := by have := length_putK kvs k v; omega
  refine wpAny_dictSet_heap (hsz := fit) (by show X.A.units < cLine; omega) (key_of J.hok hb) at' fun h' at2 sb => fin _ ?_
  obtain ⟨q, es, ep, hq, h2, h3, h4, _, h5⟩ := at2
  refine d_write J (by rw [hA]; exact True.intro) sb ⟨q, hq⟩ ⟨fit2, sysm, _, (rel.put k hb rv).keeps fun c ys ec => ?_, q, es, ep, hq, h2, h3, h4, h5⟩
  rw [upd_ne (ne_of ec hA (fun z => nomatch z))]
  exact ec
/-- {k: v for ..}, keys tuples of ints -/
noncomputable def wDcT (wi : TI) (g : TG) (tt : TT) (tk tv : TE) (vs : List Nat) : TE := fun σ H Q => wi σ H fun It0 H1 => ∀ A, H1 A = none → ∃ M : Nat → Nat → Hp → Prop, (∃ m, M 0 m (upd H1 A (.dT []))) ∧ ∀ i m G, M i m G →
  (It0.stop i G ∧ Q (.ref A) G) ∨ (It0.go i G ∧ ∃ Nxt : Hp → Prop, (∀ G', Nxt G' → ∃ m', m' < m ∧ M (i + 1) m' G') ∧ ∀ x G', It0.yld i G x G' → g x (wipe σ vs) G' fun σ2 G2 => wipe σ2 vs = wipe σ vs ∧ tt σ2 G2 fun c G3 =>
    if c = true then tk σ2 G3 fun y G4 => tv σ2 G4 fun z G5 => ∃ kvs k b, y = .ref b ∧ G5 b = some (.tup (k.map kV)) ∧ G5 A = some (.dT kvs) ∧ kvs.length < sizeLine ∧ Nxt (upd G5 A (.dT (putK kvs k z))) else Nxt G3)
theorem pe_dcT {kx vx tg it : Expr} {ifs : List Expr} {scope : Scope} {own : List (Str × Nat)} {pos : Pos} {wi : TI} {g : TG} {tt : TT} {tk tv : TE} (hu : X.A.units + 1 < cLine) (hc : X.calm = true) (hN : X.N.Nodup) (hi : PI X tg it wi) (ok : BlkOk X.N X.env.scope scope own)
    (hg : ∀ (u : Shared) (G : Hp) (B : Addr) (cl : List (Str × Addr)) (fp : List Addr), PG (X.blk u G scope (compEnvC scope cl B X.env) fp) tg g) (ht : ∀ (u : Shared) (G : Hp) (B : Addr) (cl : List (Str × Addr)) (fp : List Addr), PTs (X.blk u G scope (compEnvC scope cl B X.env) fp) ifs tt)
    (hk : ∀ (u : Shared) (G : Hp) (B : Addr) (cl : List (Str × Addr)) (fp : List Addr), PE (X.blk u G scope (compEnvC scope cl B X.env) fp) kx tk) (hv : ∀ (u : Shared) (G : Hp) (B : Addr) (cl : List (Str × Addr)) (fp : List Addr), PE (X.blk u G scope (compEnvC scope cl B X.env) fp) vx tv)
    (hs : ∀ x, foldedSetIterable it X.env x = pure x := by intro _; rfl) : PE X (.DictComp kx vx [⟨tg, it, ifs, 0⟩] scope pos) (wDcT wi g tt tk tv (own.map (·.2))) := by
  refine ⟨fun pn u0 σ G Q J h => ?_⟩
  rw [arm_eval_DictComp]
  have caught : ∀ y ∈ scope.names, y.2 = .free → ∃ c, X.env.cells.lookup y.1 = some c := fun y hy e => (ok.free y hy e).elim (fun z => J.ok.has _ (.inl z)) fun z => J.ok.has _ (.inr z)
  refine wpAny_comprehension_free rfl hs (closure_ok caught) ok.kind (fun y hy e => by rw [ok.uniq y hy, e]) (thn (hi.run pn u0 σ G _ J h) fun xv u1 hx => thn hx fun itv u2 hy => ?_)
  obtain ⟨ia, fq, tn, It0, G2, e, J2, T, tn2, f2, q⟩ := hy
  subst e
  refine wpAny_newObj_type (newEnv_comp ?_)
  obtain ⟨A, hA⟩ : ∃ A, A = u2.heap.objs.size := ⟨_, rfl⟩
  obtain ⟨M, ⟨m0, M0⟩, turn⟩ := q A (J2.hok.fresh (Nat.le_of_eq hA.symm))
  obtain ⟨u3, hu3⟩ : ∃ u3 : Shared, u3 = { u2 with heap := u2.heap.push { cls := .type "dict", data := .dict #[] } } := ⟨_, rfl⟩
  obtain ⟨G3, hG3⟩ : ∃ G3, G3 = upd G2 A (.dT []) := ⟨_, rfl⟩
  have J3 : Inv X pn σ G3 u3 := by
    subst hu3 hG3 hA
    exact J2.laid (t' := u2.toks) (fun _ _ z => Heap.get?_push_of_some _ z) (Nat.le_refl _) (dt_empty u2.heap J2.big)
  have lt2 : ∀ b ∈ fq, b < u2.heap.objs.size := fun b hb => let ⟨_, z, _⟩ := T.obj _ _ tn2 b hb; Heap.lt_size z
  have f3 : ∀ b ∈ fq, FpOk X pn G3 b ∧ b < u3.heap.objs.size := fun b hb => by
    have hlt := lt2 b hb
    subst hG3 hu3 hA
    exact ⟨⟨by rw [upd_ne (Nat.ne_of_lt hlt)]; exact (f2 b hb).1, (f2 b hb).2⟩, by rw [Heap.size_push]; exact Nat.lt_succ_of_lt hlt⟩
  have tn3 : tn 0 u3.heap := T.keep _ _ _ tn2 fun _ _ _ z => by subst hu3; exact Heap.get?_push_of_some _ z
  have J4 := block_start J3 ok hN f3
  rw [← hG3] at M0
  obtain ⟨cs, hcs⟩ : ∃ cs, cs = cellsFrom (u3.heap.objs.size + 1) scope.names (cloFrom X.env.cells scope.names []) := ⟨_, rfl⟩
  obtain ⟨ce, hce⟩ : ∃ ce, ce = compEnvC scope cs u3.heap.objs.size X.env := ⟨_, rfl⟩
  have rg := hg u3 G3 u3.heap.objs.size cs fq
  have rt := ht u3 G3 u3.heap.objs.size cs fq
  have rk := hk u3 G3 u3.heap.objs.size cs fq
  have rv := hv u3 G3 u3.heap.objs.size cs fq
  rw [← hce] at rg rt rk rv
  rw [← hcs, ← hce] at J4
  have lo : ce.locals = u3.heap.objs.size := by subst hce; rfl
  obtain ⟨u4, hu4⟩ : ∃ u4 : Shared, u4 = { u3 with heap := pushCells (u3.heap.push { cls := .type "dict", data := .dict #[] }) scope.names } := ⟨_, rfl⟩
  rw [← hu4] at J4
  have tn4 : tn 0 u4.heap := T.keep _ _ _ tn3 fun _ _ _ z => by subst hu4; exact pushCells_keeps _ _ _ _ (Heap.get?_push_of_some _ z)
  have fps : ∀ {τ : L2.St} {G' : Hp} {v : Shared}, Inv (X.blk u3 G3 scope ce fq) [] τ G' v → (∀ b ∈ fq, G' b = none) → ∀ b ∈ fq, FpOk (X.blk u3 G3 scope ce fq) [] G' b := fun {τ G' v} K' free b hb =>
    ⟨free b hb, (K'.ok.exf b hb).1, K'.ok.exfs b hb, .inl hb, fun y c z => (K'.ok.exf b hb).2 y c z, fun p hp => absurd (show p ∈ ([] : List (Addr × Obj)) ++ [] from hp) (by simp)⟩
  have fq3 : ∀ b ∈ fq, G3 b = none := fun b hb => (f3 b hb).1.1
  have big : codeAny (model X.prog X.w) X.A (.compLoop (.DictComp kx vx [⟨tg, it, ifs, 0⟩] scope pos) 0 (.ref ia) (.ref A) ce) (compPost (model X.prog X.w) X.A X.xe none (EP X pn σ Q) (.ref A) u3.heap.objs.size) u4 := by
    refine compLoop_anyD (fun m v => ∃ i G', Inv (X.blk u3 G3 scope ce fq) [] (wipe σ (own.map (·.2))) G' v ∧ tn i v.heap ∧ (∀ b ∈ fq, G' b = none) ∧ M i m G') ?_ m0 ⟨0, G3, J4, tn4, fq3, M0⟩
    rintro m v5 ⟨i, G5, J5, tn5, n5, M5⟩
    rcases turn i m G5 M5 with ⟨stop, qq⟩ | ⟨go, Nxt, less, step⟩
    · refine thnF (T.done (X.blk u3 G3 scope ce fq) rfl rfl rfl hc i [] v5 _ G5 (fun _ _ => False) J5 (fps J5 n5) tn5 stop) fun r v6 hr => ?_
      obtain ⟨rfl, J6⟩ := hr
      have J7 : Inv X pn σ G5 v6 := J3.call' (ch := fq) J6.os J6.base J6.hok J6.bare fun b hb => let z := (f3 b hb).1.2; ⟨z.2.2.1, z.1, z.2.2.2.1, z.2.2.2.2⟩
      have nL : G5 u3.heap.objs.size = none := lo ▸ (show G5 ce.locals = none from J6.free)
      obtain ⟨mm, hn, _⟩ := J6.loc
      have hn : v6.heap.Ns u3.heap.objs.size mm := lo ▸ (show v6.heap.Ns ce.locals mm from hn)
      obtain ⟨z0, z1, z2, z3, z4, z5⟩ := J3.fpOk (Nat.le_refl _) nL
      exact ⟨mm, hn, fun h'' sb => ⟨.ref A, G5, J7.turned (t' := v6.toks) (fun b o hb e => (sb.2 b hb).trans e) z0 z1 z3 z4 z5, rfl, qq⟩⟩
    · refine thnF (T.item (X.blk u3 G3 scope ce fq) rfl rfl rfl hc i [] v5 _ G5 (fun _ _ => False) J5 (fps J5 n5) tn5 go) fun r v6 hr => ?_
      obtain ⟨w, rfl, h6⟩ := hr
      refine thnF h6 fun _ v7 h7 => ?_
      obtain ⟨x, G7, J7, r7, y7, tn7, n7⟩ := h7
      refine thnF (rg.run _ v7 _ G7 x w _ (J7.pinned (fps J7 n7) (T.obj _ _ tn7)) r7 (step x G7 y7)) fun _ v8 h8 => ?_
      obtain ⟨σ8, G8, J8, w8, q8⟩ := h8
      refine thnF (rt.run _ v8 σ8 G8 _ J8 q8) fun c v9 h9 => ?_
      obtain ⟨G9, J9, q9⟩ := h9
      have fin : ∀ {v : Shared} {G' : Hp}, Inv (X.blk u3 G3 scope ce fq) ([] ++ pinsAt fq v7.heap) σ8 G' v → Nxt G' → ∃ m', m' < m ∧ ∃ j G', Inv (X.blk u3 G3 scope ce fq) [] (wipe σ (own.map (·.2))) G' v ∧ tn j v.heap ∧ (∀ b ∈ fq, G' b = none) ∧ M j m' G' := fun {v G'} K' nx => by
        obtain ⟨m', hm, w'⟩ := less G' nx
        have kept : ∀ b ∈ fq, ∀ o, v7.heap.get? b = some o → v.heap.get? b = some o ∧ G' b = none := fun b hb o z =>
          let y := K'.pin (b, o) (List.mem_append_right _ (List.mem_append_right _ (mem_pinsAt hb z))); ⟨y.1, y.2.1⟩
        refine ⟨m', hm, i + 1, G', (K'.unpinned (pins := [])).weak (by rw [← w8, wipe_length]) (fun a y z => (wipe_some (by rw [w8]; exact z)).1), T.keep _ _ _ tn7 fun b hb o z => (kept b hb o z).1, fun b hb => ?_, w'⟩
        obtain ⟨o, z, _⟩ := T.obj _ _ tn7 b hb
        exact (kept b hb o z).2
      cases c with
      | false =>
        simp only [Bool.false_eq_true, if_false] at q9 ⊢
        exact fin J9 q9
      | true =>
        simp only [if_true] at q9 ⊢
        refine thnF (rk.run _ v9 σ8 G9 _ J9 q9) fun y v10 h10 => ?_
        obtain ⟨ky, G10, J10, r10, q10⟩ := h10
        refine thnF (rv.run _ v10 σ8 G10 _ J10 q10) fun z v11 h11 => ?_
        obtain ⟨vy, G11, J11, r11, kvs, k, b, rfl, hb, hA11, hz, nx⟩ := h11
        obtain rfl : y = Value.ref b := r10
        exact dictSetT (X := X.blk u3 G3 scope ce fq) hu J11 hA11 hb hz r11 fun v12 J12 => fin J12 nx
  subst hu4 hce hcs hu3 hA
  exact codeAny_compStart_dict big (T.self X.A 0 _ _ _ tn4 big)
end
end OE
/-! ### {k: v for ..} with tuple keys, over data: a new dict that will change -/
namespace OE
open PySem PySem.Spec L2
variable [TN]
noncomputable def dcG (G : S → Prop) (g : D → Ev → Wp Ev) (tt : Ev → Wp Bool) (tk tv : Ev → Wp D) (ρ : Ev) : TL → List D → Wp TL
  | acc, [] => fun n q _ => G n ∧ q acc n
  | acc, d :: ds => fun n q x => G n ∧ (Wp.bind (g d ρ) fun ρ1 => Wp.bind (tt ρ1) fun b => if b = true then Wp.bind (tk ρ1) fun k => Wp.bind (tv ρ1) fun v => fun n q x => ∃ j : List Int, k = .tup (j.map D.int) ∧ dcG G g tt tk tv ρ (putT acc j v) ds n q x else dcG G g tt tk tv ρ acc ds) n q x
noncomputable def tdcG (ti : Ev → Wp LG) (g : D → Ev → Wp Ev) (tt : Ev → Wp Bool) (tk tv : Ev → Wp D) (vs : List Nat) : Ev → Wp D := fun ρ => Wp.bind (ti ρ) fun l => Wp.bind (Wp.ask (l.1.length ≤ 1000000)) fun _ =>
  Wp.bind (Wp.calm (dcG l.2 g tt tk tv (wipeE ρ vs) [] l.1)) fun acc => fNew (.dit acc)
theorem wipe2 (τ : L2.St) (us : List Nat) : wipe (wipe τ us) us = wipe τ us := by
  have aux : ∀ ws : List Nat, (∀ i ∈ ws, i ∈ us) → wipe (wipe τ ws) us = wipe τ us := fun ws => by
    induction ws with
    | nil => exact fun _ => rfl
    | cons w ws ih =>
      intro h
      show wipe ((wipe τ ws).set w none) us = _
      rw [wipe_set (h w List.mem_cons_self)]
      exact ih fun i hi => h i (List.mem_cons_of_mem _ hi)
  exact aux us fun _ z => z
theorem putT_len (l : TL) (j : List Int) (d : D) : (putT l j d).length ≤ l.length + 1 := by
  unfold putT
  split
  · rw [List.length_map]; omega
  · rw [List.length_append]; exact Nat.le_refl _
theorem dc_readG {Γ : Gam} {K : PySem.W.Frag} {is vs : List Nat} {g : D → Ev → Wp Ev} {tt : Ev → Wp Bool} {tk tv : Ev → Wp D} (his : ∀ i ∈ is, i ∈ vs) {J : It} {H1 Hs1 : Hp} {ds : List D} {n1 : S} {σ : L2.St} {ρ : Ev} {q : D → S → Prop} {Q : VK}
    (s1 : Sit K n1 Hs1 H1) {G : S → Prop} (wd : WalkG K J G Hs1 ds) (r : R K ρ σ Hs1) (hl : ds.length ≤ 1000000) (h : dcG G g tt tk tv (wipeE ρ vs) [] ds n1 (fun acc n => fNewQ (.dit acc) q n) (fun _ _ => False)) (k : OkQ K Hs1 H1 q Q) (A : Addr) (hA : H1 A = none) :
    ∃ M : Nat → Nat → Hp → Prop, (∃ m, M 0 m (upd H1 A (.dT []))) ∧ ∀ i m H, M i m H → (J.stop i H ∧ Q (.ref A) H) ∨ (J.go i H ∧ ∃ Nx : Hp → Prop, (∀ H', Nx H' → ∃ m', m' < m ∧ M (i + 1) m' H') ∧
      ∀ x H', J.yld i H x H' → tgD K is g x (wipe σ vs) H' fun σ2 H2 => wipe σ2 vs = wipe σ vs ∧ ttD Γ K W0 tt σ2 H2 fun c H3 =>
        if c = true then teD Γ K W0 tk σ2 H3 fun y H4 => teD Γ K W0 tv σ2 H4 fun z H5 => ∃ kvs j b, y = .ref b ∧ H5 b = some (.tup (j.map kV)) ∧ H5 A = some (.dT kvs) ∧ kvs.length < sizeLine ∧ Nx (upd H5 A (.dT (putK kvs j z))) else Nx H3) := by
  have hAs := s1.free hA
  obtain ⟨P, hP⟩ : ∃ P : Nat → Hp → Prop, P = fun i H => ∃ (Hs : Hp) (n : S) (kvs : List (List Key × V)) (l : TL), i ≤ ds.length ∧ l.length ≤ i ∧ Ext Hs1 Hs ∧ Sit K n Hs H ∧ (∀ a o, H1 a = some o → Hs1 a = none → H a = some o ∧ Hs a = none) ∧ H A = some (.dT kvs) ∧ Hs A = none ∧ DvKt K Hs kvs l ∧
      dcG G g tt tk tv (wipeE ρ vs) l (ds.drop i) n (fun acc n => fNewQ (.dit acc) q n) (fun _ _ => False) := ⟨_, rfl⟩
  have put : ∀ {H Hs : Hp} {n : S} {l : List (List Key × V)}, Sit K n Hs H → Hs A = none → Sit K n Hs (upd H A (.dT l)) := fun {H Hs n l} s e => s.ownU e rfl
  refine ⟨fun i m H => m = ds.length - i ∧ P i H, ⟨_, rfl, ?_⟩, ?_⟩
  · rw [hP]
    refine ⟨Hs1, n1, [], [], Nat.zero_le _, Nat.le_refl _, .refl _, put s1 hAs, fun a o e1 e2 => ⟨?_, e2⟩, upd_same, hAs, .nil, h⟩
    rw [upd_ne (ne_of_none e1 hA)]; exact e1
  · rintro i m H ⟨rfl, hPi⟩
    rw [hP] at hPi
    obtain ⟨Hs, n, kvs, l, hi, hal, he, s, own, hAl, hAn, g1, h⟩ := hPi
    by_cases hlt : i < ds.length
    · rw [drop_cons (List.getElem?_eq_getElem hlt)] at h
      obtain ⟨hG, h⟩ := h
      refine .inr ⟨wd.go i n Hs H he s hG hlt, P (i + 1), fun H' p => ⟨ds.length - (i + 1), by omega, rfl, p⟩, fun x H' hy => ?_⟩
      obtain ⟨Hs', d, hd, g2, s2, hv⟩ := wd.yld i n Hs H x H' he s hG hlt hy
      have ed : ds[i] = d := by rw [List.getElem?_eq_getElem hlt] at hd; exact Option.some.inj hd
      rw [ed] at h
      obtain ⟨hAl2, hAn2⟩ := g2.own A _ hAl hAn
      refine ⟨n, Hs', wipeE ρ vs, d, _, _, s2, (r.ext (he.trans g2.ext)).wipe vs, hv, h, fun ρ3 σ3 r3 z3 h3 => ⟨by rw [z3 vs his]; exact wipe2 σ vs, ?_⟩⟩
      refine ⟨n, Hs', ρ3, _, _, s2, r3, h3, fun c H3 Hs3 n3 g3 s3 h4 => ?_, fun _ _ _ _ _ _ _ _ _ z => z⟩
      obtain ⟨hAl3, hAn3⟩ := g3.own A _ hAl2 hAn2
      have ownN : ∀ {H4 Hs4 : Hp}, Go Hs3 H3 Hs4 H4 → ∀ a o, H1 a = some o → Hs1 a = none → H4 a = some o ∧ Hs4 a = none := fun {H4 Hs4} g4 a o e1 e2 => by
        obtain ⟨f1, f2⟩ := own a o e1 e2
        exact (g2.trans (g3.trans g4)).own a o f1 f2
      cases c with
      | true =>
        rw [if_pos rfl]
        refine ⟨n3, Hs3, ρ3, _, _, s3, r3.ext g3.ext, h4, fun y H4 Hs4 e n4 g4 s4 hy4 h5 => ?_, fun _ _ _ _ _ _ _ _ _ z => z⟩
        refine ⟨n4, Hs4, ρ3, _, _, s4, r3.ext (g3.trans g4).ext, h5, fun z H5 Hs5 f n5 g5 s5 hz5 h6 => ?_, fun _ _ _ _ _ _ _ _ _ z => z⟩
        obtain ⟨j, rfl, h6⟩ := h6
        obtain ⟨b, rfl, hb⟩ := key_at s5 (hy4.ext g5.ext)
        obtain ⟨hAl5, hAn5⟩ := (g4.trans g5).own A _ hAl3 hAn3
        refine ⟨kvs, j.map Sum.inl, b, rfl, hb, hAl5, by rw [g1.length, sizeLine_eq]; omega, ?_⟩
        rw [hP]
        have E5 := g2.ext.trans (g3.ext.trans (g4.ext.trans g5.ext))
        refine ⟨Hs5, n5, _, putT l j f, hlt, Nat.le_trans (putT_len l j f) (Nat.succ_le_succ hal), he.trans E5, put s5 hAn5, fun a o e1 e2 => ?_, upd_same, hAn5, (g1.ext E5).put hz5, h6⟩
        obtain ⟨f1, f2⟩ := ownN (g4.trans g5) a o e1 e2
        rw [upd_ne (ne_of_none e1 hA)]; exact ⟨f1, f2⟩
      | false =>
        rw [if_neg Bool.false_ne_true, hP]
        have E3 := g2.ext.trans g3.ext
        exact ⟨Hs3, n3, kvs, l, hlt, Nat.le_succ_of_le hal, he.trans E3, s3, ownN (.refl _ _), hAl3, hAn3, g1.ext E3, h4⟩
    · have e : i = ds.length := by omega
      subst e
      rw [List.drop_length] at h
      obtain ⟨hG, h⟩ := h
      refine .inl ⟨wd.stop n Hs H he s hG, ?_⟩
      have hs : Ext Hs (upd Hs A MK) := mk_ext hAn
      have sA := s.adopt (m := .dit l) hAn hAl ⟨kvs, hAl, g1.ext hs⟩
      refine k _ H (upd Hs A MK) (.mref A) _ ⟨he.trans hs, fun a o e1 e2 => ?_⟩ sA (.mref A) (h A (s.muFree hAn))
      obtain ⟨f1, f2⟩ := own a o e1 e2
      rw [upd_ne (ne_of_none e1 hA)]; exact ⟨f1, f2⟩
section
variable {Γ : Gam} {X : Cx} {W : WX} {tg : Expr} {pos : Pos}
theorem d_dcG {kx vx it : Expr} {ifs : List Expr} {scope : Scope} {own : List (Str × Nat)} {ti : Ev → Wp LG} {g : D → Ev → Wp Ev} {tt : Ev → Wp Bool} {tk tv : Ev → Wp D} {is : List Nat} (hu : X.A.units + 1 < cLine) (hN : X.N.Nodup) (ok : BlkOk X.N X.env.scope scope own) (hi : DIG Γ X W tg it ti)
    (hg : ∀ (u : Shared) (G : Hp) (B : Addr) (cl : List (Str × Addr)) (fp : List Addr), DG (X.blk u G scope (compEnvC scope cl B X.env) fp) tg is g)
    (ht : ∀ (u : Shared) (G : Hp) (B : Addr) (cl : List (Str × Addr)) (fp : List Addr), DTs Γ (X.blk u G scope (compEnvC scope cl B X.env) fp) W0 ifs tt)
    (hk : ∀ (u : Shared) (G : Hp) (B : Addr) (cl : List (Str × Addr)) (fp : List Addr), DE Γ (X.blk u G scope (compEnvC scope cl B X.env) fp) W0 kx tk)
    (hv : ∀ (u : Shared) (G : Hp) (B : Addr) (cl : List (Str × Addr)) (fp : List Addr), DE Γ (X.blk u G scope (compEnvC scope cl B X.env) fp) W0 vx tv)
    (his : ∀ i ∈ is, i ∈ own.map (·.2) := by decide) (hc : X.calm = true := by rfl) (hs : ∀ x, foldedSetIterable it X.env x = pure x := by intro _; rfl) :
    DE Γ X W (.DictComp kx vx [⟨tg, it, ifs, 0⟩] scope pos) (tdcG ti g tt tk tv (own.map (·.2))) := by
  obtain ⟨wi, pi, fi⟩ := hi
  refine ⟨_, pe_dcT (g := tgD X.K is g) (tt := ttD Γ X.K W0 tt) (tk := teD Γ X.K W0 tk) (tv := teD Γ X.K W0 tv) hu hc hN pi ok (fun u G B cl fp => (hg u G B cl fp).pg) (fun u G B cl fp => ht u G B cl fp) (fun u G B cl fp => (hk u G B cl fp).pe) (fun u G B cl fp => (hv u G B cl fp).pe) hs, fun σ H Hs ρ n q x Q s r h k ke => fi σ H Hs ρ n _ x _ s r h (fun J H1 Hs1 lg n1 g1 s1 wd h1 => ?_) ke⟩
  exact fun A hA => dc_readG his s1 wd (r.ext g1.ext) h1.1 h1.2 (k.go g1) A hA
end
end OE
/-! ### d.items() of a locked dict with tuple keys -/
namespace OE
open PySem PySem.Spec PyProof.Rows L2
variable [TN]
noncomputable def Itit (d : Addr) (o : Obj) (kvs : List (List Key × V)) : It :=
  ⟨fun i H => H d = some (.frz o (.dT kvs)) ∧ i < kvs.length, fun i H x H' => ∃ T b k v, kvs[i]? = some (k, v) ∧ x = .ref T ∧ H T = none ∧ H b = some (.tup (k.map kV)) ∧ H' = upd H T (.tup [.ref b, v]), fun i H => H d = some (.frz o (.dT kvs)) ∧ kvs.length ≤ i⟩
section
variable {X : Cx} {pins : List (Addr × Obj)} {σ : L2.St} {H : Hp} {s : Shared} {d : Addr} {o : Obj}
/-- what a locked dict with tuple keys is -/
theorem frz_at {kvs : List (List Key × V)} (J : Inv X pins σ H s) (h : H d = some (.frz o (.dT kvs))) : (d == sysModules) = false ∧ ∃ (es : Array DictEntry) (ep : Nat), o.data = .dict es ep ∧ DT.Raw s.heap d es ep ∧ es.size = kvs.length ∧
    ∀ (i : Nat) (k : List Key) (v : V), kvs[i]? = some (k, v) → ∃ (en : DictEntry) (b : Addr), es[i]? = some en ∧ en.key = .ref b ∧ H b = some (.tup (k.map kV)) ∧ RelV v en.val := by
  obtain ⟨at', _, hs, xs, pr, o', es, ep, ho, hx, hdt, he, _⟩ := J.hok d _ h
  rw [at'] at ho
  cases ho
  refine ⟨hs, es, ep, hdt, ⟨o, at', hx, hdt⟩, ?_, fun i k v e => ?_⟩
  · have l1 : es.size = xs.length := size_of_entries he
    have l2 : kvs.length = xs.length := Paired.length pr
    omega
  · obtain ⟨b, hb, e1, e2, e3⟩ := paired_get pr e
    have q := entry_at he i
    rw [hb] at q
    exact ⟨_, b.2.1, q, rfl, e2, e3⟩
end
section
variable {P : Program} {w : World} {K : PySem.W.Frag} {d : Addr} {o : Obj} {es : Array DictEntry} {ep : Nat}
theorem turn_itemsT {kvs : List (List Key × V)} {elts : List Expr} {kk : Nat} {tpos : Pos} (it : Addr) (hod : o.data = .dict es ep) :
    Turn P w K (.Tuple elts kk tpos) (Itit d o kvs) [it] it (fun i h => ∃ y z, IsItemIter h it d i kvs.length ep y z) where
  mem := List.mem_singleton.mpr rfl
  obj := fun i h st b hb => by
    obtain rfl := List.mem_singleton.mp hb
    obtain ⟨y, z, e⟩ := st
    exact ⟨_, e, fun v q => nomatch q⟩
  keep := fun i h h' ⟨y, z, e⟩ k => ⟨y, z, k it (List.mem_singleton.mpr rfl) _ e⟩
  item := by
    intro X hP hw hK hc i pn u σ G E J hf st hg
    subst hP hw hK
    obtain ⟨hd, hi⟩ := hg
    obtain ⟨hs, es', ep', hdt, raw, hsz, ent⟩ := frz_at J hd
    obtain ⟨rfl, rfl⟩ := dict_ep hod hdt
    obtain ⟨⟨k, v⟩, hkv⟩ : ∃ p, kvs[i]? = some p := ⟨kvs[i], List.getElem?_eq_getElem hi⟩
    obtain ⟨en, b, hen, hkey, hb, rv⟩ := ent i k v hkv
    obtain ⟨y, z, he⟩ := st
    rw [← hsz] at he
    have hlt : it < u.heap.objs.size := Heap.lt_size he
    have hi' : i < es'.size := by omega
    have ee : es'[i] = en := by rw [Array.getElem?_eq_getElem hi'] at hen; exact Option.some.inj hen
    refine DT.nextI he raw hi' fun h' ho hT hz hk => ?_
    rw [ee] at ho hT
    refine ⟨_, rfl, wpAny_letOwnedTupleGo_items (s := { u with heap := h' }) ho fun h'' he' sb => ?_⟩
    have hT2 : h''.get? u.heap.objs.size = some { cls := .type "tuple", data := .seq #[en.key, en.val] } := (sb.2 _ (Nat.ne_of_gt hlt)).trans hT
    have new : ObjOk X.prog X.w (upd G u.heap.objs.size (.tup [.ref b, v])) h'' u.heap.objs.size (.tup [.ref b, v]) :=
      ⟨by show 2 ≤ sizeLine; decide, [en.key, en.val], .cons hkey (.cons rv .nil), ⟨_, hT2, rfl, _, rfl⟩⟩
    have J1 := J.turnedNew (t' := u.toks) (ch := [it]) (fun c ob hc' e => (sb.2 c (by simpa using hc')).trans (hk c ob (by simpa using hc') e)) hf (Nat.le_refl _) new
    refine ⟨.ref u.heap.objs.size, _, J1, rfl, ⟨_, b, k, v, hkv, rfl, J.hok.fresh (Nat.le_refl _), hb, rfl⟩, ⟨en.key, en.val, by rw [← hsz]; exact he'⟩, fun c hc' => ?_⟩
    obtain rfl := List.mem_singleton.mp hc'
    rw [upd_ne (Nat.ne_of_lt hlt)]
    exact (hf _ (List.mem_singleton.mpr rfl)).1
  done := by
    intro X hP hw hK hc i pn u σ G E J hf st hg
    subst hP hw hK
    obtain ⟨hd, hi⟩ := hg
    obtain ⟨f0, f1, f2, f3, f4, f5⟩ := hf it (List.mem_singleton.mpr rfl)
    obtain ⟨hs, es', ep', hdt, raw, hsz, ent⟩ := frz_at J hd
    obtain ⟨rfl, rfl⟩ := dict_ep hod hdt
    obtain ⟨y, z, he⟩ := st
    rw [← hsz] at he
    exact DT.endI (J.ok.hd hc) he raw (by omega) fun h' eb => ⟨rfl, J.turned (t' := u.toks) (fun c ob hc' e => eb c ob hc' e) f0 f1 f3 f4 f5⟩
  self := fun A i u Q E ⟨_, _, e⟩ h => PySem.W.kcp_self e h
end
noncomputable def wItemsT (td : TE) : TI := fun σ H Rr => td σ H fun x H1 => ∃ d o kvs, x = .ref d ∧ H1 d = some (.frz o (.dT kvs)) ∧ Rr (Itit d o kvs) H1
theorem pi_itemsT {X : Cx} {e : Expr} {td : TE} {apos cpos tpos : Pos} {elts : List Expr} {kk : Nat} (he : PE X e td) (hbase : attributeBase e "items" X.env (eval e X.env) = eval e X.env := by rfl) (hline : (apos.endLine == cpos.line) = true := by rfl) :
    PI X (.Tuple elts kk tpos) (.Call (.Attribute e "items" apos) [] [] cpos) (wItemsT td) := by
  refine ⟨fun pn u σ G Rr J h => ?_⟩
  refine wpAny_Call_method (T := "dict") (id := "dict.items") hbase rfl hline F.plainAttrs_dict F.slot_dict_items F.type_dict_items (thn (he.run pn u σ G _ J h) fun v u1 hh => ?_)
  obtain ⟨x, G1, J1, rx, d, o, kvs, rfl, hd, q⟩ := hh
  obtain rfl : v = Value.ref d := rx
  obtain ⟨hs, es, ep, hdt, raw, hsz, ent⟩ := frz_at J1 hd
  obtain ⟨o', ho', hx, hdat⟩ := id raw
  refine ⟨raw.typeIs, fun b hb => ⟨o', by cases hb; exact ho', hx.2.1⟩, ?_⟩
  have J2 : Inv X pn σ G1 { u1 with heap := u1.heap.push { cls := .type "dict_items", data := .fields #[.ref d] } } := J1.kept (t' := u1.toks) fun _ _ z => Heap.get?_push_of_some _ z
  have fin : wpAny (model X.prog X.w) X.A (pyIter (.ref u1.heap.objs.size)) (PIE X pn σ (.Tuple elts kk tpos) Rr) X.xe { u1 with heap := u1.heap.push { cls := .type "dict_items", data := .fields #[.ref d] } } :=
    DT.iterI (d := d) ⟨_, Heap.get?_push_size _ rfl, rfl, rfl⟩ (raw.push _) (pi_one (tk := u1.toks) J2 _ (turn_itemsT _ hdt) ⟨.none, .none, by rw [← hsz]; exact Heap.get?_push_size _ rfl⟩ q)
  show wpAny _ _ (callWith cpos (.builtin "dict.items") [.ref d] [] []) _ X.xe u1
  exact method_meetsIn F.slot_dict_items F.entry_dict_items rfl (PySem.evalArgs_none ⟨rfl, raw.typeIs, F.args_dict_items_1 _, _, DT.meetsItems (es := es) (ep := ep) hs, raw, fin⟩)
/-- the pairs of a locked dict -/
noncomputable def itemsI : D → Wp LG
  | .mref a => fun n q _ => ∃ u l, n.mu a = some (.lit u l) ∧ q (l.map fun p => .tup [.tup (p.1.map D.int), p.2], fun s => s.mu a = some (.lit u l)) n
  | _ => Wp.stuck
noncomputable def titems (t : Ev → Wp D) : Ev → Wp LG := fun ρ => Wp.bind (t ρ) itemsI
theorem walk_items {K : PySem.W.Frag} {p : Addr} {Hs : Hp} {l : TL} {o : Obj} {kvs : List (List Key × V)} : WalkG K (Itit p o kvs) (fun s => s.mu p = some (.lit (.frz o (.dT kvs)) l)) Hs (l.map fun p => .tup [.tup (p.1.map D.int), p.2]) := by
  have rd : ∀ {n : S} {Hs1 H : Hp}, Sit K n Hs1 H → n.mu p = some (.lit (.frz o (.dT kvs)) l) → H p = some (.frz o (.dT kvs)) ∧ DvKt K Hs1 kvs l := fun {n Hs1 H} s g => by
    obtain ⟨_, h1, o', kvs', e, h2⟩ := s.muts p _ g
    cases e
    exact ⟨h1, h2⟩
  refine ⟨fun i n Hs1 H e s g hi => ?_, fun n Hs1 H e s g => ?_, fun i n Hs1 H x H' e s g hi y => ?_⟩
  · obtain ⟨h1, h2⟩ := rd s g
    exact ⟨h1, by rw [h2.length]; simpa using hi⟩
  · obtain ⟨h1, h2⟩ := rd s g
    exact ⟨h1, by rw [h2.length]; simp⟩
  · obtain ⟨T, b, k, v, h3, rfl, hT, hb, rfl⟩ := y
    obtain ⟨h1, h2⟩ := rd s g
    obtain ⟨w, h5, rfl, hv⟩ := h2.get h3
    have kd : Dv K Hs1 (.ref b) (.tup (w.1.map D.int)) := .tup (s.tups _ _ hb) (by rw [ints_kV]; exact ints_dv _)
    obtain ⟨s2, g2, v2⟩ := new_tup s hT (.cons kd (.cons hv .nil))
    exact ⟨_, _, by rw [List.getElem?_map, h5]; rfl, g2, s2, v2⟩
theorem dig_items {Γ : Gam} {X : Cx} {W : WX} {a : Expr} {ta : Ev → Wp D} {apos cpos tpos : Pos} {elts : List Expr} {kk : Nat} (ha : DE Γ X W a ta) (hbase : attributeBase a "items" X.env (eval a X.env) = eval a X.env := by rfl) (hline : (apos.endLine == cpos.line) = true := by rfl) :
    DIG Γ X W (.Tuple elts kk tpos) (.Call (.Attribute a "items" apos) [] [] cpos) (titems ta) := by
  obtain ⟨ea, pa, fa⟩ := ha
  refine ⟨_, pi_itemsT pa hbase hline, fun σ H Hs ρ n q x Q s r h k ke => fa σ H Hs ρ n _ x _ s r h (fun v H1 Hs1 d n1 g1 s1 hv h1 => ?_) ke⟩
  cases hv with
  | mref p =>
    obtain ⟨u, l, h2, h3⟩ := h1
    obtain ⟨_, h4, o, kvs, rfl, h5⟩ := s1.muts p _ h2
    exact ⟨p, o, kvs, rfl, h4, k _ H1 Hs1 (_, _) n1 g1 s1 walk_items h3⟩
  | _ => exact (show False from h1).elim
end OE
/-! ### a dict locked for good -/
namespace OE
open PySem PySem.Spec L2
variable [TN]
variable {Γ : Gam} {X : Cx} {W : WX} {st : List Stmt} {t : Ev → Wp Out}
theorem pss_lock {ts : TS} (h : PSs X st ts) : PSs X st (fun D σ H => ∃ d u, H d = some u ∧ Mut (some u) ∧ ∀ od, ts D σ (upd H d (.frz od u))) := by
  refine ⟨fun pn u σ H D J w => ?_⟩
  obtain ⟨d, v, hd, mu, w⟩ := w
  obtain ⟨od, J1⟩ := J.lock hd mu
  exact h.run pn u σ _ _ J1 (w od)
theorem db_lock (h : DB Γ X W st t) : DB Γ X W st (tlkB t) := by
  obtain ⟨ts, ps, fs⟩ := h
  refine ⟨_, pss_lock ps, fun σ H Hs ρ n q x E s r h k ke => ?_⟩
  obtain ⟨p, l, hp, h⟩ := h
  obtain ⟨kvs, hk, lk⟩ := s.lockd hp
  refine ⟨p, .dT kvs, hk, trivial, fun od => ?_⟩
  obtain ⟨s1, g1⟩ := lk od
  exact fs σ _ Hs ρ _ _ x _ s1 r (h _) (k.go g1) (ke.go g1)
end OE
/-! ### list(d); [.. for ..] under a guard that makes a list that will change -/
namespace OE
open PySem PySem.Spec L2
variable [TN]
noncomputable def tmlcG (ti : Ev → Wp LG) (g : D → Ev → Wp Ev) (tt : Ev → Wp Bool) (te : Ev → Wp D) (vs : List Nat) : Ev → Wp D := fun ρ => Wp.bind (ti ρ) fun l => Wp.bind (Wp.ask (l.1.length ≤ 1000000)) fun _ =>
  Wp.bind (Wp.calm (lcG l.2 g tt te (wipeE ρ vs) l.1)) fun ys => fNew (.lst ys)
theorem lc_readMG {Γ : Gam} {K : PySem.W.Frag} {is vs : List Nat} {g : D → Ev → Wp Ev} {tt : Ev → Wp Bool} {te : Ev → Wp D} (his : ∀ i ∈ is, i ∈ vs) {J : It} {H1 Hs1 : Hp} {ds : List D} {n1 : S} {σ : L2.St} {ρ : Ev} {q : D → S → Prop} {Q : VK}
    (s1 : Sit K n1 Hs1 H1) {G : S → Prop} (wd : WalkG K J G Hs1 ds) (r : R K ρ σ Hs1) (hl : ds.length ≤ 1000000) (h : lcG G g tt te (wipeE ρ vs) ds n1 (fun ys n => fNewQ (.lst ys) q n) (fun _ _ => False)) (k : OkQ K Hs1 H1 q Q) (A : Addr) (hA : H1 A = none) :
    ∃ W : Nat → Nat → Hp → Prop, (∃ m, W 0 m (upd H1 A (.lst []))) ∧ ∀ i m H, W i m H → (J.stop i H ∧ Q (.ref A) H) ∨ (J.go i H ∧ ∃ Nx : Hp → Prop, (∀ H', Nx H' → ∃ m', m' < m ∧ W (i + 1) m' H') ∧
      ∀ x H', J.yld i H x H' → tgD K is g x (wipe σ vs) H' fun σ2 H2 => wipe σ2 vs = wipe σ vs ∧ ttD Γ K W0 tt σ2 H2 fun b H3 =>
        if b = true then teD Γ K W0 te σ2 H3 fun y H4 => ∃ acc, H4 A = some (.lst acc) ∧ acc.length < sizeLine ∧ Nx (upd H4 A (.lst (acc ++ [y]))) else Nx H3) := by
  have hAs := s1.free hA
  obtain ⟨P, hP⟩ : ∃ P : Nat → Hp → Prop, P = fun i H => ∃ (Hs : Hp) (n : S) (acc : List V) (ad : List D), i ≤ ds.length ∧ acc.length ≤ i ∧ Ext Hs1 Hs ∧ Sit K n Hs H ∧ (∀ a o, H1 a = some o → Hs1 a = none → H a = some o ∧ Hs a = none) ∧ H A = some (.lst acc) ∧ Hs A = none ∧ DvAll K Hs acc ad ∧
      lcG G g tt te (wipeE ρ vs) (ds.drop i) n (fun ys n => fNewQ (.lst (ad ++ ys)) q n) (fun _ _ => False) := ⟨_, rfl⟩
  have put : ∀ {H Hs : Hp} {n : S} {l : List V}, Sit K n Hs H → Hs A = none → Sit K n Hs (upd H A (.lst l)) := fun {H Hs n l} s e => s.ownU e rfl
  refine ⟨fun i m H => m = ds.length - i ∧ P i H, ⟨_, rfl, ?_⟩, ?_⟩
  · rw [hP]
    refine ⟨Hs1, n1, [], [], Nat.zero_le _, Nat.le_refl _, .refl _, put s1 hAs, fun a o e1 e2 => ⟨?_, e2⟩, upd_same, hAs, .nil, h⟩
    rw [upd_ne (ne_of_none e1 hA)]; exact e1
  · rintro i m H ⟨rfl, hPi⟩
    rw [hP] at hPi
    obtain ⟨Hs, n, acc, ad, hi, hal, he, s, own, hAl, hAn, g1, h⟩ := hPi
    by_cases hlt : i < ds.length
    · rw [drop_cons (List.getElem?_eq_getElem hlt)] at h
      obtain ⟨hG, h⟩ := h
      refine .inr ⟨wd.go i n Hs H he s hG hlt, P (i + 1), fun H' p => ⟨ds.length - (i + 1), by omega, rfl, p⟩, fun x H' hy => ?_⟩
      obtain ⟨Hs', d, hd, g2, s2, hv⟩ := wd.yld i n Hs H x H' he s hG hlt hy
      have ed : ds[i] = d := by rw [List.getElem?_eq_getElem hlt] at hd; exact Option.some.inj hd
      rw [ed] at h
      obtain ⟨hAl2, hAn2⟩ := g2.own A _ hAl hAn
      refine ⟨n, Hs', wipeE ρ vs, d, _, _, s2, (r.ext (he.trans g2.ext)).wipe vs, hv, h, fun ρ3 σ3 r3 z3 h3 => ⟨by rw [z3 vs his]; exact wipe2 σ vs, ?_⟩⟩
      refine ⟨n, Hs', ρ3, _, _, s2, r3, h3, fun c H3 Hs3 n3 g3 s3 h4 => ?_, fun _ _ _ _ _ _ _ _ _ z => z⟩
      obtain ⟨hAl3, hAn3⟩ := g3.own A _ hAl2 hAn2
      have ownN : ∀ {H4 Hs4 : Hp}, Go Hs3 H3 Hs4 H4 → ∀ a o, H1 a = some o → Hs1 a = none → H4 a = some o ∧ Hs4 a = none := fun {H4 Hs4} g4 a o e1 e2 => by
        obtain ⟨f1, f2⟩ := own a o e1 e2
        exact (g2.trans (g3.trans g4)).own a o f1 f2
      cases c with
      | true =>
        rw [if_pos rfl]
        refine ⟨n3, Hs3, ρ3, _, _, s3, r3.ext g3.ext, h4, fun y H4 Hs4 e n4 g4 s4 hy4 h5 => ?_, fun _ _ _ _ _ _ _ _ _ z => z⟩
        obtain ⟨hAl4, hAn4⟩ := g4.own A _ hAl3 hAn3
        refine ⟨acc, hAl4, by rw [sizeLine_eq]; omega, ?_⟩
        rw [hP]
        have E4 := g2.ext.trans (g3.ext.trans g4.ext)
        refine ⟨Hs4, n4, acc ++ [y], ad ++ [e], hlt, by rw [List.length_append]; exact Nat.succ_le_succ hal, he.trans E4, put s4 hAn4, fun a o e1 e2 => ?_, upd_same, hAn4, (g1.ext E4).append (.cons hy4 .nil), ?_⟩
        · obtain ⟨f1, f2⟩ := ownN g4 a o e1 e2
          rw [upd_ne (ne_of_none e1 hA)]; exact ⟨f1, f2⟩
        · have e5 : (fun (ys : List D) (n : S) => fNewQ (.lst (ad ++ [e] ++ ys)) q n) = fun ys n => fNewQ (.lst (ad ++ e :: ys)) q n := by funext ys n; rw [List.append_assoc]; rfl
          rw [e5]; exact h5
      | false =>
        rw [if_neg Bool.false_ne_true, hP]
        have E3 := g2.ext.trans g3.ext
        exact ⟨Hs3, n3, acc, ad, hlt, Nat.le_succ_of_le hal, he.trans E3, s3, ownN (.refl _ _), hAl3, hAn3, g1.ext E3, h4⟩
    · have e : i = ds.length := by omega
      subst e
      rw [List.drop_length] at h
      obtain ⟨hG, h⟩ := h
      refine .inl ⟨wd.stop n Hs H he s hG, ?_⟩
      have hs : Ext Hs (upd Hs A MK) := mk_ext hAn
      have sA := s.adopt (m := .lst ad) hAn hAl ⟨acc, hAl, g1.ext hs⟩
      rw [List.append_nil] at h
      refine k _ H (upd Hs A MK) (.mref A) _ ⟨he.trans hs, fun a o e1 e2 => ?_⟩ sA (.mref A) (h A (s.muFree hAn))
      obtain ⟨f1, f2⟩ := own a o e1 e2
      rw [upd_ne (ne_of_none e1 hA)]; exact ⟨f1, f2⟩
section
variable {Γ : Gam} {X : Cx} {W : WX} {tg : Expr} {pos : Pos}
theorem d_mlcG {elt it : Expr} {ifs : List Expr} {scope : Scope} {own : List (Str × Nat)} {ti : Ev → Wp LG} {g : D → Ev → Wp Ev} {tt : Ev → Wp Bool} {te : Ev → Wp D} {is : List Nat} (hN : X.N.Nodup) (ok : BlkOk X.N X.env.scope scope own) (hi : DIG Γ X W tg it ti)
    (hg : ∀ (s : Shared) (H : Hp) (C : Addr) (cl : List (Str × Addr)) (fp : List Addr), DG (X.blk s H scope (compEnvC scope cl C X.env) fp) tg is g)
    (ht : ∀ (s : Shared) (H : Hp) (C : Addr) (cl : List (Str × Addr)) (fp : List Addr), DTs Γ (X.blk s H scope (compEnvC scope cl C X.env) fp) W0 ifs tt)
    (he : ∀ (s : Shared) (H : Hp) (C : Addr) (cl : List (Str × Addr)) (fp : List Addr), DE Γ (X.blk s H scope (compEnvC scope cl C X.env) fp) W0 elt te)
    (his : ∀ i ∈ is, i ∈ own.map (·.2) := by decide) (hc : X.calm = true := by rfl) (hs : ∀ x, foldedSetIterable it X.env x = pure x := by intro _; rfl) :
    DE Γ X W (.ListComp elt [⟨tg, it, ifs, 0⟩] scope pos) (tmlcG ti g tt te (own.map (·.2))) := by
  obtain ⟨wi, pi, fi⟩ := hi
  refine ⟨_, pe_lc (g := tgD X.K is g) (tt := ttD Γ X.K W0 tt) (te := teD Γ X.K W0 te) hc hN pi ok (fun s H C cl fp => (hg s H C cl fp).pg) (fun s H C cl fp => ht s H C cl fp) (fun s H C cl fp => (he s H C cl fp).pe) hs, fun σ H Hs ρ n q x Q s r h k ke => fi σ H Hs ρ n _ x _ s r h (fun J H1 Hs1 lg n1 g1 s1 wd h1 => ?_) ke⟩
  exact fun A hA => lc_readMG his s1 wd (r.ext g1.ext) h1.1 h1.2 (k.go g1) A hA
end
end OE
/-! ### methods and makers from their bodies; what a def leaves behind is dropped -/
namespace OE
open PySem PySem.Spec L2
variable [TN]
section
variable {Γ : Gam} {P : Program} {w : World} {K : PySem.W.Frag} {mg : Str → Option Value} {base : Heap}
theorem fnG_body {k m : Nat} {f : Addr} {x qual : Str} {st : Stmt} {fd : FuncData} {N ps : List Str} {t : Ev → Wp Out} (F : Fun K x qual st f fd) (S : FnScope N ps (defScope st)) (hps : ps.length = m)
    (h : ∀ (cdv : Value), fd.code = cdv → ∀ (A : Around) (outer : List Env) (s : Shared) (H : Hp) (E : XK), Room k (cxOf (L2.CX P w) P w K mg base N qual (defScope st) f cdv A outer s H E).A → (cxOf (L2.CX P w) P w K mg base N qual (defScope st) f cdv A outer s H E).A.guards = some [] →
      Takes (cxOf (L2.CX P w) P w K mg base N qual (defScope st) f cdv A outer s H E) (wOf E) → PassesOwn (model P w) (cxOf (L2.CX P w) P w K mg base N qual (defScope st) f cdv A outer s H E).A (cxOf (L2.CX P w) P w K mg base N qual (defScope st) f cdv A outer s H E).env (cxOf (L2.CX P w) P w K mg base N qual (defScope st) f cdv A outer s H E).xe →
      DB Γ (cxOf (L2.CX P w) P w K mg base N qual (defScope st) f cdv A outer s H E) (wOf E) (defBody st) t) : FnG P w K mg base (k + 1) f fd ps (spW K Γ m (runDef N.length t)) := by
  refine fnG_of F S (fun vs H Q E ⟨n, Hs, ds, q, x, h1, _, h3, _⟩ => by rw [h3.length, h1, hps]) (fun cdv hcd A outer s H vs Q E hr hg ⟨n, Hs, ds, q, x, h1, h2, h3, h4, h5, h6⟩ => ?_)
  obtain ⟨ts, p, g⟩ := h cdv hcd A outer s H E hr hg (takes_of rfl rfl rfl rfl) (passes_of rfl)
  refine ⟨ts, p, g (start N vs) H Hs (startE N.length ds) n _ x _ h2 (r_start h3) h4 (fun o n' H' Hs' g' s' hq => ?_) (fun σ => h6)⟩
  cases o with
  | nx ρ => exact fun σ _ => h5 .non H' Hs' .non n' g' s' .non hq
  | rt d => exact fun v hv => h5 v H' Hs' d n' g' s' hv hq
  | bk ρ => exact (show False from hq).elim
  | ct ρ => exact (show False from hq).elim
/-- a method from its body -/
theorem fnM_of {k m : Nat} {f C : Addr} {c x qual : Str} {st : Stmt} {fd : FuncData} {N ps : List Str} {t : Ev → Wp Out} (F : Fun K x qual st f fd) (hC : Γ c = some C) (hc : Cls K C) (me : Meth K C x f) (hb : Binds K fd ps []) (S : FnScope N ps (defScope st)) (hps : ps.length = m)
    (h : ∀ (cdv : Value), fd.code = cdv → ∀ (A : Around) (outer : List Env) (s : Shared) (H : Hp) (E : XK), Room k (cxOf (L2.CX P w) P w K mg base N qual (defScope st) f cdv A outer s H E).A → (cxOf (L2.CX P w) P w K mg base N qual (defScope st) f cdv A outer s H E).A.guards = some [] →
      Takes (cxOf (L2.CX P w) P w K mg base N qual (defScope st) f cdv A outer s H E) (wOf E) → PassesOwn (model P w) (cxOf (L2.CX P w) P w K mg base N qual (defScope st) f cdv A outer s H E).A (cxOf (L2.CX P w) P w K mg base N qual (defScope st) f cdv A outer s H E).env (cxOf (L2.CX P w) P w K mg base N qual (defScope st) f cdv A outer s H E).xe →
      DB Γ (cxOf (L2.CX P w) P w K mg base N qual (defScope st) f cdv A outer s H E) (wOf E) (defBody st) t) : FnM Γ P w K mg base c x (k + 1) m (runDef N.length t) :=
  ⟨C, f, fd, ps, hC, hc, me, hps, fnG_body F S hps h, hb⟩
/-- __init__ from its body -/
theorem fnI_of {k m : Nat} {f C : Addr} {c x qual : Str} {st : Stmt} {fd : FuncData} {N ps : List Str} {t : Ev → Wp Out} (F : Fun K x qual st f fd) (hC : Γ c = some C) (hm : mg c = some (.ref C)) (mk : Mk K C f) (hb : Binds K fd ps []) (S : FnScope N ps (defScope st)) (hps : ps.length = m)
    (h : ∀ (cdv : Value), fd.code = cdv → ∀ (A : Around) (outer : List Env) (s : Shared) (H : Hp) (E : XK), Room k (cxOf (L2.CX P w) P w K mg base N qual (defScope st) f cdv A outer s H E).A → (cxOf (L2.CX P w) P w K mg base N qual (defScope st) f cdv A outer s H E).A.guards = some [] →
      Takes (cxOf (L2.CX P w) P w K mg base N qual (defScope st) f cdv A outer s H E) (wOf E) → PassesOwn (model P w) (cxOf (L2.CX P w) P w K mg base N qual (defScope st) f cdv A outer s H E).A (cxOf (L2.CX P w) P w K mg base N qual (defScope st) f cdv A outer s H E).env (cxOf (L2.CX P w) P w K mg base N qual (defScope st) f cdv A outer s H E).xe →
      DB Γ (cxOf (L2.CX P w) P w K mg base N qual (defScope st) f cdv A outer s H E) (wOf E) (defBody st) t) : FnI Γ P w K mg base c (k + 1) m (runDef N.length t) :=
  ⟨C, f, fd, ps, hC, hm, mk, hps, fnG_body F S hps h, hb⟩
/-- what a def leaves behind and nobody wants is dropped -/
noncomputable def gcF (F : List D → Wp D) : List D → Wp D := fun ds n q x => F ds n (fun d s => ∃ μ : Mu, (∀ a o, μ a = some o → s.mu a = some o) ∧ q d ⟨s.n, μ⟩) fun e s => ∃ μ : Mu, (∀ a o, μ a = some o → s.mu a = some o) ∧ x e ⟨s.n, μ⟩
theorem Fn.gc {x : Str} {k m : Nat} {F : List D → Wp D} (h : Fn Γ P w K mg base x k m F) : Fn Γ P w K mg base x k m (gcF F) := by
  obtain ⟨f, fd, ps, h1, h2, h3⟩ := h
  refine ⟨f, fd, ps, h1, ⟨fun vs H Q E ⟨n, Hs, ds, q, x, z1, _, z3, _⟩ => by rw [z3.length, z1, h1], fun A outer s H args us vs Q E hr hg e0 hb r ⟨n, Hs, ds, q, x, z1, z2, z3, z4, z5, z6⟩ => ?_⟩, h3⟩
  refine h2.run A outer s H args us vs Q E hr hg e0 hb r ⟨n, Hs, ds, _, _, z1, z2, z3, z4, fun v H' Hs' d n' g s' hv hq => ?_, fun e cl dd H' Hs' n' g s' hr hq => ?_⟩
  · obtain ⟨μ, k1, k2⟩ := hq
    exact z5 v H' Hs' d _ g (s'.shrink k1) hv k2
  · obtain ⟨μ, k1, k2⟩ := hq
    exact z6 e cl dd H' Hs' _ g (s'.shrink k1) hr k2
theorem cls_at {c : Str} {f : Str} {C0 : Addr} (h0 : Γ c = some C0) (h1 : Cls K C0) (h2 : NoAttr K C0 f) : ∀ C, Γ c = some C → Cls K C ∧ NoAttr K C f := fun C e => by
  rw [h0] at e; cases e; exact ⟨h1, h2⟩
end
end OE
/-! ### step lemmas for OE40 .. OE49 -/
namespace OE
open PySem PySem.Spec L2
variable [TN]
section
variable {Γ : Gam} {n : S} {x : Exn → S → Prop} {ρ : Ev} {d : D} {f : Int → Int → Int} {ta tb tv : Ev → Wp D} {tl : Ev → Wp (List D)} {tg : Ev → Wp LG} {c : Ev → Wp Bool} {t : Ev → Wp Out} {q : D → S → Prop} {qo : Out → S → Prop} {qg : LG → S → Prop} {F : List D → Wp D} {cn fn : Str} {k : Nat} {g : D → Ev → Wp Ev}
noncomputable def kDp1 (ta tb : Ev → Wp D) (ρ : Ev) (q : Out → S → Prop) (x : Exn → S → Prop) (v : D) (n : S) : Prop := ta ρ n (fun d m => tb ρ m (fun k r => fDPut v d k r (fun _ m => q (.nx ρ) m) x) x) x
noncomputable def kDp2 (tb : Ev → Wp D) (ρ : Ev) (q : Out → S → Prop) (x : Exn → S → Prop) (v d : D) (n : S) : Prop := tb ρ n (fun k r => fDPut v d k r (fun _ m => q (.nx ρ) m) x) x
noncomputable def kDp3 (ρ : Ev) (q : Out → S → Prop) (x : Exn → S → Prop) (v d k : D) (n : S) : Prop := fDPut v d k n (fun _ m => q (.nx ρ) m) x
theorem s_dput : tdput ta tb tv ρ n qo x = tv ρ n (kDp1 ta tb ρ qo x) x := rfl
theorem k_dp1 : kDp1 ta tb ρ qo x d n = ta ρ n (kDp2 tb ρ qo x d) x := rfl
theorem k_dp2 {v : D} : kDp2 tb ρ qo x v d n = tb ρ n (kDp3 ρ qo x v d) x := rfl
noncomputable def kDa1 (f : Int → Int → Int) (tb tv : Ev → Wp D) (ρ : Ev) (q : Out → S → Prop) (x : Exn → S → Prop) (d : D) (n : S) : Prop := tdaug f (fun _ => Wp.ret d) tb tv ρ n q x
noncomputable def kDa2 (f : Int → Int → Int) (tv : Ev → Wp D) (ρ : Ev) (q : Out → S → Prop) (x : Exn → S → Prop) (d k : D) (n : S) : Prop := tdaug f (fun _ => Wp.ret d) (fun _ => Wp.ret k) tv ρ n q x
theorem s_daug : tdaug f ta tb tv ρ n qo x = ta ρ n (kDa1 f tb tv ρ qo x) x := rfl
theorem k_da1 : kDa1 f tb tv ρ qo x d n = tb ρ n (kDa2 f tv ρ qo x d) x := rfl
noncomputable def kMf1 (Γ : Gam) (cn fn : Str) (ta : Ev → Wp D) (ρ : Ev) (q : Out → S → Prop) (x : Exn → S → Prop) (v : D) (n : S) : Prop := tmfset Γ cn fn ta (fun _ => Wp.ret v) ρ n q x
noncomputable def kMf2 (Γ : Gam) (cn fn : Str) (ρ : Ev) (q : Out → S → Prop) (v d : D) (n : S) : Prop := tmfset Γ cn fn (fun _ => Wp.ret d) (fun _ => Wp.ret v) ρ n q (fun _ _ => False)
theorem s_mfset : tmfset Γ cn fn ta tv ρ n qo x = tv ρ n (kMf1 Γ cn fn ta ρ qo x) x := rfl
theorem k_mf1 : kMf1 Γ cn fn ta ρ qo x d n = ta ρ n (kMf2 Γ cn fn ρ qo d) x := rfl
noncomputable def kMth1 (Γ : Gam) (cn fn : Str) (k : Nat) (F : List D → Wp D) (t : Ev → Wp (List D)) (ρ : Ev) (q : D → S → Prop) (x : Exn → S → Prop) (d : D) (n : S) : Prop := tmth Γ cn fn k F (fun _ => Wp.ret d) t ρ n q x
noncomputable def kMth2 (k : Nat) (F : List D → Wp D) (d : D) (q : D → S → Prop) (x : Exn → S → Prop) (ds : List D) (n : S) : Prop := ds.length + 1 = k ∧ F (d :: ds) n q x
theorem s_mth : tmth Γ cn fn k F ta tl ρ n q x = ta ρ n (kMth1 Γ cn fn k F tl ρ q x) x := rfl
theorem k_mth2 {ds : List D} : kMth2 k F d q x ds n = (ds.length + 1 = k ∧ F (d :: ds) n q x) := rfl
noncomputable def kM0 (Γ : Gam) (cn fn : Str) (F : List D → Wp D) (ρ : Ev) (q : D → S → Prop) (x : Exn → S → Prop) (d : D) (n : S) : Prop := tmth0 Γ cn fn F (fun _ => Wp.ret d) ρ n q x
theorem s_mth0 : tmth0 Γ cn fn F ta ρ n q x = ta ρ n (kM0 Γ cn fn F ρ q x) x := rfl
noncomputable def kMk2 (i : Addr) (q : D → S → Prop) (d : D) (s : S) : Prop := d = .non ∧ q (.mref i) s
noncomputable def kMk (Γ : Gam) (cn : Str) (k : Nat) (F : List D → Wp D) (q : D → S → Prop) (x : Exn → S → Prop) (ds : List D) (n : S) : Prop := ds.length + 1 = k ∧ ∀ C, Γ cn = some C → ∀ i, n.mu i = none → F (.mref i :: ds) ⟨n.n, n.mu.put i (.ins C [])⟩ (kMk2 i q) x
theorem s_mk : tmk Γ cn k F tl ρ n q x = tl ρ n (kMk Γ cn k F q x) x := rfl
theorem k_mk {ds : List D} : kMk Γ cn k F q x ds n = (ds.length + 1 = k ∧ ∀ C, Γ cn = some C → ∀ i, n.mu i = none → F (.mref i :: ds) ⟨n.n, n.mu.put i (.ins C [])⟩ (kMk2 i q) x) := rfl
theorem k_mk2 {i : Addr} : kMk2 i q .non n = q (.mref i) n := by unfold kMk2; simp
noncomputable def kLkE (p : Addr) (u : HO) (l : TL) (q : D → S → Prop) (r : D) (s : S) : Prop := s.mu p = some (.lit u l) ∧ q r ⟨s.n, s.mu.put p (.dit l)⟩
noncomputable def kKeys (qg : LG → S → Prop) (x : Exn → S → Prop) (d : D) (n : S) : Prop := itemsK d n qg x
noncomputable def kItems (qg : LG → S → Prop) (x : Exn → S → Prop) (d : D) (n : S) : Prop := itemsI d n qg x
theorem s_keys : tkeys ta ρ n qg x = ta ρ n (kKeys qg x) x := rfl
theorem s_items : titems ta ρ n qg x = ta ρ n (kItems qg x) x := rfl
theorem k_keysM {a : Addr} : kKeys qg x (.mref a) n = ∃ u l, n.mu a = some (.lit u l) ∧ qg (l.map fun p => .tup (p.1.map D.int), fun s => s.mu a = some (.lit u l)) n := rfl
theorem k_itemsM {a : Addr} : kItems qg x (.mref a) n = ∃ u l, n.mu a = some (.lit u l) ∧ qg (l.map fun p => .tup [.tup (p.1.map D.int), p.2], fun s => s.mu a = some (.lit u l)) n := rfl
noncomputable def kDcG (g : D → Ev → Wp Ev) (c : Ev → Wp Bool) (tk tv : Ev → Wp D) (vs : List Nat) (ρ : Ev) (q : D → S → Prop) (l : LG) (n : S) : Prop := l.1.length ≤ 1000000 ∧ dcG l.2 g c tk tv (wipeE ρ vs) [] l.1 n (fun acc m => fNewQ (.dit acc) q m) (fun _ _ => False)
theorem s_dcG {vs : List Nat} : tdcG tg g c ta tb vs ρ n q x = tg ρ n (kDcG g c ta tb vs ρ q) x := rfl
theorem k_dcG {vs : List Nat} {ds : List D} {G : S → Prop} : kDcG g c ta tb vs ρ q (ds, G) n = (ds.length ≤ 1000000 ∧ dcG G g c ta tb (wipeE ρ vs) [] ds n (fun acc m => fNewQ (.dit acc) q m) (fun _ _ => False)) := rfl
noncomputable def kMlcG (g : D → Ev → Wp Ev) (c : Ev → Wp Bool) (te : Ev → Wp D) (vs : List Nat) (ρ : Ev) (q : D → S → Prop) (l : LG) (n : S) : Prop := l.1.length ≤ 1000000 ∧ lcG l.2 g c te (wipeE ρ vs) l.1 n (fun ys m => fNewQ (.lst ys) q m) (fun _ _ => False)
theorem s_mlcG {vs : List Nat} : tmlcG tg g c ta vs ρ n q x = tg ρ n (kMlcG g c ta vs ρ q) x := rfl
theorem k_mlcG {vs : List Nat} {ds : List D} {G : S → Prop} : kMlcG g c ta vs ρ q (ds, G) n = (ds.length ≤ 1000000 ∧ lcG G g c ta (wipeE ρ vs) ds n (fun ys m => fNewQ (.lst ys) q m) (fun _ _ => False)) := rfl
theorem s_mdit : tmdit ρ n q x = ∀ a, n.mu a = none → q (.mref a) ⟨n.n, n.mu.put a (.dit [])⟩ := rfl
end
/-! by hand -/
section
variable {Γ : Gam} {n : S} {x : Exn → S → Prop} {ρ : Ev} {d v : D} {f : Int → Int → Int} {ta tb tv : Ev → Wp D} {tl : Ev → Wp (List D)} {c : Ev → Wp Bool} {t : Ev → Wp Out} {q : D → S → Prop} {qo : Out → S → Prop} {F : List D → Wp D} {cn fn : Str} {k : Nat} {g : D → Ev → Wp Ev} {p C : Addr} {l : TL} {j : List Int} {fl : FL} {u : HO}
theorem dput_go (h : n.mu p = some (.dit l)) (hl : l.length < 1000000) (hq : qo (.nx ρ) ⟨n.n, n.mu.put p (.dit (putT l j v))⟩) : kDp3 ρ qo x v (.mref p) (.tup (j.map D.int)) n := ⟨p, l, j, rfl, h, rfl, hl, hq⟩
theorem daug_go {w z : Int} (h : n.mu p = some (.dit l)) (hk : l.lookup j = some (.int w)) (hl : l.length < 1000000) (hq : qo (.nx ρ) ⟨n.n, n.mu.put p (.dit (putT l j (.int (f w z))))⟩) : kDa2 f (tconst (.int z)) ρ qo x (.mref p) (.tup (j.map D.int)) n :=
  ⟨p, l, j, w, rfl, h, rfl, hk, z, rfl, h, hl, hq⟩
theorem mfset_go (hC : Γ cn = some C) (h : n.mu p = some (.ins C fl)) (hl : fl.length < 1000) (hq : qo (.nx ρ) ⟨n.n, n.mu.put p (.ins C (putFd fn v fl))⟩) : kMf2 Γ cn fn ρ qo v (.mref p) n := ⟨p, C, fl, rfl, hC, h, hl, hq⟩
theorem mth_go (hC : Γ cn = some C) (h : n.mu p = some (.ins C fl)) (hl : fl.lookup fn = none) (hq : tl ρ n (kMth2 k F (.mref p) q x) x) : kMth1 Γ cn fn k F tl ρ q x (.mref p) n := ⟨p, C, fl, rfl, hC, h, hl, hq⟩
theorem mth0_go (hC : Γ cn = some C) (h : n.mu p = some (.ins C fl)) (hl : fl.lookup fn = none) (hq : F [.mref p] n q x) : kM0 Γ cn fn F ρ q x (.mref p) n := ⟨p, C, fl, rfl, hC, h, hl, hq⟩
theorem lkB_go (h : n.mu p = some (.dit l)) (hq : ∀ u, t ρ ⟨n.n, n.mu.put p (.lit u l)⟩ qo x) : tlkB t ρ n qo x := ⟨p, l, h, hq⟩
theorem lkE_go (h : n.mu p = some (.dit l)) (hq : ∀ u, ta ρ ⟨n.n, n.mu.put p (.lit u l)⟩ (kLkE p u l q) x) : tlkE ta ρ n q x := ⟨p, l, h, hq⟩
theorem lkE_end (h : n.mu p = some (.lit u l)) (hq : q d ⟨n.n, n.mu.put p (.dit l)⟩) : kLkE p u l q d n := ⟨h, hq⟩
theorem dget_go (h : n.mu p = some (.dit l) ∨ ∃ u, n.mu p = some (.lit u l)) (hk : l.lookup j = some v) (hq : q v n) : fDGet (.mref p) (.tup (j.map D.int)) n q x := ⟨l, j, v, .inr ⟨p, rfl, h⟩, rfl, hk, hq⟩
theorem din_go {neg : Bool} (h : n.mu p = some (.dit l) ∨ ∃ u, n.mu p = some (.lit u l)) (hq : q (.bl (neg.xor (l.lookup j).isSome)) n) : fDIn neg (.tup (j.map D.int)) (.mref p) n q x := ⟨l, j, .inr ⟨p, rfl, h⟩, rfl, hq⟩
theorem mfld_go (hC : Γ cn = some C) (h : n.mu p = some (.ins C fl)) (hl : fl.lookup fn = some v) (hq : q v n) : fMFld Γ cn fn (.mref p) n q x := ⟨p, C, fl, v, rfl, hC, h, hl, hq⟩
theorem maxL_go {ns : List Int} {m : Int} (hm : m ∈ ns) (hy : ∀ y ∈ ns, y ≤ m) (hq : q (.int m) n) : fMaxL [.lst (ns.map D.int)] n q x := by
  refine ⟨ns, rfl, List.length_pos_of_mem hm, fun m' h1 h2 => ?_⟩
  have e : m' = m := Int.le_antisymm (hy m' h1) (h2 m hm)
  rw [e]; exact hq
noncomputable def kGc (q : D → S → Prop) (d : D) (s : S) : Prop := ∃ μ : Mu, (∀ a o, μ a = some o → s.mu a = some o) ∧ q d ⟨s.n, μ⟩
noncomputable def kGcX (x : Exn → S → Prop) (e : Exn) (s : S) : Prop := ∃ μ : Mu, (∀ a o, μ a = some o → s.mu a = some o) ∧ x e ⟨s.n, μ⟩
theorem s_gc {ds : List D} : gcF F ds n q x = F ds n (kGc q) (kGcX x) := rfl
theorem gc_end {μ : Mu} (h : ∀ a o, μ a = some o → n.mu a = some o) (hq : q d ⟨n.n, μ⟩) : kGc q d n := ⟨μ, h, hq⟩
theorem gc_endX {μ : Mu} {e : Exn} (h : ∀ a o, μ a = some o → n.mu a = some o) (hq : x e ⟨n.n, μ⟩) : kGcX x e n := ⟨μ, h, hq⟩
/-- one turn of a dict comprehension -/
noncomputable def dc1 (g : D → Ev → Wp Ev) (c : Ev → Wp Bool) (tk tv : Ev → Wp D) (ρ : Ev) (d : D) (n : S) (k : Option (List Int × D) → S → Prop) : Prop :=
  g d ρ n (fun ρ1 m => c ρ1 m (fun b r => if b = true then tk ρ1 r (fun y s => tv ρ1 s (fun v w => ∃ j : List Int, y = .tup (j.map D.int) ∧ k (some (j, v)) w) (fun _ _ => False)) (fun _ _ => False) else k none r) (fun _ _ => False)) (fun _ _ => False)
noncomputable def putO (l : TL) : Option (List Int × D) → TL
  | some p => putT l p.1 p.2
  | none => l
variable {qt : TL → S → Prop} {G : S → Prop}
theorem dc_cons {ds : List D} {acc : TL} (hG : G n) (h : dc1 g c ta tb ρ d n fun o m => dcG G g c ta tb ρ (putO acc o) ds m qt (fun _ _ => False)) : dcG G g c ta tb ρ acc (d :: ds) n qt (fun _ _ => False) := by
  refine ⟨hG, Eq.mp ?_ h⟩
  refine congrArg (fun k => g d ρ n k (fun _ _ => False)) (funext fun ρ1 => funext fun m => congrArg (fun k => c ρ1 m k (fun _ _ => False)) (funext fun b => funext fun r => ?_))
  cases b <;> rfl
/-- a dict comprehension by its invariant -/
theorem dc_inv (I : TL → List D → S → Prop) (hG : ∀ acc ds n, I acc ds n → G n) (step : ∀ acc d ds n (k : Option (List Int × D) → S → Prop), I acc (d :: ds) n → (∀ o m, I (putO acc o) ds m → k o m) → dc1 g c ta tb ρ d n k)
    (last : ∀ acc n, I acc [] n → qt acc n) : ∀ ds acc n, I acc ds n → dcG G g c ta tb ρ acc ds n qt (fun _ _ => False)
  | [], acc, n, h => ⟨hG _ _ _ h, last _ _ h⟩
  | d :: ds, acc, n, h => dc_cons (hG _ _ _ h) (step acc d ds n _ h fun o m z => dc_inv I hG step last ds _ m z)
noncomputable def kDc1 (c : Ev → Wp Bool) (tk tv : Ev → Wp D) (k : Option (List Int × D) → S → Prop) (ρ : Ev) (n : S) : Prop := c ρ n (fun b r => if b = true then tk ρ r (fun y s => tv ρ s (fun v w => ∃ j : List Int, y = .tup (j.map D.int) ∧ k (some (j, v)) w) (fun _ _ => False)) (fun _ _ => False) else k none r) (fun _ _ => False)
noncomputable def kDc2 (tk tv : Ev → Wp D) (k : Option (List Int × D) → S → Prop) (ρ : Ev) (b : Bool) (n : S) : Prop := if b = true then tk ρ n (fun y s => tv ρ s (fun v w => ∃ j : List Int, y = .tup (j.map D.int) ∧ k (some (j, v)) w) (fun _ _ => False)) (fun _ _ => False) else k none n
noncomputable def kDc3 (tv : Ev → Wp D) (k : Option (List Int × D) → S → Prop) (ρ : Ev) (y : D) (n : S) : Prop := tv ρ n (fun v w => ∃ j : List Int, y = .tup (j.map D.int) ∧ k (some (j, v)) w) (fun _ _ => False)
noncomputable def kDc4 (k : Option (List Int × D) → S → Prop) (y v : D) (n : S) : Prop := ∃ j : List Int, y = .tup (j.map D.int) ∧ k (some (j, v)) n
theorem s_dc1 {k : Option (List Int × D) → S → Prop} : dc1 g c ta tb ρ d n k = g d ρ n (kDc1 c ta tb k) xNo := rfl
theorem k_dc1 {k : Option (List Int × D) → S → Prop} : kDc1 c ta tb k ρ n = c ρ n (kDc2 ta tb k ρ) xNo := rfl
theorem k_dc2 {k : Option (List Int × D) → S → Prop} {b : Bool} : kDc2 ta tb k ρ b n = if b = true then ta ρ n (kDc3 tb k ρ) xNo else k none n := rfl
theorem k_dc3 {k : Option (List Int × D) → S → Prop} : kDc3 tb k ρ d n = tb ρ n (kDc4 k d) xNo := rfl
theorem dc4_go {k : Option (List Int × D) → S → Prop} (h : k (some (j, v)) n) : kDc4 k (.tup (j.map D.int)) v n := ⟨j, rfl, h⟩
end
end OE
/-! ### x in l, for data of any depth -/
namespace OE
open PySem PySem.Spec L2
variable [TN]
noncomputable def fInD (neg : Bool) : D → D → Wp D := fun x y => match y with
  | .lst l => Wp.bind (Wp.ask (x.plain = true ∧ D.plainAll l = true ∧ SeqAt.shaped x.py = true ∧ SeqAt.shaped (.list (D.pyAll l)) = true)) fun _ => Wp.ret (.bl (neg.xor (l.any fun e => PyData.eqv e.py x.py)))
  | _ => Wp.stuck
section
variable {Γ : Gam} {X : Cx} {W : WX} {a b c : Expr} {ta tb tc : Ev → Wp D} {pos : Pos}
variable {n : S} {x : Exn → S → Prop} {q : D → S → Prop}
theorem f_inDL {d : D} {l : List D} {neg : Bool} : fInD neg d (.lst l) n q x = ((d.plain = true ∧ D.plainAll l = true ∧ SeqAt.shaped d.py = true ∧ SeqAt.shaped (.list (D.pyAll l)) = true) ∧ q (.bl (neg.xor (l.any fun e => PyData.eqv e.py d.py))) n) := rfl
end
end OE
/-! ### lists that still change: compared with the empty one, added to another one -/
namespace OE
open PySem PySem.Spec L2
variable [TN]
noncomputable def fEmM (neg : Bool) : D → D → Wp D
  | .mref a, .lst [] => fun n q _ => ∃ l, n.mu a = some (.lst l) ∧ q (.bl (neg.xor l.isEmpty)) n
  | _, _ => Wp.stuck
theorem r2_emM {K : PySem.W.Frag} {neg : Bool} : R2D K (rEmp K neg) (fEmM neg) := by
  intro x y a b H Hs n q e Q s hx hy h k
  cases hx with
  | mref p =>
    cases hy with
    | @lst b ys es h2 g2 =>
      cases es with
      | cons _ _ => exact (show False from h).elim
      | nil =>
        obtain ⟨l, hm, hq⟩ := h
        obtain ⟨_, xs, h1, g1⟩ := s.muts _ _ hm
        have e := nil_len g2
        subst e
        exact ⟨p, b, xs, rfl, rfl, .inr ⟨SqL.of h1, SqL.of (s.sub _ _ h2)⟩, by rw [isE_of g1]; exact k _ H Hs _ n (.refl _ _) s (.bl _) hq⟩
    | _ => exact (show False from h).elim
  | _ => first | exact (show False from h).elim | (cases hy <;> exact (show False from h).elim)
noncomputable def fAddM : D → D → Wp D
  | .mref a, .lst m => fun n q _ => ∃ l, n.mu a = some (.lst l) ∧ l.length + m.length ≤ 1000000 ∧ q (.lst (l ++ m)) n
  | _, _ => Wp.stuck
section
variable {Γ : Gam} {X : Cx} {W : WX} {a b : Expr} {ta tb : Ev → Wp D} {pos : Pos}
theorem dt_emN (hu : X.A.units + 64 < cLine) (ha : DE Γ X W a ta) (hb : DE Γ X W b tb) : DT Γ X W (.Compare a [.NotEq] [b] pos) (ttest (tbin (fEmM true) ta tb)) := dt_cmp (op_neE hu) r2_emM ha hb (nomark _)
end
section
variable {n : S} {x : Exn → S → Prop} {q : D → S → Prop}
theorem f_emM {neg : Bool} {a : Addr} : fEmM neg (.mref a) (.lst []) n q x = ∃ l, n.mu a = some (.lst l) ∧ q (.bl (neg.xor l.isEmpty)) n := rfl
theorem f_addM {a : Addr} {m : List D} : fAddM (.mref a) (.lst m) n q x = ∃ l, n.mu a = some (.lst l) ∧ l.length + m.length ≤ 1000000 ∧ q (.lst (l ++ m)) n := rfl
end
end OE
/-! ### sum, max, min of tuples of ints -/
namespace OE
open PySem PySem.Spec L2
/-! min of lists -/
end OE
/-! ### try with clauses that bear a name or none -/
namespace OE
open PySem PySem.Spec PyProof.Rows L2
variable [TN]
/-! over data -/
noncomputable abbrev Hdo := List ((Str → Bool) × Option Nat × (Ev → Wp Out))
noncomputable def suO (Γ : Gam) (ρ : Ev) (q : Out → S → Prop) (su : Ev → Wp Out) (e : Exn) (n : S) : Option Nat → Prop
  | none => su ρ n q (fun _ _ => False)
  | some i => ∀ C, Γ e.cls = some C → su (ρ.set i (some (.exn e.cls C e.arg.toList))) n (fun o n2 => q (o.unset i) n2) (fun _ _ => False)
noncomputable def catchO (Γ : Gam) (ρ : Ev) (q : Out → S → Prop) (x : Exn → S → Prop) : Hdo → Exn → S → Prop
  | [] => x
  | (mt, o, su) :: r => fun e n' => if mt e.cls = true then suO Γ ρ q su e n' o else catchO Γ ρ q x r e n'
noncomputable def ttryO (Γ : Gam) (hs : Hdo) (tb : Ev → Wp Out) : Ev → Wp Out := fun ρ n q x => tb ρ n q (catchO Γ ρ q x hs)
section
variable {Γ : Gam} {n : S} {x : Exn → S → Prop} {ρ : Ev} {i : Nat} {t u : Ev → Wp Out} {qo : Out → S → Prop} {mt : Str → Bool} {hs : Hdo} {e : Exn} {o : Option Nat}
theorem s_tryO : ttryO Γ hs t ρ n qo x = t ρ n qo (catchO Γ ρ qo x hs) := rfl
theorem co_nil : catchO Γ ρ qo x [] e n = x e n := rfl
theorem so_none : suO Γ ρ qo u e n none = u ρ n qo xNo := rfl
theorem so_some : suO Γ ρ qo u e n (some i) = ∀ C, Γ e.cls = some C → u (ρ.set i (some (.exn e.cls C e.arg.toList))) n (kUn i qo) xNo := rfl
end
end OE
/-! ### d.get(k), d.get(k, e) -/
namespace OE
open PySem PySem.Spec L2
variable [TN]
section
variable {Γ : Gam} {X : Cx} {W : WX} {o a b : Expr} {to ta tb : Ev → Wp D} {apos pos : Pos}
noncomputable def fIsT (d : D) : Wp Unit := fun n q _ => (∃ l, dOf d n l) ∧ q () n
noncomputable def tget1 (to ta : Ev → Wp D) : Ev → Wp D := fun ρ => Wp.bind (to ρ) fun d => Wp.bind (fIsT d) fun _ => Wp.bind (ta ρ) fun k => fDGet1 d k
noncomputable def fDGet2 (d k e : D) : Wp D := fun n q _ => ∃ (l : TL) (j : List Int), dOf d n l ∧ k = .tup (j.map D.int) ∧ q ((l.lookup j).getD e) n
noncomputable def tget2 (to ta tb : Ev → Wp D) : Ev → Wp D := fun ρ => Wp.bind (to ρ) fun d => Wp.bind (fIsT d) fun _ => Wp.bind (ta ρ) fun k => Wp.bind (tb ρ) fun e => fDGet2 d k e
end
section
variable {n : S} {x : Exn → S → Prop} {ρ : Ev} {d v : D} {to ta tb : Ev → Wp D} {q : D → S → Prop} {p : Addr} {l : TL} {j : List Int}
noncomputable def kGe1 (ta : Ev → Wp D) (ρ : Ev) (q : D → S → Prop) (x : Exn → S → Prop) (d : D) (n : S) : Prop := (∃ l, dOf d n l) ∧ ta ρ n (fun k m => fDGet1 d k m q x) x
noncomputable def kGe2 (d : D) (q : D → S → Prop) (x : Exn → S → Prop) (k : D) (n : S) : Prop := fDGet1 d k n q x
theorem s_get1 : tget1 to ta ρ n q x = to ρ n (kGe1 ta ρ q x) x := rfl
theorem k_ge1M : kGe1 ta ρ q x (.mref p) n = ((∃ l, dOf (.mref p) n l) ∧ ta ρ n (kGe2 (.mref p) q x) x) := rfl
noncomputable def kGf1 (ta tb : Ev → Wp D) (ρ : Ev) (q : D → S → Prop) (x : Exn → S → Prop) (d : D) (n : S) : Prop := (∃ l, dOf d n l) ∧ ta ρ n (fun k m => tb ρ m (fun e r => fDGet2 d k e r q x) x) x
noncomputable def kGf2 (tb : Ev → Wp D) (ρ : Ev) (d : D) (q : D → S → Prop) (x : Exn → S → Prop) (k : D) (n : S) : Prop := tb ρ n (fun e r => fDGet2 d k e r q x) x
noncomputable def kGf3 (d k : D) (q : D → S → Prop) (x : Exn → S → Prop) (e : D) (n : S) : Prop := fDGet2 d k e n q x
theorem s_get2 : tget2 to ta tb ρ n q x = to ρ n (kGf1 ta tb ρ q x) x := rfl
theorem k_gf1M : kGf1 ta tb ρ q x (.mref p) n = ((∃ l, dOf (.mref p) n l) ∧ ta ρ n (kGf2 tb ρ (.mref p) q x) x) := rfl
theorem k_gf2 {k : D} : kGf2 tb ρ d q x k n = tb ρ n (kGf3 d k q x) x := rfl
end
end OE
/-! ### d == {}, d != {} -/
namespace OE
open PySem PySem.Spec PyProof.Rows L2
end OE
/-! ### the field of a caught exception, where other classes stand beside the exceptions; isinstance likewise -/
namespace OE
open PySem PySem.Spec L2
variable [TN]
noncomputable def isCl (x : Str) : Bool := decide (x = "Web") || decide (x = "Keeper") || decide (x = "Trial") || decide (x = "Desk")
section
variable {Γ : Gam} {X : Cx} {W : WX} {a : Expr} {ta : Ev → Wp D} {pos : Pos}
noncomputable def tfldX (Γ : Gam) (f : Str) (t : Ev → Wp D) : Ev → Wp D := fun ρ => Wp.bind (t ρ) fun d => match d with
  | .exn x C [v] => Wp.bind (Wp.ask (Γ x = some C ∧ fldOf x = f ∧ isCl x = false)) fun _ => Wp.ret v
  | _ => Wp.stuck
end
section
variable {n : S} {x : Exn → S → Prop} {ρ : Ev} {d : D} {ta : Ev → Wp D} {q : D → S → Prop}
noncomputable def kFldX (Γ : Gam) (f : Str) (q : D → S → Prop) (x : Exn → S → Prop) (d : D) (n : S) : Prop := tfldX Γ f (tconst d) [] n q x
theorem s_fldX {Γ : Gam} {f : Str} : tfldX Γ f ta ρ n q x = ta ρ n (kFldX Γ f q x) x := rfl
theorem k_fldX {Γ : Gam} {f nm : Str} {C : Addr} {v : D} : kFldX Γ f q x (.exn nm C [v]) n = ((Γ nm = some C ∧ fldOf nm = f ∧ isCl nm = false) ∧ q v n) := rfl
theorem f_tupT {l : List D} : fTuple [.tup l] n q x = q (.tup l) n := rfl
end
end OE
/-! ### l.pop(i) -/
namespace OE
open PySem PySem.Spec L2
variable [TN]
section
variable {Γ : Gam} {X : Cx} {W : WX} {a b : Expr} {ta tb : Ev → Wp D} {pos : Pos}
noncomputable def fPop : D → D → Wp D
  | .mref p, .int i => fun n q _ => ∃ (l : List D) (k : Nat) (d : D), n.mu p = some (.lst l) ∧ i = (k : Int) ∧ l[k]? = some d ∧ l.length ≤ 1000000 ∧ q d ⟨n.n, n.mu.put p (.lst (l.eraseIdx k))⟩
  | _, _ => Wp.stuck
theorem DvAll.erase {K : PySem.W.Frag} {H : Hp} : ∀ {vs : List V} {ds : List D} (k : Nat), DvAll K H vs ds → DvAll K H (vs.eraseIdx k) (ds.eraseIdx k)
  | _, _, _, .nil => .nil
  | _, _, 0, .cons _ g => g
  | _, _, k + 1, .cons h g => .cons h (DvAll.erase k g)
theorem seqIx {i : Int} {k m : Nat} (h : i = (k : Int)) (hk : k < m) : seqIndex? i m = some k := by
  subst h
  unfold seqIndex?
  simp
  omega
theorem d_pop {ap : Pos} (ha : DE Γ X W a ta) (hb : DE Γ X W b tb) (hbase : attributeBase a "pop" X.env (eval a X.env) = eval a X.env := by rfl)
    (hfew : ((backTo pos (starEach [b] X.env)).all (fun x => !x.1) && (backToKw pos (keywordEach [] X.env)).all (fun x => x.1.isSome) && decide ([b].length + ([] : List Keyword).length + (if ([] : List Keyword).isEmpty then 0 else 1) < 30)) = true := by rfl)
    (hline : (ap.endLine == pos.line) = true := by rfl) (hs : starEach [b] X.env = (false, eval b X.env) :: starEach [] X.env := by rfl) (hpl : (backTo pos (starEach [] X.env)).any (·.1) = false := by rfl) :
    DE Γ X W (.Call (.Attribute a "pop" ap) [b] [] pos) (tmeth fPop ta tb) := by
  obtain ⟨ea, pa, fa⟩ := ha
  obtain ⟨eb, pb, fb⟩ := hb
  refine ⟨_, pe_bm PySem.F.plainAttrs_list PySem.F.slot_list_pop PySem.F.type_list_pop mt_popAt pa (pa_1 pb hs) hbase hfew hline hs hpl, meth_of fa fb fun p w d H Hs n q e Q s hw h k => ?_⟩
  cases hw with
  | int i =>
    obtain ⟨l, j, d, hm, hi, hd, hl, h⟩ := h
    obtain ⟨_, xs, hx, g⟩ := s.muts _ _ hm
    obtain ⟨v, hv, dv⟩ := g.get hd
    obtain ⟨s2, g2⟩ := s.mutate (o := .lst (xs.eraseIdx j)) (m' := .lst (l.eraseIdx j)) hm ⟨_, upd_same, g.erase j⟩
    have hj : j < xs.length := by
      rcases Nat.lt_or_ge j xs.length with z | z
      · exact z
      · rw [List.getElem?_eq_none z] at hv; cases hv
    have hxl := g.length
    exact ⟨p, xs, i, j, v, rfl, rfl, hx, by omega, by omega, seqIx hi hj, hv, k _ _ _ _ _ g2 s2 dv h⟩
  | _ => exact (show False from h).elim
end
section
variable {n : S} {x : Exn → S → Prop} {q : D → S → Prop}
theorem pop_go {p : Addr} {l : List D} {k : Nat} {d : D} (h : n.mu p = some (.lst l)) (hd : l[k]? = some d) (hl : l.length ≤ 1000000) (hq : q d ⟨n.n, n.mu.put p (.lst (l.eraseIdx k))⟩) : fPop (.mref p) (.int (k : Int)) n q x := ⟨l, k, d, h, rfl, hd, hl, hq⟩
end
/-! list(x) that will change -/
noncomputable def fMList : List D → Wp D
  | [.lst l] => fNew (.lst l)
  | [.tup l] => fNew (.lst l)
  | _ => Wp.stuck
theorem cd_mlist {K : PySem.W.Frag} : CD K (fun xs H Q => ∃ p ys, xs = [.ref p] ∧ (SqL K H p ys ∨ SqT K H p ys) ∧ ∀ l, H l = none → Q (.ref l) (upd H l (.lst ys))) fMList := by
  intro xs ds H Hs n q e Q s hx h k
  cases hx with
  | nil => exact (show False from h).elim
  | @cons v vs d ds hv g =>
    cases g with
    | cons _ _ => cases d <;> exact (show False from h).elim
    | nil =>
      cases hv with
      | @lst a xs ds h1 g1 =>
        refine ⟨a, xs, rfl, .inl (SqL.of (s.sub _ _ h1)), fun p hp => ?_⟩
        have hs := s.free hp
        obtain ⟨s2, g3⟩ := s.newMut (o := .lst xs) (m := .lst ds) hp ⟨_, upd_same, g1.ext (mk_ext hs)⟩
        exact k _ _ _ _ _ g3 s2 (.mref p) (h p (s.muFree hs))
      | @tup a xs ds h1 g1 =>
        refine ⟨a, xs, rfl, .inr (s.same.tup (SqT.of h1)), fun p hp => ?_⟩
        have hs := s.free hp
        obtain ⟨s2, g3⟩ := s.newMut (o := .lst xs) (m := .lst ds) hp ⟨_, upd_same, g1.ext (mk_ext hs)⟩
        exact k _ _ _ _ _ g3 s2 (.mref p) (h p (s.muFree hs))
      | _ => exact (show False from h).elim
theorem d_mlist {Γ : Gam} {X : Cx} {W : WX} {a : Expr} {pos p : Pos} {t : Ev → Wp (List D)} (hm : X.mg "list" = none) (ha : DA Γ X W [a] t) (hg : Gl X "list" := by rfl) (he : starEach [a] X.env = (false, eval a X.env) :: starEach [] X.env := by rfl) (hpl : (backTo pos (starEach [] X.env)).any (·.1) = false := by rfl) :
    DE Γ X W (.Call (.Name "list" p) [a] [] pos) (tcall fMList t) := d_callTy call_list_of cd_mlist hg hm PyProof.Rows.boot_list ha (by decide) (by decide) he hpl
section
variable {n : S} {x : Exn → S → Prop} {q : D → S → Prop} {l : List D}
theorem f_mliL : fMList [.lst l] n q x = ∀ a, n.mu a = none → q (.mref a) ⟨n.n, n.mu.put a (.lst l)⟩ := rfl
theorem f_mliT : fMList [.tup l] n q x = ∀ a, n.mu a = none → q (.mref a) ⟨n.n, n.mu.put a (.lst l)⟩ := rfl
end
/-! l * k that will change -/
noncomputable def fMMul : D → D → Wp D
  | .lst l, .int k => Wp.bind (Wp.ask (0 ≤ k ∧ k ≤ 1000 ∧ l.length ≤ 1000)) fun _ => fNew (.lst (List.replicate k.toNat l).flatten)
  | _, _ => Wp.stuck
theorem r2_mmul {K : PySem.W.Frag} : R2D K (rMulU K) fMMul := by
  intro x y a b H Hs n q e Q s hx hy h k
  cases hx with
  | @lst a xs ds h1 g1 =>
    cases hy with
    | int j =>
      obtain ⟨⟨z1, z2, z3⟩, h2⟩ := h
      refine .inr (.inr (.inr (.inl ⟨a, j, xs, rfl, rfl, s.sub _ _ h1, by omega, by omega, ?_, fun p hp => ?_⟩)))
      · rw [g1.length]
        have : ds.length * j.toNat ≤ 1000 * 1000 := Nat.mul_le_mul z3 (by omega)
        exact line_le (by omega)
      · have hs := s.free hp
        obtain ⟨s2, g3⟩ := s.newMut (o := .lst (List.replicate j.toNat xs).flatten) (m := .lst (List.replicate j.toNat ds).flatten) hp ⟨_, upd_same, (g1.rep j.toNat).ext (mk_ext hs)⟩
        exact k _ _ _ _ _ g3 s2 (.mref p) (h2 p (s.muFree hs))
    | _ => exact (show False from h).elim
  | _ => first | exact (show False from h).elim | (cases hy <;> exact (show False from h).elim)
theorem d_mmul {Γ : Gam} {X : Cx} {W : WX} {a b : Expr} {ta tb : Ev → Wp D} {pos : Pos} (ha : DE Γ X W a ta) (hb : DE Γ X W b tb) : DE Γ X W (.BinOp a .Mult b pos) (tbin fMMul ta tb) := d_bin op_mulU r2_mmul ha hb
section
variable {n : S} {x : Exn → S → Prop} {q : D → S → Prop} {l : List D} {k : Int}
theorem f_mmulL : fMMul (.lst l) (.int k) n q x = ((0 ≤ k ∧ k ≤ 1000 ∧ l.length ≤ 1000) ∧ ∀ a, n.mu a = none → q (.mref a) ⟨n.n, n.mu.put a (.lst (List.replicate k.toNat l).flatten)⟩) := rfl
end
end OE
namespace PL
open OE
open PySem (Str)
noncomputable def t_is_whole (Γ : Gam) : Ev → Wp Out :=
  tret (tandV (tisi "int" (tvar 0)) (tandV (tnotV (tisi "bool" (tvar 0))) (tchain fLe fLe (tvar 1) (tvar 0) (tvar 2))))
noncomputable def F_is_whole (Γ : Gam) : List D → Wp D := runDef 3 (t_is_whole Γ)
noncomputable def t_need_plan_10 (Γ : Gam) : Ev → Wp Out :=
  tret (tvar 0)
noncomputable def t_need_plan_8 (Γ : Gam) : Ev → Wp Out :=
  tite (tnot (ttest (tfn 3 (F_is_whole Γ) (tcons (tvar 2) (tcons (tconst (.int 1)) (tcons (tconst (.int 1000000000000000000000000000000)) (tnil))))))) (tfail1 "BadPlan" (tcons (ttup (tcons (tconst (.int 1)) (tcons (tvar 1) (tnil)))) (tnil))) (tnext)
noncomputable def t_need_plan_7 (Γ : Gam) : Ev → Wp Out :=
  tthen (tfor (tits fEnum (tcons (tbin fIx (tvar 0) (tconst (.int 1))) (tnil))) (gtup 2 (gcons (gname 1) (gcons (gname 2) (gnil)))) (t_need_plan_8 Γ))
  (t_need_plan_10 Γ)
noncomputable def t_need_plan_5 (Γ : Gam) : Ev → Wp Out :=
  tthen (tite (tor (tnot (ttest (tisi "tuple" (tbin fIx (tvar 0) (tconst (.int 1)))))) (tnot (ttest (tchain fLe fLe (tconst (.int 1)) (tcall fLen (tcons (tbin fIx (tvar 0) (tconst (.int 1))) (tnil))) (tconst (.int 8)))))) (tfail1 "BadPlan" (tcons (ttup (tcons (tconst (.int 1)) (tnil))) (tnil))) (tnext))
  (t_need_plan_7 Γ)
noncomputable def t_need_plan_3 (Γ : Gam) : Ev → Wp Out :=
  tthen (tite (tnot (ttest (tfn 3 (F_is_whole Γ) (tcons (tbin fIx (tvar 0) (tconst (.int 0))) (tcons (tconst (.int 1)) (tcons (tconst (.int 3)) (tnil))))))) (tfail1 "BadPlan" (tcons (ttup (tcons (tconst (.int 0)) (tnil))) (tnil))) (tnext))
  (t_need_plan_5 Γ)
noncomputable def t_need_plan (Γ : Gam) : Ev → Wp Out :=
  tthen (tite (tor (tnot (ttest (tisi "tuple" (tvar 0)))) (ttest (tbin fNe (tcall fLen (tcons (tvar 0) (tnil))) (tconst (.int 2))))) (tfail1 "BadPlan" (tcons (ttup (tnil)) (tnil))) (tnext))
  (t_need_plan_3 Γ)
noncomputable def F_need_plan (Γ : Gam) : List D → Wp D := runDef 3 (t_need_plan Γ)
noncomputable def t_count_of_4 (Γ : Gam) : Ev → Wp Out :=
  tret (tvar 1)
noncomputable def t_count_of_3 (Γ : Gam) : Ev → Wp Out :=
  tset 1 (tbin fMul (tvar 1) (tvar 2))
noncomputable def t_count_of_2 (Γ : Gam) : Ev → Wp Out :=
  tthen (tfor (tseq (tbin fIx (tvar 0) (tconst (.int 1)))) (gname 2) (t_count_of_3 Γ))
  (t_count_of_4 Γ)
noncomputable def t_count_of (Γ : Gam) : Ev → Wp Out :=
  tthen (tset 1 (tconst (.int 1)))
  (t_count_of_2 Γ)
noncomputable def F_count_of (Γ : Gam) : List D → Wp D := runDef 3 (t_count_of Γ)
end PL
local macro_rules | `(tactic| wp_walk using $[$ts],*) => `(tactic| simp -implicitDefEqProofs only [$[$ts:term],*, OE.w_g0, OE.w_gs, OE.w_s0, OE.w_ss, OE.w_some, OE.w_ex, OE.w_lc, OE.w_ln, OE.w_at, OE.w_ta, OE.w_nt, OE.w_nf, OE.w_it, OE.w_if, OE.w_itP, OE.w_ifP, OE.w_ft, OE.w_mc, OE.w_mn, OE.w_rs, OE.w_r0, OE.w_ca, OE.w_na, OE.w_za, OE.w_sb, OE.w_sz, OE.s_then, OE.k_seqN, OE.k_seqR, OE.k_seqB, OE.k_seqC, OE.s_next, OE.s_ret, OE.k_ret, OE.s_set, OE.k_set, OE.s_ite, OE.k_ite, OE.o_rt, OE.o_nx, OE.s_run, OE.s_var, OE.s_const, OE.s_nil, OE.s_cons, OE.k_cons, OE.k_cons2, OE.s_tup, OE.s_lst, OE.k_tup, OE.k_lst, OE.s_bin, OE.k_bin, OE.k_bin2, OE.s_bind, OE.k_ap, OE.s_call, OE.k_apL, OE.s_fn, OE.k_fn, OE.s_test, OE.k_test, OE.s_and, OE.k_and, OE.s_or, OE.k_or, OE.s_not, OE.k_not, OE.s_andV, OE.k_andV, OE.s_orV, OE.k_orV, OE.s_notV, OE.k_notV, OE.s_if, OE.k_if, OE.s_isN, OE.k_isN, OE.s_noN, OE.k_noN, OE.s_chain, OE.k_ch1, OE.k_ch2, OE.k_ch3, OE.s_isi, OE.k_isi, OE.s_part, OE.k_part, OE.s_slice, OE.k_sl1, OE.k_sl2, OE.k_sl3, OE.s_retO, OE.s_slL, OE.s_slT, OE.s_slS, OE.s_seq, OE.k_itmL, OE.k_itmT, OE.k_itmS, OE.s_its, OE.k_its, OE.s_rng1, OE.s_rng2, OE.s_enT, OE.s_enL, OE.s_zipL, OE.s_zipT, OE.s_for, OE.k_for, OE.for_nil, OE.k_go, OE.k_tN, OE.k_tC, OE.k_tB, OE.k_tR, OE.g_name, OE.g_tup, OE.g_cons, OE.k_gs, OE.g_nil, OE.s_asg, OE.k_asg, OE.k_nx, OE.s_par, OE.k_par, OE.s_lc, OE.k_lc, OE.k_lc1, OE.k_lc2, OE.k_some, OE.s_fail, OE.k_fail, OE.s_fail0, OE.s_try, OE.k_unN, OE.k_unR, OE.s_fld, OE.k_fld, OE.f_addI, OE.f_addT, OE.f_addL, OE.f_addS, OE.f_ii, OE.f_i0, OE.f_mulI, OE.f_mulT, OE.f_mulL, OE.f_neg, OE.f_ixL, OE.f_ixT, OE.f_ixS, OE.f_lenL, OE.f_lenT, OE.f_lenS, OE.f_int, OE.f_min, OE.f_max, OE.f_tupL, OE.f_lstT, OE.f_lstL, OE.f_repr, OE.f_cmpS, OE.f_cmpI, OE.f_cmpT, OE.f_cmpL, OE.s_dict, OE.k_dic, OE.f_getM, OE.s_putM, OE.k_put1, OE.k_put2, OE.s_dm, OE.mGet_left, OE.mGet_seed, OE.mGet_cells, OE.mGet_spot, OE.mPut_left, OE.mPut_spot, OE.k_wh, OE.s_star, OE.k_starT, OE.k_starL, OE.k_star2, OE.s_drop, OE.k_drop, OE.s_par3, OE.k_par3, OE.f_lrg1, OE.f_trg1, OE.f_lrg2, OE.f_trg2, OE.f_ixM, OE.f_lenM, OE.f_inT, OE.f_inL, OE.f_inS, OE.s_tryN, OE.c_nil, OE.f_all, OE.f_any, OE.f_sum, OE.s_frz, OE.k_frzS, OE.k_fz, OE.f_frzLs, OE.f_frzT, OE.f_frzI, OE.f_frzN, OE.s_mlst, OE.k_ml, OE.s_meth, OE.k_me, OE.f_app, OE.f_extd, OE.f_sorted, OE.s_lc2, OE.k_lcc, OE.f_isB, OE.s_isi2, OE.k_isi2, OE.s_aug, OE.k_aug, OE.w_int, OE.f_revL, OE.f_revT, OE.s_isx, OE.k_isx, OE.startE, Nat.reduceAdd, Nat.reduceLeDiff, Nat.reduceSub])
namespace PL
open OE PySem
variable [TN] {Γ : Gam} {n : S} {q : D → S → Prop} {x : Exn → S → Prop}
/-! ### plans.py over data -/
noncomputable def isW (lo hi : Int) : D → Bool
  | .int i => decide (lo ≤ i) && decide (i ≤ hi)
  | _ => false
noncomputable def isInt : D → Bool
  | .int _ => true
  | .bl _ => true
  | _ => false
noncomputable def isBl : D → Bool
  | .bl _ => true
  | _ => false
noncomputable def isTp : D → Bool
  | .tup _ => true
  | _ => false
theorem isi_int (d : D) : isiB "int" d = isInt d := by cases d <;> simp [isiB, isiN, tyName, isInt]
theorem isi_bool (d : D) : isiB "bool" d = isBl d := by cases d <;> simp [isiB, isiN, tyName, isBl]
theorem isi_tup (d : D) : isiB "tuple" d = isTp d := by cases d <;> simp [isiB, isiN, tyName, isTp]
theorem noE {d : D} (h : d.plain = true) : d.isE = false := by cases d <;> first | rfl | (rw [D.plain] at h; cases h)
theorem plain_mem : ∀ {l : List D} {d : D}, D.plainAll l = true → d ∈ l → d.plain = true
  | [], _, _, h => nomatch h
  | a :: l, d, h, hm => by
    rw [D.plainAll, Bool.and_eq_true] at h
    rcases List.mem_cons.mp hm with z | z
    · rw [z]; exact h.1
    · exact plain_mem h.2 z
theorem plain_tup {l : List D} (h : (D.tup l).plain = true) : D.plainAll l = true := by rw [D.plain] at h; exact h
theorem sp_is_whole {d : D} {lo hi : Int} (he : d.isE = false) (h : q (.bl (isW lo hi d)) n) : F_is_whole Γ [d, .int lo, .int hi] n q x := by
  wp_walk using t_is_whole, F_is_whole, isi_int, isi_bool
  refine ⟨he, ?_⟩
  cases d with
  | int i =>
    simp -implicitDefEqProofs only [OE.w_g0, OE.w_gs, OE.w_s0, OE.w_ss, OE.w_some, OE.w_ex, OE.w_lc, OE.w_ln, OE.w_at, OE.w_ta, OE.w_nt, OE.w_nf, OE.w_it, OE.w_if, OE.w_itP, OE.w_ifP, OE.w_ft, OE.w_mc, OE.w_mn, OE.w_rs, OE.w_r0, OE.w_ca, OE.w_na, OE.w_za, OE.w_sb, OE.w_sz, OE.s_then, OE.k_seqN, OE.k_seqR, OE.k_seqB, OE.k_seqC, OE.s_next, OE.s_ret, OE.k_ret, OE.s_set, OE.k_set, OE.s_ite, OE.k_ite, OE.o_rt, OE.o_nx, OE.s_run, OE.s_var, OE.s_const, OE.s_nil, OE.s_cons, OE.k_cons, OE.k_cons2, OE.s_tup, OE.s_lst, OE.k_tup, OE.k_lst, OE.s_bin, OE.k_bin, OE.k_bin2, OE.s_bind, OE.k_ap, OE.s_call, OE.k_apL, OE.s_fn, OE.k_fn, OE.s_test, OE.k_test, OE.s_and, OE.k_and, OE.s_or, OE.k_or, OE.s_not, OE.k_not, OE.s_andV, OE.k_andV, OE.s_orV, OE.k_orV, OE.s_notV, OE.k_notV, OE.s_if, OE.k_if, OE.s_isN, OE.k_isN, OE.s_noN, OE.k_noN, OE.s_chain, OE.k_ch1, OE.k_ch2, OE.k_ch3, OE.s_isi, OE.k_isi, OE.s_part, OE.k_part, OE.s_slice, OE.k_sl1, OE.k_sl2, OE.k_sl3, OE.s_retO, OE.s_slL, OE.s_slT, OE.s_slS, OE.s_seq, OE.k_itmL, OE.k_itmT, OE.k_itmS, OE.s_its, OE.k_its, OE.s_rng1, OE.s_rng2, OE.s_enT, OE.s_enL, OE.s_zipL, OE.s_zipT, OE.s_for, OE.k_for, OE.for_nil, OE.k_go, OE.k_tN, OE.k_tC, OE.k_tB, OE.k_tR, OE.g_name, OE.g_tup, OE.g_cons, OE.k_gs, OE.g_nil, OE.s_asg, OE.k_asg, OE.k_nx, OE.s_par, OE.k_par, OE.s_lc, OE.k_lc, OE.k_lc1, OE.k_lc2, OE.k_some, OE.s_fail, OE.k_fail, OE.s_fail0, OE.s_try, OE.k_unN, OE.k_unR, OE.s_fld, OE.k_fld, OE.f_addI, OE.f_addT, OE.f_addL, OE.f_addS, OE.f_ii, OE.f_i0, OE.f_mulI, OE.f_mulT, OE.f_mulL, OE.f_neg, OE.f_ixL, OE.f_ixT, OE.f_ixS, OE.f_lenL, OE.f_lenT, OE.f_lenS, OE.f_int, OE.f_min, OE.f_max, OE.f_tupL, OE.f_lstT, OE.f_lstL, OE.f_repr, OE.f_cmpS, OE.f_cmpI, OE.f_cmpT, OE.f_cmpL, OE.s_dict, OE.k_dic, OE.f_getM, OE.s_putM, OE.k_put1, OE.k_put2, OE.s_dm, OE.mGet_left, OE.mGet_seed, OE.mGet_cells, OE.mGet_spot, OE.mPut_left, OE.mPut_spot, OE.k_wh, OE.s_star, OE.k_starT, OE.k_starL, OE.k_star2, OE.s_drop, OE.k_drop, OE.s_par3, OE.k_par3, OE.f_lrg1, OE.f_trg1, OE.f_lrg2, OE.f_trg2, OE.f_ixM, OE.f_lenM, OE.f_inT, OE.f_inL, OE.f_inS, OE.s_tryN, OE.c_nil, OE.f_all, OE.f_any, OE.f_sum, OE.s_frz, OE.k_frzS, OE.k_fz, OE.f_frzLs, OE.f_frzT, OE.f_frzI, OE.f_frzN, OE.s_mlst, OE.k_ml, OE.s_meth, OE.k_me, OE.f_app, OE.f_extd, OE.f_sorted, OE.s_lc2, OE.k_lcc, OE.f_isB, OE.s_isi2, OE.k_isi2, OE.s_aug, OE.k_aug, OE.w_int, OE.f_revL, OE.f_revT, OE.s_isx, OE.k_isx, OE.startE, Nat.reduceAdd, Nat.reduceLeDiff, Nat.reduceSub, D.isE, isInt, isBl, isW] at h ⊢
    by_cases c : lo ≤ i <;> simp [c] at h ⊢ <;> exact h
  | _ => simpa [isW, D.isE, isInt, isBl] using h
theorem at0 {α : Type} {a : α} {l : List α} : L2.atI (a :: l) 0 = some a := by simp [L2.atI, L2.ixN]
theorem at1 {α : Type} {a b : α} {l : List α} : L2.atI (a :: b :: l) 1 = some b := by
  unfold L2.atI L2.ixN
  rw [if_pos (by decide), if_pos (by simp -implicitDefEqProofs only [List.length_cons]; omega)]
  rfl
theorem at2 {α : Type} {a b c : α} {l : List α} : L2.atI (a :: b :: c :: l) 2 = some c := by
  unfold L2.atI L2.ixN
  rw [if_pos (by decide), if_pos (by simp -implicitDefEqProofs only [List.length_cons]; omega)]
  rfl
theorem at_nat {α : Type} {l : List α} {i : Nat} {a : α} (h : l[i]? = some a) : L2.atI l (i : Int) = some a := by
  have hl : i < l.length := by
    rcases Nat.lt_or_ge i l.length with z | z
    · exact z
    · rw [List.getElem?_eq_none z] at h; cases h
  unfold L2.atI L2.ixN
  rw [if_pos (by omega), if_pos (by omega)]
  simpa using h
/-- the first that is none -/
noncomputable def badAt (i : Nat) : List D → Option Nat
  | [] => none
  | d :: l => if isW 1 1000000000000000000000000000000 d = true then badAt (i + 1) l else some i
noncomputable def wrongP : D → Option (List D)
  | .tup [h, g] => if isW 1 3 h = true then (match g with
    | .tup l => if 1 ≤ l.length ∧ l.length ≤ 8 then (badAt 0 l).map (fun j => [.int 1, .int (j : Nat)]) else some [.int 1]
    | _ => some [.int 1]) else some [.int 0]
  | _ => some []
theorem wrong_tt {a : D} {l : List D} : wrongP (.tup [a, .tup l]) = if isW 1 3 a = true then (if 1 ≤ l.length ∧ l.length ≤ 8 then (badAt 0 l).map (fun j => [D.int 1, .int (j : Nat)]) else some [.int 1]) else some [.int 0] := rfl
theorem wrong_t0 {a b : D} (h : isW 1 3 a = false) : wrongP (.tup [a, b]) = some [.int 0] := if_neg (by rw [h]; decide)
theorem sp_need {d : D} (hp : d.plain = true) (h : match wrongP d with | none => q d n | some p => x ⟨"BadPlan", some (.tup p)⟩ n) : F_need_plan Γ [d] n q x := by
  have he := noE hp
  wp_walk using t_need_plan_10, t_need_plan_8, t_need_plan_7, t_need_plan_5, t_need_plan_3, t_need_plan, F_need_plan, isi_tup
  refine ⟨he, ?_⟩
  cases d with
  | tup l =>
    wp_walk using isTp
    by_cases hl : l.length = 2
    · obtain ⟨a, b, rfl⟩ : ∃ a b, l = [a, b] := by
        match l, hl with
        | [a, b], _ => exact ⟨a, b, rfl⟩
      have pa : a.plain = true := plain_mem (plain_tup hp) (by simp)
      have pb : b.plain = true := plain_mem (plain_tup hp) (by simp)
      wp_walk using List.length_cons, List.length_nil, Nat.zero_add, Nat.reduceAdd, Int.cast_ofNat_Int, decide_true, Bool.bne_true, Bool.not_true, if_false, Bool.false_eq_true, at0, at1
      refine sp_is_whole (noE pa) ?_
      wp_walk using at0, at1, isi_tup
      by_cases ha : isW 1 3 a = true
      · rw [ha]
        wp_walk using at0, at1
        refine ⟨noE pb, ?_⟩
        cases b with
        | tup l =>
          wp_walk using isTp
          by_cases c1 : (1 : Int) ≤ (l.length : Nat)
          · by_cases c2 : ((l.length : Nat) : Int) ≤ 8
            · wp_walk using c1, c2, decide_true, at1
              have hw : wrongP (.tup [a, .tup l]) = (badAt 0 l).map (fun j => [.int 1, .int (j : Nat)]) := by
                rw [wrong_tt, if_pos ha]
                exact if_pos ⟨by omega, by omega⟩
              rw [hw] at h
              have hall : ∀ d ∈ l, d.plain = true := fun d hd => plain_mem (plain_tup pb) hd
              refine for_inv (I := fun ds ρ m => m = n ∧ ∃ (i : Nat) (l' : List D) (o1 o2 : Option D), ds = enumD i l' ∧ (∀ d ∈ l', d.plain = true) ∧ (match (badAt i l').map (fun j => [D.int 1, .int (j : Nat)]) with | none => q (.tup [a, .tup l]) n | some p => x ⟨"BadPlan", some (.tup p)⟩ n) ∧ ρ = [some (.tup [a, .tup l]), o1, o2]) ?_ ?_ _ _ _ ⟨rfl, 0, l, none, none, rfl, hall, h, rfl⟩
              · rintro d ds ρ m k ⟨rfl, i, l', o1, o2, e, hp', hh, rfl⟩ k1 k2
                cases l' with
                | nil => cases e
                | cons d' l' =>
                  rw [enumD] at e
                  cases e
                  wp_walk
                  refine sp_is_whole (noE (hp' d' List.mem_cons_self)) ?_
                  rw [badAt] at hh
                  by_cases hd : isW 1 1000000000000000000000000000000 d' = true
                  · rw [if_pos hd] at hh
                    rw [hd]
                    wp_walk
                    exact k1 _ _ ⟨rfl, i + 1, l', _, _, rfl, fun z hz => hp' z (List.mem_cons_of_mem _ hz), hh, rfl⟩
                  · rw [if_neg hd] at hh
                    have hd' : isW 1 1000000000000000000000000000000 d' = false := by simpa using hd
                    rw [hd']
                    wp_walk
                    exact hh
              · rintro ρ m ⟨rfl, i, l', o1, o2, e, hp', hh, rfl⟩
                cases l' with
                | cons d' l' => cases e
                | nil =>
                  wp_walk
                  exact hh
            · have hw : wrongP (.tup [a, .tup l]) = some [.int 1] := by
                rw [wrong_tt, if_pos ha]
                exact if_neg (by omega)
              rw [hw] at h
              simpa [c1, c2, OE.w_g0, OE.w_gs, OE.w_s0, OE.w_ss, OE.w_some, OE.w_ex, OE.w_lc, OE.w_ln, OE.w_at, OE.w_ta, OE.w_nt, OE.w_nf, OE.w_it, OE.w_if, OE.w_itP, OE.w_ifP, OE.w_ft, OE.w_mc, OE.w_mn, OE.w_rs, OE.w_r0, OE.w_ca, OE.w_na, OE.w_za, OE.w_sb, OE.w_sz, OE.s_then, OE.k_seqN, OE.k_seqR, OE.k_seqB, OE.k_seqC, OE.s_next, OE.s_ret, OE.k_ret, OE.s_set, OE.k_set, OE.s_ite, OE.k_ite, OE.o_rt, OE.o_nx, OE.s_run, OE.s_var, OE.s_const, OE.s_nil, OE.s_cons, OE.k_cons, OE.k_cons2, OE.s_tup, OE.s_lst, OE.k_tup, OE.k_lst, OE.s_bin, OE.k_bin, OE.k_bin2, OE.s_bind, OE.k_ap, OE.s_call, OE.k_apL, OE.s_fn, OE.k_fn, OE.s_test, OE.k_test, OE.s_and, OE.k_and, OE.s_or, OE.k_or, OE.s_not, OE.k_not, OE.s_andV, OE.k_andV, OE.s_orV, OE.k_orV, OE.s_notV, OE.k_notV, OE.s_if, OE.k_if, OE.s_isN, OE.k_isN, OE.s_noN, OE.k_noN, OE.s_chain, OE.k_ch1, OE.k_ch2, OE.k_ch3, OE.s_isi, OE.k_isi, OE.s_part, OE.k_part, OE.s_slice, OE.k_sl1, OE.k_sl2, OE.k_sl3, OE.s_retO, OE.s_slL, OE.s_slT, OE.s_slS, OE.s_seq, OE.k_itmL, OE.k_itmT, OE.k_itmS, OE.s_its, OE.k_its, OE.s_rng1, OE.s_rng2, OE.s_enT, OE.s_enL, OE.s_zipL, OE.s_zipT, OE.s_for, OE.k_for, OE.for_nil, OE.k_go, OE.k_tN, OE.k_tC, OE.k_tB, OE.k_tR, OE.g_name, OE.g_tup, OE.g_cons, OE.k_gs, OE.g_nil, OE.s_asg, OE.k_asg, OE.k_nx, OE.s_par, OE.k_par, OE.s_lc, OE.k_lc, OE.k_lc1, OE.k_lc2, OE.k_some, OE.s_fail, OE.k_fail, OE.s_fail0, OE.s_try, OE.k_unN, OE.k_unR, OE.s_fld, OE.k_fld, OE.f_addI, OE.f_addT, OE.f_addL, OE.f_addS, OE.f_ii, OE.f_i0, OE.f_mulI, OE.f_mulT, OE.f_mulL, OE.f_neg, OE.f_ixL, OE.f_ixT, OE.f_ixS, OE.f_lenL, OE.f_lenT, OE.f_lenS, OE.f_int, OE.f_min, OE.f_max, OE.f_tupL, OE.f_lstT, OE.f_lstL, OE.f_repr, OE.f_cmpS, OE.f_cmpI, OE.f_cmpT, OE.f_cmpL, OE.s_dict, OE.k_dic, OE.f_getM, OE.s_putM, OE.k_put1, OE.k_put2, OE.s_dm, OE.mGet_left, OE.mGet_seed, OE.mGet_cells, OE.mGet_spot, OE.mPut_left, OE.mPut_spot, OE.k_wh, OE.s_star, OE.k_starT, OE.k_starL, OE.k_star2, OE.s_drop, OE.k_drop, OE.s_par3, OE.k_par3, OE.f_lrg1, OE.f_trg1, OE.f_lrg2, OE.f_trg2, OE.f_ixM, OE.f_lenM, OE.f_inT, OE.f_inL, OE.f_inS, OE.s_tryN, OE.c_nil, OE.f_all, OE.f_any, OE.f_sum, OE.s_frz, OE.k_frzS, OE.k_fz, OE.f_frzLs, OE.f_frzT, OE.f_frzI, OE.f_frzN, OE.s_mlst, OE.k_ml, OE.s_meth, OE.k_me, OE.f_app, OE.f_extd, OE.f_sorted, OE.s_lc2, OE.k_lcc, OE.f_isB, OE.s_isi2, OE.k_isi2, OE.s_aug, OE.k_aug, OE.w_int, OE.f_revL, OE.f_revT, OE.s_isx, OE.k_isx, OE.startE, Nat.reduceAdd, Nat.reduceLeDiff, Nat.reduceSub, at1] using h
          · have hw : wrongP (.tup [a, .tup l]) = some [.int 1] := by
              rw [wrong_tt, if_pos ha]
              exact if_neg (by omega)
            rw [hw] at h
            simpa [c1, OE.w_g0, OE.w_gs, OE.w_s0, OE.w_ss, OE.w_some, OE.w_ex, OE.w_lc, OE.w_ln, OE.w_at, OE.w_ta, OE.w_nt, OE.w_nf, OE.w_it, OE.w_if, OE.w_itP, OE.w_ifP, OE.w_ft, OE.w_mc, OE.w_mn, OE.w_rs, OE.w_r0, OE.w_ca, OE.w_na, OE.w_za, OE.w_sb, OE.w_sz, OE.s_then, OE.k_seqN, OE.k_seqR, OE.k_seqB, OE.k_seqC, OE.s_next, OE.s_ret, OE.k_ret, OE.s_set, OE.k_set, OE.s_ite, OE.k_ite, OE.o_rt, OE.o_nx, OE.s_run, OE.s_var, OE.s_const, OE.s_nil, OE.s_cons, OE.k_cons, OE.k_cons2, OE.s_tup, OE.s_lst, OE.k_tup, OE.k_lst, OE.s_bin, OE.k_bin, OE.k_bin2, OE.s_bind, OE.k_ap, OE.s_call, OE.k_apL, OE.s_fn, OE.k_fn, OE.s_test, OE.k_test, OE.s_and, OE.k_and, OE.s_or, OE.k_or, OE.s_not, OE.k_not, OE.s_andV, OE.k_andV, OE.s_orV, OE.k_orV, OE.s_notV, OE.k_notV, OE.s_if, OE.k_if, OE.s_isN, OE.k_isN, OE.s_noN, OE.k_noN, OE.s_chain, OE.k_ch1, OE.k_ch2, OE.k_ch3, OE.s_isi, OE.k_isi, OE.s_part, OE.k_part, OE.s_slice, OE.k_sl1, OE.k_sl2, OE.k_sl3, OE.s_retO, OE.s_slL, OE.s_slT, OE.s_slS, OE.s_seq, OE.k_itmL, OE.k_itmT, OE.k_itmS, OE.s_its, OE.k_its, OE.s_rng1, OE.s_rng2, OE.s_enT, OE.s_enL, OE.s_zipL, OE.s_zipT, OE.s_for, OE.k_for, OE.for_nil, OE.k_go, OE.k_tN, OE.k_tC, OE.k_tB, OE.k_tR, OE.g_name, OE.g_tup, OE.g_cons, OE.k_gs, OE.g_nil, OE.s_asg, OE.k_asg, OE.k_nx, OE.s_par, OE.k_par, OE.s_lc, OE.k_lc, OE.k_lc1, OE.k_lc2, OE.k_some, OE.s_fail, OE.k_fail, OE.s_fail0, OE.s_try, OE.k_unN, OE.k_unR, OE.s_fld, OE.k_fld, OE.f_addI, OE.f_addT, OE.f_addL, OE.f_addS, OE.f_ii, OE.f_i0, OE.f_mulI, OE.f_mulT, OE.f_mulL, OE.f_neg, OE.f_ixL, OE.f_ixT, OE.f_ixS, OE.f_lenL, OE.f_lenT, OE.f_lenS, OE.f_int, OE.f_min, OE.f_max, OE.f_tupL, OE.f_lstT, OE.f_lstL, OE.f_repr, OE.f_cmpS, OE.f_cmpI, OE.f_cmpT, OE.f_cmpL, OE.s_dict, OE.k_dic, OE.f_getM, OE.s_putM, OE.k_put1, OE.k_put2, OE.s_dm, OE.mGet_left, OE.mGet_seed, OE.mGet_cells, OE.mGet_spot, OE.mPut_left, OE.mPut_spot, OE.k_wh, OE.s_star, OE.k_starT, OE.k_starL, OE.k_star2, OE.s_drop, OE.k_drop, OE.s_par3, OE.k_par3, OE.f_lrg1, OE.f_trg1, OE.f_lrg2, OE.f_trg2, OE.f_ixM, OE.f_lenM, OE.f_inT, OE.f_inL, OE.f_inS, OE.s_tryN, OE.c_nil, OE.f_all, OE.f_any, OE.f_sum, OE.s_frz, OE.k_frzS, OE.k_fz, OE.f_frzLs, OE.f_frzT, OE.f_frzI, OE.f_frzN, OE.s_mlst, OE.k_ml, OE.s_meth, OE.k_me, OE.f_app, OE.f_extd, OE.f_sorted, OE.s_lc2, OE.k_lcc, OE.f_isB, OE.s_isi2, OE.k_isi2, OE.s_aug, OE.k_aug, OE.w_int, OE.f_revL, OE.f_revT, OE.s_isx, OE.k_isx, OE.startE, Nat.reduceAdd, Nat.reduceLeDiff, Nat.reduceSub, at1] using h
        | _ =>
          unfold wrongP at h
          simpa [isTp, OE.w_g0, OE.w_gs, OE.w_s0, OE.w_ss, OE.w_some, OE.w_ex, OE.w_lc, OE.w_ln, OE.w_at, OE.w_ta, OE.w_nt, OE.w_nf, OE.w_it, OE.w_if, OE.w_itP, OE.w_ifP, OE.w_ft, OE.w_mc, OE.w_mn, OE.w_rs, OE.w_r0, OE.w_ca, OE.w_na, OE.w_za, OE.w_sb, OE.w_sz, OE.s_then, OE.k_seqN, OE.k_seqR, OE.k_seqB, OE.k_seqC, OE.s_next, OE.s_ret, OE.k_ret, OE.s_set, OE.k_set, OE.s_ite, OE.k_ite, OE.o_rt, OE.o_nx, OE.s_run, OE.s_var, OE.s_const, OE.s_nil, OE.s_cons, OE.k_cons, OE.k_cons2, OE.s_tup, OE.s_lst, OE.k_tup, OE.k_lst, OE.s_bin, OE.k_bin, OE.k_bin2, OE.s_bind, OE.k_ap, OE.s_call, OE.k_apL, OE.s_fn, OE.k_fn, OE.s_test, OE.k_test, OE.s_and, OE.k_and, OE.s_or, OE.k_or, OE.s_not, OE.k_not, OE.s_andV, OE.k_andV, OE.s_orV, OE.k_orV, OE.s_notV, OE.k_notV, OE.s_if, OE.k_if, OE.s_isN, OE.k_isN, OE.s_noN, OE.k_noN, OE.s_chain, OE.k_ch1, OE.k_ch2, OE.k_ch3, OE.s_isi, OE.k_isi, OE.s_part, OE.k_part, OE.s_slice, OE.k_sl1, OE.k_sl2, OE.k_sl3, OE.s_retO, OE.s_slL, OE.s_slT, OE.s_slS, OE.s_seq, OE.k_itmL, OE.k_itmT, OE.k_itmS, OE.s_its, OE.k_its, OE.s_rng1, OE.s_rng2, OE.s_enT, OE.s_enL, OE.s_zipL, OE.s_zipT, OE.s_for, OE.k_for, OE.for_nil, OE.k_go, OE.k_tN, OE.k_tC, OE.k_tB, OE.k_tR, OE.g_name, OE.g_tup, OE.g_cons, OE.k_gs, OE.g_nil, OE.s_asg, OE.k_asg, OE.k_nx, OE.s_par, OE.k_par, OE.s_lc, OE.k_lc, OE.k_lc1, OE.k_lc2, OE.k_some, OE.s_fail, OE.k_fail, OE.s_fail0, OE.s_try, OE.k_unN, OE.k_unR, OE.s_fld, OE.k_fld, OE.f_addI, OE.f_addT, OE.f_addL, OE.f_addS, OE.f_ii, OE.f_i0, OE.f_mulI, OE.f_mulT, OE.f_mulL, OE.f_neg, OE.f_ixL, OE.f_ixT, OE.f_ixS, OE.f_lenL, OE.f_lenT, OE.f_lenS, OE.f_int, OE.f_min, OE.f_max, OE.f_tupL, OE.f_lstT, OE.f_lstL, OE.f_repr, OE.f_cmpS, OE.f_cmpI, OE.f_cmpT, OE.f_cmpL, OE.s_dict, OE.k_dic, OE.f_getM, OE.s_putM, OE.k_put1, OE.k_put2, OE.s_dm, OE.mGet_left, OE.mGet_seed, OE.mGet_cells, OE.mGet_spot, OE.mPut_left, OE.mPut_spot, OE.k_wh, OE.s_star, OE.k_starT, OE.k_starL, OE.k_star2, OE.s_drop, OE.k_drop, OE.s_par3, OE.k_par3, OE.f_lrg1, OE.f_trg1, OE.f_lrg2, OE.f_trg2, OE.f_ixM, OE.f_lenM, OE.f_inT, OE.f_inL, OE.f_inS, OE.s_tryN, OE.c_nil, OE.f_all, OE.f_any, OE.f_sum, OE.s_frz, OE.k_frzS, OE.k_fz, OE.f_frzLs, OE.f_frzT, OE.f_frzI, OE.f_frzN, OE.s_mlst, OE.k_ml, OE.s_meth, OE.k_me, OE.f_app, OE.f_extd, OE.f_sorted, OE.s_lc2, OE.k_lcc, OE.f_isB, OE.s_isi2, OE.k_isi2, OE.s_aug, OE.k_aug, OE.w_int, OE.f_revL, OE.f_revT, OE.s_isx, OE.k_isx, OE.startE, Nat.reduceAdd, Nat.reduceLeDiff, Nat.reduceSub, ha] using h
      · have ha' : isW 1 3 a = false := by simpa using ha
        rw [ha']
        rw [wrong_t0 ha'] at h
        simpa [OE.w_g0, OE.w_gs, OE.w_s0, OE.w_ss, OE.w_some, OE.w_ex, OE.w_lc, OE.w_ln, OE.w_at, OE.w_ta, OE.w_nt, OE.w_nf, OE.w_it, OE.w_if, OE.w_itP, OE.w_ifP, OE.w_ft, OE.w_mc, OE.w_mn, OE.w_rs, OE.w_r0, OE.w_ca, OE.w_na, OE.w_za, OE.w_sb, OE.w_sz, OE.s_then, OE.k_seqN, OE.k_seqR, OE.k_seqB, OE.k_seqC, OE.s_next, OE.s_ret, OE.k_ret, OE.s_set, OE.k_set, OE.s_ite, OE.k_ite, OE.o_rt, OE.o_nx, OE.s_run, OE.s_var, OE.s_const, OE.s_nil, OE.s_cons, OE.k_cons, OE.k_cons2, OE.s_tup, OE.s_lst, OE.k_tup, OE.k_lst, OE.s_bin, OE.k_bin, OE.k_bin2, OE.s_bind, OE.k_ap, OE.s_call, OE.k_apL, OE.s_fn, OE.k_fn, OE.s_test, OE.k_test, OE.s_and, OE.k_and, OE.s_or, OE.k_or, OE.s_not, OE.k_not, OE.s_andV, OE.k_andV, OE.s_orV, OE.k_orV, OE.s_notV, OE.k_notV, OE.s_if, OE.k_if, OE.s_isN, OE.k_isN, OE.s_noN, OE.k_noN, OE.s_chain, OE.k_ch1, OE.k_ch2, OE.k_ch3, OE.s_isi, OE.k_isi, OE.s_part, OE.k_part, OE.s_slice, OE.k_sl1, OE.k_sl2, OE.k_sl3, OE.s_retO, OE.s_slL, OE.s_slT, OE.s_slS, OE.s_seq, OE.k_itmL, OE.k_itmT, OE.k_itmS, OE.s_its, OE.k_its, OE.s_rng1, OE.s_rng2, OE.s_enT, OE.s_enL, OE.s_zipL, OE.s_zipT, OE.s_for, OE.k_for, OE.for_nil, OE.k_go, OE.k_tN, OE.k_tC, OE.k_tB, OE.k_tR, OE.g_name, OE.g_tup, OE.g_cons, OE.k_gs, OE.g_nil, OE.s_asg, OE.k_asg, OE.k_nx, OE.s_par, OE.k_par, OE.s_lc, OE.k_lc, OE.k_lc1, OE.k_lc2, OE.k_some, OE.s_fail, OE.k_fail, OE.s_fail0, OE.s_try, OE.k_unN, OE.k_unR, OE.s_fld, OE.k_fld, OE.f_addI, OE.f_addT, OE.f_addL, OE.f_addS, OE.f_ii, OE.f_i0, OE.f_mulI, OE.f_mulT, OE.f_mulL, OE.f_neg, OE.f_ixL, OE.f_ixT, OE.f_ixS, OE.f_lenL, OE.f_lenT, OE.f_lenS, OE.f_int, OE.f_min, OE.f_max, OE.f_tupL, OE.f_lstT, OE.f_lstL, OE.f_repr, OE.f_cmpS, OE.f_cmpI, OE.f_cmpT, OE.f_cmpL, OE.s_dict, OE.k_dic, OE.f_getM, OE.s_putM, OE.k_put1, OE.k_put2, OE.s_dm, OE.mGet_left, OE.mGet_seed, OE.mGet_cells, OE.mGet_spot, OE.mPut_left, OE.mPut_spot, OE.k_wh, OE.s_star, OE.k_starT, OE.k_starL, OE.k_star2, OE.s_drop, OE.k_drop, OE.s_par3, OE.k_par3, OE.f_lrg1, OE.f_trg1, OE.f_lrg2, OE.f_trg2, OE.f_ixM, OE.f_lenM, OE.f_inT, OE.f_inL, OE.f_inS, OE.s_tryN, OE.c_nil, OE.f_all, OE.f_any, OE.f_sum, OE.s_frz, OE.k_frzS, OE.k_fz, OE.f_frzLs, OE.f_frzT, OE.f_frzI, OE.f_frzN, OE.s_mlst, OE.k_ml, OE.s_meth, OE.k_me, OE.f_app, OE.f_extd, OE.f_sorted, OE.s_lc2, OE.k_lcc, OE.f_isB, OE.s_isi2, OE.k_isi2, OE.s_aug, OE.k_aug, OE.w_int, OE.f_revL, OE.f_revT, OE.s_isx, OE.k_isx, OE.startE, Nat.reduceAdd, Nat.reduceLeDiff, Nat.reduceSub] using h
    · have hw : wrongP (.tup l) = some [] := by
        match l, hl with
        | [], _ => rfl
        | [_], _ => rfl
        | _ :: _ :: _ :: _, _ => rfl
      rw [hw] at h
      have hl' : ¬ ((l.length : Nat) : Int) = 2 := by omega
      simpa [hl', OE.w_g0, OE.w_gs, OE.w_s0, OE.w_ss, OE.w_some, OE.w_ex, OE.w_lc, OE.w_ln, OE.w_at, OE.w_ta, OE.w_nt, OE.w_nf, OE.w_it, OE.w_if, OE.w_itP, OE.w_ifP, OE.w_ft, OE.w_mc, OE.w_mn, OE.w_rs, OE.w_r0, OE.w_ca, OE.w_na, OE.w_za, OE.w_sb, OE.w_sz, OE.s_then, OE.k_seqN, OE.k_seqR, OE.k_seqB, OE.k_seqC, OE.s_next, OE.s_ret, OE.k_ret, OE.s_set, OE.k_set, OE.s_ite, OE.k_ite, OE.o_rt, OE.o_nx, OE.s_run, OE.s_var, OE.s_const, OE.s_nil, OE.s_cons, OE.k_cons, OE.k_cons2, OE.s_tup, OE.s_lst, OE.k_tup, OE.k_lst, OE.s_bin, OE.k_bin, OE.k_bin2, OE.s_bind, OE.k_ap, OE.s_call, OE.k_apL, OE.s_fn, OE.k_fn, OE.s_test, OE.k_test, OE.s_and, OE.k_and, OE.s_or, OE.k_or, OE.s_not, OE.k_not, OE.s_andV, OE.k_andV, OE.s_orV, OE.k_orV, OE.s_notV, OE.k_notV, OE.s_if, OE.k_if, OE.s_isN, OE.k_isN, OE.s_noN, OE.k_noN, OE.s_chain, OE.k_ch1, OE.k_ch2, OE.k_ch3, OE.s_isi, OE.k_isi, OE.s_part, OE.k_part, OE.s_slice, OE.k_sl1, OE.k_sl2, OE.k_sl3, OE.s_retO, OE.s_slL, OE.s_slT, OE.s_slS, OE.s_seq, OE.k_itmL, OE.k_itmT, OE.k_itmS, OE.s_its, OE.k_its, OE.s_rng1, OE.s_rng2, OE.s_enT, OE.s_enL, OE.s_zipL, OE.s_zipT, OE.s_for, OE.k_for, OE.for_nil, OE.k_go, OE.k_tN, OE.k_tC, OE.k_tB, OE.k_tR, OE.g_name, OE.g_tup, OE.g_cons, OE.k_gs, OE.g_nil, OE.s_asg, OE.k_asg, OE.k_nx, OE.s_par, OE.k_par, OE.s_lc, OE.k_lc, OE.k_lc1, OE.k_lc2, OE.k_some, OE.s_fail, OE.k_fail, OE.s_fail0, OE.s_try, OE.k_unN, OE.k_unR, OE.s_fld, OE.k_fld, OE.f_addI, OE.f_addT, OE.f_addL, OE.f_addS, OE.f_ii, OE.f_i0, OE.f_mulI, OE.f_mulT, OE.f_mulL, OE.f_neg, OE.f_ixL, OE.f_ixT, OE.f_ixS, OE.f_lenL, OE.f_lenT, OE.f_lenS, OE.f_int, OE.f_min, OE.f_max, OE.f_tupL, OE.f_lstT, OE.f_lstL, OE.f_repr, OE.f_cmpS, OE.f_cmpI, OE.f_cmpT, OE.f_cmpL, OE.s_dict, OE.k_dic, OE.f_getM, OE.s_putM, OE.k_put1, OE.k_put2, OE.s_dm, OE.mGet_left, OE.mGet_seed, OE.mGet_cells, OE.mGet_spot, OE.mPut_left, OE.mPut_spot, OE.k_wh, OE.s_star, OE.k_starT, OE.k_starL, OE.k_star2, OE.s_drop, OE.k_drop, OE.s_par3, OE.k_par3, OE.f_lrg1, OE.f_trg1, OE.f_lrg2, OE.f_trg2, OE.f_ixM, OE.f_lenM, OE.f_inT, OE.f_inL, OE.f_inS, OE.s_tryN, OE.c_nil, OE.f_all, OE.f_any, OE.f_sum, OE.s_frz, OE.k_frzS, OE.k_fz, OE.f_frzLs, OE.f_frzT, OE.f_frzI, OE.f_frzN, OE.s_mlst, OE.k_ml, OE.s_meth, OE.k_me, OE.f_app, OE.f_extd, OE.f_sorted, OE.s_lc2, OE.k_lcc, OE.f_isB, OE.s_isi2, OE.k_isi2, OE.s_aug, OE.k_aug, OE.w_int, OE.f_revL, OE.f_revT, OE.s_isx, OE.k_isx, OE.startE, Nat.reduceAdd, Nat.reduceLeDiff, Nat.reduceSub] using h
  | _ => simpa [isTp, OE.w_g0, OE.w_gs, OE.w_s0, OE.w_ss, OE.w_some, OE.w_ex, OE.w_lc, OE.w_ln, OE.w_at, OE.w_ta, OE.w_nt, OE.w_nf, OE.w_it, OE.w_if, OE.w_itP, OE.w_ifP, OE.w_ft, OE.w_mc, OE.w_mn, OE.w_rs, OE.w_r0, OE.w_ca, OE.w_na, OE.w_za, OE.w_sb, OE.w_sz, OE.s_then, OE.k_seqN, OE.k_seqR, OE.k_seqB, OE.k_seqC, OE.s_next, OE.s_ret, OE.k_ret, OE.s_set, OE.k_set, OE.s_ite, OE.k_ite, OE.o_rt, OE.o_nx, OE.s_run, OE.s_var, OE.s_const, OE.s_nil, OE.s_cons, OE.k_cons, OE.k_cons2, OE.s_tup, OE.s_lst, OE.k_tup, OE.k_lst, OE.s_bin, OE.k_bin, OE.k_bin2, OE.s_bind, OE.k_ap, OE.s_call, OE.k_apL, OE.s_fn, OE.k_fn, OE.s_test, OE.k_test, OE.s_and, OE.k_and, OE.s_or, OE.k_or, OE.s_not, OE.k_not, OE.s_andV, OE.k_andV, OE.s_orV, OE.k_orV, OE.s_notV, OE.k_notV, OE.s_if, OE.k_if, OE.s_isN, OE.k_isN, OE.s_noN, OE.k_noN, OE.s_chain, OE.k_ch1, OE.k_ch2, OE.k_ch3, OE.s_isi, OE.k_isi, OE.s_part, OE.k_part, OE.s_slice, OE.k_sl1, OE.k_sl2, OE.k_sl3, OE.s_retO, OE.s_slL, OE.s_slT, OE.s_slS, OE.s_seq, OE.k_itmL, OE.k_itmT, OE.k_itmS, OE.s_its, OE.k_its, OE.s_rng1, OE.s_rng2, OE.s_enT, OE.s_enL, OE.s_zipL, OE.s_zipT, OE.s_for, OE.k_for, OE.for_nil, OE.k_go, OE.k_tN, OE.k_tC, OE.k_tB, OE.k_tR, OE.g_name, OE.g_tup, OE.g_cons, OE.k_gs, OE.g_nil, OE.s_asg, OE.k_asg, OE.k_nx, OE.s_par, OE.k_par, OE.s_lc, OE.k_lc, OE.k_lc1, OE.k_lc2, OE.k_some, OE.s_fail, OE.k_fail, OE.s_fail0, OE.s_try, OE.k_unN, OE.k_unR, OE.s_fld, OE.k_fld, OE.f_addI, OE.f_addT, OE.f_addL, OE.f_addS, OE.f_ii, OE.f_i0, OE.f_mulI, OE.f_mulT, OE.f_mulL, OE.f_neg, OE.f_ixL, OE.f_ixT, OE.f_ixS, OE.f_lenL, OE.f_lenT, OE.f_lenS, OE.f_int, OE.f_min, OE.f_max, OE.f_tupL, OE.f_lstT, OE.f_lstL, OE.f_repr, OE.f_cmpS, OE.f_cmpI, OE.f_cmpT, OE.f_cmpL, OE.s_dict, OE.k_dic, OE.f_getM, OE.s_putM, OE.k_put1, OE.k_put2, OE.s_dm, OE.mGet_left, OE.mGet_seed, OE.mGet_cells, OE.mGet_spot, OE.mPut_left, OE.mPut_spot, OE.k_wh, OE.s_star, OE.k_starT, OE.k_starL, OE.k_star2, OE.s_drop, OE.k_drop, OE.s_par3, OE.k_par3, OE.f_lrg1, OE.f_trg1, OE.f_lrg2, OE.f_trg2, OE.f_ixM, OE.f_lenM, OE.f_inT, OE.f_inL, OE.f_inS, OE.s_tryN, OE.c_nil, OE.f_all, OE.f_any, OE.f_sum, OE.s_frz, OE.k_frzS, OE.k_fz, OE.f_frzLs, OE.f_frzT, OE.f_frzI, OE.f_frzN, OE.s_mlst, OE.k_ml, OE.s_meth, OE.k_me, OE.f_app, OE.f_extd, OE.f_sorted, OE.s_lc2, OE.k_lcc, OE.f_isB, OE.s_isi2, OE.k_isi2, OE.s_aug, OE.k_aug, OE.w_int, OE.f_revL, OE.f_revT, OE.s_isx, OE.k_isx, OE.startE, Nat.reduceAdd, Nat.reduceLeDiff, Nat.reduceSub, wrongP] using h
/-! plans -/
noncomputable def planD (h : Int) (gs : List Int) : D := .tup [.int h, .tup (gs.map D.int)]
structure PlanOk (h : Int) (gs : List Int) : Prop where
  h1 : 1 ≤ h
  h3 : h ≤ 3
  l1 : 1 ≤ gs.length
  l8 : gs.length ≤ 8
  g : ∀ z ∈ gs, 1 ≤ z ∧ z ≤ 1000000000000000000000000000000
theorem plain_ints : ∀ l : List Int, D.plainAll (l.map D.int) = true
  | [] => rfl
  | _ :: l => by rw [List.map_cons, D.plainAll, plain_ints l]; rfl
theorem plain_plan (h : Int) (gs : List Int) : (planD h gs).plain = true := by
  simp [planD, D.plain, D.plainAll, plain_ints]
theorem badAt_ints : ∀ {gs : List Int} {i : Nat}, (∀ z ∈ gs, 1 ≤ z ∧ z ≤ 1000000000000000000000000000000) → badAt i (gs.map D.int) = none
  | [], _, _ => rfl
  | g :: gs, i, h => by
    rw [List.map_cons, badAt, if_pos ?_]
    · exact badAt_ints fun z hz => h z (List.mem_cons_of_mem _ hz)
    · have := h g List.mem_cons_self
      simp -implicitDefEqProofs only [isW, Bool.and_eq_true, decide_eq_true_eq]
      exact this
theorem wrongP_plan {h : Int} {gs : List Int} (ok : PlanOk h gs) : wrongP (planD h gs) = none := by
  unfold planD
  rw [wrong_tt, if_pos, if_pos, badAt_ints ok.g]
  · rfl
  · rw [List.length_map]; exact ⟨ok.l1, ok.l8⟩
  · simp -implicitDefEqProofs only [isW, Bool.and_eq_true, decide_eq_true_eq]; exact ⟨ok.h1, ok.h3⟩
theorem sp_needOk {h : Int} {gs : List Int} (ok : PlanOk h gs) (hq : q (planD h gs) n) : F_need_plan Γ [planD h gs] n q x := sp_need (plain_plan h gs) (by rw [wrongP_plan ok]; exact hq)
/-! sums -/
theorem ipow_le {a b : Nat} (h : a ≤ b) : (2 : Int) ^ a ≤ 2 ^ b := by
  have e : ∀ k : Nat, (2 : Int) ^ k = ((2 ^ k : Nat) : Int) := fun k => by simp
  rw [e, e]
  exact Int.ofNat_le.mpr (Nat.pow_le_pow_right (by decide) h)
theorem lg_lt {i : Int} {N : Nat} (hN : 0 < N) (h0 : 0 ≤ i) (h : i < 2 ^ N) : i.natAbs.log2 < N := by
  by_cases z : i.natAbs = 0
  · rw [z]; simpa using hN
  · refine (Nat.log2_lt z).mpr ?_
    have : ((i.natAbs : Nat) : Int) < ((2 ^ N : Nat) : Int) := by
      rw [Int.natAbs_of_nonneg h0]
      simpa using h
    exact Int.ofNat_lt.mp this
noncomputable def fracI (a b : Int) : Int × Int := (a / (Int.gcd a b : Nat), b / (Int.gcd a b : Nat))
theorem gcd_pos {a b : Int} (hb : 1 ≤ b) : 0 < Int.gcd a b := Nat.pos_of_ne_zero fun z => by
  have := (Int.gcd_eq_zero_iff.mp z).2; omega
noncomputable def sumStep (p : Int × Int) (g : Int) : Int × Int := fracI (p.1 * g + p.2) (p.2 * g)
theorem cmulw {a b : Int} {N M : Nat} (hN : 0 < N) (hM : 0 < M) (ha : 0 ≤ a) (hb : 0 ≤ b) (h1 : a < 2 ^ N) (h2 : b < 2 ^ M) (h : N + M ≤ 1000000) : CMulA a b := .inr (by
  have := lg_lt hN ha h1
  have := lg_lt hM hb h2
  show _ + _ < 1000000
  omega)
theorem pow_step {k : Nat} : (2 : Int) ^ (200 * k) * 2 ^ 100 + 2 ^ (200 * k) ≤ 2 ^ (200 * (k + 1)) := by
  have e : 200 * (k + 1) = 200 * k + 200 := by omega
  rw [e, Int.pow_add]
  have h : (0 : Int) < 2 ^ (200 * k) := Int.pow_pos (by decide)
  have h2 : (2 : Int) ^ (200 * k) * 2 ^ 100 + 2 ^ (200 * k) = 2 ^ (200 * k) * (2 ^ 100 + 1) := by rw [Int.mul_add, Int.mul_one]
  rw [h2]
  exact Int.mul_le_mul_of_nonneg_left (by decide) (by omega)
structure SumOk (k : Nat) (p : Int × Int) : Prop where
  a0 : 0 ≤ p.1
  b1 : 1 ≤ p.2
  a2 : p.1 < 2 ^ (200 * k)
  b2 : p.2 < 2 ^ (200 * k)
theorem mul_lt_pow {a g : Int} {N : Nat} (h0 : 0 ≤ a) (h : a < 2 ^ N) (g0 : 0 ≤ g) (g1 : g ≤ 2 ^ 100) : a * g ≤ 2 ^ N * 2 ^ 100 :=
  Int.le_trans (Int.mul_le_mul_of_nonneg_left g1 h0) (Int.mul_le_mul_of_nonneg_right (by omega) (by decide))
theorem div_gcd {a b : Int} (ha : 0 ≤ a) (hb : 1 ≤ b) : 0 ≤ (fracI a b).1 ∧ (fracI a b).1 ≤ a ∧ 1 ≤ (fracI a b).2 ∧ (fracI a b).2 ≤ b := by
  have g0 := gcd_pos (a := a) hb
  unfold fracI
  have z : ((Int.gcd a b : Nat) : Int) ∣ b := Int.gcd_dvd_right ..
  have hle := Int.le_of_dvd (by omega) z
  refine ⟨Int.ediv_nonneg ha (by omega), Int.ediv_le_self _ ha, ?_, Int.ediv_le_self _ (by omega)⟩
  exact (Int.le_ediv_iff_mul_le (by omega)).mpr (by omega)
theorem SumOk.step {k : Nat} {p : Int × Int} {g : Int} (h : SumOk k p) (g1 : 1 ≤ g) (g2 : g ≤ 1000000000000000000000000000000) : SumOk (k + 1) (sumStep p g) ∧ 0 ≤ p.1 * g + p.2 ∧ 1 ≤ p.2 * g ∧ p.1 * g + p.2 < 2 ^ (200 * (k + 1)) ∧ p.2 * g < 2 ^ (200 * (k + 1)) := by
  have hg : g ≤ 2 ^ 100 := Int.le_trans g2 (by decide)
  have m1 := mul_lt_pow h.a0 h.a2 (by omega) hg
  have m2 := mul_lt_pow (by have := h.b1; omega) h.b2 (by omega) hg
  have ps := pow_step (k := k)
  have pp : (0 : Int) < 2 ^ (200 * k) := Int.pow_pos (by decide)
  have n1 : 0 ≤ p.1 * g := Int.mul_nonneg h.a0 (by omega)
  have n2 : 1 ≤ p.2 * g := by
    have : p.2 * 1 ≤ p.2 * g := Int.mul_le_mul_of_nonneg_left g1 (by have := h.b1; omega)
    have := h.b1
    omega
  have hb := h.b2
  have hb1 := h.b1
  have A : p.1 * g + p.2 < 2 ^ (200 * (k + 1)) := by omega
  have B : p.2 * g < 2 ^ (200 * (k + 1)) := by omega
  obtain ⟨d1, d2, d3, d4⟩ := div_gcd (a := p.1 * g + p.2) (b := p.2 * g) (by omega) n2
  exact ⟨⟨d1, d3, Int.lt_of_le_of_lt d2 A, Int.lt_of_le_of_lt d4 B⟩, by omega, n2, A, B⟩
theorem SumOk.start : SumOk 1 (0, 1) := ⟨by decide, by decide, by decide, by decide⟩
noncomputable def prodI (gs : List Int) : Int := gs.foldl (· * ·) 1
noncomputable def tProd (ti : Ev → Wp (List D)) : Ev → Wp Out :=
  tthen (tset 1 (tconst (.int 1)))
  (tthen (tfor ti (gname 2) (tset 1 (tbin fMul (tvar 1) (tvar 2))))
  (tret (tvar 1)))
theorem sp_prodG {ti : Ev → Wp (List D)} {d : D} {gs : List Int} (hi : ∀ {ql : List D → S → Prop}, ti [some d, some (.int 1), none] n ql x = ql (gs.map D.int) n) (hg : ∀ z ∈ gs, 1 ≤ z ∧ z ≤ 1000000000000000000000000000000) (hl : gs.length ≤ 30) (hq : q (.int (prodI gs)) n) : runDef 3 (tProd ti) [d] n q x := by
  wp_walk using tProd, hi
  refine for_inv (I := fun ds ρ m => m = n ∧ ∃ (p : Int) (l : List Int) (o : Option D), ds = l.map D.int ∧ ρ = [some d, some (.int p), o] ∧ l.foldl (· * ·) p = prodI gs ∧ (∀ z ∈ l, 1 ≤ z ∧ z ≤ 1000000000000000000000000000000) ∧ l.length ≤ 30 ∧ 1 ≤ p ∧ p < 2 ^ (200 * (31 - l.length))) ?_ ?_ _ _ _ ⟨rfl, 1, gs, none, rfl, rfl, rfl, hg, hl, by decide, ?_⟩
  · rintro d' ds ρ m k ⟨rfl, p, l, o, e, rfl, e2, hg', hl', p1, p2⟩ k1 k2
    cases l with
    | nil => cases e
    | cons g l =>
      cases e
      obtain ⟨g1, g2⟩ := hg' g List.mem_cons_self
      rw [List.length_cons] at hl' p2
      have c1 : CMulA p g := cmulw (N := 200 * (31 - (l.length + 1))) (M := 100) (by omega) (by decide) (by omega) (by omega) p2 (Int.lt_of_le_of_lt g2 (by decide)) (by omega)
      have m1 := mul_lt_pow (by omega) p2 (by omega) (Int.le_trans g2 (by decide))
      have ps := pow_step (k := 31 - (l.length + 1))
      have pp : (0 : Int) < 2 ^ (200 * (31 - (l.length + 1))) := Int.pow_pos (by decide)
      have ek : 31 - (l.length + 1) + 1 = 31 - l.length := by omega
      rw [ek] at ps
      have n2 : 1 ≤ p * g := by
        have : p * 1 ≤ p * g := Int.mul_le_mul_of_nonneg_left g1 (by omega)
        omega
      wp_walk
      exact ⟨c1, k1 _ _ ⟨rfl, p * g, l, _, rfl, rfl, e2, fun z hz => hg' z (List.mem_cons_of_mem _ hz), by omega, n2, by omega⟩⟩
  · rintro ρ m ⟨rfl, p, l, o, e, rfl, e2, hg', hl', p1, p2⟩
    cases l with
    | cons g l => cases e
    | nil =>
      wp_walk
      have e2' : p = prodI gs := e2
      rw [e2']
      exact hq
  · exact Int.lt_of_lt_of_le (b := 2 ^ 1) (by decide) (ipow_le (by omega))
theorem sp_count_of {h : Int} {gs : List Int} (ok : PlanOk h gs) (hq : q (.int (prodI gs)) n) : F_count_of Γ [planD h gs] n q x :=
  sp_prodG (ti := tseq (tbin fIx (tvar 0) (tconst (.int 1)))) (fun {ql} => by wp_walk using planD, at1) ok.g (by have := ok.l8; omega) hq
end PL
namespace PL
open OE PySem
variable [TN] {Γ : Gam} {n : S} {q : D → S → Prop} {x : Exn → S → Prop}
/-! ### tools for the laws -/
theorem e9 : (10 : Int) ^ Int.toNat 9 = 1000000000 := by decide
theorem lgA {i : Int} {N : Nat} (hN : 0 < N) (h : i.natAbs < 2 ^ N) : i.natAbs.log2 < N := by
  by_cases z : i.natAbs = 0
  · rw [z]; simpa using hN
  · exact (Nat.log2_lt z).mpr h
theorem okI {b e : Nat} {i : Int} (h0 : -(10 ^ 60) ≤ i) (h1 : i ≤ 10 ^ 60) : Ok b e (.int i) := (ok_int (by
  have := lgA (i := i) (N := 200) (by decide) (by omega)
  omega)).mono (Nat.zero_le _) (Nat.zero_le _)
theorem okL {b e : Nat} {z : Bool} : Ok b e (.bl z) := (ok_bl z).mono (Nat.zero_le _) (Nat.zero_le _)
theorem ok2 {b e b' e' m : Nat} {l : List D} (h : AllOk b e l) (hl : l.length ≤ m) (hb : m * (b + 1) ≤ b') (he : e + 1 ≤ e') : Ok b' e' (.tup l) := (ok_tup h hl).mono hb he
theorem ok3 {b e b' e' m : Nat} {l : List D} (h : AllOk b e l) (hl : l.length ≤ m) (hb : m * (b + 1) ≤ b') (he : e + 1 ≤ e') : Ok b' e' (.lst l) := (ok_lst h hl).mono hb he
theorem lg9 {v : Int} (h : 1 ≤ v ∧ v ≤ 10 ^ 60) : v.natAbs.log2 < 9000 := by
  have := lgA (i := v) (N := 200) (by decide) (by omega)
  omega
theorem range_len {a : Int} {k : Nat} : (rangeD a k).length = k := by unfold rangeD; simp
theorem range_get {k : Nat} {d : D} (h : d ∈ rangeD 0 k) : ∃ i : Int, d = .int i ∧ 0 ≤ i ∧ i < k := by
  unfold rangeD at h
  obtain ⟨z, hz, rfl⟩ := List.mem_map.mp h
  have := List.mem_range.mp hz
  exact ⟨_, rfl, by omega, by omega⟩
theorem ok_ints {b e : Nat} {gs : List Int} (h : ∀ z ∈ gs, 1 ≤ z ∧ z ≤ 1000000000000000000000000000000) : AllOk b e (gs.map D.int) := fun d hd => by
  obtain ⟨z, hz, rfl⟩ := List.mem_map.mp hd
  have := h z hz
  exact okI (by omega) (by omega)
theorem ok_plan {h : Int} {gs : List Int} (ok : PlanOk h gs) : Ok 30 3 (planD h gs) :=
  ok2 (b := 9) (e := 2) (m := 2) (.cons (okI (by have := ok.h1; omega) (by have := ok.h3; omega)) (.cons (ok2 (m := 8) (b := 0) (e := 0) (ok_ints ok.g) (by rw [List.length_map]; exact ok.l8) (by decide) (by decide)) .nil)) (by simp) (by decide) (by decide)
theorem SumOk.mono {k j : Nat} {p : Int × Int} (h : SumOk k p) (hk : k ≤ j) : SumOk j p := ⟨h.a0, h.b1, Int.lt_of_lt_of_le h.a2 (ipow_le (by omega)), Int.lt_of_lt_of_le h.b2 (ipow_le (by omega))⟩
/-! comparisons of written data -/
noncomputable def cmpR (a b : D) : Option Bool := match quick a b with
  | some r => some r
  | none => if a.plain && b.plain && SeqAt.shaped a.py && SeqAt.shaped b.py then some (PyData.eqv a.py b.py) else none
theorem f_cmpD {neg r : Bool} {a b : D} (h : cmpR a b = some r) (hq : q (.bl (neg.xor r)) n) : fCmp neg a b n q x := by
  unfold cmpR at h
  unfold fCmp
  cases e : quick a b with
  | some r' => rw [e] at h; cases h; exact hq
  | none =>
    rw [e] at h
    dsimp only at h ⊢
    split at h
    · rename_i c
      simp -implicitDefEqProofs only [Bool.and_eq_true] at c
      cases h
      exact ⟨⟨c.1.1.1, c.1.1.2, c.1.2, c.2⟩, hq⟩
    · cases h
noncomputable def planOkB (h : Int) (gs : List Int) : Bool := decide (1 ≤ h) && decide (h ≤ 3) && decide (1 ≤ gs.length) && decide (gs.length ≤ 8) && gs.all fun z => decide (1 ≤ z) && decide (z ≤ 1000000000000000000000000000000)
theorem planOk_of {h : Int} {gs : List Int} (e : planOkB h gs = true) : PlanOk h gs := by
  unfold planOkB at e
  simp -implicitDefEqProofs only [Bool.and_eq_true, decide_eq_true_eq, List.all_eq_true] at e
  exact ⟨e.1.1.1.1, e.1.1.1.2, e.1.1.2, e.1.2, e.2⟩
end PL
namespace PL
open OE
open PySem (Str)
noncomputable def t_lots_of_5 (Γ : Gam) : Ev → Wp Out :=
  tfrz 2 (tret (tcall fSorted (tcons (tvar 2) (tnil))))
noncomputable def t_lots_of_4 (Γ : Gam) : Ev → Wp Out :=
  tdrop (tmeth fExtend (tvar 2) (tvar 3))
noncomputable def t_lots_of_3 (Γ : Gam) : Ev → Wp Out :=
  tthen (tset 3 (tlc2 (tseq (tvar 3)) (gname 5) (fun _ => Wp.ret true) (tits fRange2 (tcons (tif (ttest (tbin fNe (tvar 5) (ttup (tnil)))) (tbin fAdd (tbin fIx (tvar 5) (tbind fNeg (tconst (.int 1)))) (tconst (.int 1))) (tconst (.int 0))) (tcons (tvar 1) (tnil)))) (gname 6) (fun _ => Wp.ret true) (ttup (tstar (tvar 5) (tcons (tvar 6) (tnil)))) [5, 6] [6]))
  (t_lots_of_4 Γ)
noncomputable def t_lots_of_2 (Γ : Gam) : Ev → Wp Out :=
  tthen (tfor (tits fRange1 (tcons (tvar 0) (tnil))) (gname 4) (t_lots_of_3 Γ))
  (t_lots_of_5 Γ)
noncomputable def t_lots_of (Γ : Gam) : Ev → Wp Out :=
  tthen (tpar 2 3 (tcons (tmlst (tcons (ttup (tnil)) (tnil))) (tcons (tlst (tcons (ttup (tnil)) (tnil))) (tnil))))
  (t_lots_of_2 Γ)
noncomputable def F_lots_of (Γ : Gam) : List D → Wp D := runDef 7 (t_lots_of Γ)
noncomputable def t_has_due (Γ : Gam) : Ev → Wp Out :=
  tret (tcall fAll (tcons (tlc (tits fEnum (tcons (tvar 0) (tnil))) (gtup 2 (gcons (gname 2) (gcons (gname 3) (gnil)))) (fun _ => Wp.ret true) (torV (tbin fGt (tvar 3) (tconst (.int 1))) (tbin (fIn false) (tvar 2) (tvar 1))) [2, 3]) (tnil)))
noncomputable def F_has_due (Γ : Gam) : List D → Wp D := runDef 4 (t_has_due Γ)
noncomputable def t_later_of (Γ : Gam) : Ev → Wp Out :=
  tret (tcall fTuple (tcons (tlc (tits fEnum (tcons (tvar 1) (tnil))) (gtup 2 (gcons (gname 3) (gcons (gname 4) (gnil)))) (fun _ => Wp.ret true) (tif (ttest (tbin (fIn false) (tvar 3) (tvar 2))) (tbin fIx (tbin fIx (tvar 0) (tconst (.int 1))) (tvar 3)) (tbin fSub (tvar 4) (tconst (.int 1)))) [3, 4]) (tnil)))
noncomputable def F_later_of (Γ : Gam) : List D → Wp D := runDef 5 (t_later_of Γ)
noncomputable def t_due_days (Γ : Gam) : Ev → Wp Out :=
  tret (tlc (tseq (tfn 2 (F_lots_of Γ) (tcons (tbin fIx (tvar 0) (tconst (.int 0))) (tcons (tcall fLen (tcons (tbin fIx (tvar 0) (tconst (.int 1))) (tnil))) (tnil))))) (gname 2) (ttest (tfn 2 (F_has_due Γ) (tcons (tvar 1) (tcons (tvar 2) (tnil))))) (tvar 2) [2])
noncomputable def F_due_days (Γ : Gam) : List D → Wp D := runDef 3 (t_due_days Γ)
end PL
namespace PL
open OE PySem
variable [TN] {Γ : Gam} {n : S} {q : D → S → Prop} {x : Exn → S → Prop}
/-! ### rows.py over data -/
noncomputable def dayD (l : List Int) : D := .tup (l.map D.int)
/-- the order of tuples of ints -/
noncomputable def leL : List Int → List Int → Bool
  | [], _ => true
  | _ :: _, [] => false
  | a :: l, b :: m => if a = b then leL l m else decide (a < b)
theorem leL_total : ∀ a b : List Int, leL a b = true ∨ leL b a = true
  | [], _ => .inl rfl
  | _ :: _, [] => .inr rfl
  | a :: l, b :: m => by
    rw [leL, leL]
    by_cases h : a = b
    · subst h; rw [if_pos rfl, if_pos rfl]; exact leL_total l m
    · rw [if_neg h, if_neg (Ne.symm h)]
      simp -implicitDefEqProofs only [decide_eq_true_eq]; omega
theorem leL_trans : ∀ a b c : List Int, leL a b = true → leL b c = true → leL a c = true
  | [], _, _, _, _ => rfl
  | _ :: _, [], _, h, _ => by cases h
  | _ :: _, _ :: _, [], _, h => by cases h
  | a :: l, b :: m, c :: k, h1, h2 => by
    rw [leL] at h1 h2 ⊢
    by_cases e1 : a = b
    · subst e1
      rw [if_pos rfl] at h1
      by_cases e2 : a = c
      · rw [if_pos e2] at h2 ⊢; exact leL_trans l m k h1 h2
      · rw [if_neg e2] at h2 ⊢; exact h2
    · rw [if_neg e1] at h1
      by_cases e2 : b = c
      · subst e2; rw [if_neg e1]; exact h1
      · rw [if_neg e2] at h2
        simp -implicitDefEqProofs only [decide_eq_true_eq] at h1 h2
        rw [if_neg (by omega)]
        exact decide_eq_true (by omega)
theorem leL_anti : ∀ a b : List Int, leL a b = true → leL b a = true → a = b
  | [], [], _, _ => rfl
  | [], _ :: _, _, h => by cases h
  | _ :: _, [], h, _ => by cases h
  | a :: l, b :: m, h1, h2 => by
    rw [leL] at h1 h2
    by_cases e : a = b
    · subst e
      rw [if_pos rfl] at h1 h2
      rw [leL_anti l m h1 h2]
    · rw [if_neg e] at h1
      rw [if_neg (Ne.symm e)] at h2
      simp -implicitDefEqProofs only [decide_eq_true_eq] at h1 h2
      omega
theorem leL_lt : ∀ a b : List Int, leL a b = !decide (b < a)
  | [], b => by simp [leL]
  | a :: l, [] => by simp [leL]
  | a :: l, b :: m => by
    rw [leL]
    by_cases h : a = b
    · subst h
      rw [if_pos rfl, leL_lt l m]
      simp [List.cons_lt_cons_iff]
    · rw [if_neg h]
      by_cases h2 : a < b
      · simp [List.cons_lt_cons_iff, h2, Ne.symm h]; omega
      · have : b < a := by omega
        simp [List.cons_lt_cons_iff, h2, this]
theorem py_ints : ∀ l : List Int, D.pyAll (l.map D.int) = l.map PyData.int
  | [] => rfl
  | a :: l => by rw [List.map_cons, D.pyAll, py_ints l]; rfl
theorem day_py (l : List Int) : (dayD l).py = .tuple (l.map .int) := by unfold dayD; rw [D.py, py_ints]
theorem leD_day (a b : List Int) : leL a b = leD (dayD a) (dayD b) := by
  unfold leD
  rw [day_py, day_py, PySem.W.dataLt_tuple]
  have h := PySem.W.dataLt_ints b a
  unfold PySem.W.rowLt at h
  rw [h, leL_lt]
/-- sorting that the kernel can run -/
noncomputable def insL (x : List Int) : List (List Int) → List (List Int)
  | [] => [x]
  | y :: l => if leL x y = true then x :: y :: l else y :: insL x l
noncomputable def isortL : List (List Int) → List (List Int)
  | [] => []
  | x :: l => insL x (isortL l)
theorem insL_perm (x : List Int) : ∀ l, (insL x l).Perm (x :: l)
  | [] => .refl _
  | y :: l => by
    rw [insL]
    split
    · exact .refl _
    · exact ((insL_perm x l).cons y).trans (.swap x y l)
theorem isortL_perm : ∀ l, (isortL l).Perm l
  | [] => .refl _
  | x :: l => (insL_perm x _).trans ((isortL_perm l).cons x)
theorem insL_sorted (x : List Int) : ∀ l, l.Pairwise (fun a b => leL a b = true) → (insL x l).Pairwise (fun a b => leL a b = true)
  | [], _ => List.pairwise_singleton ..
  | y :: l, h => by
    rw [insL]
    obtain ⟨h1, h2⟩ := List.pairwise_cons.mp h
    split
    · rename_i c
      exact List.pairwise_cons.mpr ⟨fun z hz => by
        rcases List.mem_cons.mp hz with e | hz
        · rw [e]; exact c
        · exact leL_trans _ _ _ c (h1 z hz), h⟩
    · rename_i c
      refine List.pairwise_cons.mpr ⟨fun z hz => ?_, insL_sorted x l h2⟩
      rcases List.mem_cons.mp ((insL_perm x l).mem_iff.mp hz) with e | hz
      · rw [e]
        exact (leL_total y x).resolve_right c
      · exact h1 z hz
theorem isortL_sorted : ∀ l, (isortL l).Pairwise (fun a b => leL a b = true)
  | [] => .nil
  | x :: l => insL_sorted x _ (isortL_sorted l)
theorem sort_days (L : List (List Int)) : sortD (L.map dayD) = (isortL L).map dayD := by
  unfold sortD
  rw [← PySem.W.sort_maps (r := leL) (s := leD) dayD (fun a _ b _ => leD_day a b)]
  refine congrArg (List.map dayD) ?_
  refine List.Perm.eq_of_pairwise (le := fun a b => leL a b = true) (fun a b _ _ h1 h2 => leL_anti a b h1 h2) ?_ (isortL_sorted L) ((List.mergeSort_perm L leL).trans (isortL_perm L).symm)
  exact List.pairwise_mergeSort leL_trans (fun a b => by rw [Bool.or_eq_true]; exact leL_total a b) L
theorem sort_ok_days {L : List (List Int)} (h : ∃ M, L = [] :: M) : SortOk (L.map dayD) := by
  refine ⟨fun d hd => ?_, ?_, .inr ⟨?_, fun d hd => ?_⟩⟩
  · obtain ⟨l, _, rfl⟩ := List.mem_map.mp hd
    refine ⟨by unfold dayD; rw [D.plain]; exact plain_ints l, ?_⟩
    rw [day_py, PyData.depth, PySem.W.depth_ints]
    decide
  · intro d hd d' hd'
    rw [List.map_map] at hd hd'
    obtain ⟨l, _, rfl⟩ := List.mem_map.mp hd
    obtain ⟨l', _, rfl⟩ := List.mem_map.mp hd'
    show PySem.W.alike (dayD l).py (dayD l').py = true
    rw [day_py, day_py, PySem.W.alike]
    exact PySem.W.alike_ints l l'
  · obtain ⟨M, rfl⟩ := h
    exact ⟨(M.map dayD).map D.py, by rw [List.map_cons, List.map_cons, day_py]; rfl⟩
  · rw [List.map_map] at hd
    obtain ⟨l, _, rfl⟩ := List.mem_map.mp hd
    exact ⟨l.map .int, day_py l⟩
/-! days -/
noncomputable def startL (l : List Int) : Int := match l.getLast? with
  | some z => z + 1
  | none => 0
noncomputable def rangeI (a b : Int) : List Int := (List.range (b - a).toNat).map fun k => a + (k : Nat)
noncomputable def layerL (m : Nat) (L : List (List Int)) : List (List Int) := L.flatMap fun l => (rangeI (startL l) m).map fun k => l ++ [k]
noncomputable def foundL (m : Nat) : Nat → List (List Int) × List (List Int)
  | 0 => ([[]], [[]])
  | t + 1 => let p := foundL m t; (p.1 ++ layerL m p.2, layerL m p.2)
noncomputable def daysL (h m : Nat) : List (List Int) := isortL (foundL m h).1
theorem range_I (a b : Int) : rangeD a (b - a).toNat = (rangeI a b).map D.int := by
  unfold rangeD rangeI
  rw [List.map_map]
  rfl
theorem rangeI_len (a b : Int) : (rangeI a b).length = (b - a).toNat := by unfold rangeI; simp
theorem start_ge {l : List Int} (h : ∀ z ∈ l, 0 ≤ z) : 0 ≤ startL l := by
  unfold startL
  split
  · rename_i z e
    have := h z (List.mem_of_getLast? e)
    omega
  · exact Int.le_refl _
theorem layer_len {m : Nat} (hm : m ≤ 8) : ∀ {L : List (List Int)}, (∀ l ∈ L, ∀ z ∈ l, 0 ≤ z) → (layerL m L).length ≤ L.length * 8
  | [], _ => by simp [layerL]
  | l :: L, h => by
    have ih := layer_len hm fun l' hl' => h l' (List.mem_cons_of_mem _ hl')
    have s0 := start_ge (h l List.mem_cons_self)
    unfold layerL at ih ⊢
    rw [List.flatMap_cons, List.length_append, List.length_map, rangeI_len, List.length_cons, Nat.add_mul]
    omega
theorem layer_nn {m : Nat} {L : List (List Int)} (h : ∀ l ∈ L, ∀ z ∈ l, 0 ≤ z ∧ z < (m : Nat)) : ∀ l ∈ layerL m L, ∀ z ∈ l, 0 ≤ z ∧ z < (m : Nat) := fun l hl z hz => by
  unfold layerL at hl
  obtain ⟨l', h1, h2⟩ := List.mem_flatMap.mp hl
  obtain ⟨k, h3, rfl⟩ := List.mem_map.mp h2
  rcases List.mem_append.mp hz with hz | hz
  · exact h l' h1 z hz
  · rw [List.mem_singleton] at hz
    subst hz
    unfold rangeI at h3
    obtain ⟨w, hw, rfl⟩ := List.mem_map.mp h3
    have := start_ge fun z hz => (h l' h1 z hz).1
    have := List.mem_range.mp hw
    omega
theorem found_at {m : Nat} : ∀ t, ∀ l ∈ (foundL m t).2, l.length = t
  | 0, l, hl => by
    have : l = [] := by simpa [foundL] using hl
    subst this; rfl
  | t + 1, l, hl => by
    have hl' : l ∈ layerL m (foundL m t).2 := hl
    unfold layerL at hl'
    obtain ⟨l', h1, h2⟩ := List.mem_flatMap.mp hl'
    obtain ⟨k, h3, rfl⟩ := List.mem_map.mp h2
    rw [List.length_append, found_at t l' h1]; rfl
theorem found_ok {m : Nat} (hm : m ≤ 8) : ∀ t, (∀ l ∈ (foundL m t).2, ∀ z ∈ l, 0 ≤ z ∧ z < (m : Nat)) ∧ (foundL m t).2.length ≤ 8 ^ t ∧ (foundL m t).1.length ≤ (t + 1) * 8 ^ t ∧ ∃ M, (foundL m t).1 = [] :: M
  | 0 => by
    refine ⟨fun l hl z hz => ?_, Nat.le_refl 1, Nat.le_refl 1, [], rfl⟩
    have : l = [] := by simpa [foundL] using hl
    subst this
    cases hz
  | t + 1 => by
    obtain ⟨h1, h2, h3, M, h4⟩ := found_ok hm t
    have hl := layer_len hm fun l hl z hz => (h1 l hl z hz).1
    have e : 8 ^ (t + 1) = 8 ^ t * 8 := Nat.pow_succ ..
    have hl2 : (layerL m (foundL m t).2).length ≤ 8 ^ (t + 1) := by rw [e]; exact Nat.le_trans hl (Nat.mul_le_mul_right _ h2)
    refine ⟨layer_nn h1, hl2, ?_, M ++ layerL m (foundL m t).2, ?_⟩
    · show ((foundL m t).1 ++ layerL m (foundL m t).2).length ≤ _
      rw [List.length_append]
      have z : (t + 1) * 8 ^ t ≤ (t + 1) * 8 ^ (t + 1) := Nat.mul_le_mul_left _ (by rw [e]; omega)
      have z2 : (t + 1 + 1) * 8 ^ (t + 1) = (t + 1) * 8 ^ (t + 1) + 8 ^ (t + 1) := by rw [Nat.add_mul (t + 1) 1, Nat.one_mul]
      omega
    · show (foundL m t).1 ++ layerL m (foundL m t).2 = _
      rw [h4]; rfl
theorem last_at {α : Type} {l : List α} {a : α} (h : l.getLast? = some a) : L2.atI l (-1) = some a := by
  have hl : l ≠ [] := fun z => by rw [z] at h; cases h
  have hp : 0 < l.length := List.length_pos_iff.mpr hl
  rw [List.getLast?_eq_getElem?] at h
  unfold L2.atI L2.ixN
  rw [if_neg (by decide), if_pos (by omega)]
  have e : ((-1 : Int) + (l.length : Int)).toNat = l.length - 1 := by omega
  have e' : ((l.length : Int) + -1).toNat = l.length - 1 := by omega
  first
    | simpa [e] using h
    | simpa [e'] using h
theorem sp_lots_of {h : Int} {m : Nat} {k : Nat} {μ : Mu} (h0 : 0 ≤ h) (h3 : h ≤ 3) (hm : m ≤ 8) (hq : q (.lst ((daysL h.toNat m).map dayD)) ⟨k, μ⟩) : F_lots_of Γ [.int h, .int (m : Nat)] ⟨k, μ⟩ q x := by
  wp_walk using F_lots_of, t_lots_of, t_lots_of_2
  intro a ha
  refine ⟨by omega, ?_⟩
  refine for_inv (I := fun ds ρ s => ∃ t : Nat, ds.length + t = h.toNat ∧ s = ⟨k, μ.put a (.lst ((foundL m t).1.map dayD))⟩ ∧ ∃ o4 : Option D, ρ = [some (.int h), some (.int (m : Nat)), some (.mref a), some (.lst ((foundL m t).2.map dayD)), o4, none, none]) ?_ ?_ _ _ _ ⟨0, by rw [range_len]; omega, rfl, none, rfl⟩
  · rintro d ds ρ s k' ⟨t, ht, rfl, o4, rfl⟩ k1 k2
    rw [List.length_cons] at ht
    obtain ⟨f1, f2, f3, M, f4⟩ := found_ok hm t
    have t3 : t ≤ 2 := by omega
    have p3 : 8 ^ t ≤ 64 := Nat.le_trans (Nat.pow_le_pow_right (by decide) t3) (by decide)
    wp_walk using t_lots_of_3
    refine lc2_map (M := 8) (f := fun d => match d with | .tup l => (rangeI (startL ((intsOf l).getD [])) m).map fun k => .tup (l ++ [.int k]) | _ => []) (fun d hd n cc k hcc hk => ?_) (fun d hd => ?_) (by rw [List.length_map]; omega) ?_
    · obtain ⟨l, hl, rfl⟩ := List.mem_map.mp hd
      have s0 := start_ge fun z hz => (f1 l hl z hz).1
      wp_walk using wipeE, dayD
      have fin : ∀ b : Int, b = startL l → -(2 ^ 62) ≤ b ∧ b < 2 ^ 62 → (-(2 ^ 62) ≤ b ∧ b < 2 ^ 62 ∧ -(2 ^ 62) ≤ ((m : Nat) : Int) ∧ ((m : Nat) : Int) < 2 ^ 62) ∧ cc + (rangeD b ((m : Int) - b).toNat).length ≤ 1000000 ∧
          lcW (gname 6) (fun _ => Wp.ret true) (ttup (tstar (tvar 5) (tcons (tvar 6) tnil))) [some (.int h), some (.int (m : Nat)), some (.mref a), some (.lst (List.map dayD (foundL m t).2)), some d, some (.tup (l.map D.int)), none] (rangeD b ((m : Int) - b).toNat) n k (fun _ _ => False) := fun b hb h62 => by
        refine ⟨⟨h62.1, h62.2, by omega, by omega⟩, by rw [range_len]; omega, ?_⟩
        rw [range_I]
        refine lc_map (f := fun d => .tup (l.map D.int ++ [d])) (fun d hd n k hk => ?_) ?_
        · rw [s_lc1]
          wp_walk
          exact ⟨by rw [List.length_append, List.length_map, found_at t l hl]; simp; omega, hk⟩
        · rw [List.map_map, hb]
          have e : (intsOf (l.map D.int)).getD [] = l := by
            have := ints_map (fun z : Int => z) l
            rw [List.map_id'] at this
            rw [this]; rfl
          simp -implicitDefEqProofs only [dayD, e] at hk
          exact hk
      cases l with
      | nil =>
        wp_walk using List.map_nil, List.isEmpty_nil, Bool.true_xor, Bool.not_true
        exact fin 0 rfl (by decide)
      | cons z l =>
        obtain ⟨w, hw⟩ : ∃ w, (z :: l).getLast? = some w := ⟨_, List.getLast?_cons ..⟩
        have e1 : startL (z :: l) = w + 1 := by unfold startL; rw [hw]
        have hat : L2.atI ((z :: l).map D.int) (-1) = some (.int w) := last_at (by rw [List.getLast?_map, hw]; rfl)
        have hw2 : w ∈ z :: l := List.mem_of_getLast? hw
        simp -implicitDefEqProofs only [List.map_cons, List.isEmpty_cons, Bool.true_xor, Bool.not_false, OE.w_g0, OE.w_gs, OE.w_s0, OE.w_ss, OE.w_some, OE.w_ex, OE.w_lc, OE.w_ln, OE.w_at, OE.w_ta, OE.w_nt, OE.w_nf, OE.w_it, OE.w_if, OE.w_itP, OE.w_ifP, OE.w_ft, OE.w_mc, OE.w_mn, OE.w_rs, OE.w_r0, OE.w_ca, OE.w_na, OE.w_za, OE.w_sb, OE.w_sz, OE.s_then, OE.k_seqN, OE.k_seqR, OE.k_seqB, OE.k_seqC, OE.s_next, OE.s_ret, OE.k_ret, OE.s_set, OE.k_set, OE.s_ite, OE.k_ite, OE.o_rt, OE.o_nx, OE.s_run, OE.s_var, OE.s_const, OE.s_nil, OE.s_cons, OE.k_cons, OE.k_cons2, OE.s_tup, OE.s_lst, OE.k_tup, OE.k_lst, OE.s_bin, OE.k_bin, OE.k_bin2, OE.s_bind, OE.k_ap, OE.s_call, OE.k_apL, OE.s_fn, OE.k_fn, OE.s_test, OE.k_test, OE.s_and, OE.k_and, OE.s_or, OE.k_or, OE.s_not, OE.k_not, OE.s_andV, OE.k_andV, OE.s_orV, OE.k_orV, OE.s_notV, OE.k_notV, OE.s_if, OE.k_if, OE.s_isN, OE.k_isN, OE.s_noN, OE.k_noN, OE.s_chain, OE.k_ch1, OE.k_ch2, OE.k_ch3, OE.s_isi, OE.k_isi, OE.s_part, OE.k_part, OE.s_slice, OE.k_sl1, OE.k_sl2, OE.k_sl3, OE.s_retO, OE.s_slL, OE.s_slT, OE.s_slS, OE.s_seq, OE.k_itmL, OE.k_itmT, OE.k_itmS, OE.s_its, OE.k_its, OE.s_rng1, OE.s_rng2, OE.s_enT, OE.s_enL, OE.s_zipL, OE.s_zipT, OE.s_for, OE.k_for, OE.for_nil, OE.k_go, OE.k_tN, OE.k_tC, OE.k_tB, OE.k_tR, OE.g_name, OE.g_tup, OE.g_cons, OE.k_gs, OE.g_nil, OE.s_asg, OE.k_asg, OE.k_nx, OE.s_par, OE.k_par, OE.s_lc, OE.k_lc, OE.k_lc1, OE.k_lc2, OE.k_some, OE.s_fail, OE.k_fail, OE.s_fail0, OE.s_try, OE.k_unN, OE.k_unR, OE.s_fld, OE.k_fld, OE.f_addI, OE.f_addT, OE.f_addL, OE.f_addS, OE.f_ii, OE.f_i0, OE.f_mulI, OE.f_mulT, OE.f_mulL, OE.f_neg, OE.f_ixL, OE.f_ixT, OE.f_ixS, OE.f_lenL, OE.f_lenT, OE.f_lenS, OE.f_int, OE.f_min, OE.f_max, OE.f_tupL, OE.f_lstT, OE.f_lstL, OE.f_repr, OE.f_cmpS, OE.f_cmpI, OE.f_cmpT, OE.f_cmpL, OE.s_dict, OE.k_dic, OE.f_getM, OE.s_putM, OE.k_put1, OE.k_put2, OE.s_dm, OE.mGet_left, OE.mGet_seed, OE.mGet_cells, OE.mGet_spot, OE.mPut_left, OE.mPut_spot, OE.k_wh, OE.s_star, OE.k_starT, OE.k_starL, OE.k_star2, OE.s_drop, OE.k_drop, OE.s_par3, OE.k_par3, OE.f_lrg1, OE.f_trg1, OE.f_lrg2, OE.f_trg2, OE.f_ixM, OE.f_lenM, OE.f_inT, OE.f_inL, OE.f_inS, OE.s_tryN, OE.c_nil, OE.f_all, OE.f_any, OE.f_sum, OE.s_frz, OE.k_frzS, OE.k_fz, OE.f_frzLs, OE.f_frzT, OE.f_frzI, OE.f_frzN, OE.s_mlst, OE.k_ml, OE.s_meth, OE.k_me, OE.f_app, OE.f_extd, OE.f_sorted, OE.s_lc2, OE.k_lcc, OE.f_isB, OE.s_isi2, OE.k_isi2, OE.s_aug, OE.k_aug, OE.w_int, OE.f_revL, OE.f_revT, OE.s_isx, OE.k_isx, OE.startE, Nat.reduceAdd, Nat.reduceLeDiff, Nat.reduceSub] at hat ⊢
        refine ⟨.int w, hat, ?_⟩
        wp_walk
        refine fin (w + 1) e1.symm ?_
        have := f1 _ hl w hw2
        omega
    · obtain ⟨l, hl, rfl⟩ := List.mem_map.mp hd
      have s0 := start_ge fun z hz => (f1 l hl z hz).1
      have e : (intsOf (l.map D.int)).getD [] = l := by
        have := ints_map (fun z : Int => z) l
        rw [List.map_id'] at this
        rw [this]; rfl
      simp -implicitDefEqProofs only [dayD, e, List.length_map, rangeI_len]
      omega
    · wp_walk using t_lots_of_4
      have e : (((foundL m t).2.map dayD).flatMap fun d => match d with | .tup l => (rangeI (startL ((intsOf l).getD [])) m).map fun k => D.tup (l ++ [.int k]) | _ => []) = (layerL m (foundL m t).2).map dayD := by
        unfold layerL
        rw [List.flatMap_map, List.map_flatMap]
        refine congrArg (fun f => (foundL m t).2.flatMap f) (funext fun l => ?_)
        have e : (intsOf (l.map D.int)).getD [] = l := by
          have := ints_map (fun z : Int => z) l
          rw [List.map_id'] at this
          rw [this]; rfl
        simp -implicitDefEqProofs only [dayD, e, List.map_map]
        refine List.map_congr_left fun k _ => ?_
        simp [dayD]
      rw [e]
      obtain ⟨g1, g2, g3, _⟩ := found_ok hm (t + 1)
      have g2' : (layerL m (foundL m t).2).length ≤ 8 ^ (t + 1) := g2
      have p4 : 8 ^ (t + 1) ≤ 512 := Nat.le_trans (Nat.pow_le_pow_right (by decide) (by omega : t + 1 ≤ 3)) (by decide)
      have f3' : (foundL m t).1.length ≤ 192 := Nat.le_trans f3 (Nat.le_trans (Nat.mul_le_mul (by omega : t + 1 ≤ 3) p3) (by decide))
      refine ⟨⟨_, Mu.put_same⟩, _, Mu.put_same, by rw [List.length_map, List.length_map]; omega, ?_⟩
      refine k1 _ _ ⟨t + 1, by omega, ?_, _, rfl⟩
      rw [Mu.put_put, ← List.map_append]
      rfl
  · rintro ρ s ⟨t, ht, rfl, o4, rfl⟩
    have et : t = h.toNat := by simpa using ht
    subst et
    wp_walk using t_lots_of_5
    refine f_frzL Mu.put_same ?_
    rw [Mu.del_put ha]
    wp_walk
    refine ⟨sort_ok_days (found_ok hm _).2.2.2, ?_⟩
    rw [sort_days]
    exact hq
/-! has_due, later_of -/
noncomputable def enumI : Nat → List Int → List (Nat × Int)
  | _, [] => []
  | i, z :: l => (i, z) :: enumI (i + 1) l
theorem enumI_D : ∀ (l : List Int) (i : Nat), enumD i (l.map D.int) = (enumI i l).map fun p => .tup [.int (p.1 : Nat), .int p.2]
  | [], _ => rfl
  | z :: l, i => by rw [List.map_cons, enumD, enumI_D l (i + 1)]; rfl
theorem enumI_len : ∀ (l : List Int) (i : Nat), (enumI i l).length = l.length
  | [], _ => rfl
  | z :: l, i => by rw [enumI, List.length_cons, List.length_cons, enumI_len l (i + 1)]
theorem enumI_lt : ∀ {l : List Int} {i : Nat} {p : Nat × Int}, p ∈ enumI i l → i ≤ p.1 ∧ p.1 < i + l.length ∧ l[p.1 - i]? = some p.2
  | [], _, _, h => nomatch h
  | z :: l, i, p, h => by
    rw [enumI] at h
    rcases List.mem_cons.mp h with e | h
    · subst e; simp
    · obtain ⟨h1, h2, h3⟩ := enumI_lt h
      refine ⟨by omega, by rw [List.length_cons]; omega, ?_⟩
      have e : p.1 - i = (p.1 - (i + 1)) + 1 := by omega
      rw [e, List.getElem?_cons_succ]; exact h3
noncomputable def isIn (l : List Int) (i : Nat) : Bool := l.any fun z => z == ((i : Nat) : Int)
theorem any_ints (l : List Int) (i : Nat) : ((l.map D.int).any fun e => eqF e (.int ((i : Nat) : Int))) = isIn l i := by
  unfold isIn
  rw [List.any_map]
  rfl
theorem flat_ints : ∀ l : List Int, (l.map D.int).all flatD = true
  | [] => rfl
  | z :: l => by rw [List.map_cons, List.all_cons, flat_ints l]; rfl
noncomputable def hasDue (st l : List Int) : Bool := (enumI 0 st).all fun p => decide (1 < p.2) || isIn l p.1
theorem sp_has_due {st l : List Int} (hs : st.length ≤ 1000) (hq : q (.bl (hasDue st l)) n) : F_has_due Γ [dayD st, dayD l] n q x := by
  wp_walk using t_has_due, F_has_due, dayD, enumI_D
  refine ⟨by rw [List.length_map, enumI_len]; omega, lc_map (f := fun d => match d with | .tup [.int i, .int s] => .bl (decide (1 < s) || (l.map D.int).any fun e => eqF e (.int i)) | _ => .non) (fun d hd n k hk => ?_) ?_⟩
  · obtain ⟨p, hp, rfl⟩ := List.mem_map.mp hd
    rw [s_lc1]
    wp_walk using wipeE
    by_cases c : 1 < p.2
    · simp -implicitDefEqProofs only [c, decide_true, OE.w_g0, OE.w_gs, OE.w_s0, OE.w_ss, OE.w_some, OE.w_ex, OE.w_lc, OE.w_ln, OE.w_at, OE.w_ta, OE.w_nt, OE.w_nf, OE.w_it, OE.w_if, OE.w_itP, OE.w_ifP, OE.w_ft, OE.w_mc, OE.w_mn, OE.w_rs, OE.w_r0, OE.w_ca, OE.w_na, OE.w_za, OE.w_sb, OE.w_sz, OE.s_then, OE.k_seqN, OE.k_seqR, OE.k_seqB, OE.k_seqC, OE.s_next, OE.s_ret, OE.k_ret, OE.s_set, OE.k_set, OE.s_ite, OE.k_ite, OE.o_rt, OE.o_nx, OE.s_run, OE.s_var, OE.s_const, OE.s_nil, OE.s_cons, OE.k_cons, OE.k_cons2, OE.s_tup, OE.s_lst, OE.k_tup, OE.k_lst, OE.s_bin, OE.k_bin, OE.k_bin2, OE.s_bind, OE.k_ap, OE.s_call, OE.k_apL, OE.s_fn, OE.k_fn, OE.s_test, OE.k_test, OE.s_and, OE.k_and, OE.s_or, OE.k_or, OE.s_not, OE.k_not, OE.s_andV, OE.k_andV, OE.s_orV, OE.k_orV, OE.s_notV, OE.k_notV, OE.s_if, OE.k_if, OE.s_isN, OE.k_isN, OE.s_noN, OE.k_noN, OE.s_chain, OE.k_ch1, OE.k_ch2, OE.k_ch3, OE.s_isi, OE.k_isi, OE.s_part, OE.k_part, OE.s_slice, OE.k_sl1, OE.k_sl2, OE.k_sl3, OE.s_retO, OE.s_slL, OE.s_slT, OE.s_slS, OE.s_seq, OE.k_itmL, OE.k_itmT, OE.k_itmS, OE.s_its, OE.k_its, OE.s_rng1, OE.s_rng2, OE.s_enT, OE.s_enL, OE.s_zipL, OE.s_zipT, OE.s_for, OE.k_for, OE.for_nil, OE.k_go, OE.k_tN, OE.k_tC, OE.k_tB, OE.k_tR, OE.g_name, OE.g_tup, OE.g_cons, OE.k_gs, OE.g_nil, OE.s_asg, OE.k_asg, OE.k_nx, OE.s_par, OE.k_par, OE.s_lc, OE.k_lc, OE.k_lc1, OE.k_lc2, OE.k_some, OE.s_fail, OE.k_fail, OE.s_fail0, OE.s_try, OE.k_unN, OE.k_unR, OE.s_fld, OE.k_fld, OE.f_addI, OE.f_addT, OE.f_addL, OE.f_addS, OE.f_ii, OE.f_i0, OE.f_mulI, OE.f_mulT, OE.f_mulL, OE.f_neg, OE.f_ixL, OE.f_ixT, OE.f_ixS, OE.f_lenL, OE.f_lenT, OE.f_lenS, OE.f_int, OE.f_min, OE.f_max, OE.f_tupL, OE.f_lstT, OE.f_lstL, OE.f_repr, OE.f_cmpS, OE.f_cmpI, OE.f_cmpT, OE.f_cmpL, OE.s_dict, OE.k_dic, OE.f_getM, OE.s_putM, OE.k_put1, OE.k_put2, OE.s_dm, OE.mGet_left, OE.mGet_seed, OE.mGet_cells, OE.mGet_spot, OE.mPut_left, OE.mPut_spot, OE.k_wh, OE.s_star, OE.k_starT, OE.k_starL, OE.k_star2, OE.s_drop, OE.k_drop, OE.s_par3, OE.k_par3, OE.f_lrg1, OE.f_trg1, OE.f_lrg2, OE.f_trg2, OE.f_ixM, OE.f_lenM, OE.f_inT, OE.f_inL, OE.f_inS, OE.s_tryN, OE.c_nil, OE.f_all, OE.f_any, OE.f_sum, OE.s_frz, OE.k_frzS, OE.k_fz, OE.f_frzLs, OE.f_frzT, OE.f_frzI, OE.f_frzN, OE.s_mlst, OE.k_ml, OE.s_meth, OE.k_me, OE.f_app, OE.f_extd, OE.f_sorted, OE.s_lc2, OE.k_lcc, OE.f_isB, OE.s_isi2, OE.k_isi2, OE.s_aug, OE.k_aug, OE.w_int, OE.f_revL, OE.f_revT, OE.s_isx, OE.k_isx, OE.startE, Nat.reduceAdd, Nat.reduceLeDiff, Nat.reduceSub, Bool.true_or] at hk ⊢
      exact hk
    · simp -implicitDefEqProofs only [c, decide_false, OE.w_g0, OE.w_gs, OE.w_s0, OE.w_ss, OE.w_some, OE.w_ex, OE.w_lc, OE.w_ln, OE.w_at, OE.w_ta, OE.w_nt, OE.w_nf, OE.w_it, OE.w_if, OE.w_itP, OE.w_ifP, OE.w_ft, OE.w_mc, OE.w_mn, OE.w_rs, OE.w_r0, OE.w_ca, OE.w_na, OE.w_za, OE.w_sb, OE.w_sz, OE.s_then, OE.k_seqN, OE.k_seqR, OE.k_seqB, OE.k_seqC, OE.s_next, OE.s_ret, OE.k_ret, OE.s_set, OE.k_set, OE.s_ite, OE.k_ite, OE.o_rt, OE.o_nx, OE.s_run, OE.s_var, OE.s_const, OE.s_nil, OE.s_cons, OE.k_cons, OE.k_cons2, OE.s_tup, OE.s_lst, OE.k_tup, OE.k_lst, OE.s_bin, OE.k_bin, OE.k_bin2, OE.s_bind, OE.k_ap, OE.s_call, OE.k_apL, OE.s_fn, OE.k_fn, OE.s_test, OE.k_test, OE.s_and, OE.k_and, OE.s_or, OE.k_or, OE.s_not, OE.k_not, OE.s_andV, OE.k_andV, OE.s_orV, OE.k_orV, OE.s_notV, OE.k_notV, OE.s_if, OE.k_if, OE.s_isN, OE.k_isN, OE.s_noN, OE.k_noN, OE.s_chain, OE.k_ch1, OE.k_ch2, OE.k_ch3, OE.s_isi, OE.k_isi, OE.s_part, OE.k_part, OE.s_slice, OE.k_sl1, OE.k_sl2, OE.k_sl3, OE.s_retO, OE.s_slL, OE.s_slT, OE.s_slS, OE.s_seq, OE.k_itmL, OE.k_itmT, OE.k_itmS, OE.s_its, OE.k_its, OE.s_rng1, OE.s_rng2, OE.s_enT, OE.s_enL, OE.s_zipL, OE.s_zipT, OE.s_for, OE.k_for, OE.for_nil, OE.k_go, OE.k_tN, OE.k_tC, OE.k_tB, OE.k_tR, OE.g_name, OE.g_tup, OE.g_cons, OE.k_gs, OE.g_nil, OE.s_asg, OE.k_asg, OE.k_nx, OE.s_par, OE.k_par, OE.s_lc, OE.k_lc, OE.k_lc1, OE.k_lc2, OE.k_some, OE.s_fail, OE.k_fail, OE.s_fail0, OE.s_try, OE.k_unN, OE.k_unR, OE.s_fld, OE.k_fld, OE.f_addI, OE.f_addT, OE.f_addL, OE.f_addS, OE.f_ii, OE.f_i0, OE.f_mulI, OE.f_mulT, OE.f_mulL, OE.f_neg, OE.f_ixL, OE.f_ixT, OE.f_ixS, OE.f_lenL, OE.f_lenT, OE.f_lenS, OE.f_int, OE.f_min, OE.f_max, OE.f_tupL, OE.f_lstT, OE.f_lstL, OE.f_repr, OE.f_cmpS, OE.f_cmpI, OE.f_cmpT, OE.f_cmpL, OE.s_dict, OE.k_dic, OE.f_getM, OE.s_putM, OE.k_put1, OE.k_put2, OE.s_dm, OE.mGet_left, OE.mGet_seed, OE.mGet_cells, OE.mGet_spot, OE.mPut_left, OE.mPut_spot, OE.k_wh, OE.s_star, OE.k_starT, OE.k_starL, OE.k_star2, OE.s_drop, OE.k_drop, OE.s_par3, OE.k_par3, OE.f_lrg1, OE.f_trg1, OE.f_lrg2, OE.f_trg2, OE.f_ixM, OE.f_lenM, OE.f_inT, OE.f_inL, OE.f_inS, OE.s_tryN, OE.c_nil, OE.f_all, OE.f_any, OE.f_sum, OE.s_frz, OE.k_frzS, OE.k_fz, OE.f_frzLs, OE.f_frzT, OE.f_frzI, OE.f_frzN, OE.s_mlst, OE.k_ml, OE.s_meth, OE.k_me, OE.f_app, OE.f_extd, OE.f_sorted, OE.s_lc2, OE.k_lcc, OE.f_isB, OE.s_isi2, OE.k_isi2, OE.s_aug, OE.k_aug, OE.w_int, OE.f_revL, OE.f_revT, OE.s_isx, OE.k_isx, OE.startE, Nat.reduceAdd, Nat.reduceLeDiff, Nat.reduceSub, Bool.false_or] at hk ⊢
      exact ⟨⟨rfl, flat_ints l⟩, by simpa using hk⟩
  · rw [List.map_map]
    have e : ((fun d => match d with | .tup [.int i, .int s] => D.bl (decide (1 < s) || (l.map D.int).any fun e => eqF e (.int i)) | _ => .non) ∘ fun p : Nat × Int => D.tup [.int (p.1 : Nat), .int p.2]) = fun p => D.bl (decide (1 < p.2) || isIn l p.1) := by
      funext p
      show D.bl _ = D.bl _
      rw [any_ints]
    rw [e]
    refine ⟨_, bools_map _ _, ?_⟩
    rw [List.all_map]
    exact hq
noncomputable def laterL (gs st l : List Int) : List Int := (enumI 0 st).map fun p => if isIn l p.1 = true then gs.getD p.1 0 else p.2 - 1
theorem later_len (gs st l : List Int) : (laterL gs st l).length = st.length := by unfold laterL; rw [List.length_map, enumI_len]
theorem sp_later_of {h : Int} {gs st l : List Int} (hg : gs.length = st.length) (hs : st.length ≤ 1000) (hq : q (dayD (laterL gs st l)) n) : F_later_of Γ [planD h gs, dayD st, dayD l] n q x := by
  wp_walk using t_later_of, F_later_of, dayD, planD, enumI_D
  refine ⟨by rw [List.length_map, enumI_len]; omega, lc_map (f := fun d => match d with | .tup [.int i, .int s] => .int (if isIn l i.toNat = true then gs.getD i.toNat 0 else s - 1) | _ => .non) (fun d hd n k hk => ?_) ?_⟩
  · obtain ⟨p, hp, rfl⟩ := List.mem_map.mp hd
    obtain ⟨p1, p2, _⟩ := enumI_lt hp
    rw [s_lc1]
    wp_walk using wipeE, at1
    refine ⟨⟨rfl, flat_ints l⟩, ?_⟩
    rw [any_ints]
    have et : ((p.1 : Nat) : Int).toNat = p.1 := Int.toNat_natCast _
    simp -implicitDefEqProofs only [et] at hk
    by_cases c : isIn l p.1 = true
    · rw [if_pos c] at hk
      rw [c]
      wp_walk using Bool.false_xor, at1
      have hlt : p.1 < gs.length := by omega
      refine ⟨.int (gs.getD p.1 0), at_nat (by rw [List.getElem?_map, List.getElem?_eq_getElem hlt, List.getD_eq_getElem?_getD, List.getElem?_eq_getElem hlt]; rfl), hk⟩
    · rw [if_neg c] at hk
      have c' : isIn l p.1 = false := by simpa using c
      rw [c']
      wp_walk using Bool.false_xor
      exact hk
  · rw [List.map_map]
    have e : ((fun d => match d with | .tup [.int i, .int s] => D.int (if isIn l i.toNat = true then gs.getD i.toNat 0 else s - 1) | _ => .non) ∘ fun p : Nat × Int => D.tup [.int (p.1 : Nat), .int p.2]) = D.int ∘ fun p => if isIn l p.1 = true then gs.getD p.1 0 else p.2 - 1 := by
      funext p
      show D.int _ = D.int _
      rw [Int.toNat_natCast]
    rw [e, ← List.map_map]
    exact hq
noncomputable def dueL' (h : Nat) (gs st : List Int) : List (List Int) := (daysL h gs.length).filter (hasDue st)
theorem ints_day (l : List Int) : (intsOf (l.map D.int)).getD [] = l := by
  have := ints_map (fun z : Int => z) l
  rw [List.map_id'] at this
  rw [this]; rfl
/-- those of some days that are as p tells -/
noncomputable def pickD (p : List Int → Bool) : D → Option D
  | .tup l => if p ((intsOf l).getD []) = true then some (.tup l) else none
  | _ => none
theorem pick_day {p : List Int → Bool} (l : List Int) : pickD p (dayD l) = if p l = true then some (dayD l) else none := by
  unfold dayD pickD
  dsimp only
  rw [ints_day]
theorem filter_map_day {p : List Int → Bool} : ∀ L : List (List Int), (L.map dayD).filterMap (pickD p) = (L.filter p).map dayD
  | [] => rfl
  | l :: L => by
    rw [List.map_cons, List.filterMap_cons, List.filter_cons, filter_map_day L, pick_day]
    by_cases c : p l = true
    · rw [if_pos c, if_pos c]; rfl
    · rw [if_neg c, if_neg c]
theorem days_len {h : Int} {m : Nat} (h3 : h ≤ 3) (hm : m ≤ 8) : (daysL h.toNat m).length ≤ 2048 := by
  unfold daysL
  rw [(isortL_perm _).length_eq]
  have := (found_ok hm h.toNat).2.2.1
  have e : h.toNat ≤ 3 := by omega
  exact Nat.le_trans this (Nat.le_trans (Nat.mul_le_mul (by omega : h.toNat + 1 ≤ 4) (Nat.pow_le_pow_right (by decide) e)) (by decide))
theorem sp_due_days {h : Int} {gs st : List Int} {k : Nat} {μ : Mu} (ok : PlanOk h gs) (hs : st.length ≤ 1000) (hq : q (.lst ((dueL' h.toNat gs st).map dayD)) ⟨k, μ⟩) : F_due_days Γ [planD h gs, dayD st] ⟨k, μ⟩ q x := by
  have := ok.h1
  wp_walk using t_due_days, F_due_days, planD, at0, at1, List.length_map
  refine sp_lots_of (by omega) ok.h3 ok.l8 ?_
  wp_walk
  refine ⟨by rw [List.length_map]; exact Nat.le_trans (days_len ok.h3 ok.l8) (by decide), lc_pure (f := pickD (hasDue st)) (fun d hd n k hk => ?_) ?_⟩
  · obtain ⟨l, hl, rfl⟩ := List.mem_map.mp hd
    rw [pick_day] at hk
    rw [s_lc1]
    wp_walk using wipeE
    refine sp_has_due hs ?_
    wp_walk
    by_cases c : hasDue st l = true
    · rw [if_pos c] at hk ⊢
      simpa [OE.w_g0, OE.w_gs, OE.w_s0, OE.w_ss, OE.w_some, OE.w_ex, OE.w_lc, OE.w_ln, OE.w_at, OE.w_ta, OE.w_nt, OE.w_nf, OE.w_it, OE.w_if, OE.w_itP, OE.w_ifP, OE.w_ft, OE.w_mc, OE.w_mn, OE.w_rs, OE.w_r0, OE.w_ca, OE.w_na, OE.w_za, OE.w_sb, OE.w_sz, OE.s_then, OE.k_seqN, OE.k_seqR, OE.k_seqB, OE.k_seqC, OE.s_next, OE.s_ret, OE.k_ret, OE.s_set, OE.k_set, OE.s_ite, OE.k_ite, OE.o_rt, OE.o_nx, OE.s_run, OE.s_var, OE.s_const, OE.s_nil, OE.s_cons, OE.k_cons, OE.k_cons2, OE.s_tup, OE.s_lst, OE.k_tup, OE.k_lst, OE.s_bin, OE.k_bin, OE.k_bin2, OE.s_bind, OE.k_ap, OE.s_call, OE.k_apL, OE.s_fn, OE.k_fn, OE.s_test, OE.k_test, OE.s_and, OE.k_and, OE.s_or, OE.k_or, OE.s_not, OE.k_not, OE.s_andV, OE.k_andV, OE.s_orV, OE.k_orV, OE.s_notV, OE.k_notV, OE.s_if, OE.k_if, OE.s_isN, OE.k_isN, OE.s_noN, OE.k_noN, OE.s_chain, OE.k_ch1, OE.k_ch2, OE.k_ch3, OE.s_isi, OE.k_isi, OE.s_part, OE.k_part, OE.s_slice, OE.k_sl1, OE.k_sl2, OE.k_sl3, OE.s_retO, OE.s_slL, OE.s_slT, OE.s_slS, OE.s_seq, OE.k_itmL, OE.k_itmT, OE.k_itmS, OE.s_its, OE.k_its, OE.s_rng1, OE.s_rng2, OE.s_enT, OE.s_enL, OE.s_zipL, OE.s_zipT, OE.s_for, OE.k_for, OE.for_nil, OE.k_go, OE.k_tN, OE.k_tC, OE.k_tB, OE.k_tR, OE.g_name, OE.g_tup, OE.g_cons, OE.k_gs, OE.g_nil, OE.s_asg, OE.k_asg, OE.k_nx, OE.s_par, OE.k_par, OE.s_lc, OE.k_lc, OE.k_lc1, OE.k_lc2, OE.k_some, OE.s_fail, OE.k_fail, OE.s_fail0, OE.s_try, OE.k_unN, OE.k_unR, OE.s_fld, OE.k_fld, OE.f_addI, OE.f_addT, OE.f_addL, OE.f_addS, OE.f_ii, OE.f_i0, OE.f_mulI, OE.f_mulT, OE.f_mulL, OE.f_neg, OE.f_ixL, OE.f_ixT, OE.f_ixS, OE.f_lenL, OE.f_lenT, OE.f_lenS, OE.f_int, OE.f_min, OE.f_max, OE.f_tupL, OE.f_lstT, OE.f_lstL, OE.f_repr, OE.f_cmpS, OE.f_cmpI, OE.f_cmpT, OE.f_cmpL, OE.s_dict, OE.k_dic, OE.f_getM, OE.s_putM, OE.k_put1, OE.k_put2, OE.s_dm, OE.mGet_left, OE.mGet_seed, OE.mGet_cells, OE.mGet_spot, OE.mPut_left, OE.mPut_spot, OE.k_wh, OE.s_star, OE.k_starT, OE.k_starL, OE.k_star2, OE.s_drop, OE.k_drop, OE.s_par3, OE.k_par3, OE.f_lrg1, OE.f_trg1, OE.f_lrg2, OE.f_trg2, OE.f_ixM, OE.f_lenM, OE.f_inT, OE.f_inL, OE.f_inS, OE.s_tryN, OE.c_nil, OE.f_all, OE.f_any, OE.f_sum, OE.s_frz, OE.k_frzS, OE.k_fz, OE.f_frzLs, OE.f_frzT, OE.f_frzI, OE.f_frzN, OE.s_mlst, OE.k_ml, OE.s_meth, OE.k_me, OE.f_app, OE.f_extd, OE.f_sorted, OE.s_lc2, OE.k_lcc, OE.f_isB, OE.s_isi2, OE.k_isi2, OE.s_aug, OE.k_aug, OE.w_int, OE.f_revL, OE.f_revT, OE.s_isx, OE.k_isx, OE.startE, Nat.reduceAdd, Nat.reduceLeDiff, Nat.reduceSub] using hk
    · rw [if_neg c] at hk ⊢
      exact hk
  · rw [filter_map_day]
    exact hq
/-! standings, days as they are judged -/
end PL
namespace PL
open OE
open PySem (Str)
end PL
namespace PL
open OE PySem
/-! ### rows walked -/
end PL
namespace PL
open OE
open PySem (Str)
noncomputable def t__law_size_4 (Γ : Gam) : Ev → Wp Out :=
  tret (tvar 1)
noncomputable def t__law_size_3 (Γ : Gam) : Ev → Wp Out :=
  tset 1 (tbin fMul (tvar 1) (tvar 2))
noncomputable def t__law_size_2 (Γ : Gam) : Ev → Wp Out :=
  tthen (tfor (tseq (tvar 0)) (gname 2) (t__law_size_3 Γ))
  (t__law_size_4 Γ)
noncomputable def t__law_size (Γ : Gam) : Ev → Wp Out :=
  tthen (tset 1 (tconst (.int 1)))
  (t__law_size_2 Γ)
noncomputable def F__law_size (Γ : Gam) : List D → Wp D := runDef 3 (t__law_size Γ)
end PL
namespace PL
open OE PySem
variable [TN] {Γ : Gam} {n : S} {q : D → S → Prop} {x : Exn → S → Prop}
/-! ### the law's own days -/
/-! ### the law's going, plain -/
theorem enumI_get : ∀ (l : List Int) (i j : Nat), (enumI i l)[j]? = l[j]?.map fun z => (i + j, z)
  | [], _, _ => by simp [enumI]
  | z :: l, i, 0 => by simp [enumI]
  | z :: l, i, j + 1 => by
    rw [enumI, List.getElem?_cons_succ, List.getElem?_cons_succ, enumI_get l (i + 1) j]
    congr 1
    funext w
    rw [show i + 1 + j = i + (j + 1) by omega]
noncomputable def agesL (l ages : List Int) : List Int := (enumI 0 ages).map fun p => if isIn l p.1 = true then 0 else p.2 + 1
noncomputable def stOf : List Int → List Int → List Int
  | g :: gs, a :: as => (g - a) :: stOf gs as
  | _, _ => []
noncomputable def lateL : List Int → List Int → Bool
  | a :: as, g :: gs => decide (g ≤ a) || lateL as gs
  | _, _ => false
/-- ages as they can be -/
structure AgOk (gs ages : List Int) : Prop where
  len : ages.length = gs.length
  at' : ∀ (i : Nat) (g a : Int), gs[i]? = some g → ages[i]? = some a → 0 ≤ a ∧ a < g
theorem stOf_get : ∀ (gs as : List Int) (i : Nat) (g a : Int), gs[i]? = some g → as[i]? = some a → (stOf gs as)[i]? = some (g - a)
  | [], _, _, _, _, h, _ => by simp at h
  | _ :: _, [], _, _, _, _, h => by simp at h
  | g :: gs, a :: as, 0, _, _, h, h' => by cases h; cases h'; rfl
  | g :: gs, a :: as, i + 1, _, _, h, h' => by
    rw [stOf, List.getElem?_cons_succ]
    exact stOf_get gs as i _ _ (by simpa using h) (by simpa using h')
theorem stOf_len : ∀ (gs as : List Int), as.length = gs.length → (stOf gs as).length = gs.length
  | [], _, _ => by simp [stOf]
  | _ :: _, [], h => by cases h
  | _ :: gs, _ :: as, h => by rw [stOf, List.length_cons, List.length_cons, stOf_len gs as (by simpa using h)]
theorem agesL_len (l ages : List Int) : (agesL l ages).length = ages.length := by unfold agesL; rw [List.length_map, enumI_len]
theorem agesL_get {l ages : List Int} {i : Nat} {a : Int} (h : ages[i]? = some a) : (agesL l ages)[i]? = some (if isIn l i = true then 0 else a + 1) := by
  unfold agesL
  rw [List.getElem?_map, enumI_get, h]
  simp
theorem late_iff : ∀ (as gs : List Int), lateL as gs = true ↔ ∃ (i : Nat) (a g : Int), as[i]? = some a ∧ gs[i]? = some g ∧ g ≤ a
  | [], gs => by simp [lateL]
  | _ :: _, [] => by simp [lateL]
  | a :: as, g :: gs => by
    rw [lateL, Bool.or_eq_true, late_iff as gs]
    constructor
    · rintro (h | ⟨i, a', g', h1, h2, h3⟩)
      · exact ⟨0, a, g, rfl, rfl, of_decide_eq_true h⟩
      · exact ⟨i + 1, a', g', by simpa using h1, by simpa using h2, h3⟩
    · rintro ⟨i, a', g', h1, h2, h3⟩
      cases i with
      | zero => cases h1; cases h2; exact .inl (decide_eq_true h3)
      | succ i => exact .inr ⟨i, a', g', by simpa using h1, by simpa using h2, h3⟩
theorem due_iff (st l : List Int) : hasDue st l = true ↔ ∀ (i : Nat) (s : Int), st[i]? = some s → 1 < s ∨ isIn l i = true := by
  unfold hasDue
  rw [List.all_eq_true]
  constructor
  · intro h i s hs
    have := h (i, s) (List.mem_of_getElem? (i := i) (by rw [enumI_get, hs]; simp))
    simpa using this
  · intro h p hp
    obtain ⟨j, hj⟩ := List.mem_iff_getElem?.mp hp
    rw [enumI_get] at hj
    cases e : st[j]? with
    | none => rw [e] at hj; cases hj
    | some s =>
      rw [e] at hj
      simp -implicitDefEqProofs only [Option.map_some, Option.some.injEq, Nat.zero_add] at hj
      subst hj
      simpa using h j s e
theorem get_of_len {α : Type} {l : List α} {i : Nat} (h : i < l.length) : ∃ a, l[i]? = some a := ⟨l[i], List.getElem?_eq_getElem h⟩
theorem lt_of_get {α : Type} {l : List α} {i : Nat} {a : α} (h : l[i]? = some a) : i < l.length := by
  rcases Nat.lt_or_ge i l.length with z | z
  · exact z
  · rw [List.getElem?_eq_none z] at h; cases h
theorem go_due {gs ages l : List Int} (ok : AgOk gs ages) : lateL (agesL l ages) gs = !hasDue (stOf gs ages) l := by
  cases e : hasDue (stOf gs ages) l with
  | true =>
    cases e2 : lateL (agesL l ages) gs with
    | false => rfl
    | true =>
      obtain ⟨i, a, g, h1, h2, h3⟩ := (late_iff _ _).mp e2
      have hi := lt_of_get h1
      rw [agesL_len] at hi
      obtain ⟨b, hb⟩ := get_of_len hi
      rw [agesL_get hb] at h1
      have h0 := ok.at' i g b h2 hb
      have h4 := (due_iff _ _).mp e i (g - b) (stOf_get gs ages i g b h2 hb)
      injection h1 with h1
      by_cases c : isIn l i = true
      · rw [if_pos c] at h1; omega
      · rw [if_neg c] at h1
        rcases h4 with z | z
        · omega
        · exact absurd z c
  | false =>
    refine (late_iff _ _).mpr ?_
    have e' : ¬ hasDue (stOf gs ages) l = true := by rw [e]; decide
    rw [due_iff] at e'
    have ⟨i, hi⟩ := Classical.not_forall.mp e'
    have ⟨s, hs⟩ := Classical.not_forall.mp hi
    have ⟨h1, h2⟩ := Classical.not_imp.mp hs
    have hl := lt_of_get h1
    rw [stOf_len gs ages ok.len] at hl
    obtain ⟨g, hg⟩ := get_of_len hl
    obtain ⟨b, hb⟩ := get_of_len (l := ages) (i := i) (by rw [ok.len]; exact hl)
    rw [stOf_get gs ages i g b hg hb] at h1
    injection h1 with h1
    refine ⟨i, _, g, agesL_get hb, hg, ?_⟩
    rw [not_or] at h2
    rw [if_neg h2.2]
    omega
theorem go_ok {gs ages l : List Int} (ok : AgOk gs ages) (hl : lateL (agesL l ages) gs = false) : AgOk gs (agesL l ages) := by
  refine ⟨by rw [agesL_len]; exact ok.len, fun i g a hg ha => ?_⟩
  have hi := lt_of_get ha
  rw [agesL_len] at hi
  obtain ⟨b, hb⟩ := get_of_len hi
  have h0 := ok.at' i g b hg hb
  have e := agesL_get (l := l) hb
  rw [e] at ha
  injection ha with ha
  have nl : ¬ g ≤ a := fun z => by
    have : lateL (agesL l ages) gs = true := (late_iff _ _).mpr ⟨i, a, g, by rw [e, ha], hg, z⟩
    rw [hl] at this; cases this
  refine ⟨?_, by omega⟩
  rw [← ha]; split <;> omega
theorem go_later {gs ages l : List Int} (ok : AgOk gs ages) : laterL gs (stOf gs ages) l = stOf gs (agesL l ages) := by
  refine List.ext_getElem? fun i => ?_
  by_cases hi : i < gs.length
  · obtain ⟨g, hg⟩ := get_of_len hi
    obtain ⟨b, hb⟩ := get_of_len (l := ages) (i := i) (by rw [ok.len]; exact hi)
    rw [stOf_get gs (agesL l ages) i g _ hg (agesL_get hb)]
    unfold laterL
    rw [List.getElem?_map, enumI_get, stOf_get gs ages i g b hg hb]
    simp -implicitDefEqProofs only [Option.map_some, Nat.zero_add, List.getD_eq_getElem?_getD, hg, Option.getD_some]
    congr 1
    split <;> omega
  · rw [List.getElem?_eq_none (by rw [later_len, stOf_len gs ages ok.len]; omega), List.getElem?_eq_none (by rw [stOf_len gs _ (by rw [agesL_len]; exact ok.len)]; omega)]
/-! ### the law's going, read -/
end PL
namespace PL
open OE PySem
variable [TN] {Γ : Gam} {n : S} {q : D → S → Prop} {x : Exn → S → Prop}
/-! ### simple data: equal just when they are one -/
noncomputable def sm : Nat → D → Bool
  | _, .non => true
  | _, .int _ => true
  | _, .str y => PyData.strOk y
  | k + 1, .tup l => l.all (sm k)
  | k + 1, .lst l => l.all (sm k)
  | _, _ => false
end PL
namespace PL
open OE
open PySem (Str)
noncomputable def t_all_standings_4 (Γ : Gam) : Ev → Wp Out :=
  tret (tvar 1)
noncomputable def t_all_standings_3 (Γ : Gam) : Ev → Wp Out :=
  tset 1 (tlc2 (tseq (tvar 1)) (gname 3) (fun _ => Wp.ret true) (tits fRange2 (tcons (tconst (.int 1)) (tcons (tbin fAdd (tvar 2) (tconst (.int 1))) (tnil)))) (gname 4) (fun _ => Wp.ret true) (ttup (tstar (tvar 3) (tcons (tvar 4) (tnil)))) [3, 4] [4])
noncomputable def t_all_standings_2 (Γ : Gam) : Ev → Wp Out :=
  tthen (tfor (tseq (tbin fIx (tvar 0) (tconst (.int 1)))) (gname 2) (t_all_standings_3 Γ))
  (t_all_standings_4 Γ)
noncomputable def t_all_standings (Γ : Gam) : Ev → Wp Out :=
  tthen (tset 1 (tlst (tcons (ttup (tnil)) (tnil))))
  (t_all_standings_2 Γ)
noncomputable def F_all_standings (Γ : Gam) : List D → Wp D := runDef 5 (t_all_standings Γ)
noncomputable def t_Web_does_hold (Γ : Gam) : Ev → Wp Out :=
  tret (tbin (fDIn true) (tvar 1) (tbind (fMFld Γ "Web" "own_falls") (tvar 0)))
noncomputable def F_Web_does_hold (Γ : Gam) : List D → Wp D := runDef 2 (t_Web_does_hold Γ)
noncomputable def t_Web_fallen_15 (Γ : Gam) : Ev → Wp Out :=
  tret (tvar 7)
noncomputable def t_Web_fallen_13 (Γ : Gam) : Ev → Wp Out :=
  tite (ttest (tbin fEq (tbin fDGet (tvar 2) (tvar 11)) (tconst (.int 0)))) (tdrop (tmeth fAppend (tvar 8) (tvar 11))) (tnext)
noncomputable def t_Web_fallen_12 (Γ : Gam) : Ev → Wp Out :=
  tthen (tdaug (fun i j => i - j) (tvar 2) (tvar 11) (tconst (.int 1)))
  (t_Web_fallen_13 Γ)
noncomputable def t_Web_fallen_11 (Γ : Gam) : Ev → Wp Out :=
  tforG (tseqG (tbin fDGet (tvar 1) (tvar 10))) (gname 11) (t_Web_fallen_12 Γ)
noncomputable def t_Web_fallen_10 (Γ : Gam) : Ev → Wp Out :=
  tthen (tdput (tvar 7) (tvar 10) (tcall fMaxL (tcons (tbin fAdd (tlc (tseq (tbin fDGet (tbind (fMFld Γ "Web" "own_links") (tvar 0)) (tvar 10))) (gtup 2 (gcons (gname 5) (gcons (gname 6) (gnil)))) (fun _ => Wp.ret true) (tbin fAdd (tbin fDGet (tvar 7) (tvar 6)) (tconst (.int 1))) [5, 6]) (tlst (tcons (tconst (.int 0)) (tnil)))) (tnil))))
  (t_Web_fallen_11 Γ)
noncomputable def t_Web_fallen_9 (Γ : Gam) : Ev → Wp Out :=
  tthen (taug 9 (fun i j => i + j) (tconst (.int 1)))
  (t_Web_fallen_10 Γ)
noncomputable def t_Web_fallen_8 (Γ : Gam) : Ev → Wp Out :=
  tthen (tset 10 (tbin fIx (tvar 8) (tvar 9)))
  (t_Web_fallen_9 Γ)
noncomputable def t_Web_fallen_7 (Γ : Gam) : Ev → Wp Out :=
  tthen (twhile (ttest (tbin fLt (tvar 9) (tcall fLen (tcons (tvar 8) (tnil))))) (t_Web_fallen_8 Γ))
  (t_Web_fallen_15 Γ)
noncomputable def t_Web_fallen_6 (Γ : Gam) : Ev → Wp Out :=
  tthen (tasg (ttup (tcons (tmdit) (tcons (tlkE (tmlcG (tkeys (tvar 2)) (gname 3) (ttest (tbin fEq (tbin fDGet (tvar 2) (tvar 3)) (tconst (.int 0)))) (tvar 3) [3])) (tcons (tconst (.int 0)) (tnil))))) (gtup 3 (gcons (gname 7) (gcons (gname 8) (gcons (gname 9) (gnil))))))
  (t_Web_fallen_7 Γ)
noncomputable def t_Web_fallen_5 (Γ : Gam) : Ev → Wp Out :=
  tdrop (tmeth fAppend (tbin fDGet (tvar 1) (tvar 6)) (tvar 3))
noncomputable def t_Web_fallen_4 (Γ : Gam) : Ev → Wp Out :=
  tfor (tseq (tvar 4)) (gtup 2 (gcons (gname 5) (gcons (gname 6) (gnil)))) (t_Web_fallen_5 Γ)
noncomputable def t_Web_fallen_3 (Γ : Gam) : Ev → Wp Out :=
  tthen (tdput (tvar 2) (tvar 3) (tcall fLen (tcons (tvar 4) (tnil))))
  (t_Web_fallen_4 Γ)
noncomputable def t_Web_fallen_2 (Γ : Gam) : Ev → Wp Out :=
  tthen (tforG (titems (tbind (fMFld Γ "Web" "own_links") (tvar 0))) (gtup 2 (gcons (gname 3) (gcons (gname 4) (gnil)))) (t_Web_fallen_3 Γ))
  (t_Web_fallen_6 Γ)
noncomputable def t_Web_fallen (Γ : Gam) : Ev → Wp Out :=
  tthen (tasg (ttup (tcons (tdcG (tkeys (tbind (fMFld Γ "Web" "own_links") (tvar 0))) (gname 3) (fun _ => Wp.ret true) (tvar 3) (tmlst tnil) [3]) (tcons (tmdit) (tnil)))) (gtup 2 (gcons (gname 1) (gcons (gname 2) (gnil)))))
  (t_Web_fallen_2 Γ)
noncomputable def F_Web_fallen (Γ : Gam) : List D → Wp D := runDef 12 (t_Web_fallen Γ)
noncomputable def t_Web___init___6 (Γ : Gam) : Ev → Wp Out :=
  tlkB (tmfset Γ "Web" "own_falls" (tvar 0) (tmth0 Γ "Web" "fallen" (F_Web_fallen Γ) (tvar 0)))
noncomputable def t_Web___init___5 (Γ : Gam) : Ev → Wp Out :=
  tdput (tbind (fMFld Γ "Web" "own_links") (tvar 0)) (tvar 2) (tlc (tseq (tvar 3)) (gname 4) (fun _ => Wp.ret true) (ttup (tcons (tvar 4) (tcons (tfn 3 (F_later_of Γ) (tcons (tvar 1) (tcons (tvar 2) (tcons (tvar 4) (tnil))))) (tnil)))) [4])
noncomputable def t_Web___init___4 (Γ : Gam) : Ev → Wp Out :=
  tthen (tset 3 (tfn 2 (F_due_days Γ) (tcons (tvar 1) (tcons (tvar 2) (tnil)))))
  (t_Web___init___5 Γ)
noncomputable def t_Web___init___3 (Γ : Gam) : Ev → Wp Out :=
  tthen (tfor (tseq (tfn 1 (F_all_standings Γ) (tcons (tvar 1) (tnil)))) (gname 2) (t_Web___init___4 Γ))
  (t_Web___init___6 Γ)
noncomputable def t_Web___init___2 (Γ : Gam) : Ev → Wp Out :=
  tthen (tmfset Γ "Web" "own_links" (tvar 0) (tmdit))
  (t_Web___init___3 Γ)
noncomputable def t_Web___init__ (Γ : Gam) : Ev → Wp Out :=
  tthen (tmfset Γ "Web" "own_plan" (tvar 0) (tvar 1))
  (t_Web___init___2 Γ)
noncomputable def F_Web___init__ (Γ : Gam) : List D → Wp D := runDef 5 (t_Web___init__ Γ)
noncomputable def t_web_of_3 (Γ : Gam) : Ev → Wp Out :=
  tret (tmk Γ "Web" 2 (F_Web___init__ Γ) (tcons (tvar 0) (tnil)))
noncomputable def t_web_of (Γ : Gam) : Ev → Wp Out :=
  tthen (tite (ttest (tbin fGt (tfn 1 (F_count_of Γ) (tcons (tvar 0) (tnil))) (tconst (.int 1000)))) (tfail1 "TooGreat" (tcons (tconst (.int 1000)) (tnil))) (tnext))
  (t_web_of_3 Γ)
noncomputable def F_web_of (Γ : Gam) : List D → Wp D := runDef 1 (t_web_of Γ)
noncomputable def t_does_last_2 (Γ : Gam) : Ev → Wp Out :=
  tret (tmth Γ "Web" "does_hold" 2 (F_Web_does_hold Γ) (tfn 1 (F_web_of Γ) (tcons (tvar 0) (tnil))) (tcons (tbin fIx (tvar 0) (tconst (.int 1))) (tnil)))
noncomputable def t_does_last (Γ : Gam) : Ev → Wp Out :=
  tthen (tdrop (tfn 1 (F_need_plan Γ) (tcons (tvar 0) (tnil))))
  (t_does_last_2 Γ)
noncomputable def F_does_last (Γ : Gam) : List D → Wp D := gcF (runDef 1 (t_does_last Γ))
end PL
/-! ### dicts with tuple keys, what falls: plain -/
namespace PL
open OE PySem
noncomputable abbrev St := List Int
theorem look_put (l : TL) (k : St) (v : D) (j : St) : (putT l k v).lookup j = if j = k then some v else l.lookup j := by
  unfold putT
  have aux : ∀ m : TL, (m.map fun p => if p.1 = k then (p.1, v) else p).lookup j = if j = k then (if (m.lookup k).isSome = true then some v else none) else m.lookup j := by
    intro m
    induction m with
    | nil => by_cases c : j = k <;> simp [List.lookup, c]
    | cons p m ih =>
      obtain ⟨a, b⟩ := p
      rw [List.map_cons]
      by_cases ca : a = k
      · subst ca
        simp only [if_true, List.lookup_cons]
        by_cases cj : j = a
        · subst cj; simp
        · have : (j == a) = false := by simpa using cj
          rw [this]
          simp only [if_neg cj]
          rw [ih, if_neg cj]
      · rw [if_neg ca, List.lookup_cons, List.lookup_cons (a := j)]
        by_cases cj : j = a
        · subst cj; simp [ca]
        · have h1 : (j == a) = false := by simpa using cj
          have h2 : (k == a) = false := by simpa using fun z : k = a => ca z.symm
          have e1 : List.lookup k ((a, b) :: m) = List.lookup k m := by rw [List.lookup_cons, h2]
          rw [e1, h1]
          exact ih
  split
  · rename_i h
    rw [aux]
    by_cases c : j = k
    · rw [if_pos c, if_pos c, if_pos h]
    · rw [if_neg c, if_neg c]
  · rename_i h
    have hn : l.lookup k = none := by cases e : l.lookup k with | none => rfl | some _ => rw [e] at h; simp at h
    rw [List.lookup_append]
    by_cases c : j = k
    · subst c; rw [hn, if_pos rfl]; simp [List.lookup]
    · rw [if_neg c]
      have : (j == k) = false := by simpa using c
      simp [List.lookup, this]
theorem look_mem {l : TL} {k : St} : (l.lookup k).isSome = true ↔ k ∈ l.map Prod.fst := by
  induction l with
  | nil => simp [List.lookup]
  | cons p l ih =>
    rw [List.lookup_cons, List.map_cons, List.mem_cons]
    by_cases c : k = p.1
    · subst c; simp
    · have : (k == p.1) = false := by simpa using c
      rw [this]; simp [c, ih]
theorem put_new {l : TL} {k : St} {v : D} (h : l.lookup k = none) : putT l k v = l ++ [(k, v)] := by unfold putT; rw [h]; rfl
theorem keys_old {l : TL} {k : St} {v : D} (h : (l.lookup k).isSome = true) : (putT l k v).map Prod.fst = l.map Prod.fst := by
  unfold putT
  rw [if_pos h, List.map_map]
  refine List.map_congr_left fun p _ => ?_
  show (if p.1 = k then (p.1, v) else p).1 = p.1
  split <;> rfl
theorem look_map (V : List St) (f : St → D) (k : St) : (V.map fun s => (s, f s)).lookup k = if k ∈ V then some (f k) else none := by
  induction V with
  | nil => rfl
  | cons a V ih =>
    rw [List.map_cons, List.lookup_cons]
    by_cases c : k = a
    · subst c; simp
    · have : (k == a) = false := by simpa using c
      rw [this]; simp only [ih, List.mem_cons, c, false_or]
theorem len_put_old {l : TL} {k : St} {v : D} (h : (l.lookup k).isSome = true) : (putT l k v).length = l.length := by
  have := congrArg List.length (keys_old (v := v) h)
  simpa using this
/-! what falls -/
section
variable (sc : St → List St)
noncomputable def LK : Nat → St → Prop
  | 0, _ => False
  | k + 1, s => ∀ t ∈ sc s, LK k t
variable {sc}
theorem LK.up : ∀ {k : Nat} {s : St}, LK sc k s → LK sc (k + 1) s
  | 0, _, h => h.elim
  | k + 1, _, h => fun t ht => LK.up (k := k) (h t ht)
theorem LK.le {k j : Nat} {s : St} (h : LK sc k s) (hj : k ≤ j) : LK sc j s := by
  induction j with
  | zero => have : k = 0 := by omega
            subst this; exact h
  | succ j ih =>
    by_cases c : k = j + 1
    · subst c; exact h
    · exact (ih (by omega)).up
variable (sc)
noncomputable def Lost (s : St) : Prop := ∃ k, LK sc k s
noncomputable def Rank (s : St) (r : Nat) : Prop := LK sc (r + 1) s ∧ ¬ LK sc r s
variable {sc}
theorem lost_all {l : List St} (h : ∀ t ∈ l, Lost sc t) : ∃ k, ∀ t ∈ l, LK sc k t := by
  induction l with
  | nil => exact ⟨0, fun t z => nomatch z⟩
  | cons a l ih =>
    obtain ⟨k, hk⟩ := ih fun t ht => h t (List.mem_cons_of_mem _ ht)
    obtain ⟨j, hj⟩ := h a List.mem_cons_self
    refine ⟨max k j, fun t ht => ?_⟩
    rcases List.mem_cons.mp ht with rfl | z
    · exact hj.le (Nat.le_max_right _ _)
    · exact (hk t z).le (Nat.le_max_left _ _)
theorem lost_iff {s : St} : Lost sc s ↔ ∀ t ∈ sc s, Lost sc t := by
  refine ⟨fun ⟨k, h⟩ t ht => ?_, fun h => ?_⟩
  · cases k with
    | zero => exact h.elim
    | succ k => exact ⟨k, h t ht⟩
  · obtain ⟨k, hk⟩ := lost_all h
    exact ⟨k + 1, hk⟩
theorem Rank.lost {s : St} {r : Nat} (h : Rank sc s r) : Lost sc s := ⟨_, h.1⟩
theorem Rank.uniq {s : St} {r u : Nat} (h : Rank sc s r) (g : Rank sc s u) : r = u := by
  rcases Nat.lt_trichotomy r u with c | c | c
  · exact absurd (h.1.le c) g.2
  · exact c
  · exact absurd (g.1.le c) h.2
theorem rank_of {s : St} {f : St → Nat} {m : Nat} (hf : ∀ t ∈ sc s, Rank sc t (f t)) (h1 : ∀ t ∈ sc s, f t + 1 ≤ m) (h2 : m = 0 ∨ ∃ t ∈ sc s, f t + 1 = m) : Rank sc s m := by
  refine ⟨fun t ht => ((hf t ht).1).le (h1 t ht), fun z => ?_⟩
  rcases h2 with rfl | ⟨t, ht, rfl⟩
  · exact z
  · exact (hf t ht).2 (z t ht)
variable (sc)
structure FallsOk (V : List St) (fl : TL) : Prop where
  nodup : (fl.map Prod.fst).Nodup
  sub : ∀ s ∈ fl.map Prod.fst, s ∈ V
  val : ∀ s v, fl.lookup s = some v → ∃ r : Nat, v = .int r ∧ Rank sc s r
  all : ∀ s ∈ V, (∀ t ∈ sc s, (fl.lookup t).isSome = true) → (fl.lookup s).isSome = true
variable {sc}
theorem FallsOk.lost {V : List St} {fl : TL} (h : FallsOk sc V fl) {s : St} (z : (fl.lookup s).isSome = true) : Lost sc s := by
  obtain ⟨v, e⟩ := Option.isSome_iff_exists.mp z
  obtain ⟨r, _, hr⟩ := h.val s v e
  exact hr.lost
theorem FallsOk.iff {V : List St} {fl : TL} (h : FallsOk sc V fl) (hV : ∀ s ∈ V, ∀ t ∈ sc s, t ∈ V) {s : St} (hs : s ∈ V) : (fl.lookup s).isSome = true ↔ Lost sc s := by
  refine ⟨h.lost, ?_⟩
  rintro ⟨k, hk⟩
  induction k generalizing s with
  | zero => exact hk.elim
  | succ k ih => exact h.all s hs fun t ht => ih (hV s hs t ht) (hk t ht)
open Classical in
noncomputable def lastB (sc : St → List St) (s : St) : Bool := decide (¬ Lost sc s)
theorem lastB_iff {s : St} : lastB sc s = true ↔ ¬ Lost sc s := by unfold lastB; simp
theorem FallsOk.last {V : List St} {fl : TL} (h : FallsOk sc V fl) (hV : ∀ s ∈ V, ∀ t ∈ sc s, t ∈ V) {s : St} (hs : s ∈ V) : (!(fl.lookup s).isSome) = lastB sc s := by
  rw [Bool.eq_iff_iff, lastB_iff, ← h.iff hV hs]
  cases (fl.lookup s).isSome <;> simp
/-- two webs that go alike -/
theorem LK.alike {sc' : St → List St} {f : St → St} {P : St → Prop} (hP : ∀ a, P a → ∀ b ∈ sc' a, P b) (hf : ∀ a, P a → sc (f a) = (sc' a).map f) : ∀ {k : Nat} {a : St}, P a → (LK sc k (f a) ↔ LK sc' k a)
  | 0, _, _ => Iff.rfl
  | k + 1, a, ha => by
    show (∀ t ∈ sc (f a), LK sc k t) ↔ ∀ t ∈ sc' a, LK sc' k t
    rw [hf a ha]
    refine ⟨fun h t ht => (LK.alike hP hf (hP a ha t ht)).mp (h _ (List.mem_map_of_mem ht)), fun h t ht => ?_⟩
    obtain ⟨b, hb, rfl⟩ := List.mem_map.mp ht
    exact (LK.alike hP hf (hP a ha b hb)).mpr (h b hb)
end
end PL
/-! ### peeling: plain -/
namespace PL
open OE PySem
noncomputable def nfd (fd : TL) (t : St) : Bool := !(fd.lookup t).isSome
theorem nfd_put (fd : TL) (h : St) (v : D) (t : St) : nfd (putT fd h v) t = if t = h then false else nfd fd t := by
  unfold nfd; rw [look_put]; split <;> rfl
noncomputable def outC (sc : St → List St) (fd : TL) (s : St) : Nat := ((sc s).filter (nfd fd)).length
theorem out_put {sc : St → List St} {fd : TL} {h : St} {v : D} (hn : fd.lookup h = none) (s : St) : outC sc fd s = outC sc (putT fd h v) s + (sc s).count h := by
  unfold outC
  induction sc s with
  | nil => rfl
  | cons t l ih =>
    rw [List.filter_cons, List.filter_cons, List.count_cons, nfd_put]
    by_cases c : t = h
    · subst c
      have e : nfd fd t = true := by unfold nfd; rw [hn]; rfl
      rw [e, if_pos rfl, if_pos rfl, if_neg (by decide), List.length_cons, ih]
      simp; omega
    · have : (t == h) = false := by simpa using c
      rw [if_neg c, this]
      cases nfd fd t with
      | false => rw [if_neg (by decide), if_neg (by decide)]; simpa using ih
      | true => rw [if_pos rfl, if_pos rfl, List.length_cons, List.length_cons, ih]; simp; omega
theorem out_zero {sc : St → List St} {fd : TL} {s : St} : outC sc fd s = 0 ↔ ∀ t ∈ sc s, (fd.lookup t).isSome = true := by
  unfold outC
  rw [List.length_eq_zero_iff, List.filter_eq_nil_iff]
  unfold nfd
  exact ⟨fun h t ht => by have := h t ht; cases e : (fd.lookup t).isSome with | true => rfl | false => rw [e] at this; simp at this, fun h t ht => by rw [h t ht]; decide⟩
structure Peel (sc : St → List St) (V : List St) (lf fd : TL) (W : List St) (at_ : Nat) : Prop where
  left : ∀ s ∈ V, lf.lookup s = some (.int ((outC sc fd s : Nat) : Int))
  wnd : W.Nodup
  wV : ∀ s ∈ W, s ∈ V
  w0 : ∀ s ∈ V, (s ∈ W ↔ outC sc fd s = 0)
  keys : fd.map Prod.fst = W.take at_
  val : ∀ s v, fd.lookup s = some v → ∃ r : Nat, v = .int r ∧ Rank sc s r
structure Mid (sc : St → List St) (V : List St) (lf fd : TL) (W : List St) (suf : List St) : Prop where
  left : ∀ s ∈ V, lf.lookup s = some (.int ((outC sc fd s + suf.count s : Nat) : Int))
  wnd : W.Nodup
  wV : ∀ s ∈ W, s ∈ V
  w0 : ∀ s ∈ V, (s ∈ W ↔ outC sc fd s + suf.count s = 0)
variable {sc : St → List St} {V : List St} {lf fd : TL} {W : List St} {a : Nat}
theorem Peel.fresh (p : Peel sc V lf fd W a) {h : St} (e : W[a]? = some h) : fd.lookup h = none := by
  have hn : h ∉ fd.map Prod.fst := by
    rw [p.keys]
    intro z
    obtain ⟨i, hi, ei⟩ := List.getElem_of_mem z
    rw [List.length_take] at hi
    rw [List.getElem_take] at ei
    obtain ⟨h1, h2⟩ := List.getElem?_eq_some_iff.mp e
    have := (List.getElem_inj (xs := W) (h₀ := by omega) (h₁ := h1) p.wnd).mp (ei.trans h2.symm)
    omega
  cases c : fd.lookup h with
  | none => rfl
  | some v => exact absurd (look_mem.mp (by rw [c]; rfl)) hn
theorem Peel.begin_ {r : Nat} {h : St} {suf : List St} (p : Peel sc V lf fd W a) (e : W[a]? = some h) (hc : ∀ s ∈ V, suf.count s = (sc s).count h) : Mid sc V lf (putT fd h (.int r)) W suf := by
  have hn := p.fresh e
  refine ⟨fun s hs => ?_, p.wnd, p.wV, fun s hs => ?_⟩
  · rw [p.left s hs, out_put (v := .int r) hn, hc s hs]
  · rw [p.w0 s hs, out_put (v := .int r) hn, hc s hs]
theorem Mid.end_ {h : St} {r : Nat} {W' : List St} {lf' : TL} (p : Peel sc V lf fd W a) (e : W[a]? = some h) (hr : Rank sc h r) (m : Mid sc V lf' (putT fd h (.int r)) (W ++ W') []) : Peel sc V lf' (putT fd h (.int r)) (W ++ W') (a + 1) := by
  have hn := p.fresh e
  obtain ⟨h1, h2⟩ := List.getElem?_eq_some_iff.mp e
  refine ⟨fun s hs => by have := m.left s hs; simpa using this, m.wnd, m.wV, fun s hs => by have := m.w0 s hs; simpa using this, ?_, fun s v hv => ?_⟩
  · rw [put_new hn, List.map_append, p.keys, List.take_append_of_le_length (by omega), List.take_succ, e]; rfl
  · rw [look_put] at hv
    by_cases c : s = h
    · rw [if_pos c] at hv; cases hv; subst c; exact ⟨r, rfl, hr⟩
    · rw [if_neg c] at hv; exact p.val s v hv
theorem Mid.step {t : St} {suf : List St} (m : Mid sc V lf fd W (t :: suf)) (ht : t ∈ V) (hc : outC sc fd t + suf.count t ≠ 0) : Mid sc V (putT lf t (.int (((outC sc fd t + (t :: suf).count t : Nat) : Int) - 1))) fd W suf := by
  have e1 : (t :: suf).count t = suf.count t + 1 := by simp
  refine ⟨fun s hs => ?_, m.wnd, m.wV, fun s hs => ?_⟩
  · rw [look_put]
    by_cases c : s = t
    · subst c; rw [if_pos rfl, e1]; congr 2; omega
    · rw [if_neg c, m.left s hs, List.count_cons]
      have : (t == s) = false := by simpa using fun z => c z.symm
      rw [this]; simp
  · rw [m.w0 s hs, List.count_cons]
    by_cases c : s = t
    · subst c; simp; omega
    · have : (t == s) = false := by simpa using fun z => c z.symm
      rw [this]; simp
theorem Mid.step0 {t : St} {suf : List St} (m : Mid sc V lf fd W (t :: suf)) (ht : t ∈ V) (hc : outC sc fd t + suf.count t = 0) : Mid sc V (putT lf t (.int (((outC sc fd t + (t :: suf).count t : Nat) : Int) - 1))) fd (W ++ [t]) suf := by
  have e1 : (t :: suf).count t = suf.count t + 1 := by simp
  have hn : t ∉ W := fun z => by have := (m.w0 t ht).mp z; omega
  refine ⟨fun s hs => ?_, ?_, fun s hs => ?_, fun s hs => ?_⟩
  · rw [look_put]
    by_cases c : s = t
    · subst c; rw [if_pos rfl, e1]; congr 2; omega
    · rw [if_neg c, m.left s hs, List.count_cons]
      have : (t == s) = false := by simpa using fun z => c z.symm
      rw [this]; simp
  · rw [List.nodup_append]
    refine ⟨m.wnd, by simp, fun b hb c hc => ?_⟩
    rw [List.mem_singleton] at hc
    subst hc
    exact fun z => hn (z ▸ hb)
  · rcases List.mem_append.mp hs with z | z
    · exact m.wV s z
    · rw [List.mem_singleton] at z; subst z; exact ht
  · rw [List.mem_append, m.w0 s hs, List.count_cons, List.mem_singleton]
    by_cases c : s = t
    · subst c; simp; omega
    · have : (t == s) = false := by simpa using fun z => c z.symm
      rw [this]; simp [c]
theorem Peel.final (p : Peel sc V lf fd W W.length) : FallsOk sc V fd := by
  have hk : fd.map Prod.fst = W := by rw [p.keys, List.take_length]
  refine ⟨by rw [hk]; exact p.wnd, fun s hs => p.wV s (hk ▸ hs), p.val, fun s hs h => ?_⟩
  rw [look_mem, hk, p.w0 s hs, out_zero]
  exact h
theorem Peel.le (p : Peel sc V lf fd W a) (hV : V.Nodup) : W.length ≤ V.length := p.wnd.length_le_of_subset fun _ z => p.wV _ z
/-- what was found of a standing -/
noncomputable def rkN (fd : TL) (t : St) : Nat := match fd.lookup t with
  | some (.int r) => r.toNat
  | _ => 0
theorem Peel.rk (p : Peel sc V lf fd W a) {t : St} (h : (fd.lookup t).isSome = true) : fd.lookup t = some (.int ((rkN fd t : Nat) : Int)) ∧ Rank sc t (rkN fd t) := by
  obtain ⟨v, e⟩ := Option.isSome_iff_exists.mp h
  obtain ⟨r, rfl, hr⟩ := p.val t v e
  have : rkN fd t = r := by unfold rkN; rw [e]; simp
  rw [this]
  exact ⟨e, hr⟩
theorem max_of (l : List Nat) : ∃ m : Nat, (m = 0 ∨ m ∈ l) ∧ ∀ y ∈ l, y ≤ m := by
  induction l with
  | nil => exact ⟨0, .inl rfl, fun _ z => nomatch z⟩
  | cons b l ih =>
    obtain ⟨m, h1, h2⟩ := ih
    by_cases c : m ≤ b
    · exact ⟨b, .inr List.mem_cons_self, fun y hy => (List.mem_cons.mp hy).elim (fun z => by omega) fun z => Nat.le_trans (h2 y z) c⟩
    · refine ⟨m, ?_, fun y hy => (List.mem_cons.mp hy).elim (fun z => by omega) fun z => h2 y z⟩
      rcases h1 with z | z
      · exact .inl z
      · exact .inr (List.mem_cons_of_mem _ z)
theorem Peel.here (p : Peel sc V lf fd W a) {h : St} (e : W[a]? = some h) : (∀ t ∈ sc h, (fd.lookup t).isSome = true) ∧ h ∈ V ∧ ∃ m : Nat, Rank sc h m ∧ ((m : Nat) : Int) ∈ ((sc h).map fun t => ((rkN fd t : Nat) : Int) + 1) ++ [0] ∧ ∀ y ∈ ((sc h).map fun t => ((rkN fd t : Nat) : Int) + 1) ++ [0], y ≤ (m : Int) := by
  have hm : h ∈ W := List.mem_of_getElem? e
  have hV := p.wV h hm
  have h0 := out_zero.mp ((p.w0 h hV).mp hm)
  refine ⟨h0, hV, ?_⟩
  obtain ⟨m, h1, h2⟩ := max_of ((sc h).map fun t => rkN fd t + 1)
  refine ⟨m, rank_of (f := rkN fd) (fun t ht => (p.rk (h0 t ht)).2) (fun t ht => h2 _ (List.mem_map_of_mem ht)) ?_, ?_, ?_⟩
  · rcases h1 with z | z
    · exact .inl z
    · obtain ⟨t, h3, h4⟩ := List.mem_map.mp z; exact .inr ⟨t, h3, h4⟩
  · rcases h1 with z | z
    · rw [z]; simp
    · obtain ⟨t, h3, h4⟩ := List.mem_map.mp z
      exact List.mem_append_left _ (List.mem_map.mpr ⟨t, h3, by omega⟩)
  · intro y hy
    rcases List.mem_append.mp hy with z | z
    · obtain ⟨t, h3, h4⟩ := List.mem_map.mp z
      have := h2 _ (List.mem_map.mpr ⟨t, h3, rfl⟩)
      omega
    · rw [List.mem_singleton] at z; omega
end PL
/-! ### all standings: plain -/
namespace PL
open OE PySem
variable [TN]
noncomputable def boxL (lo : Int) : List Int → List St
  | [] => [[]]
  | g :: gs => (rangeI lo (lo + g)).flatMap fun k => (boxL lo gs).map (k :: ·)
theorem mem_rangeI {a b z : Int} : z ∈ rangeI a b ↔ a ≤ z ∧ z < b := by
  unfold rangeI
  rw [List.mem_map]
  constructor
  · rintro ⟨k, hk, rfl⟩
    have := List.mem_range.mp hk
    omega
  · intro h
    exact ⟨(z - a).toNat, List.mem_range.mpr (by omega), by omega⟩
theorem mem_box {lo : Int} : ∀ {gs : List Int} {s : St}, s ∈ boxL lo gs ↔ s.length = gs.length ∧ ∀ (i : Nat) (g z : Int), gs[i]? = some g → s[i]? = some z → lo ≤ z ∧ z < lo + g
  | [], s => by
    rw [boxL, List.mem_singleton]
    constructor
    · rintro rfl; exact ⟨rfl, fun i g z h => by simp at h⟩
    · rintro ⟨h, _⟩; exact List.eq_nil_of_length_eq_zero h
  | g :: gs, s => by
    rw [boxL, List.mem_flatMap]
    constructor
    · rintro ⟨k, hk, hs⟩
      obtain ⟨t, ht, rfl⟩ := List.mem_map.mp hs
      obtain ⟨h1, h2⟩ := mem_box.mp ht
      refine ⟨by simp [h1], fun i g' z e1 e2 => ?_⟩
      cases i with
      | zero => cases e1; cases e2; exact mem_rangeI.mp hk
      | succ i => exact h2 i g' z (by simpa using e1) (by simpa using e2)
    · rintro ⟨h1, h2⟩
      cases s with
      | nil => cases h1
      | cons k t =>
        exact ⟨k, mem_rangeI.mpr (h2 0 g k rfl rfl), List.mem_map.mpr ⟨t, mem_box.mpr ⟨by simpa using h1, fun i g' z e1 e2 => h2 (i + 1) g' z (by simpa using e1) (by simpa using e2)⟩, rfl⟩⟩
theorem prodI_mul (l : List Int) (p : Int) : l.foldl (· * ·) p = p * prodI l := by
  unfold prodI
  induction l generalizing p with
  | nil => simp
  | cons a l ih => rw [List.foldl_cons, List.foldl_cons, ih, ih (1 * a), Int.one_mul, Int.mul_assoc]
theorem prodI_cons (g : Int) (gs : List Int) : prodI (g :: gs) = g * prodI gs := by
  show (g :: gs).foldl (· * ·) 1 = _
  rw [List.foldl_cons, prodI_mul, Int.one_mul]
theorem prodI_pos : ∀ {gs : List Int}, (∀ z ∈ gs, 1 ≤ z) → 1 ≤ prodI gs
  | [], _ => Int.le_refl 1
  | g :: gs, h => by
    rw [prodI_cons]
    have h1 := h g List.mem_cons_self
    have h2 := prodI_pos fun z hz => h z (List.mem_cons_of_mem _ hz)
    have : 1 * 1 ≤ g * prodI gs := Int.mul_le_mul h1 h2 (by omega) (by omega)
    omega
theorem flat_len {α β : Type} {l : List α} {f : α → List β} {m : Nat} (h : ∀ a ∈ l, (f a).length = m) : (l.flatMap f).length = l.length * m := by
  induction l with
  | nil => simp
  | cons a l ih => rw [List.flatMap_cons, List.length_append, h a List.mem_cons_self, ih fun b hb => h b (List.mem_cons_of_mem _ hb), List.length_cons, Nat.add_mul]; omega
theorem box_len {lo : Int} : ∀ {gs : List Int}, (∀ z ∈ gs, 1 ≤ z) → (((boxL lo gs).length : Nat) : Int) = prodI gs
  | [], _ => rfl
  | g :: gs, h => by
    have h1 := h g List.mem_cons_self
    rw [boxL, flat_len (m := (boxL lo gs).length) fun a _ => List.length_map .., rangeI_len, prodI_cons, ← box_len (lo := lo) fun z hz => h z (List.mem_cons_of_mem _ hz)]
    have : (lo + g - lo).toNat = g.toNat := by congr 1; omega
    rw [this, Int.natCast_mul, Int.toNat_of_nonneg (by omega)]
/-- strictly ascending -/
noncomputable def ltL (a b : St) : Prop := leL a b = true ∧ a ≠ b
theorem ltL_cons {a b : Int} {l m : St} : ltL (a :: l) (b :: m) ↔ a < b ∨ a = b ∧ ltL l m := by
  unfold ltL
  rw [leL]
  by_cases h : a = b
  · subst h
    rw [if_pos rfl]
    constructor
    · rintro ⟨h1, h2⟩; exact .inr ⟨rfl, h1, fun z => h2 (by rw [z])⟩
    · rintro (z | ⟨_, h1, h2⟩)
      · omega
      · exact ⟨h1, fun z => h2 (by injection z)⟩
  · rw [if_neg h, decide_eq_true_eq]
    constructor
    · rintro ⟨h1, _⟩; exact .inl h1
    · rintro (z | ⟨z, _⟩)
      · exact ⟨z, fun e => h (by injection e)⟩
      · exact absurd z h
theorem range_asc (a b : Int) : (rangeI a b).Pairwise (· < ·) := by
  unfold rangeI
  rw [List.pairwise_map]
  exact List.Pairwise.imp (fun h => by omega) List.pairwise_lt_range
theorem box_asc {lo : Int} : ∀ gs : List Int, (boxL lo gs).Pairwise ltL
  | [] => List.pairwise_singleton ..
  | g :: gs => by
    rw [boxL]
    have aux : ∀ ks : List Int, ks.Pairwise (· < ·) → (ks.flatMap fun k => (boxL lo gs).map (k :: ·)).Pairwise ltL := by
      intro ks
      induction ks with
      | nil => intro _; exact List.Pairwise.nil
      | cons k ks ih =>
        intro h
        obtain ⟨h1, h2⟩ := List.pairwise_cons.mp h
        rw [List.flatMap_cons, List.pairwise_append]
        refine ⟨?_, ih h2, fun s hs t ht => ?_⟩
        · rw [List.pairwise_map]
          exact List.Pairwise.imp (fun z => ltL_cons.mpr (.inr ⟨rfl, z⟩)) (box_asc gs)
        · obtain ⟨s', _, rfl⟩ := List.mem_map.mp hs
          obtain ⟨k', hk', ht⟩ := List.mem_flatMap.mp ht
          obtain ⟨t', _, rfl⟩ := List.mem_map.mp ht
          exact ltL_cons.mpr (.inl (h1 k' hk'))
    exact aux _ (range_asc _ _)
theorem box_nodup {lo : Int} (gs : List Int) : (boxL lo gs).Nodup := List.Pairwise.imp (fun h => h.2) (box_asc gs)
/-! standings and ages -/
theorem ag_box {gs a : List Int} : a ∈ boxL 0 gs ↔ AgOk gs a := by
  rw [mem_box]
  exact ⟨fun ⟨h1, h2⟩ => ⟨h1, fun i g z e1 e2 => by have := h2 i g z e1 e2; omega⟩, fun h => ⟨h.len, fun i g z e1 e2 => by have := h.at' i g z e1 e2; omega⟩⟩
theorem st_st : ∀ {gs s : List Int}, s.length = gs.length → stOf gs (stOf gs s) = s
  | [], [], _ => rfl
  | [], _ :: _, h => by cases h
  | _ :: _, [], h => by cases h
  | g :: gs, z :: s, h => by rw [stOf, stOf, st_st (by simpa using h)]; congr 1; omega
theorem st_box {gs a : List Int} (h : a ∈ boxL 0 gs) : stOf gs a ∈ boxL 1 gs := by
  obtain ⟨h1, h2⟩ := mem_box.mp h
  refine mem_box.mpr ⟨stOf_len gs a h1, fun i g z e1 e2 => ?_⟩
  obtain ⟨b, hb⟩ := get_of_len (l := a) (i := i) (by rw [h1]; exact lt_of_get e1)
  rw [stOf_get gs a i g b e1 hb] at e2
  cases e2
  have := h2 i g b e1 hb
  omega
theorem st_box' {gs s : List Int} (h : s ∈ boxL 1 gs) : stOf gs s ∈ boxL 0 gs := by
  obtain ⟨h1, h2⟩ := mem_box.mp h
  refine mem_box.mpr ⟨stOf_len gs s h1, fun i g z e1 e2 => ?_⟩
  obtain ⟨b, hb⟩ := get_of_len (l := s) (i := i) (by rw [h1]; exact lt_of_get e1)
  rw [stOf_get gs s i g b e1 hb] at e2
  cases e2
  have := h2 i g b e1 hb
  omega
/-- where right days lead -/
noncomputable def scS (h : Nat) (gs : List Int) (s : St) : List St := (dueL' h gs s).map (laterL gs s)
/-- by ages -/
noncomputable def dueA (h : Nat) (gs : List Int) (a : St) : List (List Int) := (daysL h gs.length).filter fun l => !lateL (agesL l a) gs
noncomputable def scA (h : Nat) (gs : List Int) (a : St) : List St := (dueA h gs a).map fun l => agesL l a
theorem dueA_eq {h : Nat} {gs a : List Int} (ok : AgOk gs a) : dueA h gs a = dueL' h gs (stOf gs a) := by
  unfold dueA dueL'
  refine List.filter_congr fun l _ => ?_
  rw [go_due ok, Bool.not_not]
theorem scA_eq {h : Nat} {gs a : List Int} (ok : AgOk gs a) : scS h gs (stOf gs a) = (scA h gs a).map (stOf gs) := by
  unfold scS scA
  rw [dueA_eq ok, List.map_map]
  exact List.map_congr_left fun l _ => go_later ok
theorem scA_box {h : Nat} {gs a : List Int} (ha : a ∈ boxL 0 gs) : ∀ b ∈ scA h gs a, b ∈ boxL 0 gs := fun b hb => by
  unfold scA dueA at hb
  obtain ⟨l, hl, rfl⟩ := List.mem_map.mp hb
  have := (List.mem_filter.mp hl).2
  exact ag_box.mpr (go_ok (ag_box.mp ha) (by simpa using this))
theorem scS_box {h : Nat} {gs s : List Int} (hs : s ∈ boxL 1 gs) : ∀ t ∈ scS h gs s, t ∈ boxL 1 gs := fun t ht => by
  have ha := st_box' hs
  have e := st_st (mem_box.mp hs).1
  rw [← e, scA_eq (ag_box.mp ha)] at ht
  obtain ⟨b, hb, rfl⟩ := List.mem_map.mp ht
  exact st_box (scA_box ha b hb)
theorem first_box {gs : List Int} (h : ∀ z ∈ gs, 1 ≤ z) : gs ∈ boxL 1 gs := mem_box.mpr ⟨rfl, fun i g z e1 e2 => by rw [e1] at e2; cases e2; have := h g (List.mem_of_getElem? e1); omega⟩
/-- how many days there are -/
theorem days_93 : (List.range 4).all (fun h => (List.range 9).all fun m => decide ((daysL h m).length ≤ 93)) = true := by decide +kernel
theorem days_le {h : Int} {m : Nat} (h3 : h ≤ 3) (m8 : m ≤ 8) : (daysL h.toNat m).length ≤ 93 := by
  have z := days_93
  rw [List.all_eq_true] at z
  have z1 := z h.toNat (List.mem_range.mpr (by omega))
  rw [List.all_eq_true] at z1
  exact of_decide_eq_true (z1 m (List.mem_range.mpr (by omega)))
theorem sc_le {h : Int} {gs s : List Int} (h3 : h ≤ 3) (m8 : gs.length ≤ 8) : (scS h.toNat gs s).length ≤ 93 := by
  unfold scS dueL'
  rw [List.length_map]
  exact Nat.le_trans (List.length_filter_le _ _) (days_le h3 m8)
/-! at most -/
/-! what lasts, reckoned -/
end PL
local macro_rules | `(tactic| wp_walk using $[$ts],*) => `(tactic| simp -implicitDefEqProofs only [$[$ts:term],*, OE.w_g0, OE.w_gs, OE.w_s0, OE.w_ss, OE.w_some, OE.w_ex, OE.w_lc, OE.w_ln, OE.w_at, OE.w_ta, OE.w_nt, OE.w_nf, OE.w_it, OE.w_if, OE.w_itP, OE.w_ifP, OE.w_ft, OE.w_mc, OE.w_mn, OE.w_rs, OE.w_r0, OE.w_ca, OE.w_na, OE.w_za, OE.w_sb, OE.w_sz, OE.s_then, OE.k_seqN, OE.k_seqR, OE.k_seqB, OE.k_seqC, OE.s_next, OE.s_ret, OE.k_ret, OE.s_set, OE.k_set, OE.s_ite, OE.k_ite, OE.o_rt, OE.o_nx, OE.s_run, OE.s_var, OE.s_const, OE.s_nil, OE.s_cons, OE.k_cons, OE.k_cons2, OE.s_tup, OE.s_lst, OE.k_tup, OE.k_lst, OE.s_bin, OE.k_bin, OE.k_bin2, OE.s_bind, OE.k_ap, OE.s_call, OE.k_apL, OE.s_fn, OE.k_fn, OE.s_test, OE.k_test, OE.s_and, OE.k_and, OE.s_or, OE.k_or, OE.s_not, OE.k_not, OE.s_andV, OE.k_andV, OE.s_orV, OE.k_orV, OE.s_notV, OE.k_notV, OE.s_if, OE.k_if, OE.s_isN, OE.k_isN, OE.s_noN, OE.k_noN, OE.s_chain, OE.k_ch1, OE.k_ch2, OE.k_ch3, OE.s_isi, OE.k_isi, OE.s_part, OE.k_part, OE.s_slice, OE.k_sl1, OE.k_sl2, OE.k_sl3, OE.s_retO, OE.s_slL, OE.s_slT, OE.s_slS, OE.s_seq, OE.k_itmL, OE.k_itmT, OE.k_itmS, OE.s_its, OE.k_its, OE.s_rng1, OE.s_rng2, OE.s_enT, OE.s_enL, OE.s_zipL, OE.s_zipT, OE.s_for, OE.k_for, OE.for_nil, OE.k_go, OE.k_tN, OE.k_tC, OE.k_tB, OE.k_tR, OE.g_name, OE.g_tup, OE.g_cons, OE.k_gs, OE.g_nil, OE.s_asg, OE.k_asg, OE.k_nx, OE.s_par, OE.k_par, OE.s_lc, OE.k_lc, OE.k_lc1, OE.k_lc2, OE.k_some, OE.s_fail, OE.k_fail, OE.s_fail0, OE.s_try, OE.k_unN, OE.k_unR, OE.s_fld, OE.k_fld, OE.f_addI, OE.f_addT, OE.f_addL, OE.f_addS, OE.f_ii, OE.f_i0, OE.f_mulI, OE.f_mulT, OE.f_mulL, OE.f_neg, OE.f_ixL, OE.f_ixT, OE.f_ixS, OE.f_lenL, OE.f_lenT, OE.f_lenS, OE.f_int, OE.f_min, OE.f_max, OE.f_tupL, OE.f_lstT, OE.f_lstL, OE.f_repr, OE.f_cmpS, OE.f_cmpI, OE.f_cmpT, OE.f_cmpL, OE.s_dict, OE.k_dic, OE.f_getM, OE.s_putM, OE.k_put1, OE.k_put2, OE.s_dm, OE.mGet_left, OE.mGet_seed, OE.mGet_cells, OE.mGet_spot, OE.mPut_left, OE.mPut_spot, OE.k_wh, OE.s_star, OE.k_starT, OE.k_starL, OE.k_star2, OE.s_drop, OE.k_drop, OE.s_par3, OE.k_par3, OE.f_lrg1, OE.f_trg1, OE.f_lrg2, OE.f_trg2, OE.f_ixM, OE.f_lenM, OE.f_inT, OE.f_inL, OE.f_inS, OE.s_tryN, OE.c_nil, OE.f_all, OE.f_any, OE.f_sum, OE.s_frz, OE.k_frzS, OE.k_fz, OE.f_frzLs, OE.f_frzT, OE.f_frzI, OE.f_frzN, OE.s_mlst, OE.k_ml, OE.s_meth, OE.k_me, OE.f_app, OE.f_extd, OE.f_sorted, OE.s_lc2, OE.k_lcc, OE.f_isB, OE.s_isi2, OE.k_isi2, OE.s_aug, OE.k_aug, OE.w_int, OE.f_revL, OE.f_revT, OE.s_isx, OE.k_isx, OE.s_seqG, OE.k_itmGL, OE.k_itmGT, OE.k_itmGM, OE.s_forG, OE.k_forG, OE.s_lcG, OE.k_lcG, OE.f_maddL, OE.s_mlc, OE.k_mlc, OE.k_newQ, OE.s_mtx, OE.k_mtx, OE.k_mt2, OE.f_split, OE.f_str, OE.f_mulS, OE.f_lenT1, OE.f_ixT1, OE.k_itmStr, OE.s_dput, OE.k_dp1, OE.k_dp2, OE.s_daug, OE.k_da1, OE.s_mfset, OE.k_mf1, OE.s_mth, OE.k_mth2, OE.s_mth0, OE.s_mk, OE.k_mk, OE.k_mk2, OE.s_keys, OE.s_items, OE.k_keysM, OE.k_itemsM, OE.s_dcG, OE.k_dcG, OE.s_mlcG, OE.k_mlcG, OE.s_mdit, OE.s_gc, OE.k_dc1, OE.k_dc2, OE.k_dc3, OE.f_inDL, OE.startE, Nat.reduceAdd, Nat.reduceLeDiff, Nat.reduceSub])
namespace PL
open OE PySem
variable [TN] {Γ : Gam} {n : S} {q : D → S → Prop} {x : Exn → S → Prop}
/-! ### all standings -/
theorem bnd {r : Nat} {g P : Int} (hr : 1 ≤ r) (hg : 1 ≤ g) (hP : 1 ≤ P) (h : ((r : Nat) : Int) * (g * P) ≤ 1000) : r * g.toNat ≤ 1000 ∧ g ≤ 1000 ∧ r ≤ 1000 ∧ ((r * g.toNat : Nat) : Int) * P ≤ 1000 ∧ 1 ≤ r * g.toNat := by
  have e : ((r * g.toNat : Nat) : Int) = (r : Int) * g := by rw [Int.natCast_mul, Int.toNat_of_nonneg (by omega)]
  rw [← Int.mul_assoc] at h
  have h1 : (1 : Int) * 1 ≤ (r : Int) * g := Int.mul_le_mul (by omega) hg (by omega) (by omega)
  have h2 : (r : Int) * g * 1 ≤ (r : Int) * g * P := Int.mul_le_mul_of_nonneg_left hP (by omega)
  have h3 : 1 * g ≤ (r : Int) * g := Int.mul_le_mul_of_nonneg_right (by omega) (by omega)
  have h4 : (r : Int) * 1 ≤ (r : Int) * g := Int.mul_le_mul_of_nonneg_left hg (by omega)
  rw [e]
  refine ⟨by omega, by omega, by omega, h, by omega⟩
noncomputable def growL (g lo : Int) (R : List St) : List St := R.flatMap fun r => (rangeI lo (lo + g)).map fun k => r ++ [k]
theorem grow_len {g lo : Int} {R : List St} : (growL g lo R).length = R.length * g.toNat := by
  unfold growL
  rw [flat_len (m := g.toNat) fun a _ => by rw [List.length_map, rangeI_len]; congr 1; omega]
theorem grow_box {g lo : Int} {gs : List Int} {R : List St} : ((growL g lo R).flatMap fun r => (boxL lo gs).map (r ++ ·)) = R.flatMap fun r => (boxL lo (g :: gs)).map (r ++ ·) := by
  unfold growL
  rw [List.flatMap_assoc]
  refine congrArg (fun f => R.flatMap f) (funext fun r => ?_)
  rw [List.flatMap_map, boxL, List.map_flatMap]
  refine congrArg (fun f => List.flatMap f _) (funext fun k => ?_)
  rw [List.map_map]
  refine List.map_congr_left fun s _ => ?_
  simp
theorem grow_each {g lo : Int} {R : List St} {m : Nat} (h : ∀ r ∈ R, r.length = m) : ∀ r ∈ growL g lo R, r.length = m + 1 := fun r hr => by
  unfold growL at hr
  obtain ⟨r', h1, h2⟩ := List.mem_flatMap.mp hr
  obtain ⟨k, _, rfl⟩ := List.mem_map.mp h2
  rw [List.length_append, h r' h1]; rfl
theorem box_one {lo : Int} {gs : List Int} : (([[]] : List St).flatMap fun r => (boxL lo gs).map (r ++ ·)) = boxL lo gs := by simp
theorem box_end {lo : Int} {R : List St} : (R.flatMap fun r => (boxL lo []).map (r ++ ·)) = R := by
  rw [boxL]
  induction R with
  | nil => rfl
  | cons r R ih => rw [List.flatMap_cons, ih]; simp
theorem grow_D {g lo : Int} {R : List St} : ((R.map dayD).flatMap fun d => match d with | .tup l => (rangeI lo (lo + g)).map fun k => D.tup (l ++ [.int k]) | _ => []) = (growL g lo R).map dayD := by
  unfold growL
  rw [List.flatMap_map, List.map_flatMap]
  refine congrArg (fun f => R.flatMap f) (funext fun r => ?_)
  rw [List.map_map]
  refine List.map_congr_left fun k _ => ?_
  simp [dayD]
theorem sp_all_standings {h : Int} {gs : List Int} (ok : PlanOk h gs) (hc : prodI gs ≤ 1000) (hq : q (.lst ((boxL 1 gs).map dayD)) n) : F_all_standings Γ [planD h gs] n q x := by
  have l8 := ok.l8
  wp_walk using F_all_standings, t_all_standings, t_all_standings_2, planD, at1
  refine for_inv (I := fun ds ρ s => s = n ∧ ∃ (gs' : List Int) (R : List St) (m : Nat), ds = gs'.map D.int ∧ (∀ z ∈ gs', 1 ≤ z) ∧ ((R.length : Nat) : Int) * prodI gs' ≤ 1000 ∧ 1 ≤ R.length ∧ (∀ r ∈ R, r.length = m) ∧ m + gs'.length ≤ 8 ∧ (R.flatMap fun r => (boxL 1 gs').map (r ++ ·)) = boxL 1 gs ∧ ∃ o2 : Option D, ρ = [some (planD h gs), some (.lst (R.map dayD)), o2, none, none]) ?_ ?_ _ _ _ ⟨rfl, gs, [[]], 0, rfl, fun z hz => (ok.g z hz).1, by simpa using hc, by decide, by simp, by omega, box_one, none, rfl⟩
  · rintro d ds ρ s k' ⟨rfl, gs', R, m, hd, hg, hP, hR, hm, hm8, hb, o2, rfl⟩ k1 k2
    cases gs' with
    | nil => cases hd
    | cons g gs' =>
      cases hd
      have g1 := hg g List.mem_cons_self
      have hg' : ∀ z ∈ gs', 1 ≤ z := fun z hz => hg z (List.mem_cons_of_mem _ hz)
      rw [prodI_cons] at hP
      obtain ⟨b1, b2, b3, b4, b5⟩ := bnd hR g1 (prodI_pos hg') hP
      rw [List.length_cons] at hm8
      wp_walk using t_all_standings_3
      refine lc2_map (M := g.toNat) (f := fun d => match d with | .tup l => (rangeI 1 (1 + g)).map fun k => .tup (l ++ [.int k]) | _ => []) (fun d hd n cc k hcc hk => ?_) (fun d hd => ?_) (by rw [List.length_map, Nat.add_mul]; omega) ?_
      · obtain ⟨l, hl, rfl⟩ := List.mem_map.mp hd
        have el := hm l hl
        wp_walk using wipeE, dayD
        refine ⟨⟨by omega, by omega, by omega, by omega⟩, by rw [range_len]; omega, ?_⟩
        rw [range_I]
        refine lc_map (f := fun d => .tup (l.map D.int ++ [d])) (fun d hd n k hk => ?_) ?_
        · rw [s_lc1]
          wp_walk
          exact ⟨by rw [List.length_append, List.length_map]; simp; omega, hk⟩
        · rw [List.map_map, Int.add_comm g 1]
          exact hk
      · obtain ⟨l, hl, rfl⟩ := List.mem_map.mp hd
        simp -implicitDefEqProofs only [dayD, List.length_map, rangeI_len]
        omega
      · wp_walk
        rw [grow_D]
        exact k1 _ _ ⟨rfl, gs', growL g 1 R, m + 1, rfl, hg', by rw [grow_len]; exact b4, by rw [grow_len]; exact b5, grow_each hm, by omega, by rw [grow_box]; exact hb, _, rfl⟩
  · rintro ρ s ⟨rfl, gs', R, m, hd, hg, hP, hR, hm, hm8, hb, o2, rfl⟩
    cases gs' with
    | cons g gs' => cases hd
    | nil =>
      rw [box_end] at hb
      subst hb
      wp_walk using t_all_standings_4
      exact hq
/-! ### a web -/
noncomputable def Sub (μ μ' : Mu) : Prop := ∀ a o, μ a = some o → μ' a = some o
theorem Sub.refl (μ : Mu) : Sub μ μ := fun _ _ h => h
theorem Sub.trans {a b c : Mu} (h : Sub a b) (g : Sub b c) : Sub a c := fun p o e => g p o (h p o e)
theorem Sub.put {μ μ' : Mu} {a : Addr} {o : MO} (h : Sub μ μ') (hn : μ a = none) : Sub μ (μ'.put a o) := fun b u e => by
  rw [Mu.put_ne (fun z => by rw [z, hn] at e; cases e)]; exact h b u e
theorem Sub.none {μ μ' : Mu} {a : Addr} (h : Sub μ μ') (hn : μ' a = Option.none) : μ a = Option.none := by
  cases e : μ a with
  | none => rfl
  | some o => rw [h a o e] at hn; cases hn
noncomputable def linksL (h : Nat) (gs : List Int) (s : St) : List D := (dueL' h gs s).map fun l => .tup [dayD l, dayD (laterL gs s l)]
noncomputable def webT (h : Nat) (gs : List Int) : TL := (boxL 1 gs).map fun s => (s, .lst (linksL h gs s))
noncomputable def webF0 (h : Int) (gs : List Int) (pl : Addr) : FL := [("own_plan", planD h gs), ("own_links", .mref pl)]
noncomputable def webF (h : Int) (gs : List Int) (pl pf : Addr) : FL := [("own_plan", planD h gs), ("own_links", .mref pl), ("own_falls", .mref pf)]
structure WebAt (Γ : Gam) (h : Int) (gs : List Int) (μ : Mu) (i : Addr) : Prop where
  ex : ∃ (C pl pf : Addr) (u : L2.HO) (fl : TL), Γ "Web" = some C ∧ μ i = some (.ins C (webF h gs pl pf)) ∧ μ pl = some (.lit u (webT h.toNat gs)) ∧ μ pf = some (.dit fl) ∧ FallsOk (scS h.toNat gs) (boxL 1 gs) fl
theorem WebAt.sub {h : Int} {gs : List Int} {μ μ' : Mu} {i : Addr} (w : WebAt Γ h gs μ i) (s : Sub μ μ') : WebAt Γ h gs μ' i := by
  obtain ⟨C, pl, pf, u, fl, h1, h2, h3, h4, h5⟩ := w.ex
  exact ⟨C, pl, pf, u, fl, h1, s _ _ h2, s _ _ h3, s _ _ h4, h5⟩
theorem lk_links0 {h : Int} {gs : List Int} {pl : Addr} : (webF0 h gs pl).lookup ("own_links" : Str) = some (.mref pl) := by rfl
theorem lk_falls {h : Int} {gs : List Int} {pl pf : Addr} : (webF h gs pl pf).lookup ("own_falls" : Str) = some (.mref pf) := by rfl
theorem lk_no1 {h : Int} {gs : List Int} {pl pf : Addr} : (webF h gs pl pf).lookup ("does_hold" : Str) = none := by rfl
theorem lk_no4 {h : Int} {gs : List Int} {pl : Addr} : (webF0 h gs pl).lookup ("fallen" : Str) = none := by rfl
theorem pf_1 {v : D} : putFd "own_plan" v [] = ([("own_plan", v)] : FL) := by rfl
theorem pf_2 {v w : D} : putFd "own_links" w [("own_plan", v)] = ([("own_plan", v), ("own_links", w)] : FL) := by rfl
theorem pf_3 {h : Int} {gs : List Int} {pl pf : Addr} : putFd "own_falls" (.mref pf) (webF0 h gs pl) = webF h gs pl pf := by rfl
theorem web_look {h : Nat} {gs : List Int} {s : St} (hs : s ∈ boxL 1 gs) : (webT h gs).lookup s = some (.lst (linksL h gs s)) := by
  unfold webT
  rw [look_map, if_pos hs]
theorem sp_does_hold {h : Int} {gs : List Int} {s : St} {i : Addr} {k : Nat} {μ : Mu} (w : WebAt Γ h gs μ i) (hs : s ∈ boxL 1 gs) (hq : q (.bl (lastB (scS h.toNat gs) s)) ⟨k, μ⟩) : F_Web_does_hold Γ [.mref i, dayD s] ⟨k, μ⟩ q x := by
  obtain ⟨C, pl, pf, u, fl, h1, h2, h3, h4, h5⟩ := w.ex
  wp_walk using F_Web_does_hold, t_Web_does_hold
  refine mfld_go h1 h2 lk_falls ?_
  wp_walk
  refine din_go (.inl h4) ?_
  rw [Bool.true_xor, h5.last (fun _ z => scS_box z) hs]
  wp_walk
  exact hq
/-- a comprehension whose turns change nothing, where it stands -/
theorem lc_here {c : Ev → Wp Bool} {ta : Ev → Wp D} {ρ : Ev} {g : D → Ev → Wp Ev} {f : D → Option D} : ∀ {ds : List D} {ql : List D → S → Prop}, (∀ d ∈ ds, ∀ (k : Option D → S → Prop), k (f d) n → lc1 g c ta ρ d n k) → ql (ds.filterMap f) n → lcW g c ta ρ ds n ql (fun _ _ => False)
  | [], _, _, h => h
  | d :: ds, ql, hp, h => by
    refine lc_cons (hp d List.mem_cons_self _ (lc_here (fun e he => hp e (List.mem_cons_of_mem _ he)) ?_))
    rw [List.filterMap_cons] at h
    cases e : f d with
    | none => rw [e] at h; simpa using h
    | some y => rw [e] at h; simpa using h
end PL
namespace PL
open OE PySem
variable [TN] {Γ : Gam} {n : S} {q : D → S → Prop} {x : Exn → S → Prop}
/-! ### what falls, read -/
structure FS (μ0 μ : Mu) (pa pt : Addr) (f : St → Addr) (V : List St) (A : St → List St) (lf : TL) : Prop where
  sub : Sub μ0 μ
  ah : μ pa = some (.dit (V.map fun s => (s, .mref (f s))))
  lt : μ pt = some (.dit lf)
  ls : ∀ s ∈ V, μ (f s) = some (.lst ((A s).map dayD))
  n1 : μ0 pa = none
  n2 : μ0 pt = none
  n3 : ∀ s ∈ V, μ0 (f s) = none
  ne : pa ≠ pt
  inj : ∀ s ∈ V, ∀ t ∈ V, f s = f t → s = t
section
variable {μ0 μ : Mu} {pa pt pd pw : Addr} {f : St → Addr} {V : List St} {A : St → List St} {lf fd : TL} {W : List St}
theorem ne_of_mo {μ : Mu} {a b : Addr} {o u : MO} (h : μ a = some o) (g : μ b = some u) (hn : o ≠ u) : a ≠ b := fun e => by
  rw [e, g] at h; exact hn (Option.some.inj h.symm)
theorem FS.ftp (w : FS μ0 μ pa pt f V A lf) {s : St} (hs : s ∈ V) : f s ≠ pt := ne_of_mo (w.ls s hs) w.lt (fun z => by cases z)
theorem FS.fta (w : FS μ0 μ pa pt f V A lf) {s : St} (hs : s ∈ V) : f s ≠ pa := ne_of_mo (w.ls s hs) w.ah (fun z => by cases z)
theorem FS.putL (w : FS μ0 μ pa pt f V A lf) {lf' : TL} : FS μ0 (μ.put pt (.dit lf')) pa pt f V A lf' :=
  ⟨w.sub.put w.n2, by rw [Mu.put_ne w.ne]; exact w.ah, Mu.put_same, fun s hs => by rw [Mu.put_ne (w.ftp hs)]; exact w.ls s hs, w.n1, w.n2, w.n3, w.ne, w.inj⟩
theorem FS.other (w : FS μ0 μ pa pt f V A lf) {b : Addr} {o : MO} (h0 : μ0 b = none) (h1 : pa ≠ b) (h2 : pt ≠ b) (h3 : ∀ s ∈ V, f s ≠ b) : FS μ0 (μ.put b o) pa pt f V A lf :=
  ⟨w.sub.put h0, by rw [Mu.put_ne h1]; exact w.ah, by rw [Mu.put_ne h2]; exact w.lt, fun s hs => by rw [Mu.put_ne (h3 s hs)]; exact w.ls s hs, w.n1, w.n2, w.n3, w.ne, w.inj⟩
theorem FS.app (w : FS μ0 μ pa pt f V A lf) {t : St} (ht : t ∈ V) {l : List St} : FS μ0 (μ.put (f t) (.lst (l.map dayD))) pa pt f V (fun s => if s = t then l else A s) lf := by
  refine ⟨w.sub.put (w.n3 t ht), by rw [Mu.put_ne (w.fta ht).symm]; exact w.ah, by rw [Mu.put_ne (w.ftp ht).symm]; exact w.lt, fun s hs => ?_, w.n1, w.n2, w.n3, w.ne, w.inj⟩
  by_cases c : s = t
  · subst c; rw [Mu.put_same, if_pos rfl]
  · rw [Mu.put_ne fun z => c (w.inj s hs t ht z), if_neg c]; exact w.ls s hs
structure WS (μ0 μ : Mu) (pa pt pd pw : Addr) (f : St → Addr) (V : List St) (A : St → List St) (lf fd : TL) (W : List St) : Prop where
  fs : FS μ0 μ pa pt f V A lf
  fd : μ pd = some (.dit fd)
  wt : μ pw = some (.lst (W.map dayD))
  n4 : μ0 pd = none
  n5 : μ0 pw = none
  ne2 : pd ≠ pt
  ne3 : pd ≠ pa
  ne4 : ∀ s ∈ V, f s ≠ pw
theorem WS.dw (w : WS μ0 μ pa pt pd pw f V A lf fd W) : pd ≠ pw := ne_of_mo w.fd w.wt (fun z => by cases z)
theorem WS.tw (w : WS μ0 μ pa pt pd pw f V A lf fd W) : pt ≠ pw := ne_of_mo w.fs.lt w.wt (fun z => by cases z)
theorem WS.aw (w : WS μ0 μ pa pt pd pw f V A lf fd W) : pa ≠ pw := ne_of_mo w.fs.ah w.wt (fun z => by cases z)
theorem WS.fdn (w : WS μ0 μ pa pt pd pw f V A lf fd W) {s : St} (hs : s ∈ V) : f s ≠ pd := ne_of_mo (w.fs.ls s hs) w.fd (fun z => by cases z)
theorem WS.putL (w : WS μ0 μ pa pt pd pw f V A lf fd W) {lf' : TL} : WS μ0 (μ.put pt (.dit lf')) pa pt pd pw f V A lf' fd W :=
  ⟨w.fs.putL, by rw [Mu.put_ne w.ne2]; exact w.fd, by rw [Mu.put_ne w.tw.symm]; exact w.wt, w.n4, w.n5, w.ne2, w.ne3, w.ne4⟩
theorem WS.putF (w : WS μ0 μ pa pt pd pw f V A lf fd W) {fd' : TL} : WS μ0 (μ.put pd (.dit fd')) pa pt pd pw f V A lf fd' W :=
  ⟨w.fs.other w.n4 w.ne3.symm w.ne2.symm fun s hs => w.fdn hs, Mu.put_same, by rw [Mu.put_ne w.dw.symm]; exact w.wt, w.n4, w.n5, w.ne2, w.ne3, w.ne4⟩
theorem WS.putW (w : WS μ0 μ pa pt pd pw f V A lf fd W) {W' : List St} : WS μ0 (μ.put pw (.lst (W'.map dayD))) pa pt pd pw f V A lf fd W' :=
  ⟨w.fs.other w.n5 w.aw w.tw w.ne4, by rw [Mu.put_ne w.dw]; exact w.fd, Mu.put_same, w.n4, w.n5, w.ne2, w.ne3, w.ne4⟩
end
theorem look_V {V : List St} {f : St → D} {s : St} (hs : s ∈ V) : (V.map fun s => (s, f s)).lookup s = some (f s) := by rw [look_map, if_pos hs]
theorem nodup_split {V done rest : List St} {s : St} (hV : V.Nodup) (e : V = done ++ s :: rest) : s ∉ done := fun z => by
  rw [e, List.nodup_append] at hV
  exact hV.2.2 s z s List.mem_cons_self rfl
theorem peel0 {sc : St → List St} {V : List St} (hV : V.Nodup) : Peel sc V (V.map fun s => (s, .int (((sc s).length : Nat) : Int))) [] (V.filter fun s => (sc s).isEmpty) 0 := by
  have e : ∀ s, outC sc [] s = (sc s).length := fun s => by
    unfold outC
    have z : (sc s).filter (nfd []) = sc s := List.filter_eq_self.mpr fun t _ => rfl
    rw [z]
  refine ⟨fun s hs => by rw [look_V hs, e], List.Pairwise.sublist List.filter_sublist hV, fun s hs => (List.mem_filter.mp hs).1, fun s hs => ?_, rfl, fun s v h => by cases h⟩
  rw [List.mem_filter, e, List.length_eq_zero_iff, List.isEmpty_iff]
  exact ⟨fun h => h.2, fun h => ⟨hs, h⟩⟩
section
variable {h : Int} {gs : List Int} {i pl C : Addr} {u : L2.HO} {k : Nat} {μ0 : Mu}
/-- the second part: peeling -/
theorem sp_fallen7 {μ : Mu} {pa pt pd pw : Addr} {f : St → Addr} {A : St → List St} {o3 o4 o5 o6 o10 o11 : Option D} (ok : PlanOk h gs) (hc : prodI gs ≤ 1000) (hC : Γ "Web" = some C) (hi : μ0 i = some (.ins C (webF0 h gs pl))) (hpl : μ0 pl = some (.lit u (webT h.toNat gs)))
    (w : WS μ0 μ pa pt pd pw f (boxL 1 gs) A ((boxL 1 gs).map fun s => (s, .int (((scS h.toNat gs s).length : Nat) : Int))) [] ((boxL 1 gs).filter fun s => (scS h.toNat gs s).isEmpty))
    (hA : ∀ t ∈ boxL 1 gs, ∀ s ∈ boxL 1 gs, (A t).count s = (scS h.toNat gs s).count t) (hAV : ∀ t ∈ boxL 1 gs, ∀ s ∈ A t, s ∈ boxL 1 gs)
    (hq : ∀ (pf : Addr) (μ' : Mu) (fl : TL), Sub μ0 μ' → μ0 pf = none → μ' pf = some (.dit fl) → FallsOk (scS h.toNat gs) (boxL 1 gs) fl → q (.mref pf) ⟨k, μ'⟩) :
    t_Web_fallen_7 Γ [some (.mref i), some (.mref pa), some (.mref pt), o3, o4, o5, o6, some (.mref pd), some (.mref pw), some (.int 0), o10, o11] ⟨k, μ⟩ (outQ q) x := by
  have hg : ∀ z ∈ gs, 1 ≤ z := fun z hz => (ok.g z hz).1
  have hl := box_len (lo := 1) hg
  have hVn : (boxL 1 gs).Nodup := box_nodup gs
  obtain ⟨V, hV⟩ : ∃ V, V = boxL 1 gs := ⟨_, rfl⟩
  obtain ⟨sc, hsc⟩ : ∃ sc, sc = scS h.toNat gs := ⟨_, rfl⟩
  have hV93 : ∀ s, (sc s).length ≤ 93 := fun s => by rw [hsc]; exact sc_le ok.h3 ok.l8
  have hV1 : V.length ≤ 1000 := by rw [hV]; omega
  wp_walk using t_Web_fallen_7
  refine wh_inv (I := fun m ρ s => ∃ (μ' : Mu) (lf fd : TL) (W : List St) (a : Nat), s = ⟨k, μ'⟩ ∧ WS μ0 μ' pa pt pd pw f V A lf fd W ∧ Peel sc V lf fd W a ∧ a ≤ W.length ∧ m + a = V.length ∧ lf.length ≤ 1000 ∧ fd.length ≤ 1000 ∧
      ∃ o3 o4 o5 o6 o10 o11 : Option D, ρ = [some (.mref i), some (.mref pa), some (.mref pt), o3, o4, o5, o6, some (.mref pd), some (.mref pw), some (.int (a : Nat)), o10, o11]) ?_ V.length _ _ ⟨μ, _, [], _, 0, rfl, by rw [hV]; exact w, by rw [hV, hsc]; exact peel0 hVn, Nat.zero_le _, rfl, by rw [List.length_map]; omega, by simp, o3, o4, o5, o6, o10, o11, rfl⟩
  rintro m ρ s kk ⟨μ', lf, fd, W, a, rfl, w, p, ha, hm, hlf, hfd, o3, o4, o5, o6, o10, o11, rfl⟩ k1 k2
  have hWV : W.length ≤ V.length := p.le (by rw [hV]; exact hVn)
  wp_walk
  refine ⟨_, w.wt, ?_⟩
  wp_walk using List.length_map
  by_cases ca : a < W.length
  · have ca' : ((a : Nat) : Int) < ((W.length : Nat) : Int) := by omega
    wp_walk using ca', decide_true, t_Web_fallen_8
    obtain ⟨here, eh⟩ := get_of_len ca
    refine ⟨_, dayD here, w.wt, at_nat (by rw [List.getElem?_map, eh]; rfl), ?_⟩
    wp_walk using t_Web_fallen_9, t_Web_fallen_10
    obtain ⟨h0, hhV, r, hr, hr1, hr2⟩ := p.here eh
    refine mfld_go hC (w.fs.sub _ _ hi) lk_links0 ?_
    wp_walk
    refine dget_go (.inr ⟨u, w.fs.sub _ _ hpl⟩) (web_look (by rw [← hV]; exact hhV)) ?_
    wp_walk
    have hlk : (linksL h.toNat gs here).length ≤ 93 := by
      have := hV93 here
      rw [hsc] at this
      unfold scS at this
      unfold linksL
      rw [List.length_map] at this ⊢
      exact this
    refine ⟨by omega, lc_here (f := fun d => match d with | .tup [_, .tup l] => some (.int (((rkN fd ((intsOf l).getD []) : Nat) : Int) + 1)) | _ => none) (fun d hd kk hk => ?_) ?_⟩
    · unfold linksL at hd
      obtain ⟨l, hl', rfl⟩ := List.mem_map.mp hd
      rw [s_lc1]
      wp_walk using wipeE
      have ht : laterL gs here l ∈ sc here := by rw [hsc]; unfold scS; exact List.mem_map_of_mem hl'
      obtain ⟨g1, g2⟩ := p.rk (h0 _ ht)
      refine dget_go (.inl w.fd) g1 ?_
      wp_walk
      have e : (intsOf ((laterL gs here l).map D.int)).getD [] = laterL gs here l := ints_day _
      simp -implicitDefEqProofs only [dayD, e] at hk
      exact hk
    · have e : (linksL h.toNat gs here).filterMap (fun d => match d with | .tup [_, .tup l] => some (D.int (((rkN fd ((intsOf l).getD []) : Nat) : Int) + 1)) | _ => none) = ((sc here).map fun t => ((rkN fd t : Nat) : Int) + 1).map D.int := by
        rw [hsc]
        unfold linksL scS
        rw [List.map_map, List.map_map]
        induction dueL' h.toNat gs here with
        | nil => rfl
        | cons l L ih =>
          rw [List.map_cons, List.filterMap_cons, List.map_cons, ← ih]
          simp -implicitDefEqProofs only [dayD, ints_day]
          rfl
      rw [e]
      have e2 : ((sc here).map fun t => ((rkN fd t : Nat) : Int) + 1).map D.int ++ [D.int 0] = (((sc here).map fun t => ((rkN fd t : Nat) : Int) + 1) ++ [0]).map D.int := by rw [List.map_append]; rfl
      wp_walk
      refine ⟨by rw [List.length_map, List.length_map]; have := hV93 here; omega, ?_⟩
      rw [e2]
      refine maxL_go hr1 hr2 ?_
      wp_walk
      have nf := p.fresh eh
      refine dput_go (j := here) w.fd (by omega) ?_
      wp_walk using t_Web_fallen_11
      have w2 := w.putF (fd' := putT fd here (.int r))
      refine dget_go (.inl w2.fs.ah) (look_V hhV) ?_
      wp_walk
      refine ⟨_, w2.fs.ls here hhV, ?_⟩
      wp_walk
      have b0 : Mid sc V lf (putT fd here (.int r)) W (A here) := p.begin_ eh fun s hs => by
        rw [hV] at hs hhV
        rw [hsc]
        exact hA here hhV s hs
      have hfd2 : (putT fd here (.int r)).length = a + 1 := by
        have := congrArg List.length p.keys
        rw [List.length_map, List.length_take] at this
        rw [put_new nf, List.length_append, List.length_singleton]
        omega
      refine forG_inv (I := fun ds ρ s => ∃ (suf W' : List St) (lf' : TL) (μ2 : Mu), ds = suf.map dayD ∧ (∀ t ∈ suf, t ∈ V) ∧ s = ⟨k, μ2⟩ ∧ WS μ0 μ2 pa pt pd pw f V A lf' (putT fd here (.int r)) (W ++ W') ∧ Mid sc V lf' (putT fd here (.int r)) (W ++ W') suf ∧ lf'.length ≤ 1000 ∧
          ∃ o11 : Option D, ρ = [some (.mref i), some (.mref pa), some (.mref pt), o3, o4, o5, o6, some (.mref pd), some (.mref pw), some (.int ((a : Nat) + 1)), some (dayD here), o11]) ?_ ?_ ?_ _ _ _ ⟨A here, [], lf, _, rfl, fun t ht => by rw [hV] at hhV ⊢; exact hAV here hhV t ht, rfl, by rw [List.append_nil]; exact w2, by rw [List.append_nil]; exact b0, hlf, o11, rfl⟩
      · rintro ds ρ s ⟨suf, W', lf', μ2, _, _, rfl, w3, _⟩
        exact w3.fs.ls here hhV
      · rintro d ds ρ s k3 ⟨suf, W', lf', μ2, hd, hsuf, rfl, w3, m3, hlf', o11, rfl⟩ k4 k5
        cases suf with
        | nil => cases hd
        | cons t suf =>
          cases hd
          have ht := hsuf t List.mem_cons_self
          wp_walk using t_Web_fallen_12
          refine daug_go (j := t) w3.fs.lt (m3.left t ht) (by omega) ?_
          have w4 := w3.putL (lf' := putT lf' t (.int (((outC sc (putT fd here (.int r)) t + (t :: suf).count t : Nat) : Int) - 1)))
          have hlen : (putT lf' t (.int (((outC sc (putT fd here (.int r)) t + (t :: suf).count t : Nat) : Int) - 1))).length ≤ 1000 := by
            rw [len_put_old (by rw [m3.left t ht]; rfl)]; exact hlf'
          have ec : (t :: suf).count t = suf.count t + 1 := by simp
          wp_walk using t_Web_fallen_13
          refine dget_go (j := t) (.inl w4.fs.lt) (by rw [look_put, if_pos rfl]) ?_
          wp_walk using Bool.false_xor
          by_cases c0 : outC sc (putT fd here (.int r)) t + suf.count t = 0
          · have c0' : ((outC sc (putT fd here (.int r)) t + (t :: suf).count t : Nat) : Int) - 1 = 0 := by omega
            wp_walk using c0', decide_true
            rw [c0'] at w4 hlen
            refine ⟨⟨_, w4.wt⟩, _, w4.wt, ?_, ?_⟩
            · have m4 := m3.step0 ht c0
              have := m4.wnd.length_le_of_subset (l₂ := V) fun _ z => m4.wV _ z
              rw [List.length_append] at this
              rw [List.length_map]
              have : V.length ≤ 1000 := by rw [hV]; omega
              omega
            · have m4 := m3.step0 ht c0
              rw [c0'] at m4
              have w5 := w4.putW (W' := W ++ W' ++ [t])
              rw [List.map_append] at w5
              refine k4 _ _ ⟨suf, W' ++ [t], _, _, rfl, fun z hz => hsuf z (List.mem_cons_of_mem _ hz), rfl, ?_, ?_, hlen, _, rfl⟩
              · rw [← List.append_assoc]; exact w5
              · rw [← List.append_assoc]; exact m4
          · have c0' : ¬ ((outC sc (putT fd here (.int r)) t + (t :: suf).count t : Nat) : Int) - 1 = 0 := by omega
            wp_walk using c0', decide_false
            exact k4 _ _ ⟨suf, W', _, _, rfl, fun z hz => hsuf z (List.mem_cons_of_mem _ hz), rfl, w4, m3.step ht c0, hlen, _, rfl⟩
      · rintro ρ s ⟨suf, W', lf', μ2, hd, hsuf, rfl, w3, m3, hlf', o11, rfl⟩
        cases suf with
        | cons t suf => cases hd
        | nil =>
          have p3 := Mid.end_ p eh hr m3
          have := p3.le (by rw [hV]; exact hVn)
          refine k1 (V.length - (a + 1)) _ _ (by omega) ⟨μ2, lf', _, W ++ W', a + 1, rfl, w3, p3, by rw [List.length_append]; omega, by omega, hlf', by omega, _, _, _, _, _, _, rfl⟩
  · have ca' : ¬ ((a : Nat) : Int) < ((W.length : Nat) : Int) := by omega
    wp_walk using ca', decide_false, t_Web_fallen_15
    have ea : a = W.length := by omega
    subst ea
    rw [hV, hsc] at p
    exact hq pd μ' fd w.fs.sub w.n4 w.fd p.final
/-- the first part: who leads where -/
theorem sp_fallen (ok : PlanOk h gs) (hc : prodI gs ≤ 1000) (hC : Γ "Web" = some C) (hi : μ0 i = some (.ins C (webF0 h gs pl))) (hpl : μ0 pl = some (.lit u (webT h.toNat gs)))
    (hq : ∀ (pf : Addr) (μ' : Mu) (fl : TL), Sub μ0 μ' → μ0 pf = none → μ' pf = some (.dit fl) → FallsOk (scS h.toNat gs) (boxL 1 gs) fl → q (.mref pf) ⟨k, μ'⟩) : F_Web_fallen Γ [.mref i] ⟨k, μ0⟩ q x := by
  have hg : ∀ z ∈ gs, 1 ≤ z := fun z hz => (ok.g z hz).1
  have hl := box_len (lo := 1) hg
  have hVn : (boxL 1 gs).Nodup := box_nodup gs
  obtain ⟨V, hV⟩ : ∃ V, V = boxL 1 gs := ⟨_, rfl⟩
  obtain ⟨sc, hsc⟩ : ∃ sc, sc = scS h.toNat gs := ⟨_, rfl⟩
  have hV93 : ∀ s, (sc s).length ≤ 93 := fun s => by rw [hsc]; exact sc_le ok.h3 ok.l8
  have hV1 : V.length ≤ 1000 := by rw [hV]; omega
  have hVd : V.Nodup := by rw [hV]; exact hVn
  wp_walk using F_Web_fallen, t_Web_fallen
  refine mfld_go hC hi lk_links0 ?_
  wp_walk
  have e : (webT h.toNat gs).map (fun p : St × D => D.tup (p.1.map D.int)) = V.map dayD := by rw [hV]; unfold webT; rw [List.map_map]; rfl
  refine ⟨u, _, hpl, ?_⟩
  rw [e]
  wp_walk
  refine ⟨by rw [List.length_map]; omega, ?_⟩
  refine dc_inv (I := fun acc ds s => ∃ (done rest : List St) (f : St → Addr) (μ : Mu), V = done ++ rest ∧ ds = rest.map dayD ∧ acc = done.map (fun s => (s, D.mref (f s))) ∧ s = ⟨k, μ⟩ ∧ Sub μ0 μ ∧ (∀ t ∈ done, μ (f t) = some (.lst []) ∧ μ0 (f t) = none) ∧ ∀ s ∈ done, ∀ t ∈ done, f s = f t → s = t) ?_ ?_ ?_ _ _ _ ⟨[], V, fun _ => 0, μ0, rfl, rfl, rfl, rfl, .refl _, fun _ z => (nomatch z), fun _ z => (nomatch z)⟩
  · rintro acc ds s ⟨done, rest, f, μ, _, _, _, rfl, hs, _⟩
    exact hs _ _ hpl
  · rintro acc d ds s kk ⟨done, rest, f, μ, hVs, hd, rfl, rfl, hs, hf, hinj⟩ k1
    cases rest with
    | nil => cases hd
    | cons t rest =>
      cases hd
      have hnd := nodup_split hVd hVs
      rw [s_dc1]
      wp_walk using wipeE
      intro b hb
      refine dc4_go (j := t) (k1 _ _ ⟨done ++ [t], rest, fun s => if s = t then b else f s, _, by rw [hVs]; simp, rfl, ?_, rfl, hs.put (hs.none hb), ?_, ?_⟩)
      · have e1 : (done.map fun s => (s, D.mref (f s))).lookup t = none := by rw [look_map, if_neg hnd]
        show putT _ t _ = _
        rw [put_new e1, List.map_append]
        congr 1
        · refine List.map_congr_left fun s hs => ?_
          dsimp only
          rw [if_neg fun z : s = t => hnd (z ▸ hs)]
        · simp
      · intro s hs'
        rcases List.mem_append.mp hs' with z | z
        · have hne : s ≠ t := fun e => hnd (e ▸ z)
          dsimp only
          rw [if_neg hne]
          obtain ⟨g1, g2⟩ := hf s z
          exact ⟨by rw [Mu.put_ne fun e => by rw [e, hb] at g1; cases g1]; exact g1, g2⟩
        · rw [List.mem_singleton] at z
          subst z
          dsimp only
          rw [if_pos rfl]
          exact ⟨Mu.put_same, hs.none hb⟩
      · intro s hs1 s2 hs2 ee
        dsimp only at ee
        have nb : ∀ z ∈ done, f z ≠ b := fun z hz e => by rw [← e, (hf z hz).1] at hb; cases hb
        rcases List.mem_append.mp hs1 with z1 | z1 <;> rcases List.mem_append.mp hs2 with z2 | z2
        · rw [if_neg fun e : s = t => hnd (e ▸ z1), if_neg fun e : s2 = t => hnd (e ▸ z2)] at ee
          exact hinj s z1 s2 z2 ee
        · rw [List.mem_singleton] at z2
          subst z2
          rw [if_neg fun e : s = s2 => hnd (e ▸ z1), if_pos rfl] at ee
          exact absurd ee (nb s z1)
        · rw [List.mem_singleton] at z1
          subst z1
          rw [if_pos rfl, if_neg fun e : s2 = s => hnd (e ▸ z2)] at ee
          exact absurd ee.symm (nb s2 z2)
        · rw [List.mem_singleton] at z1 z2
          rw [z1, z2]
  · rintro acc s ⟨done, rest, f, μ, hVs, hd, rfl, rfl, hs, hf, hinj⟩
    have er : rest = [] := by cases rest with | nil => rfl | cons _ _ => cases hd
    subst er
    rw [List.append_nil] at hVs
    subst hVs
    wp_walk
    intro pa hpa pt hpt
    have npa : μ0 pa = none := hs.none hpa
    have nat : pa ≠ pt := fun e => by rw [e, Mu.put_same] at hpt; cases hpt
    have npt : μ pt = none := by rw [Mu.put_ne nat.symm] at hpt; exact hpt
    have fs0 : FS μ0 ((μ.put pa (.dit (V.map fun s => (s, .mref (f s))))).put pt (.dit [])) pa pt f V (fun _ => []) [] := by
      refine ⟨(hs.put npa).put (hs.none npt), by rw [Mu.put_ne nat, Mu.put_same], Mu.put_same, fun s hs' => ?_, npa, hs.none npt, fun s hs' => (hf s hs').2, nat, hinj⟩
      obtain ⟨g1, g2⟩ := hf s hs'
      have x1 : f s ≠ pt := fun e => by rw [e, npt] at g1; cases g1
      have x2 : f s ≠ pa := fun e => by rw [e, hpa] at g1; cases g1
      rw [Mu.put_ne x1, Mu.put_ne x2]
      exact g1
    wp_walk using t_Web_fallen_2
    refine mfld_go hC (fs0.sub _ _ hi) lk_links0 ?_
    wp_walk
    refine ⟨u, _, fs0.sub _ _ hpl, ?_⟩
    have e2 : (webT h.toNat gs).map (fun p : St × D => D.tup [D.tup (p.1.map D.int), p.2]) = V.map fun s => D.tup [dayD s, .lst (linksL h.toNat gs s)] := by rw [hV]; unfold webT; rw [List.map_map]; rfl
    rw [e2]
    wp_walk
    refine forG_inv (I := fun ds ρ s => ∃ (done rest : List St) (A : St → List St) (μ : Mu), V = done ++ rest ∧ ds = rest.map (fun s => D.tup [dayD s, .lst (linksL h.toNat gs s)]) ∧ s = ⟨k, μ⟩ ∧ FS μ0 μ pa pt f V A (done.map fun s => (s, .int (((sc s).length : Nat) : Int))) ∧
        (∀ t ∈ V, ∀ s, (A t).count s = if s ∈ done then (sc s).count t else 0) ∧ (∀ t ∈ V, (A t).length ≤ 93 * done.length) ∧ (∀ t ∈ V, ∀ s ∈ A t, s ∈ V) ∧
        ∃ o3 o4 o5 o6 : Option D, ρ = [some (.mref i), some (.mref pa), some (.mref pt), o3, o4, o5, o6, none, none, none, none, none]) ?_ ?_ ?_ _ _ _ ⟨[], V, _, _, rfl, rfl, rfl, fs0, fun t _ s => by simp, fun t _ => by simp, fun t _ s hs => (nomatch hs), _, _, _, _, rfl⟩
    · rintro ds ρ s ⟨done, rest, A, μ, _, _, rfl, w, _⟩
      exact w.sub _ _ hpl
    · rintro d ds ρ s kk ⟨done, rest, A, μ, hVs, hd, rfl, w, hA, hAl, hAV, o3, o4, o5, o6, rfl⟩ k1 k2
      cases rest with
      | nil => cases hd
      | cons t rest =>
        cases hd
        have hnd := nodup_split hVd hVs
        have htV : t ∈ V := by rw [hVs]; simp
        have hdl : done.length < 1000 := by have := congrArg List.length hVs; rw [List.length_append, List.length_cons] at this; omega
        wp_walk using t_Web_fallen_3
        have e1 : (done.map fun s => (s, D.int (((sc s).length : Nat) : Int))).lookup t = none := by rw [look_map, if_neg hnd]
        refine dput_go (j := t) w.lt (by rw [List.length_map]; omega) ?_
        rw [put_new e1]
        have e3 : (done.map fun s => (s, D.int (((sc s).length : Nat) : Int))) ++ [(t, D.int (((linksL h.toNat gs t).length : Nat) : Int))] = (done ++ [t]).map fun s => (s, D.int (((sc s).length : Nat) : Int)) := by
          rw [List.map_append, hsc]
          unfold linksL scS
          simp
        rw [e3]
        have w2 := w.putL (lf' := (done ++ [t]).map fun s => (s, D.int (((sc s).length : Nat) : Int)))
        wp_walk using t_Web_fallen_4
        refine for_inv (I := fun ds ρ s => ∃ (dn rs : List (List Int)) (A' : St → List St) (μ : Mu), dueL' h.toNat gs t = dn ++ rs ∧ ds = rs.map (fun l => D.tup [dayD l, dayD (laterL gs t l)]) ∧ s = ⟨k, μ⟩ ∧ FS μ0 μ pa pt f V A' ((done ++ [t]).map fun s => (s, .int (((sc s).length : Nat) : Int))) ∧
            (∀ r ∈ V, ∀ s, (A' r).count s = (A r).count s + if s = t then (dn.map (laterL gs t)).count r else 0) ∧ (∀ r ∈ V, (A' r).length ≤ 93 * done.length + dn.length) ∧ (∀ r ∈ V, ∀ s ∈ A' r, s ∈ V) ∧
            ∃ o5 o6 : Option D, ρ = [some (.mref i), some (.mref pa), some (.mref pt), some (dayD t), some (.lst (linksL h.toNat gs t)), o5, o6, none, none, none, none, none]) ?_ ?_ _ _ _ ⟨[], _, A, _, rfl, rfl, rfl, w2, fun r _ s => by simp, fun r hr => by simpa using hAl r hr, hAV, _, _, rfl⟩
        · rintro d ds ρ s k3 ⟨dn, rs, A', μ, hdu, hd, rfl, w3, hA', hAl', hAV', o5, o6, rfl⟩ k4 k5
          cases rs with
          | nil => cases hd
          | cons l rs =>
            cases hd
            have hr : laterL gs t l ∈ V := by
              rw [hV] at htV ⊢
              refine scS_box (h := h.toNat) htV _ ?_
              unfold scS
              rw [hdu]
              exact List.mem_map_of_mem (by simp)
            have hdn : dn.length < 93 := by
              have h1 := hV93 t
              rw [hsc] at h1
              unfold scS at h1
              rw [List.length_map, hdu, List.length_append, List.length_cons] at h1
              omega
            wp_walk using t_Web_fallen_5
            refine dget_go (j := laterL gs t l) (.inl w3.ah) (look_V hr) ?_
            wp_walk
            have hln := hAl' _ hr
            refine ⟨⟨_, w3.ls _ hr⟩, _, w3.ls _ hr, by rw [List.length_map]; omega, ?_⟩
            have w4 := w3.app hr (l := A' (laterL gs t l) ++ [t])
            rw [List.map_append] at w4
            refine k4 _ _ ⟨dn ++ [l], rs, _, _, by rw [hdu]; simp, rfl, rfl, w4, fun r hr' s => ?_, fun r hr' => ?_, fun r hr' s hs' => ?_, _, _, rfl⟩
            · rw [List.map_append, List.count_append]
              by_cases c : r = laterL gs t l
              · subst c
                rw [if_pos rfl, List.count_append, hA' _ hr' s]
                by_cases c2 : s = t
                · subst c2; simp; omega
                · have : (t == s) = false := by simpa using fun z => c2 z.symm
                  simp [c2, List.count_cons, this]
              · rw [if_neg c, hA' r hr' s]
                have : (laterL gs t l == r) = false := by simpa using fun z => c z.symm
                simp [List.count_cons, this]
            · have := hAl' r hr'
              split
              · rename_i c; subst c; simp; omega
              · simp; omega
            · split at hs'
              · rcases List.mem_append.mp hs' with z | z
                · exact hAV' _ hr s z
                · rw [List.mem_singleton] at z; subst z; exact htV
              · exact hAV' r hr' s hs'
        · rintro ρ s ⟨dn, rs, A', μ, hdu, hd, rfl, w3, hA', hAl', hAV', o5, o6, rfl⟩
          have er : rs = [] := by cases rs with | nil => rfl | cons _ _ => cases hd
          subst er
          rw [List.append_nil] at hdu
          have hdn : dn.length ≤ 93 := by
            have h1 := hV93 t
            rw [hsc] at h1
            unfold scS at h1
            rw [List.length_map, hdu] at h1
            exact h1
          refine k1 _ _ ⟨done ++ [t], rest, A', μ, by rw [hVs]; simp, rfl, rfl, w3, fun r hr s => ?_, fun r hr => ?_, hAV', _, _, _, _, rfl⟩
          · rw [hA' r hr s, hA r hr s]
            have es : dn.map (laterL gs t) = sc t := by rw [hsc, ← hdu]; rfl
            rw [es]
            by_cases c : s = t
            · subst c; simp [hnd]
            · simp [c]
          · have := hAl' r hr
            rw [List.length_append, List.length_singleton]
            omega
    · rintro ρ s ⟨done, rest, A, μ, hVs, hd, rfl, w, hA, hAl, hAV, o3, o4, o5, o6, rfl⟩
      have er : rest = [] := by cases rest with | nil => rfl | cons _ _ => cases hd
      subst er
      rw [List.append_nil] at hVs
      subst hVs
      wp_walk using t_Web_fallen_6
      intro pd hpd
      have npd : μ0 pd = none := w.sub.none hpd
      have ndt : pd ≠ pt := fun e => by rw [e, w.lt] at hpd; cases hpd
      have nda : pd ≠ pa := fun e => by rw [e, w.ah] at hpd; cases hpd
      have w2 := w.other (b := pd) (o := .dit []) npd nda.symm ndt.symm fun s hs e => by rw [← e, w.ls s hs] at hpd; cases hpd
      refine lkE_go w2.lt fun v => ?_
      wp_walk
      refine ⟨v, _, Mu.put_same, ?_⟩
      have e4 : (V.map fun s => (s, D.int (((sc s).length : Nat) : Int))).map (fun p : St × D => D.tup (p.1.map D.int)) = V.map dayD := by rw [List.map_map]; rfl
      rw [e4]
      wp_walk
      refine ⟨by rw [List.length_map]; omega, lcG_pure (f := pickD fun s => (sc s).isEmpty) Mu.put_same (fun d hd kk hk => ?_) ?_⟩
      · obtain ⟨s, hs', rfl⟩ := List.mem_map.mp hd
        rw [pick_day] at hk
        rw [s_lc1]
        wp_walk using wipeE
        refine dget_go (j := s) (.inr ⟨v, Mu.put_same⟩) (look_V hs') ?_
        wp_walk using Bool.false_xor
        by_cases c : (sc s).isEmpty = true
        · rw [if_pos c] at hk
          have c' : (((sc s).length : Nat) : Int) = 0 := by rw [List.isEmpty_iff] at c; rw [c]; rfl
          wp_walk using c', decide_true
          exact hk
        · rw [if_neg c] at hk
          have c' : ¬ (((sc s).length : Nat) : Int) = 0 := fun z => c (by rw [List.isEmpty_iff]; exact List.eq_nil_of_length_eq_zero (by omega))
          wp_walk using c', decide_false
          exact hk
      · rw [filter_map_day]
        wp_walk
        intro pw hpw
        have nwt : pw ≠ pt := fun e => by rw [e, Mu.put_same] at hpw; cases hpw
        rw [Mu.put_ne nwt] at hpw
        have hpw' : (μ.put pd (.dit [])) pw = none := hpw
        refine lkE_end (by dsimp only; rw [Mu.put_ne nwt.symm]; exact Mu.put_same) ?_
        wp_walk
        have nwd : pw ≠ pd := fun e => by rw [e, Mu.put_same] at hpw'; cases hpw'
        have npw : μ0 pw = none := w2.sub.none hpw'
        have w3 : FS μ0 (((((μ.put pd (.dit [])).put pt (.lit v (V.map fun s => (s, D.int (((sc s).length : Nat) : Int))))).put pw (.lst ((V.filter fun s => (sc s).isEmpty).map dayD))).put pt (.dit (V.map fun s => (s, D.int (((sc s).length : Nat) : Int)))))) pa pt f V A (V.map fun s => (s, D.int (((sc s).length : Nat) : Int))) := by
          refine ⟨((w2.sub.put w2.n2).put npw).put w2.n2, ?_, Mu.put_same, fun s hs' => ?_, w2.n1, w2.n2, w2.n3, w2.ne, w2.inj⟩
          · have : pa ≠ pw := fun e => by rw [← e, w2.ah] at hpw'; cases hpw'
            rw [Mu.put_ne w2.ne, Mu.put_ne this, Mu.put_ne w2.ne]; exact w2.ah
          · have : f s ≠ pw := fun e => by rw [← e, w2.ls s hs'] at hpw'; cases hpw'
            rw [Mu.put_ne (w2.ftp hs'), Mu.put_ne this, Mu.put_ne (w2.ftp hs')]; exact w2.ls s hs'
        subst hsc
        subst hV
        refine sp_fallen7 ok hc hC hi hpl ⟨w3, ?_, ?_, npd, npw, ndt, nda, fun s hs' e => ?_⟩ (fun t ht s hs' => ?_) hAV hq
        · rw [Mu.put_ne ndt, Mu.put_ne nwd.symm, Mu.put_ne ndt, Mu.put_same]
        · rw [Mu.put_ne nwt, Mu.put_same]
        · rw [← e, w2.ls s hs'] at hpw'; cases hpw'
        · rw [hA t ht s, if_pos hs']
end
end PL
namespace PL
open OE PySem
variable [TN] {Γ : Gam} {n : S} {q : D → S → Prop} {x : Exn → S → Prop}
/-! ### a web made -/
section
variable {h : Int} {gs : List Int} {k : Nat} {μ : Mu}
theorem links_len (ok : PlanOk h gs) (s : St) : (linksL h.toNat gs s).length ≤ 93 := by
  have := sc_le (s := s) ok.h3 ok.l8
  unfold scS at this
  unfold linksL
  rw [List.length_map] at this ⊢
  exact this
theorem sp_web_init {i C : Addr} (ok : PlanOk h gs) (hc : prodI gs ≤ 1000) (hC : Γ "Web" = some C) (hi : μ i = none)
    (hq : ∀ μ' : Mu, Sub μ μ' → WebAt Γ h gs μ' i → q .non ⟨k, μ'⟩) : F_Web___init__ Γ [.mref i, planD h gs] ⟨k, μ.put i (.ins C [])⟩ q x := by
  have hg : ∀ z ∈ gs, 1 ≤ z := fun z hz => (ok.g z hz).1
  have hl := box_len (lo := 1) hg
  have hVn : (boxL 1 gs).Nodup := box_nodup gs
  wp_walk using F_Web___init__, t_Web___init__
  refine mfset_go hC Mu.put_same (by decide) ?_
  rw [pf_1, Mu.put_put]
  wp_walk using t_Web___init___2
  intro pl hpl
  have nli : pl ≠ i := fun e => by rw [e, Mu.put_same] at hpl; cases hpl
  have hpl0 : μ pl = none := by rw [Mu.put_ne nli] at hpl; exact hpl
  refine mfset_go hC (by dsimp only; rw [Mu.put_ne nli.symm]; exact Mu.put_same) (by simp) ?_
  rw [pf_2]
  wp_walk using t_Web___init___3
  refine sp_all_standings (Γ := Γ) ok hc ?_
  wp_walk
  refine for_inv (I := fun ds ρ s => ∃ (done rest : List St) (μ' : Mu), boxL 1 gs = done ++ rest ∧ ds = rest.map dayD ∧ s = ⟨k, μ'⟩ ∧ Sub μ μ' ∧ μ' i = some (.ins C (webF0 h gs pl)) ∧ μ' pl = some (.dit (done.map fun s => (s, .lst (linksL h.toNat gs s)))) ∧
      ∃ o2 o3 : Option D, ρ = [some (.mref i), some (planD h gs), o2, o3, none]) ?_ ?_ _ _ _ ⟨[], _, _, rfl, rfl, rfl, (((Sub.refl μ).put hi).put hpl0).put hi, Mu.put_same, by rw [Mu.put_ne nli]; exact Mu.put_same, _, _, rfl⟩
  · rintro d ds ρ s kk ⟨done, rest, μ', hVs, hd, rfl, hs, hmi, hml, o2, o3, rfl⟩ k1 k2
    cases rest with
    | nil => cases hd
    | cons t rest =>
      cases hd
      have hnd := nodup_split hVn hVs
      have ht : t ∈ boxL 1 gs := by rw [hVs]; simp
      have htl := (mem_box.mp ht).1
      have l8 := ok.l8
      have hdl : done.length < 1000 := by have := congrArg List.length hVs; rw [List.length_append, List.length_cons] at this; omega
      wp_walk using t_Web___init___4
      refine sp_due_days (Γ := Γ) ok (by omega) ?_
      wp_walk using t_Web___init___5
      refine ⟨?_, ?_⟩
      · have := links_len ok t
        unfold linksL at this
        rw [List.length_map] at this ⊢
        omega
      · refine lc_map (f := fun d => match d with | .tup l => .tup [.tup l, dayD (laterL gs t ((intsOf l).getD []))] | _ => .non) (fun d hd n k hk => ?_) ?_
        · obtain ⟨l, hl', rfl⟩ := List.mem_map.mp hd
          rw [s_lc1]
          wp_walk using wipeE
          refine sp_later_of (Γ := Γ) htl.symm (by omega) ?_
          wp_walk
          simp -implicitDefEqProofs only [dayD, ints_day] at hk
          exact hk
        · have e : ((dueL' h.toNat gs t).map dayD).map (fun d => match d with | .tup l => D.tup [.tup l, dayD (laterL gs t ((intsOf l).getD []))] | _ => .non) = linksL h.toNat gs t := by
            unfold linksL
            rw [List.map_map]
            refine List.map_congr_left fun l _ => ?_
            simp -implicitDefEqProofs only [Function.comp, dayD, ints_day]
          rw [e]
          wp_walk
          refine mfld_go hC hmi lk_links0 ?_
          wp_walk
          refine dput_go (j := t) hml (by rw [List.length_map]; omega) ?_
          have e1 : (done.map fun s => (s, D.lst (linksL h.toNat gs s))).lookup t = none := by rw [look_map, if_neg hnd]
          rw [put_new e1]
          refine k1 _ _ ⟨done ++ [t], rest, _, by rw [hVs]; simp, rfl, rfl, hs.put hpl0, ?_, ?_, _, _, rfl⟩
          · dsimp only; rw [Mu.put_ne nli.symm]; exact hmi
          · dsimp only; rw [Mu.put_same, List.map_append]; rfl
  · rintro ρ s ⟨done, rest, μ', hVs, hd, rfl, hs, hmi, hml, o2, o3, rfl⟩
    have er : rest = [] := by cases rest with | nil => rfl | cons _ _ => cases hd
    subst er
    rw [List.append_nil] at hVs
    subst hVs
    wp_walk using t_Web___init___6
    refine lkB_go hml fun u => ?_
    wp_walk
    have hmi' : (μ'.put pl (.lit u (webT h.toNat gs))) i = some (.ins C (webF0 h gs pl)) := by rw [Mu.put_ne nli.symm]; exact hmi
    refine mth0_go hC hmi' lk_no4 ?_
    refine sp_fallen (Γ := Γ) (pl := pl) (u := u) ok hc hC hmi' Mu.put_same fun pf μ2 fl h1 h2 h3 h4 => ?_
    wp_walk
    refine mfset_go hC (h1 _ _ hmi') (by simp [webF0]) ?_
    rw [pf_3]
    wp_walk
    have npi : pf ≠ i := fun e => by rw [e] at h2; exact absurd (h2.symm.trans hmi') (fun z => by cases z)
    refine hq _ (((hs.put hpl0).trans h1).put hi) ⟨C, pl, pf, u, fl, hC, Mu.put_same, ?_, ?_, h4⟩
    · rw [Mu.put_ne nli]; exact h1 _ _ Mu.put_same
    · rw [Mu.put_ne npi]; exact h3
theorem sp_web_of (ok : PlanOk h gs) (hq : prodI gs ≤ 1000 → ∀ (i : Addr) (μ' : Mu), Sub μ μ' → WebAt Γ h gs μ' i → q (.mref i) ⟨k, μ'⟩) (hx : 1000 < prodI gs → x ⟨"TooGreat", some (.int 1000)⟩ ⟨k, μ⟩) : F_web_of Γ [planD h gs] ⟨k, μ⟩ q x := by
  wp_walk using F_web_of, t_web_of
  refine sp_count_of (Γ := Γ) ok ?_
  wp_walk
  by_cases c : 1000 < prodI gs
  · wp_walk using c, decide_true
    exact hx c
  · wp_walk using c, decide_false, t_web_of_3
    intro C hC i hi
    refine sp_web_init (Γ := Γ) ok (by omega) hC hi fun μ' h1 h2 => ?_
    wp_walk
    exact hq (by omega) i μ' h1 h2
theorem sp_does_last (ok : PlanOk h gs) (hq : prodI gs ≤ 1000 → q (.bl (lastB (scS h.toNat gs) gs)) ⟨k, μ⟩) (hx : 1000 < prodI gs → x ⟨"TooGreat", some (.int 1000)⟩ ⟨k, μ⟩) : F_does_last Γ [planD h gs] ⟨k, μ⟩ q x := by
  wp_walk using F_does_last, t_does_last
  refine sp_needOk (Γ := Γ) ok ?_
  wp_walk using t_does_last_2
  refine sp_web_of (Γ := Γ) ok (fun hc i μ' h1 h2 => ?_) (fun hc => gc_endX (fun _ _ z => z) (hx hc))
  obtain ⟨C, pl, pf, u, fl, c1, c2, _⟩ := h2.ex
  wp_walk
  refine mth_go c1 c2 lk_no1 ?_
  wp_walk using planD, at1
  refine sp_does_hold (Γ := Γ) h2 (first_box fun z hz => (ok.g z hz).1) ?_
  wp_walk
  exact gc_end h1 (hq hc)
end
end PL
namespace PL
open OE PySem
variable [TN] {Γ : Gam} {n : S} {q : D → S → Prop} {x : Exn → S → Prop}
/-! ### the law's own web -/
section
variable {h : Int} {gs : List Int} {k : Nat} {μ : Mu}
/-! rounds -/
structure Rnd (sc : St → List St) (V : List St) (fl : TL) (d : Nat) : Prop where
  nodup : (fl.map Prod.fst).Nodup
  sub : ∀ s ∈ fl.map Prod.fst, s ∈ V
  val : ∀ s v, fl.lookup s = some v → ∃ r : Nat, v = .int r ∧ Rank sc s r
  lk : ∀ s ∈ V, ((fl.lookup s).isSome = true ↔ LK sc d s)
noncomputable def freshB (sc : St → List St) (fl : TL) (s : St) : Bool := nfd fl s && (sc s).all fun t => (fl.lookup t).isSome
theorem look_app {a b : TL} {s : St} : (a ++ b).lookup s = match a.lookup s with | some v => some v | none => b.lookup s := by
  rw [List.lookup_append]
  cases a.lookup s <;> rfl
theorem Rnd.step {sc : St → List St} {V : List St} {fl : TL} {d : Nat} (hV : ∀ s ∈ V, ∀ t ∈ sc s, t ∈ V) (hn : V.Nodup) (r : Rnd sc V fl d) : Rnd sc V (fl ++ (V.filter (freshB sc fl)).map fun s => (s, .int ((d : Nat) : Int))) (d + 1) := by
  have fr : ∀ s ∈ V, (freshB sc fl s = true ↔ ¬ LK sc d s ∧ LK sc (d + 1) s) := fun s hs => by
    unfold freshB nfd
    rw [Bool.and_eq_true, List.all_eq_true, Bool.not_eq_true', ← Bool.not_eq_true, r.lk s hs]
    refine and_congr Iff.rfl (forall_congr' fun t => forall_congr' fun ht => r.lk t (hV s hs t ht))
  refine ⟨?_, fun s hs => ?_, fun s v hv => ?_, fun s hs => ?_⟩
  · rw [List.map_append, List.map_map, List.nodup_append]
    have e : (V.filter (freshB sc fl)).map (Prod.fst ∘ fun s => (s, D.int ((d : Nat) : Int))) = V.filter (freshB sc fl) := by
      have : (Prod.fst ∘ fun s : St => (s, D.int ((d : Nat) : Int))) = id := rfl
      rw [this, List.map_id]
    rw [e]
    refine ⟨r.nodup, hn.sublist List.filter_sublist, fun a ha b hb eq => ?_⟩
    subst eq
    have h1 := look_mem.mpr ha
    have h2 := (List.mem_filter.mp hb).2
    unfold freshB nfd at h2
    rw [h1] at h2
    cases h2
  · rw [List.map_append, List.mem_append] at hs
    rcases hs with z | z
    · exact r.sub s z
    · rw [List.map_map] at z
      obtain ⟨t, ht, rfl⟩ := List.mem_map.mp z
      exact (List.mem_filter.mp ht).1
  · rw [look_app] at hv
    cases e : fl.lookup s with
    | some w => rw [e] at hv; cases hv; exact r.val s _ e
    | none =>
      rw [e] at hv
      dsimp only at hv
      rw [look_map] at hv
      split at hv
      · rename_i c
        cases hv
        obtain ⟨c1, c2⟩ := List.mem_filter.mp c
        obtain ⟨f1, f2⟩ := (fr s c1).mp c2
        exact ⟨d, rfl, f2, f1⟩
      · cases hv
  · rw [look_app]
    cases e : fl.lookup s with
    | some w =>
      have := (r.lk s hs).mp (by rw [e]; rfl)
      exact ⟨fun _ => this.up, fun _ => rfl⟩
    | none =>
      have n1 : ¬ LK sc d s := fun z => by have := (r.lk s hs).mpr z; rw [e] at this; cases this
      dsimp only
      rw [look_map]
      by_cases c : freshB sc fl s = true
      · rw [if_pos (List.mem_filter.mpr ⟨hs, c⟩)]
        exact ⟨fun _ => ((fr s hs).mp c).2, fun _ => rfl⟩
      · rw [if_neg fun z => c (List.mem_filter.mp z).2]
        exact ⟨fun z => (by cases z), fun z => absurd ((fr s hs).mpr ⟨n1, z⟩) c⟩
end
end PL
namespace PL
open OE
open PySem (Str)
noncomputable def t__law_draw_11 (Γ : Gam) : Ev → Wp Out :=
  tret (tbin fMod (tbin fDiv (tbin fMod (tcall fInt (tcons (tbin fAdd (tbin fMul (tvar 7) (tconst (.int 48271))) (tvar 3)) (tnil))) (tconst (.int 2147483647))) (tconst (.int 11))) (tvar 1))
noncomputable def t__law_draw_10 (Γ : Gam) : Ev → Wp Out :=
  tthen (tset 7 (tbin fMod (tcall fInt (tcons (tbin fAdd (tbin fAdd (tbin fMul (tvar 7) (tvar 7)) (tbin fMul (tconst (.int 69621)) (tvar 3))) (tbind (fGetS "seed") (tvar 0))) (tnil))) (tconst (.int 2147483629))))
  (t__law_draw_11 Γ)
noncomputable def t__law_draw_9 (Γ : Gam) : Ev → Wp Out :=
  tthen (tset 7 (tbin fMod (tcall fInt (tcons (tbin fAdd (tbin fMul (tvar 6) (tbin fAdd (tbin fMul (tconst (.int 2)) (tvar 3)) (tconst (.int 3)))) (tvar 5)) (tnil))) (tconst (.int 2147483647))))
  (t__law_draw_10 Γ)
noncomputable def t__law_draw_8 (Γ : Gam) : Ev → Wp Out :=
  tthen (tset 6 (tbin fIx (tvar 4) (tbin fMod (tcall fInt (tcons (tvar 3) (tnil))) (tcall fLen (tcons (tvar 4) (tnil))))))
  (t__law_draw_9 Γ)
noncomputable def t__law_draw_7 (Γ : Gam) : Ev → Wp Out :=
  tthen (tpar 4 5 (tcons (tbind (fGetS "cells") (tvar 0)) (tcons (tbin fAdd (tbind (fGetS "seed") (tvar 0)) (tbin fMul (tbin fMul (tconst (.int 40503)) (tvar 3)) (tvar 3))) (tnil))))
  (t__law_draw_8 Γ)
noncomputable def t__law_draw_6 (Γ : Gam) : Ev → Wp Out :=
  tthen (tputM "spot" (tvar 0) (tbin fAdd (tvar 3) (tconst (.int 1))))
  (t__law_draw_7 Γ)
noncomputable def t__law_draw_5 (Γ : Gam) : Ev → Wp Out :=
  tthen (tset 3 (tbind (fGetS "spot") (tvar 0)))
  (t__law_draw_6 Γ)
noncomputable def t__law_draw_4 (Γ : Gam) : Ev → Wp Out :=
  tret (tvar 2)
noncomputable def t__law_draw_3 (Γ : Gam) : Ev → Wp Out :=
  tthen (tputM "left" (tvar 0) (tbin fDiv (tbind (fGetS "left") (tvar 0)) (tvar 1)))
  (t__law_draw_4 Γ)
noncomputable def t__law_draw (Γ : Gam) : Ev → Wp Out :=
  tthen (tite (ttest (tbin fGt (tbind (fGetS "left") (tvar 0)) (tconst (.int 0)))) (tthen (tset 2 (tbin fMod (tcall fInt (tcons (tbind (fGetS "left") (tvar 0)) (tnil))) (tvar 1)))
  (t__law_draw_3 Γ)) (tnext))
  (t__law_draw_5 Γ)
noncomputable def F__law_draw (Γ : Gam) : List D → Wp D := runDef 8 (t__law_draw Γ)
end PL
local macro_rules | `(tactic| wp_walk using $[$ts],*) => `(tactic| simp -implicitDefEqProofs only [$[$ts:term],*, OE.w_g0, OE.w_gs, OE.w_s0, OE.w_ss, OE.w_some, OE.w_ex, OE.w_lc, OE.w_ln, OE.w_at, OE.w_ta, OE.w_nt, OE.w_nf, OE.w_it, OE.w_if, OE.w_itP, OE.w_ifP, OE.w_ft, OE.w_mc, OE.w_mn, OE.w_rs, OE.w_r0, OE.w_ca, OE.w_na, OE.w_za, OE.w_sb, OE.w_sz, OE.s_then, OE.k_seqN, OE.k_seqR, OE.k_seqB, OE.k_seqC, OE.s_next, OE.s_ret, OE.k_ret, OE.s_set, OE.k_set, OE.s_ite, OE.k_ite, OE.o_rt, OE.o_nx, OE.s_run, OE.s_var, OE.s_const, OE.s_nil, OE.s_cons, OE.k_cons, OE.k_cons2, OE.s_tup, OE.s_lst, OE.k_tup, OE.k_lst, OE.s_bin, OE.k_bin, OE.k_bin2, OE.s_bind, OE.k_ap, OE.s_call, OE.k_apL, OE.s_fn, OE.k_fn, OE.s_test, OE.k_test, OE.s_and, OE.k_and, OE.s_or, OE.k_or, OE.s_not, OE.k_not, OE.s_andV, OE.k_andV, OE.s_orV, OE.k_orV, OE.s_notV, OE.k_notV, OE.s_if, OE.k_if, OE.s_isN, OE.k_isN, OE.s_noN, OE.k_noN, OE.s_chain, OE.k_ch1, OE.k_ch2, OE.k_ch3, OE.s_isi, OE.k_isi, OE.s_part, OE.k_part, OE.s_slice, OE.k_sl1, OE.k_sl2, OE.k_sl3, OE.s_retO, OE.s_slL, OE.s_slT, OE.s_slS, OE.s_seq, OE.k_itmL, OE.k_itmT, OE.k_itmS, OE.s_its, OE.k_its, OE.s_rng1, OE.s_rng2, OE.s_enT, OE.s_enL, OE.s_zipL, OE.s_zipT, OE.s_for, OE.k_for, OE.for_nil, OE.k_go, OE.k_tN, OE.k_tC, OE.k_tB, OE.k_tR, OE.g_name, OE.g_tup, OE.g_cons, OE.k_gs, OE.g_nil, OE.s_asg, OE.k_asg, OE.k_nx, OE.s_par, OE.k_par, OE.s_lc, OE.k_lc, OE.k_lc1, OE.k_lc2, OE.k_some, OE.s_fail, OE.k_fail, OE.s_fail0, OE.s_try, OE.k_unN, OE.k_unR, OE.s_fld, OE.k_fld, OE.f_addI, OE.f_addT, OE.f_addL, OE.f_addS, OE.f_ii, OE.f_i0, OE.f_mulI, OE.f_mulT, OE.f_mulL, OE.f_neg, OE.f_ixL, OE.f_ixT, OE.f_ixS, OE.f_lenL, OE.f_lenT, OE.f_lenS, OE.f_int, OE.f_min, OE.f_max, OE.f_tupL, OE.f_lstT, OE.f_lstL, OE.f_repr, OE.f_cmpS, OE.f_cmpI, OE.f_cmpT, OE.f_cmpL, OE.s_dict, OE.k_dic, OE.f_getM, OE.s_putM, OE.k_put1, OE.k_put2, OE.s_dm, OE.mGet_left, OE.mGet_seed, OE.mGet_cells, OE.mGet_spot, OE.mPut_left, OE.mPut_spot, OE.k_wh, OE.s_star, OE.k_starT, OE.k_starL, OE.k_star2, OE.s_drop, OE.k_drop, OE.s_par3, OE.k_par3, OE.f_lrg1, OE.f_trg1, OE.f_lrg2, OE.f_trg2, OE.f_ixM, OE.f_lenM, OE.f_inT, OE.f_inL, OE.f_inS, OE.s_tryN, OE.c_nil, OE.f_all, OE.f_any, OE.f_sum, OE.s_frz, OE.k_frzS, OE.k_fz, OE.f_frzLs, OE.f_frzT, OE.f_frzI, OE.f_frzN, OE.s_mlst, OE.k_ml, OE.s_meth, OE.k_me, OE.f_app, OE.f_extd, OE.f_sorted, OE.s_lc2, OE.k_lcc, OE.f_isB, OE.s_isi2, OE.k_isi2, OE.s_aug, OE.k_aug, OE.w_int, OE.f_revL, OE.f_revT, OE.s_isx, OE.k_isx, OE.s_seqG, OE.k_itmGL, OE.k_itmGT, OE.k_itmGM, OE.s_forG, OE.k_forG, OE.s_lcG, OE.k_lcG, OE.f_maddL, OE.s_mlc, OE.k_mlc, OE.k_newQ, OE.s_mtx, OE.k_mtx, OE.k_mt2, OE.f_split, OE.f_str, OE.f_mulS, OE.f_lenT1, OE.f_ixT1, OE.k_itmStr, OE.s_dput, OE.k_dp1, OE.k_dp2, OE.s_daug, OE.k_da1, OE.s_mfset, OE.k_mf1, OE.s_mth, OE.k_mth2, OE.s_mth0, OE.s_mk, OE.k_mk, OE.k_mk2, OE.s_keys, OE.s_items, OE.k_keysM, OE.k_itemsM, OE.s_dcG, OE.k_dcG, OE.s_mlcG, OE.k_mlcG, OE.s_mdit, OE.s_gc, OE.k_dc1, OE.k_dc2, OE.k_dc3, OE.f_inDL, OE.f_emM, OE.f_addM, OE.startE, Nat.reduceAdd, Nat.reduceLeDiff, Nat.reduceSub])
namespace PL
open OE PySem
variable [TN] {Γ : Gam} {n : S} {q : D → S → Prop} {x : Exn → S → Prop}
/-! ### drawn plans -/
theorem prodI_snoc (l : List Int) (g : Int) : prodI (l ++ [g]) = prodI l * g := by
  unfold prodI
  rw [List.foldl_append]
  rfl
/-! ### standings and ages, by lists -/
end PL
namespace PL
open OE
open PySem (Str)
end PL
local macro_rules | `(tactic| wp_walk using $[$ts],*) => `(tactic| simp -implicitDefEqProofs only [$[$ts:term],*, OE.w_g0, OE.w_gs, OE.w_s0, OE.w_ss, OE.w_some, OE.w_ex, OE.w_lc, OE.w_ln, OE.w_at, OE.w_ta, OE.w_nt, OE.w_nf, OE.w_it, OE.w_if, OE.w_itP, OE.w_ifP, OE.w_ft, OE.w_mc, OE.w_mn, OE.w_rs, OE.w_r0, OE.w_ca, OE.w_na, OE.w_za, OE.w_sb, OE.w_sz, OE.s_then, OE.k_seqN, OE.k_seqR, OE.k_seqB, OE.k_seqC, OE.s_next, OE.s_ret, OE.k_ret, OE.s_set, OE.k_set, OE.s_ite, OE.k_ite, OE.o_rt, OE.o_nx, OE.s_run, OE.s_var, OE.s_const, OE.s_nil, OE.s_cons, OE.k_cons, OE.k_cons2, OE.s_tup, OE.s_lst, OE.k_tup, OE.k_lst, OE.s_bin, OE.k_bin, OE.k_bin2, OE.s_bind, OE.k_ap, OE.s_call, OE.k_apL, OE.s_fn, OE.k_fn, OE.s_test, OE.k_test, OE.s_and, OE.k_and, OE.s_or, OE.k_or, OE.s_not, OE.k_not, OE.s_andV, OE.k_andV, OE.s_orV, OE.k_orV, OE.s_notV, OE.k_notV, OE.s_if, OE.k_if, OE.s_isN, OE.k_isN, OE.s_noN, OE.k_noN, OE.s_chain, OE.k_ch1, OE.k_ch2, OE.k_ch3, OE.s_isi, OE.k_isi, OE.s_part, OE.k_part, OE.s_slice, OE.k_sl1, OE.k_sl2, OE.k_sl3, OE.s_retO, OE.s_slL, OE.s_slT, OE.s_slS, OE.s_seq, OE.k_itmL, OE.k_itmT, OE.k_itmS, OE.s_its, OE.k_its, OE.s_rng1, OE.s_rng2, OE.s_enT, OE.s_enL, OE.s_zipL, OE.s_zipT, OE.s_for, OE.k_for, OE.for_nil, OE.k_go, OE.k_tN, OE.k_tC, OE.k_tB, OE.k_tR, OE.g_name, OE.g_tup, OE.g_cons, OE.k_gs, OE.g_nil, OE.s_asg, OE.k_asg, OE.k_nx, OE.s_par, OE.k_par, OE.s_lc, OE.k_lc, OE.k_lc1, OE.k_lc2, OE.k_some, OE.s_fail, OE.k_fail, OE.s_fail0, OE.s_try, OE.k_unN, OE.k_unR, OE.s_fld, OE.k_fld, OE.f_addI, OE.f_addT, OE.f_addL, OE.f_addS, OE.f_ii, OE.f_i0, OE.f_mulI, OE.f_mulT, OE.f_mulL, OE.f_neg, OE.f_ixL, OE.f_ixT, OE.f_ixS, OE.f_lenL, OE.f_lenT, OE.f_lenS, OE.f_int, OE.f_min, OE.f_max, OE.f_tupL, OE.f_lstT, OE.f_lstL, OE.f_repr, OE.f_cmpS, OE.f_cmpI, OE.f_cmpT, OE.f_cmpL, OE.s_dict, OE.k_dic, OE.f_getM, OE.s_putM, OE.k_put1, OE.k_put2, OE.s_dm, OE.mGet_left, OE.mGet_seed, OE.mGet_cells, OE.mGet_spot, OE.mPut_left, OE.mPut_spot, OE.k_wh, OE.s_star, OE.k_starT, OE.k_starL, OE.k_star2, OE.s_drop, OE.k_drop, OE.s_par3, OE.k_par3, OE.f_lrg1, OE.f_trg1, OE.f_lrg2, OE.f_trg2, OE.f_ixM, OE.f_lenM, OE.f_inT, OE.f_inL, OE.f_inS, OE.s_tryN, OE.c_nil, OE.f_all, OE.f_any, OE.f_sum, OE.s_frz, OE.k_frzS, OE.k_fz, OE.f_frzLs, OE.f_frzT, OE.f_frzI, OE.f_frzN, OE.s_mlst, OE.k_ml, OE.s_meth, OE.k_me, OE.f_app, OE.f_extd, OE.f_sorted, OE.s_lc2, OE.k_lcc, OE.f_isB, OE.s_isi2, OE.k_isi2, OE.s_aug, OE.k_aug, OE.w_int, OE.f_revL, OE.f_revT, OE.s_isx, OE.k_isx, OE.s_seqG, OE.k_itmGL, OE.k_itmGT, OE.k_itmGM, OE.s_forG, OE.k_forG, OE.s_lcG, OE.k_lcG, OE.f_maddL, OE.s_mlc, OE.k_mlc, OE.k_newQ, OE.s_mtx, OE.k_mtx, OE.k_mt2, OE.f_split, OE.f_str, OE.f_mulS, OE.f_lenT1, OE.f_ixT1, OE.k_itmStr, OE.s_dput, OE.k_dp1, OE.k_dp2, OE.s_daug, OE.k_da1, OE.s_mfset, OE.k_mf1, OE.s_mth, OE.k_mth2, OE.s_mth0, OE.s_mk, OE.k_mk, OE.k_mk2, OE.s_keys, OE.s_items, OE.k_keysM, OE.k_itemsM, OE.s_dcG, OE.k_dcG, OE.s_mlcG, OE.k_mlcG, OE.s_mdit, OE.s_gc, OE.k_dc1, OE.k_dc2, OE.k_dc3, OE.f_inDL, OE.f_emM, OE.f_addM, OE.s_tryO, OE.co_nil, OE.so_none, OE.so_some, OE.s_get1, OE.k_ge1M, OE.s_get2, OE.k_gf1M, OE.k_gf2, OE.startE, Nat.reduceAdd, Nat.reduceLeDiff, Nat.reduceSub])
namespace PL
open OE PySem
/-! ### what is kept, how long it goes on -/
end PL
namespace PL
open OE PySem
/-! ### by hand: what lasts, reckoned -/
/-! ### ranks -/
end PL
namespace PL
open OE
open PySem (Str)
end PL
local macro_rules | `(tactic| wp_walk using $[$ts],*) => `(tactic| simp -implicitDefEqProofs only [$[$ts:term],*, OE.w_g0, OE.w_gs, OE.w_s0, OE.w_ss, OE.w_some, OE.w_ex, OE.w_lc, OE.w_ln, OE.w_at, OE.w_ta, OE.w_nt, OE.w_nf, OE.w_it, OE.w_if, OE.w_itP, OE.w_ifP, OE.w_ft, OE.w_mc, OE.w_mn, OE.w_rs, OE.w_r0, OE.w_ca, OE.w_na, OE.w_za, OE.w_sb, OE.w_sz, OE.s_then, OE.k_seqN, OE.k_seqR, OE.k_seqB, OE.k_seqC, OE.s_next, OE.s_ret, OE.k_ret, OE.s_set, OE.k_set, OE.s_ite, OE.k_ite, OE.o_rt, OE.o_nx, OE.s_run, OE.s_var, OE.s_const, OE.s_nil, OE.s_cons, OE.k_cons, OE.k_cons2, OE.s_tup, OE.s_lst, OE.k_tup, OE.k_lst, OE.s_bin, OE.k_bin, OE.k_bin2, OE.s_bind, OE.k_ap, OE.s_call, OE.k_apL, OE.s_fn, OE.k_fn, OE.s_test, OE.k_test, OE.s_and, OE.k_and, OE.s_or, OE.k_or, OE.s_not, OE.k_not, OE.s_andV, OE.k_andV, OE.s_orV, OE.k_orV, OE.s_notV, OE.k_notV, OE.s_if, OE.k_if, OE.s_isN, OE.k_isN, OE.s_noN, OE.k_noN, OE.s_chain, OE.k_ch1, OE.k_ch2, OE.k_ch3, OE.s_isi, OE.k_isi, OE.s_part, OE.k_part, OE.s_slice, OE.k_sl1, OE.k_sl2, OE.k_sl3, OE.s_retO, OE.s_slL, OE.s_slT, OE.s_slS, OE.s_seq, OE.k_itmL, OE.k_itmT, OE.k_itmS, OE.s_its, OE.k_its, OE.s_rng1, OE.s_rng2, OE.s_enT, OE.s_enL, OE.s_zipL, OE.s_zipT, OE.s_for, OE.k_for, OE.for_nil, OE.k_go, OE.k_tN, OE.k_tC, OE.k_tB, OE.k_tR, OE.g_name, OE.g_tup, OE.g_cons, OE.k_gs, OE.g_nil, OE.s_asg, OE.k_asg, OE.k_nx, OE.s_par, OE.k_par, OE.s_lc, OE.k_lc, OE.k_lc1, OE.k_lc2, OE.k_some, OE.s_fail, OE.k_fail, OE.s_fail0, OE.s_try, OE.k_unN, OE.k_unR, OE.s_fld, OE.k_fld, OE.f_addI, OE.f_addT, OE.f_addL, OE.f_addS, OE.f_ii, OE.f_i0, OE.f_mulI, OE.f_mulT, OE.f_mulL, OE.f_neg, OE.f_ixL, OE.f_ixT, OE.f_ixS, OE.f_lenL, OE.f_lenT, OE.f_lenS, OE.f_int, OE.f_min, OE.f_max, OE.f_tupL, OE.f_lstT, OE.f_lstL, OE.f_repr, OE.f_cmpS, OE.f_cmpI, OE.f_cmpT, OE.f_cmpL, OE.s_dict, OE.k_dic, OE.f_getM, OE.s_putM, OE.k_put1, OE.k_put2, OE.s_dm, OE.mGet_left, OE.mGet_seed, OE.mGet_cells, OE.mGet_spot, OE.mPut_left, OE.mPut_spot, OE.k_wh, OE.s_star, OE.k_starT, OE.k_starL, OE.k_star2, OE.s_drop, OE.k_drop, OE.s_par3, OE.k_par3, OE.f_lrg1, OE.f_trg1, OE.f_lrg2, OE.f_trg2, OE.f_ixM, OE.f_lenM, OE.f_inT, OE.f_inL, OE.f_inS, OE.s_tryN, OE.c_nil, OE.f_all, OE.f_any, OE.f_sum, OE.s_frz, OE.k_frzS, OE.k_fz, OE.f_frzLs, OE.f_frzT, OE.f_frzI, OE.f_frzN, OE.s_mlst, OE.k_ml, OE.s_meth, OE.k_me, OE.f_app, OE.f_extd, OE.f_sorted, OE.s_lc2, OE.k_lcc, OE.f_isB, OE.s_isi2, OE.k_isi2, OE.s_aug, OE.k_aug, OE.w_int, OE.f_revL, OE.f_revT, OE.s_isx, OE.k_isx, OE.s_seqG, OE.k_itmGL, OE.k_itmGT, OE.k_itmGM, OE.s_forG, OE.k_forG, OE.s_lcG, OE.k_lcG, OE.f_maddL, OE.s_mlc, OE.k_mlc, OE.k_newQ, OE.s_mtx, OE.k_mtx, OE.k_mt2, OE.f_split, OE.f_str, OE.f_mulS, OE.f_lenT1, OE.f_ixT1, OE.k_itmStr, OE.s_dput, OE.k_dp1, OE.k_dp2, OE.s_daug, OE.k_da1, OE.s_mfset, OE.k_mf1, OE.s_mth, OE.k_mth2, OE.s_mth0, OE.s_mk, OE.k_mk, OE.k_mk2, OE.s_keys, OE.s_items, OE.k_keysM, OE.k_itemsM, OE.s_dcG, OE.k_dcG, OE.s_mlcG, OE.k_mlcG, OE.s_mdit, OE.s_gc, OE.k_dc1, OE.k_dc2, OE.k_dc3, OE.f_inDL, OE.f_emM, OE.f_addM, OE.s_tryO, OE.co_nil, OE.so_none, OE.so_some, OE.s_get1, OE.k_ge1M, OE.s_get2, OE.k_gf1M, OE.k_gf2, OE.s_fldX, OE.k_fldX, OE.f_tupT, OE.startE, Nat.reduceAdd, Nat.reduceLeDiff, Nat.reduceSub])
namespace PL
open OE PySem
variable [TN] {Γ : Gam} {n : S} {q : D → S → Prop} {x : Exn → S → Prop}
/-! ### gaps.py -/
/-- whether a plan lasts -/
noncomputable def holdB (h : Int) (gs : List Int) : Bool := lastB (scS h.toNat gs) gs
section
variable {h : Int} {gs : List Int} {k : Nat} {μ : Mu}
/-! one gap otherwise -/
theorem prodI_app (a b : List Int) : prodI (a ++ b) = prodI a * prodI b := by
  show (a ++ b).foldl (· * ·) 1 = _
  rw [List.foldl_append, prodI_mul]
  rfl
theorem split_at {gs : List Int} {i : Nat} {g : Int} (e : gs[i]? = some g) : gs = gs.take i ++ g :: gs.drop (i + 1) := by
  obtain ⟨hi, hg⟩ := List.getElem?_eq_some_iff.mp e
  have e1 : gs.drop i = g :: gs.drop (i + 1) := by rw [List.drop_eq_getElem_cons hi, hg]
  rw [← e1, List.take_append_drop]
/-! all gaps greater -/
/-! the fewest hands -/
end
end PL
/-! ### rows of days for ever, and shares: plain -/
namespace PL
open OE PySem
variable [TN]
theorem start_gt {l : List Int} (h : l.Pairwise (· < ·)) : ∀ z ∈ l, z < startL l := by
  rcases List.eq_nil_or_concat l with rfl | ⟨init, w, rfl⟩
  · intro z hz; cases hz
  · have e : startL (init ++ [w]) = w + 1 := by unfold startL; rw [List.getLast?_append]; simp
    rw [List.concat_eq_append] at h ⊢
    rw [e]
    obtain ⟨_, _, h3⟩ := List.pairwise_append.mp h
    intro z hz
    rcases List.mem_append.mp hz with y | y
    · have := h3 z y w (by simp); omega
    · rw [List.mem_singleton] at y; omega
theorem mem_layer {m : Nat} : ∀ (t : Nat) (l : List Int), l ∈ (foundL m t).2 ↔ l.length = t ∧ l.Pairwise (· < ·) ∧ ∀ z ∈ l, 0 ≤ z ∧ z < (m : Nat)
  | 0, l => by
    show l ∈ [[]] ↔ _
    rw [List.mem_singleton]
    constructor
    · rintro rfl; exact ⟨rfl, .nil, fun z hz => nomatch hz⟩
    · rintro ⟨h, _⟩; exact List.eq_nil_of_length_eq_zero h
  | t + 1, l => by
    show l ∈ layerL m (foundL m t).2 ↔ _
    unfold layerL
    rw [List.mem_flatMap]
    constructor
    · rintro ⟨l', h1, h2⟩
      obtain ⟨k, h3, rfl⟩ := List.mem_map.mp h2
      obtain ⟨a1, a2, a3⟩ := (mem_layer t l').mp h1
      obtain ⟨b1, b2⟩ := mem_rangeI.mp h3
      have sg := start_gt a2
      have s0 := start_ge fun z hz => (a3 z hz).1
      refine ⟨by rw [List.length_append, a1]; rfl, ?_, fun z hz => ?_⟩
      · rw [List.pairwise_append]
        refine ⟨a2, List.pairwise_singleton .., fun z hz y hy => ?_⟩
        rw [List.mem_singleton] at hy
        have := sg z hz
        omega
      · rcases List.mem_append.mp hz with y | y
        · exact a3 z y
        · rw [List.mem_singleton] at y; omega
    · rintro ⟨h1, h2, h3⟩
      rcases List.eq_nil_or_concat l with rfl | ⟨init, w, rfl⟩
      · cases h1
      · rw [List.concat_eq_append] at h1 h2 h3 ⊢
        obtain ⟨p1, _, p3⟩ := List.pairwise_append.mp h2
        rw [List.length_append, List.length_singleton] at h1
        refine ⟨init, (mem_layer t init).mpr ⟨by omega, p1, fun z hz => h3 z (List.mem_append_left _ hz)⟩, List.mem_map.mpr ⟨w, mem_rangeI.mpr ⟨?_, (h3 w (by simp)).2⟩, rfl⟩⟩
        unfold startL
        split
        · rename_i z e
          have := p3 z (List.mem_of_getLast? e) w (by simp)
          omega
        · exact (h3 w (by simp)).1
theorem mem_found {m : Nat} : ∀ (t : Nat) (l : List Int), l ∈ (foundL m t).1 ↔ l.length ≤ t ∧ l.Pairwise (· < ·) ∧ ∀ z ∈ l, 0 ≤ z ∧ z < (m : Nat)
  | 0, l => by
    have := mem_layer (m := m) 0 l
    show l ∈ [[]] ↔ _
    have e : (foundL m 0).2 = [[]] := rfl
    rw [e] at this
    rw [this]
    exact and_congr ⟨fun h => by omega, fun h => by omega⟩ Iff.rfl
  | t + 1, l => by
    show l ∈ (foundL m t).1 ++ (foundL m (t + 1)).2 ↔ _
    rw [List.mem_append, mem_found t l, mem_layer (t + 1) l]
    constructor
    · rintro (⟨h1, h2⟩ | ⟨h1, h2⟩)
      · exact ⟨by omega, h2⟩
      · exact ⟨by omega, h2⟩
    · rintro ⟨h1, h2⟩
      by_cases c : l.length = t + 1
      · exact .inr ⟨c, h2⟩
      · exact .inl ⟨by omega, h2⟩
theorem mem_days {h m : Nat} {l : List Int} : l ∈ daysL h m ↔ l.length ≤ h ∧ l.Pairwise (· < ·) ∧ ∀ z ∈ l, 0 ≤ z ∧ z < (m : Nat) := by
  unfold daysL
  rw [(isortL_perm _).mem_iff, mem_found]
theorem isIn_iff {l : List Int} {i : Nat} : isIn l i = true ↔ ((i : Nat) : Int) ∈ l := by
  unfold isIn
  rw [List.any_eq_true]
  constructor
  · rintro ⟨z, hz, e⟩
    have : z = ((i : Nat) : Int) := by simpa using e
    exact this ▸ hz
  · intro hz; exact ⟨_, hz, by simp⟩
/-! ### rows for ever -/
noncomputable def Win (g : Int) (f : Nat → Bool) : Prop := ∀ d : Nat, ∃ e : Nat, d ≤ e ∧ (e : Int) < d + g ∧ f e = true
noncomputable def Sched (h : Nat) (gs : List Int) : Prop := ∃ L : List (Int × (Nat → Bool)), L.map Prod.fst = gs ∧ (∀ p ∈ L, Win p.1 p.2) ∧ ∀ d, (L.filter fun p => p.2 d).length ≤ h
theorem lift_perm {gs gs' : List Int} (hp : gs.Perm gs') : ∀ L : List (Int × (Nat → Bool)), L.map Prod.fst = gs → ∃ L', L'.map Prod.fst = gs' ∧ L.Perm L' := by
  induction hp with
  | nil => intro L h; exact ⟨[], rfl, by rw [List.map_eq_nil_iff.mp h]⟩
  | cons x _ ih =>
    intro L h
    cases L with
    | nil => cases h
    | cons p L =>
      injection h with h1 h2
      obtain ⟨L', e, pp⟩ := ih L h2
      exact ⟨p :: L', by rw [List.map_cons, e, h1], pp.cons p⟩
  | swap x y l =>
    intro L h
    cases L with
    | nil => cases h
    | cons p L =>
      cases L with
      | nil => cases h
      | cons r L =>
        injection h with h1 h2
        injection h2 with h2 h3
        exact ⟨r :: p :: L, by rw [List.map_cons, List.map_cons, h1, h2, h3], .swap ..⟩
  | trans _ _ ih1 ih2 =>
    intro L h
    obtain ⟨L1, e1, p1⟩ := ih1 L h
    obtain ⟨L2, e2, p2⟩ := ih2 L1 e1
    exact ⟨L2, e2, p1.trans p2⟩
theorem Sched.perm {h : Nat} {gs gs' : List Int} (s : Sched h gs) (hp : gs.Perm gs') : Sched h gs' := by
  obtain ⟨L, h1, h2, h3⟩ := s
  obtain ⟨L', e, pp⟩ := lift_perm hp L h1
  exact ⟨L', e, fun p hp => h2 p (pp.mem_iff.mpr hp), fun d => by rw [← (pp.filter _).length_eq]; exact h3 d⟩
section
variable {h : Nat} {gs : List Int}
/-- the day by the row for ever -/
noncomputable def dayAt (L : List (Int × (Nat → Bool))) (d : Nat) : List Int := ((List.range L.length).filter fun i => match L[i]? with | some p => p.2 d | none => false).map fun i => ((i : Nat) : Int)
noncomputable def stAt (L : List (Int × (Nat → Bool))) (gs : List Int) : Nat → St
  | 0 => gs
  | d + 1 => laterL gs (stAt L gs d) (dayAt L d)
theorem dayAt_in {L : List (Int × (Nat → Bool))} {d i : Nat} : isIn (dayAt L d) i = true ↔ ∃ p, L[i]? = some p ∧ p.2 d = true := by
  rw [isIn_iff]
  unfold dayAt
  rw [List.mem_map]
  constructor
  · rintro ⟨j, hj, e⟩
    have : j = i := by omega
    subst this
    have := (List.mem_filter.mp hj).2
    cases e2 : L[j]? with
    | none => rw [e2] at this; cases this
    | some p => rw [e2] at this; exact ⟨p, rfl, this⟩
  · rintro ⟨p, h1, h2⟩
    exact ⟨i, List.mem_filter.mpr ⟨List.mem_range.mpr (lt_of_get h1), by rw [h1]; exact h2⟩, rfl⟩
theorem dayAt_len (L : List (Int × (Nat → Bool))) (d : Nat) : (dayAt L d).length = (L.filter fun p => p.2 d).length := by
  unfold dayAt
  rw [List.length_map]
  have aux : ∀ M : List (Int × (Nat → Bool)), ((List.range M.length).filter fun i => match M[i]? with | some p => p.2 d | none => false).length = (M.filter fun p => p.2 d).length := by
    intro M
    induction M with
    | nil => rfl
    | cons p M ih =>
      rw [List.length_cons, List.range_succ_eq_map, List.filter_cons, List.filter_cons, List.filter_map, List.getElem?_cons_zero]
      have e : (List.range M.length).filter ((fun i => match (p :: M)[i]? with | some p => p.2 d | none => false) ∘ Nat.succ) = (List.range M.length).filter fun i => match M[i]? with | some p => p.2 d | none => false := List.filter_congr fun i _ => by
        show (match (p :: M)[i + 1]? with | some p => p.2 d | none => false) = _
        rw [List.getElem?_cons_succ]
      rw [e]
      dsimp only
      by_cases hc : p.2 d = true
      · rw [if_pos hc, if_pos hc, List.length_cons, List.length_cons, List.length_map, ih]
      · rw [if_neg hc, if_neg hc, List.length_map, ih]
  exact aux L
theorem dayAt_days {L : List (Int × (Nat → Bool))} (hm : L.length = gs.length) (hh : ∀ d, (L.filter fun p => p.2 d).length ≤ h) (d : Nat) : dayAt L d ∈ daysL h gs.length := by
  refine mem_days.mpr ⟨by rw [dayAt_len]; exact hh d, ?_, fun z hz => ?_⟩
  · unfold dayAt
    rw [List.pairwise_map]
    exact List.Pairwise.imp (fun h => by omega) (List.pairwise_lt_range.sublist List.filter_sublist)
  · unfold dayAt at hz
    obtain ⟨i, hi, rfl⟩ := List.mem_map.mp hz
    have := List.mem_range.mp (List.mem_filter.mp hi).1
    omega
theorem later_get {gs st l : List Int} {i : Nat} {s : Int} (hs : st[i]? = some s) : (laterL gs st l)[i]? = some (if isIn l i = true then gs.getD i 0 else s - 1) := by
  unfold laterL
  rw [List.getElem?_map, enumI_get, hs]
  simp
/-- how it stands by the row for ever -/
theorem stAt_inv {L : List (Int × (Nat → Bool))} (hL : L.map Prod.fst = gs) (hw : ∀ p ∈ L, Win p.1 p.2) : ∀ d, (stAt L gs d).length = gs.length ∧ ∀ (i : Nat) (p : Int × (Nat → Bool)) (z : Int), L[i]? = some p → (stAt L gs d)[i]? = some z → ∃ d0 : Nat, d0 ≤ d ∧ (∀ e, d0 ≤ e → e < d → p.2 e = false) ∧ z = p.1 - ((d : Int) - d0)
  | 0 => ⟨rfl, fun i p z h1 h2 => by
    have : gs[i]? = some p.1 := by rw [← hL, List.getElem?_map, h1]; rfl
    have h2' : gs[i]? = some z := h2
    rw [this] at h2'
    cases h2'
    exact ⟨0, Nat.le_refl _, fun e _ z => by omega, by simp⟩⟩
  | d + 1 => by
    obtain ⟨h1, h2⟩ := stAt_inv hL hw d
    refine ⟨by show (laterL gs (stAt L gs d) (dayAt L d)).length = _; rw [later_len]; exact h1, fun i p z e1 e2 => ?_⟩
    have hi : i < (stAt L gs d).length := by
      have e2' : (laterL gs (stAt L gs d) (dayAt L d))[i]? = some z := e2
      have := lt_of_get e2'
      rwa [later_len] at this
    obtain ⟨y, hy⟩ := get_of_len hi
    have e3 : (laterL gs (stAt L gs d) (dayAt L d))[i]? = some z := e2
    rw [later_get hy] at e3
    have eg : gs.getD i 0 = p.1 := by rw [← hL, List.getD_eq_getElem?_getD, List.getElem?_map, e1]; rfl
    by_cases c : isIn (dayAt L d) i = true
    · rw [if_pos c, eg] at e3
      cases e3
      exact ⟨d + 1, Nat.le_refl _, fun e a b => by omega, by simp⟩
    · rw [if_neg c] at e3
      cases e3
      obtain ⟨d0, a1, a2, a3⟩ := h2 i p y e1 hy
      have hf : p.2 d = false := by
        cases e : p.2 d with
        | false => rfl
        | true => exact absurd (dayAt_in.mpr ⟨p, e1, e⟩) c
      refine ⟨d0, by omega, fun e b1 b2 => ?_, by omega⟩
      by_cases ee : e = d
      · rw [ee]; exact hf
      · exact a2 e b1 (by omega)
theorem stAt_due {L : List (Int × (Nat → Bool))} (hL : L.map Prod.fst = gs) (hw : ∀ p ∈ L, Win p.1 p.2) (d : Nat) : hasDue (stAt L gs d) (dayAt L d) = true := by
  refine (due_iff _ _).mpr fun i s hs => ?_
  obtain ⟨h1, h2⟩ := stAt_inv hL hw d
  have hlen : L.length = gs.length := by rw [← hL, List.length_map]
  obtain ⟨p, hp⟩ := get_of_len (l := L) (i := i) (by rw [hlen, ← h1]; exact lt_of_get hs)
  obtain ⟨d0, a1, a2, a3⟩ := h2 i p s hp hs
  obtain ⟨e, b1, b2, b3⟩ := hw p (List.mem_of_getElem? hp) d0
  have he : ¬ e < d := fun z => by have := a2 e b1 z; rw [this] at b3; cases b3
  by_cases c : 1 < s
  · exact .inl c
  · refine .inr (dayAt_in.mpr ⟨p, hp, ?_⟩)
    have : e = d := by omega
    rw [← this]; exact b3
theorem Sched.hold (s : Sched h gs) : ¬ Lost (scS h gs) gs := by
  obtain ⟨L, hL, hw, hh⟩ := s
  have hlen : L.length = gs.length := by rw [← hL, List.length_map]
  have step : ∀ d, stAt L gs (d + 1) ∈ scS h gs (stAt L gs d) := fun d => by
    unfold scS dueL'
    exact List.mem_map_of_mem (List.mem_filter.mpr ⟨dayAt_days hlen hh d, stAt_due hL hw d⟩)
  have aux : ∀ k d, ¬ LK (scS h gs) k (stAt L gs d) := by
    intro k
    induction k with
    | zero => intro d z; exact z
    | succ k ih => intro d z; exact ih (d + 1) (z _ (step d))
  rintro ⟨k, hk⟩
  exact aux k 0 hk
theorem Sched.holdB {h : Int} {gs : List Int} (s : Sched h.toNat gs) : holdB h gs = true := lastB_iff.mpr s.hold
end
/-! ### a round, checked -/
noncomputable def comesAt (r : List (List Nat)) (i d : Nat) : Bool := (r.getD (d % r.length) []).contains i
noncomputable def roundB (h : Nat) (gs : List Int) (r : List (List Nat)) : Bool := decide (0 < r.length) && r.all (fun l => decide (l.length ≤ h)) &&
  (List.range gs.length).all fun i => (List.range r.length).all fun d => (List.range (gs.getD i 0).toNat).any fun k => comesAt r i (d + k)
theorem count_le {l : List Nat} : ∀ {m : Nat}, ((List.range m).filter fun i => l.contains i).length ≤ l.length := by
  intro m
  have hn : ((List.range m).filter fun i => l.contains i).Nodup := List.Pairwise.sublist List.filter_sublist List.nodup_range
  exact hn.length_le_of_subset fun i hi => by simpa using (List.mem_filter.mp hi).2
theorem round_sched {h : Nat} {gs : List Int} {r : List (List Nat)} (c : roundB h gs r = true) : Sched h gs := by
  unfold roundB at c
  rw [Bool.and_eq_true, Bool.and_eq_true, decide_eq_true_eq, List.all_eq_true, List.all_eq_true] at c
  obtain ⟨⟨c1, c2⟩, c3⟩ := c
  refine ⟨(List.range gs.length).map fun i => (gs.getD i 0, comesAt r i), ?_, fun p hp => ?_, fun d => ?_⟩
  · rw [List.map_map]
    refine List.ext_getElem? fun i => ?_
    rw [List.getElem?_map]
    by_cases hi : i < gs.length
    · rw [List.getElem?_range hi, List.getElem?_eq_getElem hi]
      simp [Function.comp, List.getD_eq_getElem?_getD, List.getElem?_eq_getElem hi]
    · rw [List.getElem?_eq_none (by simpa using hi), List.getElem?_eq_none (by simpa using hi)]; rfl
  · obtain ⟨i, hi, rfl⟩ := List.mem_map.mp hp
    have c4 := c3 i hi
    rw [List.all_eq_true] at c4
    intro d
    have c5 := c4 (d % r.length) (List.mem_range.mpr (Nat.mod_lt _ c1))
    rw [List.any_eq_true] at c5
    obtain ⟨k, hk, hc⟩ := c5
    have hk := List.mem_range.mp hk
    refine ⟨d + k, by omega, ?_, ?_⟩
    · show ((d + k : Nat) : Int) < d + gs.getD i 0
      omega
    · show comesAt r i (d + k) = true
      unfold comesAt at hc ⊢
      rw [Nat.mod_add_mod] at hc
      exact hc
  · rw [List.filter_map, List.length_map]
    have e : (List.range gs.length).filter ((fun p : Int × (Nat → Bool) => p.2 d) ∘ fun i => (gs.getD i 0, comesAt r i)) = (List.range gs.length).filter fun i => (r.getD (d % r.length) []).contains i := rfl
    rw [e]
    refine Nat.le_trans count_le ?_
    have hl : d % r.length < r.length := Nat.mod_lt _ c1
    have := c2 (r.getD (d % r.length) []) (by rw [List.getD_eq_getElem?_getD, List.getElem?_eq_getElem hl]; exact List.getElem_mem hl)
    simpa using this
/-! ### shares above the hands -/
noncomputable def phi : List Int → List Int → Int
  | c :: cs, s :: st => c * s + phi cs st
  | _, _ => 0
noncomputable def latR (l : List Int) : Nat → List Int → List Int → List Int
  | j, g :: gs, s :: st => (if isIn l j = true then g else s - 1) :: latR l (j + 1) gs st
  | _, _, _ => []
theorem lat_R {gs st l : List Int} (hl : st.length = gs.length) : laterL gs st l = latR l 0 gs st := by
  have aux : ∀ (j : Nat) (gs st : List Int), st.length = gs.length → ∀ i, (latR l j gs st)[i]? = st[i]?.map fun s => if isIn l (j + i) = true then gs.getD i 0 else s - 1 := by
    intro j gs
    induction gs generalizing j with
    | nil => intro st h i; cases st with | nil => rfl | cons _ _ => cases h
    | cons g gs ih =>
      intro st h i
      cases st with
      | nil => cases h
      | cons s st =>
        cases i with
        | zero => simp [latR]
        | succ i =>
          rw [latR, List.getElem?_cons_succ, ih (j + 1) st (by simpa using h) i, List.getElem?_cons_succ]
          have e : j + 1 + i = j + (i + 1) := by omega
          rw [e]
          simp
  refine List.ext_getElem? fun i => ?_
  rw [aux 0 gs st hl i]
  cases e : st[i]? with
  | none => rw [List.getElem?_eq_none]; · rfl
            rw [later_len]; exact List.getElem?_eq_none_iff.mp e
  | some s => rw [later_get e]; simp
noncomputable def cntR (l : List Int) : Nat → List Int → Int
  | j, _ :: gs => (if isIn l j = true then 1 else 0) + cntR l (j + 1) gs
  | _, [] => 0
theorem phi_lat {l : List Int} {P : Int} (hP : 0 ≤ P) : ∀ (j : Nat) (gs cs st : List Int), cs.length = gs.length → st.length = gs.length → (∀ (i : Nat) (g c s : Int), gs[i]? = some g → cs[i]? = some c → st[i]? = some s → c * g = P ∧ 0 ≤ c ∧ 1 ≤ s) → phi cs (latR l j gs st) ≤ phi cs st - cs.sum + P * cntR l j gs
  | _, [], [], [], _, _, _ => by simp [phi, latR, cntR]
  | j, g :: gs, c :: cs, s :: st, h1, h2, h3 => by
    have ih := phi_lat hP (l := l) (j + 1) gs cs st (by simpa using h1) (by simpa using h2) fun i g c s a b d => h3 (i + 1) g c s (by simpa using a) (by simpa using b) (by simpa using d)
    obtain ⟨e1, e2, e3⟩ := h3 0 g c s rfl rfl rfl
    rw [latR, phi, phi, cntR, List.sum_cons]
    by_cases hc : isIn l j = true
    · rw [if_pos hc, if_pos hc, e1, Int.mul_add, Int.mul_one]
      have : c * 1 ≤ c * s := Int.mul_le_mul_of_nonneg_left e3 e2
      omega
    · rw [if_neg hc, if_neg hc, Int.mul_sub, Int.mul_one, Int.zero_add]
      omega
  | _, _ :: _, [], _, h, _, _ => by cases h
  | _, _ :: _, _ :: _, [], _, h, _ => by cases h
  | _, [], _ :: _, _, h, _, _ => by cases h
  | _, [], [], _ :: _, _, h, _ => by cases h
theorem cnt_le {l : List Int} : ∀ (gs : List Int), cntR l 0 gs ≤ ((l.length : Nat) : Int) := by
  have aux : ∀ (gs : List Int) (j : Nat), cntR l j gs = (((List.range' j gs.length).filter fun i => isIn l i).length : Nat) := by
    intro gs
    induction gs with
    | nil => intro j; rfl
    | cons g gs ih =>
      intro j
      rw [cntR, ih (j + 1), List.length_cons, List.range'_succ, List.filter_cons]
      by_cases hc : isIn l j = true
      · rw [if_pos hc, if_pos hc, List.length_cons]; omega
      · rw [if_neg hc, if_neg hc]; omega
  intro gs
  rw [aux]
  have hn : (((List.range' 0 gs.length).filter fun i => isIn l i).map fun i => ((i : Nat) : Int)).Nodup := by
    refine List.pairwise_map.mpr (List.Pairwise.imp (fun h => ?_) (List.Pairwise.sublist List.filter_sublist (List.nodup_range' ..)))
    intro e
    omega
  have := hn.length_le_of_subset (l₂ := l) fun z hz => by
    obtain ⟨i, hi, rfl⟩ := List.mem_map.mp hz
    exact isIn_iff.mp (List.mem_filter.mp hi).2
  rw [List.length_map] at this
  omega
theorem phi_pos : ∀ (cs st : List Int), (∀ c ∈ cs, 0 ≤ c) → (∀ s ∈ st, 1 ≤ s) → 0 ≤ phi cs st
  | [], _, _, _ => by simp [phi]
  | _ :: _, [], _, _ => by simp [phi]
  | c :: cs, s :: st, h1, h2 => by
    rw [phi]
    have a := phi_pos cs st (fun c hc => h1 c (List.mem_cons_of_mem _ hc)) fun s hs => h2 s (List.mem_cons_of_mem _ hs)
    have b : 0 ≤ c * s := Int.mul_nonneg (h1 c List.mem_cons_self) (by have := h2 s List.mem_cons_self; omega)
    omega
/-- the share, times how many standings there are -/
noncomputable def bulkI (gs : List Int) : Int := (gs.map fun g => prodI gs / g).sum
theorem prod_dvd {gs : List Int} {g : Int} (h : g ∈ gs) : g ∣ prodI gs := by
  obtain ⟨i, hi⟩ := List.mem_iff_getElem?.mp h
  have e := congrArg prodI (split_at hi)
  rw [prodI_app, prodI_cons] at e
  exact ⟨prodI (gs.take i) * prodI (gs.drop (i + 1)), by rw [e, Int.mul_left_comm]⟩
theorem heavy {h : Nat} {gs : List Int} (hg : ∀ z ∈ gs, 1 ≤ z) (hb : (h : Int) * prodI gs < bulkI gs) : ∀ s ∈ boxL 1 gs, Lost (scS h gs) s := by
  have hP := prodI_pos hg
  have aux : ∀ (k : Nat) (s : St), s ∈ boxL 1 gs → phi (gs.map fun g => prodI gs / g) s ≤ (k : Int) → Lost (scS h gs) s := by
    intro k
    induction k with
    | zero =>
      intro s hs hk
      refine lost_iff.mpr fun t ht => ?_
      exfalso
      obtain ⟨h1, h2⟩ := mem_box.mp hs
      obtain ⟨l, hl, rfl⟩ := List.mem_map.mp (show t ∈ (dueL' h gs s).map (laterL gs s) from ht)
      have hd := (mem_days.mp (List.mem_filter.mp hl).1).1
      have hcs : ∀ c ∈ gs.map (fun g => prodI gs / g), 0 ≤ c := fun c hc => by
        obtain ⟨g, hg', rfl⟩ := List.mem_map.mp hc
        exact Int.ediv_nonneg (by omega) (by have := hg g hg'; omega)
      have hl1 := phi_lat (l := l) (P := prodI gs) (by omega) 0 gs (gs.map fun g => prodI gs / g) s (by rw [List.length_map]) h1 fun i g c z a b d => by
        rw [List.getElem?_map, a] at b
        cases b
        have g1 := hg g (List.mem_of_getElem? a)
        refine ⟨Int.ediv_mul_cancel (prod_dvd (List.mem_of_getElem? a)), Int.ediv_nonneg (by omega) (by omega), ?_⟩
        have := h2 i g z a d
        omega
      rw [← lat_R h1] at hl1
      have hc := cnt_le (l := l) gs
      have hmul : prodI gs * cntR l 0 gs ≤ prodI gs * (h : Int) := Int.mul_le_mul_of_nonneg_left (by omega) (by omega)
      have ht' := scS_box hs _ ht
      have hp := phi_pos (gs.map fun g => prodI gs / g) (laterL gs s l) hcs fun z hz => by
        obtain ⟨i, hi⟩ := List.mem_iff_getElem?.mp hz
        obtain ⟨a1, a2⟩ := mem_box.mp ht'
        obtain ⟨g, hgi⟩ := get_of_len (l := gs) (i := i) (by rw [← a1]; exact lt_of_get hi)
        have := a2 i g z hgi hi
        omega
      unfold bulkI at hb
      rw [Int.mul_comm] at hb
      omega
    | succ k ih =>
      intro s hs hk
      refine lost_iff.mpr fun t ht => ?_
      refine ih t (scS_box hs t ht) ?_
      obtain ⟨h1, h2⟩ := mem_box.mp hs
      obtain ⟨l, hl, rfl⟩ := List.mem_map.mp (show t ∈ (dueL' h gs s).map (laterL gs s) from ht)
      have hd := (mem_days.mp (List.mem_filter.mp hl).1).1
      have hl1 := phi_lat (l := l) (P := prodI gs) (by omega) 0 gs (gs.map fun g => prodI gs / g) s (by rw [List.length_map]) h1 fun i g c z a b d => by
        rw [List.getElem?_map, a] at b
        cases b
        have g1 := hg g (List.mem_of_getElem? a)
        refine ⟨Int.ediv_mul_cancel (prod_dvd (List.mem_of_getElem? a)), Int.ediv_nonneg (by omega) (by omega), ?_⟩
        have := h2 i g z a d
        omega
      rw [← lat_R h1] at hl1
      have hc := cnt_le (l := l) gs
      have hmul : prodI gs * cntR l 0 gs ≤ prodI gs * (h : Int) := Int.mul_le_mul_of_nonneg_left (by omega) (by omega)
      unfold bulkI at hb
      rw [Int.mul_comm] at hb
      omega
  intro s hs
  have e := Int.toNat_of_nonneg (a := max 0 (phi (gs.map fun g => prodI gs / g) s)) (by omega)
  exact aux (max 0 (phi (gs.map fun g => prodI gs / g) s)).toNat s hs (by omega)
end PL
/-! ### tables of rounds (printed by k07tab.py) -/
namespace PL
open OE PySem
noncomputable def lightT : List (List Int × List (List Nat)) := [([], [[]]),
  ([2], [[0]]),
  ([2, 3], [[0], [1]]),
  ([2, 4], [[0], [1]]),
  ([2, 4, 12], [[0], [1], [0], [2]]),
  ([2, 4, 13], [[0], [1], [0], [2]]),
  ([2, 5], [[0], [1]]),
  ([2, 5, 8], [[0], [1], [0], [2]]),
  ([2, 5, 9], [[0], [1], [0], [2]]),
  ([2, 5, 10], [[0], [1], [0], [2]]),
  ([2, 5, 11], [[0], [1], [0], [2]]),
  ([2, 5, 12], [[0], [1], [0], [2]]),
  ([2, 5, 13], [[0], [1], [0], [2]]),
  ([2, 6], [[0], [1]]),
  ([2, 6, 6], [[0], [2], [0], [1]]),
  ([2, 6, 7], [[0], [1], [0], [2]]),
  ([2, 6, 8], [[0], [1], [0], [2]]),
  ([2, 6, 9], [[0], [1], [0], [2]]),
  ([2, 6, 10], [[0], [1], [0], [2]]),
  ([2, 6, 11], [[0], [1], [0], [2]]),
  ([2, 6, 12], [[0], [1], [0], [2]]),
  ([2, 6, 13], [[0], [1], [0], [2]]),
  ([2, 7], [[0], [1]]),
  ([2, 7, 7], [[0], [2], [0], [1]]),
  ([2, 7, 8], [[0], [1], [0], [2]]),
  ([2, 7, 9], [[0], [1], [0], [2]]),
  ([2, 7, 10], [[0], [1], [0], [2]]),
  ([2, 7, 11], [[0], [1], [0], [2]]),
  ([2, 7, 12], [[0], [1], [0], [2]]),
  ([2, 7, 13], [[0], [1], [0], [2]]),
  ([2, 8], [[0], [1]]),
  ([2, 8, 8], [[0], [2], [0], [1]]),
  ([2, 8, 9], [[0], [1], [0], [2]]),
  ([2, 8, 10], [[0], [1], [0], [2]]),
  ([2, 8, 11], [[0], [1], [0], [2]]),
  ([2, 8, 12], [[0], [1], [0], [2]]),
  ([2, 8, 13], [[0], [1], [0], [2]]),
  ([2, 9], [[0], [1]]),
  ([2, 9, 9], [[0], [2], [0], [1]]),
  ([2, 9, 10], [[0], [1], [0], [2]]),
  ([2, 9, 11], [[0], [1], [0], [2]]),
  ([2, 9, 12], [[0], [1], [0], [2]]),
  ([2, 9, 13], [[0], [1], [0], [2]]),
  ([2, 10], [[0], [1]]),
  ([2, 10, 10], [[0], [2], [0], [1]]),
  ([2, 10, 11], [[0], [1], [0], [2]]),
  ([2, 10, 12], [[0], [1], [0], [2]]),
  ([2, 11], [[0], [1]]),
  ([2, 12], [[0], [1]]),
  ([2, 13], [[0], [1]]),
  ([3], [[0]]),
  ([3, 3], [[1], [0]]),
  ([3, 3, 6], [[0], [1], [2]]),
  ([3, 3, 7], [[0], [1], [2]]),
  ([3, 3, 8], [[0], [1], [2]]),
  ([3, 3, 9], [[0], [1], [2]]),
  ([3, 3, 10], [[0], [1], [2]]),
  ([3, 3, 11], [[0], [1], [2]]),
  ([3, 3, 12], [[0], [1], [2]]),
  ([3, 3, 13], [[0], [1], [2]]),
  ([3, 4], [[0], [1]]),
  ([3, 4, 4], [[0], [2], [1]]),
  ([3, 4, 5], [[0], [1], [2]]),
  ([3, 4, 6], [[0], [1], [2]]),
  ([3, 4, 7], [[0], [1], [2]]),
  ([3, 4, 8], [[0], [1], [2]]),
  ([3, 4, 9], [[0], [1], [2]]),
  ([3, 4, 10], [[0], [1], [2]]),
  ([3, 4, 11], [[0], [1], [2]]),
  ([3, 4, 12], [[0], [1], [2]]),
  ([3, 4, 13], [[0], [1], [2]]),
  ([3, 5], [[0], [1]]),
  ([3, 5, 5], [[0], [2], [1]]),
  ([3, 5, 6], [[0], [1], [2]]),
  ([3, 5, 7], [[0], [1], [2]]),
  ([3, 5, 8], [[0], [1], [2]]),
  ([3, 5, 9], [[0], [1], [2]]),
  ([3, 5, 10], [[0], [1], [2]]),
  ([3, 5, 11], [[0], [1], [2]]),
  ([3, 5, 12], [[0], [1], [2]]),
  ([3, 5, 13], [[0], [1], [2]]),
  ([3, 6], [[0], [1]]),
  ([3, 6, 6], [[0], [2], [1]]),
  ([3, 6, 7], [[0], [1], [2]]),
  ([3, 6, 8], [[0], [1], [2]]),
  ([3, 6, 9], [[0], [1], [2]]),
  ([3, 6, 10], [[0], [1], [2]]),
  ([3, 6, 11], [[0], [1], [2]]),
  ([3, 6, 12], [[0], [1], [2]]),
  ([3, 6, 13], [[0], [1], [2]]),
  ([3, 7], [[0], [1]]),
  ([3, 7, 7], [[0], [2], [1]]),
  ([3, 7, 8], [[0], [1], [2]]),
  ([3, 7, 9], [[0], [1], [2]]),
  ([3, 7, 10], [[0], [1], [2]]),
  ([3, 7, 11], [[0], [1], [2]]),
  ([3, 8], [[0], [1]]),
  ([3, 8, 8], [[0], [2], [1]]),
  ([3, 8, 9], [[0], [1], [2]]),
  ([3, 8, 10], [[0], [1], [2]]),
  ([3, 9], [[0], [1]]),
  ([3, 10], [[0], [1]]),
  ([3, 11], [[0], [1]]),
  ([3, 12], [[0], [1]]),
  ([3, 13], [[0], [1]]),
  ([4], [[0]]),
  ([4, 4], [[1], [0]]),
  ([4, 4, 4], [[1], [2], [0]]),
  ([4, 4, 5], [[0], [1], [2]]),
  ([4, 4, 6], [[0], [1], [2]]),
  ([4, 4, 7], [[0], [1], [2]]),
  ([4, 4, 8], [[0], [1], [2]]),
  ([4, 4, 9], [[0], [1], [2]]),
  ([4, 4, 10], [[0], [1], [2]]),
  ([4, 4, 11], [[0], [1], [2]]),
  ([4, 4, 12], [[0], [1], [2]]),
  ([4, 4, 13], [[0], [1], [2]]),
  ([4, 5], [[0], [1]]),
  ([4, 5, 5], [[0], [2], [1]]),
  ([4, 5, 6], [[0], [1], [2]]),
  ([4, 5, 7], [[0], [1], [2]]),
  ([4, 5, 8], [[0], [1], [2]]),
  ([4, 5, 9], [[0], [1], [2]]),
  ([4, 5, 10], [[0], [1], [2]]),
  ([4, 5, 11], [[0], [1], [2]]),
  ([4, 5, 12], [[0], [1], [2]]),
  ([4, 6], [[0], [1]]),
  ([4, 6, 6], [[0], [2], [1]]),
  ([4, 6, 7], [[0], [1], [2]]),
  ([4, 6, 8], [[0], [1], [2]]),
  ([4, 6, 9], [[0], [1], [2]]),
  ([4, 6, 10], [[0], [1], [2]]),
  ([4, 7], [[0], [1]]),
  ([4, 7, 7], [[0], [2], [1]]),
  ([4, 7, 8], [[0], [1], [2]]),
  ([4, 8], [[0], [1]]),
  ([4, 9], [[0], [1]]),
  ([4, 10], [[0], [1]]),
  ([4, 11], [[0], [1]]),
  ([4, 12], [[0], [1]]),
  ([4, 13], [[0], [1]]),
  ([5], [[0]]),
  ([5, 5], [[1], [0]]),
  ([5, 5, 5], [[1], [2], [0]]),
  ([5, 5, 6], [[0], [1], [2]]),
  ([5, 5, 7], [[0], [1], [2]]),
  ([5, 5, 8], [[0], [1], [2]]),
  ([5, 5, 9], [[0], [1], [2]]),
  ([5, 6], [[0], [1]]),
  ([5, 6, 6], [[0], [2], [1]]),
  ([5, 6, 7], [[0], [1], [2]]),
  ([5, 6, 8], [[0], [1], [2]]),
  ([5, 7], [[0], [1]]),
  ([5, 8], [[0], [1]]),
  ([5, 9], [[0], [1]]),
  ([5, 10], [[0], [1]]),
  ([5, 11], [[0], [1]]),
  ([5, 12], [[0], [1]]),
  ([5, 13], [[0], [1]]),
  ([6], [[0]]),
  ([6, 6], [[1], [0]]),
  ([6, 6, 6], [[1], [2], [0]]),
  ([6, 7], [[0], [1]]),
  ([6, 8], [[0], [1]]),
  ([6, 9], [[0], [1]]),
  ([6, 10], [[0], [1]]),
  ([6, 11], [[0], [1]]),
  ([6, 12], [[0], [1]]),
  ([6, 13], [[0], [1]]),
  ([7], [[0]]),
  ([7, 7], [[1], [0]]),
  ([7, 8], [[0], [1]]),
  ([7, 9], [[0], [1]]),
  ([7, 10], [[0], [1]]),
  ([7, 11], [[0], [1]]),
  ([7, 12], [[0], [1]]),
  ([7, 13], [[0], [1]]),
  ([8], [[0]]),
  ([8, 8], [[1], [0]]),
  ([8, 9], [[0], [1]]),
  ([8, 10], [[0], [1]]),
  ([8, 11], [[0], [1]]),
  ([8, 12], [[0], [1]]),
  ([8, 13], [[0], [1]]),
  ([9], [[0]]),
  ([9, 9], [[1], [0]]),
  ([9, 10], [[0], [1]]),
  ([9, 11], [[0], [1]]),
  ([9, 12], [[0], [1]]),
  ([9, 13], [[0], [1]]),
  ([10], [[0]]),
  ([10, 10], [[1], [0]]),
  ([10, 11], [[0], [1]]),
  ([10, 12], [[0], [1]]),
  ([10, 13], [[0], [1]]),
  ([11], [[0]]),
  ([11, 11], [[1], [0]]),
  ([11, 12], [[0], [1]]),
  ([11, 13], [[0], [1]]),
  ([12], [[0]]),
  ([12, 12], [[1], [0]]),
  ([12, 13], [[0], [1]]),
  ([13], [[0]]),
  ([13, 13], [[1], [0]])]
noncomputable def evenT1 : List (List Int × List (List Nat)) := [([], [[]]),
  ([1], [[0]]),
  ([2], [[0]]),
  ([2, 2], [[1], [0]]),
  ([2, 4], [[0], [1]]),
  ([2, 4, 4], [[0], [2], [0], [1]]),
  ([2, 4, 8], [[0], [1], [0], [2]]),
  ([2, 4, 12], [[0], [1], [0], [2]]),
  ([2, 6], [[0], [1]]),
  ([2, 6, 6], [[0], [2], [0], [1]]),
  ([2, 8], [[0], [1]]),
  ([2, 10], [[0], [1]]),
  ([2, 12], [[0], [1]]),
  ([2, 14], [[0], [1]]),
  ([2, 16], [[0], [1]]),
  ([2, 18], [[0], [1]]),
  ([2, 20], [[0], [1]]),
  ([2, 22], [[0], [1]]),
  ([2, 24], [[0], [1]]),
  ([2, 26], [[0], [1]]),
  ([2, 28], [[0], [1]]),
  ([2, 30], [[0], [1]]),
  ([2, 32], [[0], [1]]),
  ([2, 34], [[0], [1]]),
  ([2, 36], [[0], [1]]),
  ([2, 38], [[0], [1]]),
  ([2, 40], [[0], [1]]),
  ([2, 42], [[0], [1]]),
  ([2, 44], [[0], [1]]),
  ([2, 46], [[0], [1]]),
  ([2, 48], [[0], [1]]),
  ([2, 50], [[0], [1]]),
  ([3], [[0]]),
  ([3, 3], [[1], [0]]),
  ([3, 3, 3], [[1], [2], [0]]),
  ([3, 3, 6], [[0], [1], [2]]),
  ([3, 3, 9], [[0], [1], [2]]),
  ([3, 6], [[0], [1]]),
  ([3, 9], [[0], [1]]),
  ([3, 12], [[0], [1]]),
  ([3, 15], [[0], [1]]),
  ([3, 18], [[0], [1]]),
  ([3, 21], [[0], [1]]),
  ([3, 24], [[0], [1]]),
  ([3, 27], [[0], [1]]),
  ([3, 30], [[0], [1]]),
  ([3, 33], [[0], [1]]),
  ([4], [[0]]),
  ([4, 4], [[1], [0]]),
  ([4, 4, 4], [[1], [2], [0]]),
  ([4, 8], [[0], [1]]),
  ([4, 12], [[0], [1]]),
  ([4, 16], [[0], [1]]),
  ([4, 20], [[0], [1]]),
  ([4, 24], [[0], [1]]),
  ([5], [[0]]),
  ([5, 5], [[1], [0]]),
  ([5, 10], [[0], [1]]),
  ([5, 15], [[0], [1]]),
  ([5, 20], [[0], [1]]),
  ([6], [[0]]),
  ([6, 6], [[1], [0]]),
  ([6, 12], [[0], [1]]),
  ([7], [[0]]),
  ([7, 7], [[1], [0]]),
  ([7, 14], [[0], [1]]),
  ([8], [[0]]),
  ([8, 8], [[1], [0]]),
  ([9], [[0]]),
  ([9, 9], [[1], [0]]),
  ([10], [[0]]),
  ([10, 10], [[1], [0]]),
  ([11], [[0]]),
  ([12], [[0]]),
  ([13], [[0]]),
  ([14], [[0]]),
  ([15], [[0]]),
  ([16], [[0]]),
  ([17], [[0]]),
  ([18], [[0]]),
  ([19], [[0]]),
  ([20], [[0]]),
  ([21], [[0]]),
  ([22], [[0]]),
  ([23], [[0]]),
  ([24], [[0]]),
  ([25], [[0]]),
  ([26], [[0]]),
  ([27], [[0]]),
  ([28], [[0]]),
  ([29], [[0]]),
  ([30], [[0]]),
  ([31], [[0]]),
  ([32], [[0]]),
  ([33], [[0]]),
  ([34], [[0]]),
  ([35], [[0]]),
  ([36], [[0]]),
  ([37], [[0]]),
  ([38], [[0]]),
  ([39], [[0]]),
  ([40], [[0]]),
  ([41], [[0]]),
  ([42], [[0]]),
  ([43], [[0]]),
  ([44], [[0]]),
  ([45], [[0]]),
  ([46], [[0]]),
  ([47], [[0]]),
  ([48], [[0]]),
  ([49], [[0]]),
  ([50], [[0]]),
  ([51], [[0]]),
  ([52], [[0]]),
  ([53], [[0]]),
  ([54], [[0]]),
  ([55], [[0]]),
  ([56], [[0]]),
  ([57], [[0]]),
  ([58], [[0]]),
  ([59], [[0]]),
  ([60], [[0]]),
  ([61], [[0]]),
  ([62], [[0]]),
  ([63], [[0]]),
  ([64], [[0]]),
  ([65], [[0]]),
  ([66], [[0]]),
  ([67], [[0]]),
  ([68], [[0]]),
  ([69], [[0]]),
  ([70], [[0]]),
  ([71], [[0]]),
  ([72], [[0]]),
  ([73], [[0]]),
  ([74], [[0]]),
  ([75], [[0]]),
  ([76], [[0]]),
  ([77], [[0]]),
  ([78], [[0]]),
  ([79], [[0]]),
  ([80], [[0]]),
  ([81], [[0]]),
  ([82], [[0]]),
  ([83], [[0]]),
  ([84], [[0]]),
  ([85], [[0]]),
  ([86], [[0]]),
  ([87], [[0]]),
  ([88], [[0]]),
  ([89], [[0]]),
  ([90], [[0]]),
  ([91], [[0]]),
  ([92], [[0]]),
  ([93], [[0]]),
  ([94], [[0]]),
  ([95], [[0]]),
  ([96], [[0]]),
  ([97], [[0]]),
  ([98], [[0]]),
  ([99], [[0]]),
  ([100], [[0]])]
noncomputable def evenT2 : List (List Int × List (List Nat)) := [([], [[]]),
  ([1], [[0]]),
  ([1, 1], [[0, 1]]),
  ([1, 2], [[0, 1]]),
  ([1, 2, 2], [[0, 2], [0, 1]]),
  ([1, 2, 4], [[0, 1], [0, 2]]),
  ([1, 2, 4, 4], [[0, 1], [0, 3], [0, 1], [0, 2]]),
  ([1, 2, 4, 8], [[0, 1], [0, 2], [0, 1], [0, 3]]),
  ([1, 2, 4, 12], [[0, 1], [0, 2], [0, 1], [0, 3]]),
  ([1, 2, 6], [[0, 1], [0, 2]]),
  ([1, 2, 6, 6], [[0, 1], [0, 3], [0, 1], [0, 2]]),
  ([1, 2, 8], [[0, 1], [0, 2]]),
  ([1, 2, 10], [[0, 1], [0, 2]]),
  ([1, 2, 12], [[0, 1], [0, 2]]),
  ([1, 2, 14], [[0, 1], [0, 2]]),
  ([1, 2, 16], [[0, 1], [0, 2]]),
  ([1, 2, 18], [[0, 1], [0, 2]]),
  ([1, 2, 20], [[0, 1], [0, 2]]),
  ([1, 2, 22], [[0, 1], [0, 2]]),
  ([1, 2, 24], [[0, 1], [0, 2]]),
  ([1, 2, 26], [[0, 1], [0, 2]]),
  ([1, 2, 28], [[0, 1], [0, 2]]),
  ([1, 2, 30], [[0, 1], [0, 2]]),
  ([1, 2, 32], [[0, 1], [0, 2]]),
  ([1, 2, 34], [[0, 1], [0, 2]]),
  ([1, 2, 36], [[0, 1], [0, 2]]),
  ([1, 2, 38], [[0, 1], [0, 2]]),
  ([1, 2, 40], [[0, 1], [0, 2]]),
  ([1, 2, 42], [[0, 1], [0, 2]]),
  ([1, 2, 44], [[0, 1], [0, 2]]),
  ([1, 2, 46], [[0, 1], [0, 2]]),
  ([1, 2, 48], [[0, 1], [0, 2]]),
  ([1, 2, 50], [[0, 1], [0, 2]]),
  ([1, 3], [[0, 1]]),
  ([1, 3, 3], [[0, 2], [0, 1]]),
  ([1, 3, 3, 3], [[0, 2], [0, 3], [0, 1]]),
  ([1, 3, 3, 6], [[0, 1], [0, 2], [0, 3]]),
  ([1, 3, 3, 9], [[0, 1], [0, 2], [0, 3]]),
  ([1, 3, 6], [[0, 1], [0, 2]]),
  ([1, 3, 9], [[0, 1], [0, 2]]),
  ([1, 3, 12], [[0, 1], [0, 2]]),
  ([1, 3, 15], [[0, 1], [0, 2]]),
  ([1, 3, 18], [[0, 1], [0, 2]]),
  ([1, 3, 21], [[0, 1], [0, 2]]),
  ([1, 3, 24], [[0, 1], [0, 2]]),
  ([1, 3, 27], [[0, 1], [0, 2]]),
  ([1, 3, 30], [[0, 1], [0, 2]]),
  ([1, 3, 33], [[0, 1], [0, 2]]),
  ([1, 4], [[0, 1]]),
  ([1, 4, 4], [[0, 2], [0, 1]]),
  ([1, 4, 4, 4], [[0, 2], [0, 3], [0, 1]]),
  ([1, 4, 8], [[0, 1], [0, 2]]),
  ([1, 4, 12], [[0, 1], [0, 2]]),
  ([1, 4, 16], [[0, 1], [0, 2]]),
  ([1, 4, 20], [[0, 1], [0, 2]]),
  ([1, 4, 24], [[0, 1], [0, 2]]),
  ([1, 5], [[0, 1]]),
  ([1, 5, 5], [[0, 2], [0, 1]]),
  ([1, 5, 10], [[0, 1], [0, 2]]),
  ([1, 5, 15], [[0, 1], [0, 2]]),
  ([1, 5, 20], [[0, 1], [0, 2]]),
  ([1, 6], [[0, 1]]),
  ([1, 6, 6], [[0, 2], [0, 1]]),
  ([1, 6, 12], [[0, 1], [0, 2]]),
  ([1, 7], [[0, 1]]),
  ([1, 7, 7], [[0, 2], [0, 1]]),
  ([1, 7, 14], [[0, 1], [0, 2]]),
  ([1, 8], [[0, 1]]),
  ([1, 8, 8], [[0, 2], [0, 1]]),
  ([1, 9], [[0, 1]]),
  ([1, 9, 9], [[0, 2], [0, 1]]),
  ([1, 10], [[0, 1]]),
  ([1, 10, 10], [[0, 2], [0, 1]]),
  ([1, 11], [[0, 1]]),
  ([1, 12], [[0, 1]]),
  ([1, 13], [[0, 1]]),
  ([1, 14], [[0, 1]]),
  ([1, 15], [[0, 1]]),
  ([1, 16], [[0, 1]]),
  ([1, 17], [[0, 1]]),
  ([1, 18], [[0, 1]]),
  ([1, 19], [[0, 1]]),
  ([1, 20], [[0, 1]]),
  ([1, 21], [[0, 1]]),
  ([1, 22], [[0, 1]]),
  ([1, 23], [[0, 1]]),
  ([1, 24], [[0, 1]]),
  ([1, 25], [[0, 1]]),
  ([1, 26], [[0, 1]]),
  ([1, 27], [[0, 1]]),
  ([1, 28], [[0, 1]]),
  ([1, 29], [[0, 1]]),
  ([1, 30], [[0, 1]]),
  ([1, 31], [[0, 1]]),
  ([1, 32], [[0, 1]]),
  ([1, 33], [[0, 1]]),
  ([1, 34], [[0, 1]]),
  ([1, 35], [[0, 1]]),
  ([1, 36], [[0, 1]]),
  ([1, 37], [[0, 1]]),
  ([1, 38], [[0, 1]]),
  ([1, 39], [[0, 1]]),
  ([1, 40], [[0, 1]]),
  ([1, 41], [[0, 1]]),
  ([1, 42], [[0, 1]]),
  ([1, 43], [[0, 1]]),
  ([1, 44], [[0, 1]]),
  ([1, 45], [[0, 1]]),
  ([1, 46], [[0, 1]]),
  ([1, 47], [[0, 1]]),
  ([1, 48], [[0, 1]]),
  ([1, 49], [[0, 1]]),
  ([1, 50], [[0, 1]]),
  ([1, 51], [[0, 1]]),
  ([1, 52], [[0, 1]]),
  ([1, 53], [[0, 1]]),
  ([1, 54], [[0, 1]]),
  ([1, 55], [[0, 1]]),
  ([1, 56], [[0, 1]]),
  ([1, 57], [[0, 1]]),
  ([1, 58], [[0, 1]]),
  ([1, 59], [[0, 1]]),
  ([1, 60], [[0, 1]]),
  ([1, 61], [[0, 1]]),
  ([1, 62], [[0, 1]]),
  ([1, 63], [[0, 1]]),
  ([1, 64], [[0, 1]]),
  ([1, 65], [[0, 1]]),
  ([1, 66], [[0, 1]]),
  ([1, 67], [[0, 1]]),
  ([1, 68], [[0, 1]]),
  ([1, 69], [[0, 1]]),
  ([1, 70], [[0, 1]]),
  ([1, 71], [[0, 1]]),
  ([1, 72], [[0, 1]]),
  ([1, 73], [[0, 1]]),
  ([1, 74], [[0, 1]]),
  ([1, 75], [[0, 1]]),
  ([1, 76], [[0, 1]]),
  ([1, 77], [[0, 1]]),
  ([1, 78], [[0, 1]]),
  ([1, 79], [[0, 1]]),
  ([1, 80], [[0, 1]]),
  ([1, 81], [[0, 1]]),
  ([1, 82], [[0, 1]]),
  ([1, 83], [[0, 1]]),
  ([1, 84], [[0, 1]]),
  ([1, 85], [[0, 1]]),
  ([1, 86], [[0, 1]]),
  ([1, 87], [[0, 1]]),
  ([1, 88], [[0, 1]]),
  ([1, 89], [[0, 1]]),
  ([1, 90], [[0, 1]]),
  ([1, 91], [[0, 1]]),
  ([1, 92], [[0, 1]]),
  ([1, 93], [[0, 1]]),
  ([1, 94], [[0, 1]]),
  ([1, 95], [[0, 1]]),
  ([1, 96], [[0, 1]]),
  ([1, 97], [[0, 1]]),
  ([1, 98], [[0, 1]]),
  ([1, 99], [[0, 1]]),
  ([1, 100], [[0, 1]]),
  ([2], [[0]]),
  ([2, 2], [[0, 1]]),
  ([2, 2, 2], [[1, 2], [0]]),
  ([2, 2, 2, 2], [[1, 2], [0, 3]]),
  ([2, 2, 2, 4], [[0, 1], [2, 3]]),
  ([2, 2, 2, 6], [[0, 1], [2, 3]]),
  ([2, 2, 2, 8], [[0, 1], [2, 3]]),
  ([2, 2, 2, 10], [[0, 1], [2, 3]]),
  ([2, 2, 2, 12], [[0, 1], [2, 3]]),
  ([2, 2, 4], [[0, 1], [2]]),
  ([2, 2, 4, 4], [[0, 1], [2, 3]]),
  ([2, 2, 6], [[0, 1], [2]]),
  ([2, 2, 8], [[0, 1], [2]]),
  ([2, 2, 10], [[0, 1], [2]]),
  ([2, 2, 12], [[0, 1], [2]]),
  ([2, 2, 14], [[0, 1], [2]]),
  ([2, 2, 16], [[0, 1], [2]]),
  ([2, 2, 18], [[0, 1], [2]]),
  ([2, 2, 20], [[0, 1], [2]]),
  ([2, 2, 22], [[0, 1], [2]]),
  ([2, 2, 24], [[0, 1], [2]]),
  ([2, 4], [[0, 1]]),
  ([2, 4, 4], [[0, 2], [1]]),
  ([2, 4, 8], [[0, 1], [2]]),
  ([2, 4, 12], [[0, 1], [2]]),
  ([2, 6], [[0, 1]]),
  ([2, 6, 6], [[0, 2], [1]]),
  ([2, 8], [[0, 1]]),
  ([2, 10], [[0, 1]]),
  ([2, 12], [[0, 1]]),
  ([2, 14], [[0, 1]]),
  ([2, 16], [[0, 1]]),
  ([2, 18], [[0, 1]]),
  ([2, 20], [[0, 1]]),
  ([2, 22], [[0, 1]]),
  ([2, 24], [[0, 1]]),
  ([2, 26], [[0, 1]]),
  ([2, 28], [[0, 1]]),
  ([2, 30], [[0, 1]]),
  ([2, 32], [[0, 1]]),
  ([2, 34], [[0, 1]]),
  ([2, 36], [[0, 1]]),
  ([2, 38], [[0, 1]]),
  ([2, 40], [[0, 1]]),
  ([2, 42], [[0, 1]]),
  ([2, 44], [[0, 1]]),
  ([2, 46], [[0, 1]]),
  ([2, 48], [[0, 1]]),
  ([2, 50], [[0, 1]]),
  ([3], [[0]]),
  ([3, 3], [[0, 1]]),
  ([3, 3, 3], [[1, 2], [0]]),
  ([3, 3, 3, 3], [[1, 2], [0, 3]]),
  ([3, 3, 6], [[0, 1], [2]]),
  ([3, 3, 9], [[0, 1], [2]]),
  ([3, 6], [[0, 1]]),
  ([3, 9], [[0, 1]]),
  ([3, 12], [[0, 1]]),
  ([3, 15], [[0, 1]]),
  ([3, 18], [[0, 1]]),
  ([3, 21], [[0, 1]]),
  ([3, 24], [[0, 1]]),
  ([3, 27], [[0, 1]]),
  ([3, 30], [[0, 1]]),
  ([3, 33], [[0, 1]]),
  ([4], [[0]]),
  ([4, 4], [[0, 1]]),
  ([4, 4, 4], [[1, 2], [0]]),
  ([4, 8], [[0, 1]]),
  ([4, 12], [[0, 1]]),
  ([4, 16], [[0, 1]]),
  ([4, 20], [[0, 1]]),
  ([4, 24], [[0, 1]]),
  ([5], [[0]]),
  ([5, 5], [[0, 1]]),
  ([5, 10], [[0, 1]]),
  ([5, 15], [[0, 1]]),
  ([5, 20], [[0, 1]]),
  ([6], [[0]]),
  ([6, 6], [[0, 1]]),
  ([6, 12], [[0, 1]]),
  ([7], [[0]]),
  ([7, 7], [[0, 1]]),
  ([7, 14], [[0, 1]]),
  ([8], [[0]]),
  ([8, 8], [[0, 1]]),
  ([9], [[0]]),
  ([9, 9], [[0, 1]]),
  ([10], [[0]]),
  ([10, 10], [[0, 1]]),
  ([11], [[0]]),
  ([12], [[0]]),
  ([13], [[0]]),
  ([14], [[0]]),
  ([15], [[0]]),
  ([16], [[0]]),
  ([17], [[0]]),
  ([18], [[0]]),
  ([19], [[0]]),
  ([20], [[0]]),
  ([21], [[0]]),
  ([22], [[0]]),
  ([23], [[0]]),
  ([24], [[0]]),
  ([25], [[0]]),
  ([26], [[0]]),
  ([27], [[0]]),
  ([28], [[0]]),
  ([29], [[0]]),
  ([30], [[0]]),
  ([31], [[0]]),
  ([32], [[0]]),
  ([33], [[0]]),
  ([34], [[0]]),
  ([35], [[0]]),
  ([36], [[0]]),
  ([37], [[0]]),
  ([38], [[0]]),
  ([39], [[0]]),
  ([40], [[0]]),
  ([41], [[0]]),
  ([42], [[0]]),
  ([43], [[0]]),
  ([44], [[0]]),
  ([45], [[0]]),
  ([46], [[0]]),
  ([47], [[0]]),
  ([48], [[0]]),
  ([49], [[0]]),
  ([50], [[0]]),
  ([51], [[0]]),
  ([52], [[0]]),
  ([53], [[0]]),
  ([54], [[0]]),
  ([55], [[0]]),
  ([56], [[0]]),
  ([57], [[0]]),
  ([58], [[0]]),
  ([59], [[0]]),
  ([60], [[0]]),
  ([61], [[0]]),
  ([62], [[0]]),
  ([63], [[0]]),
  ([64], [[0]]),
  ([65], [[0]]),
  ([66], [[0]]),
  ([67], [[0]]),
  ([68], [[0]]),
  ([69], [[0]]),
  ([70], [[0]]),
  ([71], [[0]]),
  ([72], [[0]]),
  ([73], [[0]]),
  ([74], [[0]]),
  ([75], [[0]]),
  ([76], [[0]]),
  ([77], [[0]]),
  ([78], [[0]]),
  ([79], [[0]]),
  ([80], [[0]]),
  ([81], [[0]]),
  ([82], [[0]]),
  ([83], [[0]]),
  ([84], [[0]]),
  ([85], [[0]]),
  ([86], [[0]]),
  ([87], [[0]]),
  ([88], [[0]]),
  ([89], [[0]]),
  ([90], [[0]]),
  ([91], [[0]]),
  ([92], [[0]]),
  ([93], [[0]]),
  ([94], [[0]]),
  ([95], [[0]]),
  ([96], [[0]]),
  ([97], [[0]]),
  ([98], [[0]]),
  ([99], [[0]]),
  ([100], [[0]])]
noncomputable def evenT3 : List (List Int × List (List Nat)) := [([], [[]]),
  ([1], [[0]]),
  ([1, 1], [[0, 1]]),
  ([1, 1, 1], [[0, 1, 2]]),
  ([1, 1, 2], [[0, 1, 2]]),
  ([1, 1, 2, 2], [[0, 1, 3], [0, 1, 2]]),
  ([1, 1, 2, 4], [[0, 1, 2], [0, 1, 3]]),
  ([1, 1, 2, 4, 4], [[0, 1, 2], [0, 1, 4], [0, 1, 2], [0, 1, 3]]),
  ([1, 1, 2, 4, 8], [[0, 1, 2], [0, 1, 3], [0, 1, 2], [0, 1, 4]]),
  ([1, 1, 2, 4, 12], [[0, 1, 2], [0, 1, 3], [0, 1, 2], [0, 1, 4]]),
  ([1, 1, 2, 6], [[0, 1, 2], [0, 1, 3]]),
  ([1, 1, 2, 6, 6], [[0, 1, 2], [0, 1, 4], [0, 1, 2], [0, 1, 3]]),
  ([1, 1, 2, 8], [[0, 1, 2], [0, 1, 3]]),
  ([1, 1, 2, 10], [[0, 1, 2], [0, 1, 3]]),
  ([1, 1, 2, 12], [[0, 1, 2], [0, 1, 3]]),
  ([1, 1, 2, 14], [[0, 1, 2], [0, 1, 3]]),
  ([1, 1, 2, 16], [[0, 1, 2], [0, 1, 3]]),
  ([1, 1, 2, 18], [[0, 1, 2], [0, 1, 3]]),
  ([1, 1, 2, 20], [[0, 1, 2], [0, 1, 3]]),
  ([1, 1, 2, 22], [[0, 1, 2], [0, 1, 3]]),
  ([1, 1, 2, 24], [[0, 1, 2], [0, 1, 3]]),
  ([1, 1, 2, 26], [[0, 1, 2], [0, 1, 3]]),
  ([1, 1, 2, 28], [[0, 1, 2], [0, 1, 3]]),
  ([1, 1, 2, 30], [[0, 1, 2], [0, 1, 3]]),
  ([1, 1, 2, 32], [[0, 1, 2], [0, 1, 3]]),
  ([1, 1, 2, 34], [[0, 1, 2], [0, 1, 3]]),
  ([1, 1, 2, 36], [[0, 1, 2], [0, 1, 3]]),
  ([1, 1, 2, 38], [[0, 1, 2], [0, 1, 3]]),
  ([1, 1, 2, 40], [[0, 1, 2], [0, 1, 3]]),
  ([1, 1, 2, 42], [[0, 1, 2], [0, 1, 3]]),
  ([1, 1, 2, 44], [[0, 1, 2], [0, 1, 3]]),
  ([1, 1, 2, 46], [[0, 1, 2], [0, 1, 3]]),
  ([1, 1, 2, 48], [[0, 1, 2], [0, 1, 3]]),
  ([1, 1, 2, 50], [[0, 1, 2], [0, 1, 3]]),
  ([1, 1, 3], [[0, 1, 2]]),
  ([1, 1, 3, 3], [[0, 1, 3], [0, 1, 2]]),
  ([1, 1, 3, 3, 3], [[0, 1, 3], [0, 1, 4], [0, 1, 2]]),
  ([1, 1, 3, 3, 6], [[0, 1, 2], [0, 1, 3], [0, 1, 4]]),
  ([1, 1, 3, 3, 9], [[0, 1, 2], [0, 1, 3], [0, 1, 4]]),
  ([1, 1, 3, 6], [[0, 1, 2], [0, 1, 3]]),
  ([1, 1, 3, 9], [[0, 1, 2], [0, 1, 3]]),
  ([1, 1, 3, 12], [[0, 1, 2], [0, 1, 3]]),
  ([1, 1, 3, 15], [[0, 1, 2], [0, 1, 3]]),
  ([1, 1, 3, 18], [[0, 1, 2], [0, 1, 3]]),
  ([1, 1, 3, 21], [[0, 1, 2], [0, 1, 3]]),
  ([1, 1, 3, 24], [[0, 1, 2], [0, 1, 3]]),
  ([1, 1, 3, 27], [[0, 1, 2], [0, 1, 3]]),
  ([1, 1, 3, 30], [[0, 1, 2], [0, 1, 3]]),
  ([1, 1, 3, 33], [[0, 1, 2], [0, 1, 3]]),
  ([1, 1, 4], [[0, 1, 2]]),
  ([1, 1, 4, 4], [[0, 1, 3], [0, 1, 2]]),
  ([1, 1, 4, 4, 4], [[0, 1, 3], [0, 1, 4], [0, 1, 2]]),
  ([1, 1, 4, 8], [[0, 1, 2], [0, 1, 3]]),
  ([1, 1, 4, 12], [[0, 1, 2], [0, 1, 3]]),
  ([1, 1, 4, 16], [[0, 1, 2], [0, 1, 3]]),
  ([1, 1, 4, 20], [[0, 1, 2], [0, 1, 3]]),
  ([1, 1, 4, 24], [[0, 1, 2], [0, 1, 3]]),
  ([1, 1, 5], [[0, 1, 2]]),
  ([1, 1, 5, 5], [[0, 1, 3], [0, 1, 2]]),
  ([1, 1, 5, 10], [[0, 1, 2], [0, 1, 3]]),
  ([1, 1, 5, 15], [[0, 1, 2], [0, 1, 3]]),
  ([1, 1, 5, 20], [[0, 1, 2], [0, 1, 3]]),
  ([1, 1, 6], [[0, 1, 2]]),
  ([1, 1, 6, 6], [[0, 1, 3], [0, 1, 2]]),
  ([1, 1, 6, 12], [[0, 1, 2], [0, 1, 3]]),
  ([1, 1, 7], [[0, 1, 2]]),
  ([1, 1, 7, 7], [[0, 1, 3], [0, 1, 2]]),
  ([1, 1, 7, 14], [[0, 1, 2], [0, 1, 3]]),
  ([1, 1, 8], [[0, 1, 2]]),
  ([1, 1, 8, 8], [[0, 1, 3], [0, 1, 2]]),
  ([1, 1, 9], [[0, 1, 2]]),
  ([1, 1, 9, 9], [[0, 1, 3], [0, 1, 2]]),
  ([1, 1, 10], [[0, 1, 2]]),
  ([1, 1, 10, 10], [[0, 1, 3], [0, 1, 2]]),
  ([1, 1, 11], [[0, 1, 2]]),
  ([1, 1, 12], [[0, 1, 2]]),
  ([1, 1, 13], [[0, 1, 2]]),
  ([1, 1, 14], [[0, 1, 2]]),
  ([1, 1, 15], [[0, 1, 2]]),
  ([1, 1, 16], [[0, 1, 2]]),
  ([1, 1, 17], [[0, 1, 2]]),
  ([1, 1, 18], [[0, 1, 2]]),
  ([1, 1, 19], [[0, 1, 2]]),
  ([1, 1, 20], [[0, 1, 2]]),
  ([1, 1, 21], [[0, 1, 2]]),
  ([1, 1, 22], [[0, 1, 2]]),
  ([1, 1, 23], [[0, 1, 2]]),
  ([1, 1, 24], [[0, 1, 2]]),
  ([1, 1, 25], [[0, 1, 2]]),
  ([1, 1, 26], [[0, 1, 2]]),
  ([1, 1, 27], [[0, 1, 2]]),
  ([1, 1, 28], [[0, 1, 2]]),
  ([1, 1, 29], [[0, 1, 2]]),
  ([1, 1, 30], [[0, 1, 2]]),
  ([1, 1, 31], [[0, 1, 2]]),
  ([1, 1, 32], [[0, 1, 2]]),
  ([1, 1, 33], [[0, 1, 2]]),
  ([1, 1, 34], [[0, 1, 2]]),
  ([1, 1, 35], [[0, 1, 2]]),
  ([1, 1, 36], [[0, 1, 2]]),
  ([1, 1, 37], [[0, 1, 2]]),
  ([1, 1, 38], [[0, 1, 2]]),
  ([1, 1, 39], [[0, 1, 2]]),
  ([1, 1, 40], [[0, 1, 2]]),
  ([1, 1, 41], [[0, 1, 2]]),
  ([1, 1, 42], [[0, 1, 2]]),
  ([1, 1, 43], [[0, 1, 2]]),
  ([1, 1, 44], [[0, 1, 2]]),
  ([1, 1, 45], [[0, 1, 2]]),
  ([1, 1, 46], [[0, 1, 2]]),
  ([1, 1, 47], [[0, 1, 2]]),
  ([1, 1, 48], [[0, 1, 2]]),
  ([1, 1, 49], [[0, 1, 2]]),
  ([1, 1, 50], [[0, 1, 2]]),
  ([1, 1, 51], [[0, 1, 2]]),
  ([1, 1, 52], [[0, 1, 2]]),
  ([1, 1, 53], [[0, 1, 2]]),
  ([1, 1, 54], [[0, 1, 2]]),
  ([1, 1, 55], [[0, 1, 2]]),
  ([1, 1, 56], [[0, 1, 2]]),
  ([1, 1, 57], [[0, 1, 2]]),
  ([1, 1, 58], [[0, 1, 2]]),
  ([1, 1, 59], [[0, 1, 2]]),
  ([1, 1, 60], [[0, 1, 2]]),
  ([1, 1, 61], [[0, 1, 2]]),
  ([1, 1, 62], [[0, 1, 2]]),
  ([1, 1, 63], [[0, 1, 2]]),
  ([1, 1, 64], [[0, 1, 2]]),
  ([1, 1, 65], [[0, 1, 2]]),
  ([1, 1, 66], [[0, 1, 2]]),
  ([1, 1, 67], [[0, 1, 2]]),
  ([1, 1, 68], [[0, 1, 2]]),
  ([1, 1, 69], [[0, 1, 2]]),
  ([1, 1, 70], [[0, 1, 2]]),
  ([1, 1, 71], [[0, 1, 2]]),
  ([1, 1, 72], [[0, 1, 2]]),
  ([1, 1, 73], [[0, 1, 2]]),
  ([1, 1, 74], [[0, 1, 2]]),
  ([1, 1, 75], [[0, 1, 2]]),
  ([1, 1, 76], [[0, 1, 2]]),
  ([1, 1, 77], [[0, 1, 2]]),
  ([1, 1, 78], [[0, 1, 2]]),
  ([1, 1, 79], [[0, 1, 2]]),
  ([1, 1, 80], [[0, 1, 2]]),
  ([1, 1, 81], [[0, 1, 2]]),
  ([1, 1, 82], [[0, 1, 2]]),
  ([1, 1, 83], [[0, 1, 2]]),
  ([1, 1, 84], [[0, 1, 2]]),
  ([1, 1, 85], [[0, 1, 2]]),
  ([1, 1, 86], [[0, 1, 2]]),
  ([1, 1, 87], [[0, 1, 2]]),
  ([1, 1, 88], [[0, 1, 2]]),
  ([1, 1, 89], [[0, 1, 2]]),
  ([1, 1, 90], [[0, 1, 2]]),
  ([1, 1, 91], [[0, 1, 2]]),
  ([1, 1, 92], [[0, 1, 2]]),
  ([1, 1, 93], [[0, 1, 2]]),
  ([1, 1, 94], [[0, 1, 2]]),
  ([1, 1, 95], [[0, 1, 2]]),
  ([1, 1, 96], [[0, 1, 2]]),
  ([1, 1, 97], [[0, 1, 2]]),
  ([1, 1, 98], [[0, 1, 2]]),
  ([1, 1, 99], [[0, 1, 2]]),
  ([1, 1, 100], [[0, 1, 2]]),
  ([1, 2], [[0, 1]]),
  ([1, 2, 2], [[0, 1, 2]]),
  ([1, 2, 2, 2], [[0, 2, 3], [0, 1]]),
  ([1, 2, 2, 2, 2], [[0, 2, 3], [0, 1, 4]]),
  ([1, 2, 2, 2, 4], [[0, 1, 2], [0, 3, 4]]),
  ([1, 2, 2, 2, 6], [[0, 1, 2], [0, 3, 4]]),
  ([1, 2, 2, 2, 8], [[0, 1, 2], [0, 3, 4]]),
  ([1, 2, 2, 2, 10], [[0, 1, 2], [0, 3, 4]]),
  ([1, 2, 2, 2, 12], [[0, 1, 2], [0, 3, 4]]),
  ([1, 2, 2, 4], [[0, 1, 2], [0, 3]]),
  ([1, 2, 2, 4, 4], [[0, 1, 2], [0, 3, 4]]),
  ([1, 2, 2, 6], [[0, 1, 2], [0, 3]]),
  ([1, 2, 2, 8], [[0, 1, 2], [0, 3]]),
  ([1, 2, 2, 10], [[0, 1, 2], [0, 3]]),
  ([1, 2, 2, 12], [[0, 1, 2], [0, 3]]),
  ([1, 2, 2, 14], [[0, 1, 2], [0, 3]]),
  ([1, 2, 2, 16], [[0, 1, 2], [0, 3]]),
  ([1, 2, 2, 18], [[0, 1, 2], [0, 3]]),
  ([1, 2, 2, 20], [[0, 1, 2], [0, 3]]),
  ([1, 2, 2, 22], [[0, 1, 2], [0, 3]]),
  ([1, 2, 2, 24], [[0, 1, 2], [0, 3]]),
  ([1, 2, 4], [[0, 1, 2]]),
  ([1, 2, 4, 4], [[0, 1, 3], [0, 2]]),
  ([1, 2, 4, 8], [[0, 1, 2], [0, 3]]),
  ([1, 2, 4, 12], [[0, 1, 2], [0, 3]]),
  ([1, 2, 6], [[0, 1, 2]]),
  ([1, 2, 6, 6], [[0, 1, 3], [0, 2]]),
  ([1, 2, 8], [[0, 1, 2]]),
  ([1, 2, 10], [[0, 1, 2]]),
  ([1, 2, 12], [[0, 1, 2]]),
  ([1, 2, 14], [[0, 1, 2]]),
  ([1, 2, 16], [[0, 1, 2]]),
  ([1, 2, 18], [[0, 1, 2]]),
  ([1, 2, 20], [[0, 1, 2]]),
  ([1, 2, 22], [[0, 1, 2]]),
  ([1, 2, 24], [[0, 1, 2]]),
  ([1, 2, 26], [[0, 1, 2]]),
  ([1, 2, 28], [[0, 1, 2]]),
  ([1, 2, 30], [[0, 1, 2]]),
  ([1, 2, 32], [[0, 1, 2]]),
  ([1, 2, 34], [[0, 1, 2]]),
  ([1, 2, 36], [[0, 1, 2]]),
  ([1, 2, 38], [[0, 1, 2]]),
  ([1, 2, 40], [[0, 1, 2]]),
  ([1, 2, 42], [[0, 1, 2]]),
  ([1, 2, 44], [[0, 1, 2]]),
  ([1, 2, 46], [[0, 1, 2]]),
  ([1, 2, 48], [[0, 1, 2]]),
  ([1, 2, 50], [[0, 1, 2]]),
  ([1, 3], [[0, 1]]),
  ([1, 3, 3], [[0, 1, 2]]),
  ([1, 3, 3, 3], [[0, 2, 3], [0, 1]]),
  ([1, 3, 3, 3, 3], [[0, 2, 3], [0, 1, 4]]),
  ([1, 3, 3, 6], [[0, 1, 2], [0, 3]]),
  ([1, 3, 3, 9], [[0, 1, 2], [0, 3]]),
  ([1, 3, 6], [[0, 1, 2]]),
  ([1, 3, 9], [[0, 1, 2]]),
  ([1, 3, 12], [[0, 1, 2]]),
  ([1, 3, 15], [[0, 1, 2]]),
  ([1, 3, 18], [[0, 1, 2]]),
  ([1, 3, 21], [[0, 1, 2]]),
  ([1, 3, 24], [[0, 1, 2]]),
  ([1, 3, 27], [[0, 1, 2]]),
  ([1, 3, 30], [[0, 1, 2]]),
  ([1, 3, 33], [[0, 1, 2]]),
  ([1, 4], [[0, 1]]),
  ([1, 4, 4], [[0, 1, 2]]),
  ([1, 4, 4, 4], [[0, 2, 3], [0, 1]]),
  ([1, 4, 8], [[0, 1, 2]]),
  ([1, 4, 12], [[0, 1, 2]]),
  ([1, 4, 16], [[0, 1, 2]]),
  ([1, 4, 20], [[0, 1, 2]]),
  ([1, 4, 24], [[0, 1, 2]]),
  ([1, 5], [[0, 1]]),
  ([1, 5, 5], [[0, 1, 2]]),
  ([1, 5, 10], [[0, 1, 2]]),
  ([1, 5, 15], [[0, 1, 2]]),
  ([1, 5, 20], [[0, 1, 2]]),
  ([1, 6], [[0, 1]]),
  ([1, 6, 6], [[0, 1, 2]]),
  ([1, 6, 12], [[0, 1, 2]]),
  ([1, 7], [[0, 1]]),
  ([1, 7, 7], [[0, 1, 2]]),
  ([1, 7, 14], [[0, 1, 2]]),
  ([1, 8], [[0, 1]]),
  ([1, 8, 8], [[0, 1, 2]]),
  ([1, 9], [[0, 1]]),
  ([1, 9, 9], [[0, 1, 2]]),
  ([1, 10], [[0, 1]]),
  ([1, 10, 10], [[0, 1, 2]]),
  ([1, 11], [[0, 1]]),
  ([1, 12], [[0, 1]]),
  ([1, 13], [[0, 1]]),
  ([1, 14], [[0, 1]]),
  ([1, 15], [[0, 1]]),
  ([1, 16], [[0, 1]]),
  ([1, 17], [[0, 1]]),
  ([1, 18], [[0, 1]]),
  ([1, 19], [[0, 1]]),
  ([1, 20], [[0, 1]]),
  ([1, 21], [[0, 1]]),
  ([1, 22], [[0, 1]]),
  ([1, 23], [[0, 1]]),
  ([1, 24], [[0, 1]]),
  ([1, 25], [[0, 1]]),
  ([1, 26], [[0, 1]]),
  ([1, 27], [[0, 1]]),
  ([1, 28], [[0, 1]]),
  ([1, 29], [[0, 1]]),
  ([1, 30], [[0, 1]]),
  ([1, 31], [[0, 1]]),
  ([1, 32], [[0, 1]]),
  ([1, 33], [[0, 1]]),
  ([1, 34], [[0, 1]]),
  ([1, 35], [[0, 1]]),
  ([1, 36], [[0, 1]]),
  ([1, 37], [[0, 1]]),
  ([1, 38], [[0, 1]]),
  ([1, 39], [[0, 1]]),
  ([1, 40], [[0, 1]]),
  ([1, 41], [[0, 1]]),
  ([1, 42], [[0, 1]]),
  ([1, 43], [[0, 1]]),
  ([1, 44], [[0, 1]]),
  ([1, 45], [[0, 1]]),
  ([1, 46], [[0, 1]]),
  ([1, 47], [[0, 1]]),
  ([1, 48], [[0, 1]]),
  ([1, 49], [[0, 1]]),
  ([1, 50], [[0, 1]]),
  ([1, 51], [[0, 1]]),
  ([1, 52], [[0, 1]]),
  ([1, 53], [[0, 1]]),
  ([1, 54], [[0, 1]]),
  ([1, 55], [[0, 1]]),
  ([1, 56], [[0, 1]]),
  ([1, 57], [[0, 1]]),
  ([1, 58], [[0, 1]]),
  ([1, 59], [[0, 1]]),
  ([1, 60], [[0, 1]]),
  ([1, 61], [[0, 1]]),
  ([1, 62], [[0, 1]]),
  ([1, 63], [[0, 1]]),
  ([1, 64], [[0, 1]]),
  ([1, 65], [[0, 1]]),
  ([1, 66], [[0, 1]]),
  ([1, 67], [[0, 1]]),
  ([1, 68], [[0, 1]]),
  ([1, 69], [[0, 1]]),
  ([1, 70], [[0, 1]]),
  ([1, 71], [[0, 1]]),
  ([1, 72], [[0, 1]]),
  ([1, 73], [[0, 1]]),
  ([1, 74], [[0, 1]]),
  ([1, 75], [[0, 1]]),
  ([1, 76], [[0, 1]]),
  ([1, 77], [[0, 1]]),
  ([1, 78], [[0, 1]]),
  ([1, 79], [[0, 1]]),
  ([1, 80], [[0, 1]]),
  ([1, 81], [[0, 1]]),
  ([1, 82], [[0, 1]]),
  ([1, 83], [[0, 1]]),
  ([1, 84], [[0, 1]]),
  ([1, 85], [[0, 1]]),
  ([1, 86], [[0, 1]]),
  ([1, 87], [[0, 1]]),
  ([1, 88], [[0, 1]]),
  ([1, 89], [[0, 1]]),
  ([1, 90], [[0, 1]]),
  ([1, 91], [[0, 1]]),
  ([1, 92], [[0, 1]]),
  ([1, 93], [[0, 1]]),
  ([1, 94], [[0, 1]]),
  ([1, 95], [[0, 1]]),
  ([1, 96], [[0, 1]]),
  ([1, 97], [[0, 1]]),
  ([1, 98], [[0, 1]]),
  ([1, 99], [[0, 1]]),
  ([1, 100], [[0, 1]]),
  ([2], [[0]]),
  ([2, 2], [[0, 1]]),
  ([2, 2, 2], [[0, 1, 2]]),
  ([2, 2, 2, 2], [[1, 2, 3], [0]]),
  ([2, 2, 2, 2, 2], [[1, 2, 3], [0, 4]]),
  ([2, 2, 2, 2, 2, 2], [[1, 2, 3], [0, 4, 5]]),
  ([2, 2, 2, 2, 4], [[0, 1, 2], [3, 4]]),
  ([2, 2, 2, 2, 6], [[0, 1, 2], [3, 4]]),
  ([2, 2, 2, 4], [[0, 1, 2], [3]]),
  ([2, 2, 2, 6], [[0, 1, 2], [3]]),
  ([2, 2, 2, 8], [[0, 1, 2], [3]]),
  ([2, 2, 2, 10], [[0, 1, 2], [3]]),
  ([2, 2, 2, 12], [[0, 1, 2], [3]]),
  ([2, 2, 4], [[0, 1, 2]]),
  ([2, 2, 4, 4], [[0, 1, 3], [2]]),
  ([2, 2, 6], [[0, 1, 2]]),
  ([2, 2, 8], [[0, 1, 2]]),
  ([2, 2, 10], [[0, 1, 2]]),
  ([2, 2, 12], [[0, 1, 2]]),
  ([2, 2, 14], [[0, 1, 2]]),
  ([2, 2, 16], [[0, 1, 2]]),
  ([2, 2, 18], [[0, 1, 2]]),
  ([2, 2, 20], [[0, 1, 2]]),
  ([2, 2, 22], [[0, 1, 2]]),
  ([2, 2, 24], [[0, 1, 2]]),
  ([2, 4], [[0, 1]]),
  ([2, 4, 4], [[0, 1, 2]]),
  ([2, 4, 8], [[0, 1, 2]]),
  ([2, 4, 12], [[0, 1, 2]]),
  ([2, 6], [[0, 1]]),
  ([2, 6, 6], [[0, 1, 2]]),
  ([2, 8], [[0, 1]]),
  ([2, 10], [[0, 1]]),
  ([2, 12], [[0, 1]]),
  ([2, 14], [[0, 1]]),
  ([2, 16], [[0, 1]]),
  ([2, 18], [[0, 1]]),
  ([2, 20], [[0, 1]]),
  ([2, 22], [[0, 1]]),
  ([2, 24], [[0, 1]]),
  ([2, 26], [[0, 1]]),
  ([2, 28], [[0, 1]]),
  ([2, 30], [[0, 1]]),
  ([2, 32], [[0, 1]]),
  ([2, 34], [[0, 1]]),
  ([2, 36], [[0, 1]]),
  ([2, 38], [[0, 1]]),
  ([2, 40], [[0, 1]]),
  ([2, 42], [[0, 1]]),
  ([2, 44], [[0, 1]]),
  ([2, 46], [[0, 1]]),
  ([2, 48], [[0, 1]]),
  ([2, 50], [[0, 1]]),
  ([3], [[0]]),
  ([3, 3], [[0, 1]]),
  ([3, 3, 3], [[0, 1, 2]]),
  ([3, 3, 3, 3], [[1, 2, 3], [0]]),
  ([3, 3, 6], [[0, 1, 2]]),
  ([3, 3, 9], [[0, 1, 2]]),
  ([3, 6], [[0, 1]]),
  ([3, 9], [[0, 1]]),
  ([3, 12], [[0, 1]]),
  ([3, 15], [[0, 1]]),
  ([3, 18], [[0, 1]]),
  ([3, 21], [[0, 1]]),
  ([3, 24], [[0, 1]]),
  ([3, 27], [[0, 1]]),
  ([3, 30], [[0, 1]]),
  ([3, 33], [[0, 1]]),
  ([4], [[0]]),
  ([4, 4], [[0, 1]]),
  ([4, 4, 4], [[0, 1, 2]]),
  ([4, 8], [[0, 1]]),
  ([4, 12], [[0, 1]]),
  ([4, 16], [[0, 1]]),
  ([4, 20], [[0, 1]]),
  ([4, 24], [[0, 1]]),
  ([5], [[0]]),
  ([5, 5], [[0, 1]]),
  ([5, 10], [[0, 1]]),
  ([5, 15], [[0, 1]]),
  ([5, 20], [[0, 1]]),
  ([6], [[0]]),
  ([6, 6], [[0, 1]]),
  ([6, 12], [[0, 1]]),
  ([7], [[0]]),
  ([7, 7], [[0, 1]]),
  ([7, 14], [[0, 1]]),
  ([8], [[0]]),
  ([8, 8], [[0, 1]]),
  ([9], [[0]]),
  ([9, 9], [[0, 1]]),
  ([10], [[0]]),
  ([10, 10], [[0, 1]]),
  ([11], [[0]]),
  ([12], [[0]]),
  ([13], [[0]]),
  ([14], [[0]]),
  ([15], [[0]]),
  ([16], [[0]]),
  ([17], [[0]]),
  ([18], [[0]]),
  ([19], [[0]]),
  ([20], [[0]]),
  ([21], [[0]]),
  ([22], [[0]]),
  ([23], [[0]]),
  ([24], [[0]]),
  ([25], [[0]]),
  ([26], [[0]]),
  ([27], [[0]]),
  ([28], [[0]]),
  ([29], [[0]]),
  ([30], [[0]]),
  ([31], [[0]]),
  ([32], [[0]]),
  ([33], [[0]]),
  ([34], [[0]]),
  ([35], [[0]]),
  ([36], [[0]]),
  ([37], [[0]]),
  ([38], [[0]]),
  ([39], [[0]]),
  ([40], [[0]]),
  ([41], [[0]]),
  ([42], [[0]]),
  ([43], [[0]]),
  ([44], [[0]]),
  ([45], [[0]]),
  ([46], [[0]]),
  ([47], [[0]]),
  ([48], [[0]]),
  ([49], [[0]]),
  ([50], [[0]]),
  ([51], [[0]]),
  ([52], [[0]]),
  ([53], [[0]]),
  ([54], [[0]]),
  ([55], [[0]]),
  ([56], [[0]]),
  ([57], [[0]]),
  ([58], [[0]]),
  ([59], [[0]]),
  ([60], [[0]]),
  ([61], [[0]]),
  ([62], [[0]]),
  ([63], [[0]]),
  ([64], [[0]]),
  ([65], [[0]]),
  ([66], [[0]]),
  ([67], [[0]]),
  ([68], [[0]]),
  ([69], [[0]]),
  ([70], [[0]]),
  ([71], [[0]]),
  ([72], [[0]]),
  ([73], [[0]]),
  ([74], [[0]]),
  ([75], [[0]]),
  ([76], [[0]]),
  ([77], [[0]]),
  ([78], [[0]]),
  ([79], [[0]]),
  ([80], [[0]]),
  ([81], [[0]]),
  ([82], [[0]]),
  ([83], [[0]]),
  ([84], [[0]]),
  ([85], [[0]]),
  ([86], [[0]]),
  ([87], [[0]]),
  ([88], [[0]]),
  ([89], [[0]]),
  ([90], [[0]]),
  ([91], [[0]]),
  ([92], [[0]]),
  ([93], [[0]]),
  ([94], [[0]]),
  ([95], [[0]]),
  ([96], [[0]]),
  ([97], [[0]]),
  ([98], [[0]]),
  ([99], [[0]]),
  ([100], [[0]])]
end PL
/-! ### gaps whose shares are little: plain -/
namespace PL
open OE PySem
variable [TN]
noncomputable def genL : Nat → Int → Int → Int → List (List Int)
  | 0, _, _, _ => [[]]
  | n + 1, lo, hi, P => [] :: (rangeI lo (hi + 1)).flatMap fun g => if g ≤ P then (genL n g hi (P / g)).map (g :: ·) else []
theorem gen_nil {n : Nat} {lo hi P : Int} : [] ∈ genL n lo hi P := by
  cases n with
  | zero => exact List.mem_singleton.mpr rfl
  | succ n => exact List.mem_cons_self
theorem mem_gen {hi : Int} : ∀ {n : Nat} {lo P : Int} {S : List Int}, 1 ≤ lo → S.Pairwise (· ≤ ·) → (∀ z ∈ S, lo ≤ z ∧ z ≤ hi) → prodI S ≤ P → S.length ≤ n → S ∈ genL n lo hi P
  | n, lo, P, [], _, _, _, _, _ => gen_nil
  | 0, _, _, _ :: _, _, _, _, _, h => by cases h
  | n + 1, lo, P, g :: S, h1, h2, h3, h4, h5 => by
    obtain ⟨a1, a2⟩ := List.pairwise_cons.mp h2
    obtain ⟨b1, b2⟩ := h3 g List.mem_cons_self
    have hS : ∀ z ∈ S, 1 ≤ z := fun z hz => by have := h3 z (List.mem_cons_of_mem _ hz); omega
    have hp := prodI_pos hS
    rw [prodI_cons] at h4
    have hgP : g * 1 ≤ g * prodI S := Int.mul_le_mul_of_nonneg_left hp (by omega)
    rw [genL]
    refine List.mem_cons_of_mem _ (List.mem_flatMap.mpr ⟨g, mem_rangeI.mpr ⟨b1, by omega⟩, ?_⟩)
    rw [if_pos (by omega)]
    refine List.mem_map_of_mem (mem_gen (by omega) a2 (fun z hz => ⟨a1 z hz, (h3 z (List.mem_cons_of_mem _ hz)).2⟩) ?_ (by simpa using h5))
    exact Int.le_ediv_of_mul_le (by omega) (by rw [Int.mul_comm]; exact h4)
/-! sorted -/
noncomputable def insI (x : Int) : List Int → List Int
  | [] => [x]
  | y :: l => if x ≤ y then x :: y :: l else y :: insI x l
noncomputable def isortI : List Int → List Int
  | [] => []
  | x :: l => insI x (isortI l)
theorem insI_perm (x : Int) : ∀ l, (insI x l).Perm (x :: l)
  | [] => .refl _
  | y :: l => by
    rw [insI]
    split
    · exact .refl _
    · exact ((insI_perm x l).cons y).trans (.swap x y l)
theorem isortI_perm : ∀ l, (isortI l).Perm l
  | [] => .refl _
  | x :: l => (insI_perm x _).trans ((isortI_perm l).cons x)
theorem insI_sorted (x : Int) : ∀ l, l.Pairwise (· ≤ ·) → (insI x l).Pairwise (· ≤ ·)
  | [], _ => List.pairwise_singleton ..
  | y :: l, h => by
    rw [insI]
    obtain ⟨h1, h2⟩ := List.pairwise_cons.mp h
    split
    · rename_i c
      exact List.pairwise_cons.mpr ⟨fun z hz => by
        rcases List.mem_cons.mp hz with e | hz
        · omega
        · have := h1 z hz; omega, h⟩
    · rename_i c
      refine List.pairwise_cons.mpr ⟨fun z hz => ?_, insI_sorted x l h2⟩
      rcases List.mem_cons.mp ((insI_perm x l).mem_iff.mp hz) with e | hz
      · omega
      · exact h1 z hz
theorem isortI_sorted : ∀ l, (isortI l).Pairwise (· ≤ ·)
  | [] => .nil
  | x :: l => insI_sorted x _ (isortI_sorted l)
theorem prodI_perm {a b : List Int} (h : a.Perm b) : prodI a = prodI b := by
  induction h with
  | nil => rfl
  | cons x _ ih => rw [prodI_cons, prodI_cons, ih]
  | swap x y l => rw [prodI_cons, prodI_cons, prodI_cons, prodI_cons, Int.mul_left_comm]
  | trans _ _ h1 h2 => rw [h1, h2]
theorem sumI_perm {a b : List Int} (h : a.Perm b) : a.sum = b.sum := by
  induction h with
  | nil => rfl
  | cons x _ ih => rw [List.sum_cons, List.sum_cons, ih]
  | swap x y l => rw [List.sum_cons, List.sum_cons, List.sum_cons, List.sum_cons]; omega
  | trans _ _ h1 h2 => rw [h1, h2]
theorem bulkI_perm {a b : List Int} (h : a.Perm b) : bulkI a = bulkI b := by
  unfold bulkI
  rw [prodI_perm h]
  exact sumI_perm (h.map _)
/-! light, by one hand -/
noncomputable def lightP (gs : List Int) : Bool := decide (6 * bulkI gs ≤ 5 * prodI gs)
theorem light_cover : decide ((genL 7 1 13 240).filter lightP = lightT.map Prod.fst) = true := by decide +kernel
theorem light_rounds : (lightT.all fun e => roundB 1 e.1 e.2) = true := by decide +kernel
theorem light_sched {G gs : List Int} (h1 : ∀ z ∈ G, 1 ≤ z ∧ z ≤ 13) (h2 : prodI G ≤ 240) (h3 : 6 * bulkI G ≤ 5 * prodI G) (h4 : G.length ≤ 7) (hp : G.Perm gs) : Sched 1 gs := by
  have pp := isortI_perm G
  have hm : isortI G ∈ (genL 7 1 13 240).filter lightP := by
    refine List.mem_filter.mpr ⟨mem_gen (by decide) (isortI_sorted G) (fun z hz => h1 z (pp.mem_iff.mp hz)) (by rw [prodI_perm pp]; exact h2) (by rw [pp.length_eq]; exact h4), ?_⟩
    unfold lightP
    rw [bulkI_perm pp, prodI_perm pp]
    exact decide_eq_true h3
  rw [of_decide_eq_true light_cover] at hm
  obtain ⟨e, he, e1⟩ := List.mem_map.mp hm
  have := round_sched (List.all_eq_true.mp light_rounds e he)
  rw [e1] at this
  exact this.perm (pp.trans hp)
/-! even: each a divisor of the next one -/
noncomputable def chainB : List Int → Bool
  | a :: b :: l => decide (b % a = 0) && chainB (b :: l)
  | _ => true
noncomputable def evenP (h : Int) (gs : List Int) : Bool := chainB gs && decide (bulkI gs ≤ h * prodI gs)
theorem even_cover1 : decide ((genL 6 1 100 100).filter (evenP 1) = evenT1.map Prod.fst) = true := by decide +kernel
theorem even_cover2 : decide ((genL 6 1 100 100).filter (evenP 2) = evenT2.map Prod.fst) = true := by decide +kernel
theorem even_cover3 : decide ((genL 6 1 100 100).filter (evenP 3) = evenT3.map Prod.fst) = true := by decide +kernel
theorem even_rounds1 : (evenT1.all fun e => roundB 1 e.1 e.2) = true := by decide +kernel
theorem even_rounds2 : (evenT2.all fun e => roundB 2 e.1 e.2) = true := by decide +kernel
theorem even_rounds3 : (evenT3.all fun e => roundB 3 e.1 e.2) = true := by decide +kernel
theorem even_sched {h : Int} {G gs : List Int} (hh1 : 1 ≤ h) (hh3 : h ≤ 3) (h1 : ∀ z ∈ G, 1 ≤ z) (hs : G.Pairwise (· ≤ ·)) (hc : chainB G = true) (h2 : prodI G ≤ 100) (h3 : bulkI G ≤ h * prodI G) (h4 : G.length ≤ 6) (hp : G.Perm gs) : Sched h.toNat gs := by
  have le : ∀ z ∈ G, 1 ≤ z ∧ z ≤ 100 := fun z hz => by
    refine ⟨h1 z hz, ?_⟩
    have hd := Int.le_of_dvd (by have := prodI_pos h1; omega) (prod_dvd hz)
    omega
  have hm : G ∈ (genL 6 1 100 100).filter (evenP h) := List.mem_filter.mpr ⟨mem_gen (by decide) hs le h2 h4, by unfold evenP; rw [hc]; exact decide_eq_true h3⟩
  have fin : ∀ (T : List (List Int × List (List Nat))), (genL 6 1 100 100).filter (evenP h) = T.map Prod.fst → (T.all fun e => roundB h.toNat e.1 e.2) = true → Sched h.toNat gs := fun T e1 e2 => by
    rw [e1] at hm
    obtain ⟨e, he, e3⟩ := List.mem_map.mp hm
    have := round_sched (List.all_eq_true.mp e2 e he)
    rw [e3] at this
    exact this.perm hp
  have : h = 1 ∨ h = 2 ∨ h = 3 := by omega
  rcases this with rfl | rfl | rfl
  · exact fin evenT1 (of_decide_eq_true even_cover1) even_rounds1
  · exact fin evenT2 (of_decide_eq_true even_cover2) even_rounds2
  · exact fin evenT3 (of_decide_eq_true even_cover3) even_rounds3
end PL
namespace K07
open OE
open PySem (Str)
noncomputable def t__law_begun_6 (Γ : Gam) : Ev → Wp Out :=
  tret (tdictM (tcons (tif (ttest (tbin fNe (tvar 3) (tlst (tnil)))) (tbin fIx (tvar 3) (tconst (.int 0))) (tconst (.int 0))) (tcons (tvar 4) (tcons (tbin fAdd (tvar 2) (tlst (tcons (tbin fAdd (tbin fMul (tconst (.int 37)) (tvar 1)) (tconst (.int 11))) (tnil)))) (tcons (tconst (.int 0)) (tnil))))))
noncomputable def t__law_begun_5 (Γ : Gam) : Ev → Wp Out :=
  tset 4 (tbin fMod (tcall fInt (tcons (tbin fAdd (tbin fMul (tvar 4) (tconst (.int 48271))) (tvar 5)) (tnil))) (tconst (.int 2147483647)))
noncomputable def t__law_begun_4 (Γ : Gam) : Ev → Wp Out :=
  tthen (tfor (tseq (tvar 2)) (gname 5) (t__law_begun_5 Γ))
  (t__law_begun_6 Γ)
noncomputable def t__law_begun_3 (Γ : Gam) : Ev → Wp Out :=
  tthen (tset 4 (tbin fAdd (tconst (.int 83)) (tvar 1)))
  (t__law_begun_4 Γ)
noncomputable def t__law_begun_2 (Γ : Gam) : Ev → Wp Out :=
  tthen (tset 3 (tlc (tseq (tvar 2)) (gname 5) (ttest (tbin fGe (tvar 5) (tbin fPow (tconst (.int 10)) (tconst (.int 18))))) (tvar 5) [5]))
  (t__law_begun_3 Γ)
noncomputable def t__law_begun (Γ : Gam) : Ev → Wp Out :=
  tthen (tset 2 (tbin fAdd (tslice (tvar 0) (tpart (tvar 1)) (fun _ => Wp.ret none)) (tslice (tvar 0) (fun _ => Wp.ret none) (tpart (tvar 1)))))
  (t__law_begun_2 Γ)
noncomputable def F__law_begun (Γ : Gam) : List D → Wp D := runDef 6 (t__law_begun Γ)
noncomputable def t_is_whole (Γ : Gam) : Ev → Wp Out :=
  tret (tandV (tisi "int" (tvar 0)) (tandV (tnotV (tisi "bool" (tvar 0))) (tchain fLe fLe (tvar 1) (tvar 0) (tvar 2))))
noncomputable def F_is_whole (Γ : Gam) : List D → Wp D := runDef 3 (t_is_whole Γ)
noncomputable def t_need_plan_10 (Γ : Gam) : Ev → Wp Out :=
  tret (tvar 0)
noncomputable def t_need_plan_8 (Γ : Gam) : Ev → Wp Out :=
  tite (tnot (ttest (tfn 3 (F_is_whole Γ) (tcons (tvar 2) (tcons (tconst (.int 1)) (tcons (tconst (.int 1000000000000000000000000000000)) (tnil))))))) (tfail1 "BadPlan" (tcons (ttup (tcons (tconst (.int 1)) (tcons (tvar 1) (tnil)))) (tnil))) (tnext)
noncomputable def t_need_plan_7 (Γ : Gam) : Ev → Wp Out :=
  tthen (tfor (tits fEnum (tcons (tbin fIx (tvar 0) (tconst (.int 1))) (tnil))) (gtup 2 (gcons (gname 1) (gcons (gname 2) (gnil)))) (t_need_plan_8 Γ))
  (t_need_plan_10 Γ)
noncomputable def t_need_plan_5 (Γ : Gam) : Ev → Wp Out :=
  tthen (tite (tor (tnot (ttest (tisi "tuple" (tbin fIx (tvar 0) (tconst (.int 1)))))) (tnot (ttest (tchain fLe fLe (tconst (.int 1)) (tcall fLen (tcons (tbin fIx (tvar 0) (tconst (.int 1))) (tnil))) (tconst (.int 8)))))) (tfail1 "BadPlan" (tcons (ttup (tcons (tconst (.int 1)) (tnil))) (tnil))) (tnext))
  (t_need_plan_7 Γ)
noncomputable def t_need_plan_3 (Γ : Gam) : Ev → Wp Out :=
  tthen (tite (tnot (ttest (tfn 3 (F_is_whole Γ) (tcons (tbin fIx (tvar 0) (tconst (.int 0))) (tcons (tconst (.int 1)) (tcons (tconst (.int 3)) (tnil))))))) (tfail1 "BadPlan" (tcons (ttup (tcons (tconst (.int 0)) (tnil))) (tnil))) (tnext))
  (t_need_plan_5 Γ)
noncomputable def t_need_plan (Γ : Gam) : Ev → Wp Out :=
  tthen (tite (tor (tnot (ttest (tisi "tuple" (tvar 0)))) (ttest (tbin fNe (tcall fLen (tcons (tvar 0) (tnil))) (tconst (.int 2))))) (tfail1 "BadPlan" (tcons (ttup (tnil)) (tnil))) (tnext))
  (t_need_plan_3 Γ)
noncomputable def F_need_plan (Γ : Gam) : List D → Wp D := runDef 3 (t_need_plan Γ)
noncomputable def t_Web_does_hold (Γ : Gam) : Ev → Wp Out :=
  tret (tbin (fDIn true) (tvar 1) (tbind (fMFld Γ "Web" "own_falls") (tvar 0)))
noncomputable def F_Web_does_hold (Γ : Gam) : List D → Wp D := runDef 2 (t_Web_does_hold Γ)
noncomputable def t_all_standings_4 (Γ : Gam) : Ev → Wp Out :=
  tret (tvar 1)
noncomputable def t_all_standings_3 (Γ : Gam) : Ev → Wp Out :=
  tset 1 (tlc2 (tseq (tvar 1)) (gname 3) (fun _ => Wp.ret true) (tits fRange2 (tcons (tconst (.int 1)) (tcons (tbin fAdd (tvar 2) (tconst (.int 1))) (tnil)))) (gname 4) (fun _ => Wp.ret true) (ttup (tstar (tvar 3) (tcons (tvar 4) (tnil)))) [3, 4] [4])
noncomputable def t_all_standings_2 (Γ : Gam) : Ev → Wp Out :=
  tthen (tfor (tseq (tbin fIx (tvar 0) (tconst (.int 1)))) (gname 2) (t_all_standings_3 Γ))
  (t_all_standings_4 Γ)
noncomputable def t_all_standings (Γ : Gam) : Ev → Wp Out :=
  tthen (tset 1 (tlst (tcons (ttup (tnil)) (tnil))))
  (t_all_standings_2 Γ)
noncomputable def F_all_standings (Γ : Gam) : List D → Wp D := runDef 5 (t_all_standings Γ)
noncomputable def t_Web_fallen_15 (Γ : Gam) : Ev → Wp Out :=
  tret (tvar 7)
noncomputable def t_Web_fallen_13 (Γ : Gam) : Ev → Wp Out :=
  tite (ttest (tbin fEq (tbin fDGet (tvar 2) (tvar 11)) (tconst (.int 0)))) (tdrop (tmeth fAppend (tvar 8) (tvar 11))) (tnext)
noncomputable def t_Web_fallen_12 (Γ : Gam) : Ev → Wp Out :=
  tthen (tdaug (fun i j => i - j) (tvar 2) (tvar 11) (tconst (.int 1)))
  (t_Web_fallen_13 Γ)
noncomputable def t_Web_fallen_11 (Γ : Gam) : Ev → Wp Out :=
  tforG (tseqG (tbin fDGet (tvar 1) (tvar 10))) (gname 11) (t_Web_fallen_12 Γ)
noncomputable def t_Web_fallen_10 (Γ : Gam) : Ev → Wp Out :=
  tthen (tdput (tvar 7) (tvar 10) (tcall fMaxL (tcons (tbin fAdd (tlc (tseq (tbin fDGet (tbind (fMFld Γ "Web" "own_links") (tvar 0)) (tvar 10))) (gtup 2 (gcons (gname 5) (gcons (gname 6) (gnil)))) (fun _ => Wp.ret true) (tbin fAdd (tbin fDGet (tvar 7) (tvar 6)) (tconst (.int 1))) [5, 6]) (tlst (tcons (tconst (.int 0)) (tnil)))) (tnil))))
  (t_Web_fallen_11 Γ)
noncomputable def t_Web_fallen_9 (Γ : Gam) : Ev → Wp Out :=
  tthen (taug 9 (fun i j => i + j) (tconst (.int 1)))
  (t_Web_fallen_10 Γ)
noncomputable def t_Web_fallen_8 (Γ : Gam) : Ev → Wp Out :=
  tthen (tset 10 (tbin fIx (tvar 8) (tvar 9)))
  (t_Web_fallen_9 Γ)
noncomputable def t_Web_fallen_7 (Γ : Gam) : Ev → Wp Out :=
  tthen (twhile (ttest (tbin fLt (tvar 9) (tcall fLen (tcons (tvar 8) (tnil))))) (t_Web_fallen_8 Γ))
  (t_Web_fallen_15 Γ)
noncomputable def t_Web_fallen_6 (Γ : Gam) : Ev → Wp Out :=
  tthen (tasg (ttup (tcons (tmdit) (tcons (tlkE (tmlcG (tkeys (tvar 2)) (gname 3) (ttest (tbin fEq (tbin fDGet (tvar 2) (tvar 3)) (tconst (.int 0)))) (tvar 3) [3])) (tcons (tconst (.int 0)) (tnil))))) (gtup 3 (gcons (gname 7) (gcons (gname 8) (gcons (gname 9) (gnil))))))
  (t_Web_fallen_7 Γ)
noncomputable def t_Web_fallen_5 (Γ : Gam) : Ev → Wp Out :=
  tdrop (tmeth fAppend (tbin fDGet (tvar 1) (tvar 6)) (tvar 3))
noncomputable def t_Web_fallen_4 (Γ : Gam) : Ev → Wp Out :=
  tfor (tseq (tvar 4)) (gtup 2 (gcons (gname 5) (gcons (gname 6) (gnil)))) (t_Web_fallen_5 Γ)
noncomputable def t_Web_fallen_3 (Γ : Gam) : Ev → Wp Out :=
  tthen (tdput (tvar 2) (tvar 3) (tcall fLen (tcons (tvar 4) (tnil))))
  (t_Web_fallen_4 Γ)
noncomputable def t_Web_fallen_2 (Γ : Gam) : Ev → Wp Out :=
  tthen (tforG (titems (tbind (fMFld Γ "Web" "own_links") (tvar 0))) (gtup 2 (gcons (gname 3) (gcons (gname 4) (gnil)))) (t_Web_fallen_3 Γ))
  (t_Web_fallen_6 Γ)
noncomputable def t_Web_fallen (Γ : Gam) : Ev → Wp Out :=
  tthen (tasg (ttup (tcons (tdcG (tkeys (tbind (fMFld Γ "Web" "own_links") (tvar 0))) (gname 3) (fun _ => Wp.ret true) (tvar 3) (tmlst tnil) [3]) (tcons (tmdit) (tnil)))) (gtup 2 (gcons (gname 1) (gcons (gname 2) (gnil)))))
  (t_Web_fallen_2 Γ)
noncomputable def F_Web_fallen (Γ : Gam) : List D → Wp D := runDef 12 (t_Web_fallen Γ)
noncomputable def t_lots_of_5 (Γ : Gam) : Ev → Wp Out :=
  tfrz 2 (tret (tcall fSorted (tcons (tvar 2) (tnil))))
noncomputable def t_lots_of_4 (Γ : Gam) : Ev → Wp Out :=
  tdrop (tmeth fExtend (tvar 2) (tvar 3))
noncomputable def t_lots_of_3 (Γ : Gam) : Ev → Wp Out :=
  tthen (tset 3 (tlc2 (tseq (tvar 3)) (gname 5) (fun _ => Wp.ret true) (tits fRange2 (tcons (tif (ttest (tbin fNe (tvar 5) (ttup (tnil)))) (tbin fAdd (tbin fIx (tvar 5) (tbind fNeg (tconst (.int 1)))) (tconst (.int 1))) (tconst (.int 0))) (tcons (tvar 1) (tnil)))) (gname 6) (fun _ => Wp.ret true) (ttup (tstar (tvar 5) (tcons (tvar 6) (tnil)))) [5, 6] [6]))
  (t_lots_of_4 Γ)
noncomputable def t_lots_of_2 (Γ : Gam) : Ev → Wp Out :=
  tthen (tfor (tits fRange1 (tcons (tvar 0) (tnil))) (gname 4) (t_lots_of_3 Γ))
  (t_lots_of_5 Γ)
noncomputable def t_lots_of (Γ : Gam) : Ev → Wp Out :=
  tthen (tpar 2 3 (tcons (tmlst (tcons (ttup (tnil)) (tnil))) (tcons (tlst (tcons (ttup (tnil)) (tnil))) (tnil))))
  (t_lots_of_2 Γ)
noncomputable def F_lots_of (Γ : Gam) : List D → Wp D := runDef 7 (t_lots_of Γ)
noncomputable def t_has_due (Γ : Gam) : Ev → Wp Out :=
  tret (tcall fAll (tcons (tlc (tits fEnum (tcons (tvar 0) (tnil))) (gtup 2 (gcons (gname 2) (gcons (gname 3) (gnil)))) (fun _ => Wp.ret true) (torV (tbin fGt (tvar 3) (tconst (.int 1))) (tbin (fIn false) (tvar 2) (tvar 1))) [2, 3]) (tnil)))
noncomputable def F_has_due (Γ : Gam) : List D → Wp D := runDef 4 (t_has_due Γ)
noncomputable def t_due_days (Γ : Gam) : Ev → Wp Out :=
  tret (tlc (tseq (tfn 2 (F_lots_of Γ) (tcons (tbin fIx (tvar 0) (tconst (.int 0))) (tcons (tcall fLen (tcons (tbin fIx (tvar 0) (tconst (.int 1))) (tnil))) (tnil))))) (gname 2) (ttest (tfn 2 (F_has_due Γ) (tcons (tvar 1) (tcons (tvar 2) (tnil))))) (tvar 2) [2])
noncomputable def F_due_days (Γ : Gam) : List D → Wp D := runDef 3 (t_due_days Γ)
noncomputable def t_later_of (Γ : Gam) : Ev → Wp Out :=
  tret (tcall fTuple (tcons (tlc (tits fEnum (tcons (tvar 1) (tnil))) (gtup 2 (gcons (gname 3) (gcons (gname 4) (gnil)))) (fun _ => Wp.ret true) (tif (ttest (tbin (fIn false) (tvar 3) (tvar 2))) (tbin fIx (tbin fIx (tvar 0) (tconst (.int 1))) (tvar 3)) (tbin fSub (tvar 4) (tconst (.int 1)))) [3, 4]) (tnil)))
noncomputable def F_later_of (Γ : Gam) : List D → Wp D := runDef 5 (t_later_of Γ)
noncomputable def t_Web___init___6 (Γ : Gam) : Ev → Wp Out :=
  tlkB (tmfset Γ "Web" "own_falls" (tvar 0) (tmth0 Γ "Web" "fallen" (F_Web_fallen Γ) (tvar 0)))
noncomputable def t_Web___init___5 (Γ : Gam) : Ev → Wp Out :=
  tdput (tbind (fMFld Γ "Web" "own_links") (tvar 0)) (tvar 2) (tlc (tseq (tvar 3)) (gname 4) (fun _ => Wp.ret true) (ttup (tcons (tvar 4) (tcons (tfn 3 (F_later_of Γ) (tcons (tvar 1) (tcons (tvar 2) (tcons (tvar 4) (tnil))))) (tnil)))) [4])
noncomputable def t_Web___init___4 (Γ : Gam) : Ev → Wp Out :=
  tthen (tset 3 (tfn 2 (F_due_days Γ) (tcons (tvar 1) (tcons (tvar 2) (tnil)))))
  (t_Web___init___5 Γ)
noncomputable def t_Web___init___3 (Γ : Gam) : Ev → Wp Out :=
  tthen (tfor (tseq (tfn 1 (F_all_standings Γ) (tcons (tvar 1) (tnil)))) (gname 2) (t_Web___init___4 Γ))
  (t_Web___init___6 Γ)
noncomputable def t_Web___init___2 (Γ : Gam) : Ev → Wp Out :=
  tthen (tmfset Γ "Web" "own_links" (tvar 0) (tmdit))
  (t_Web___init___3 Γ)
noncomputable def t_Web___init__ (Γ : Gam) : Ev → Wp Out :=
  tthen (tmfset Γ "Web" "own_plan" (tvar 0) (tvar 1))
  (t_Web___init___2 Γ)
noncomputable def F_Web___init__ (Γ : Gam) : List D → Wp D := runDef 5 (t_Web___init__ Γ)
noncomputable def t_count_of_4 (Γ : Gam) : Ev → Wp Out :=
  tret (tvar 1)
noncomputable def t_count_of_3 (Γ : Gam) : Ev → Wp Out :=
  tset 1 (tbin fMul (tvar 1) (tvar 2))
noncomputable def t_count_of_2 (Γ : Gam) : Ev → Wp Out :=
  tthen (tfor (tseq (tbin fIx (tvar 0) (tconst (.int 1)))) (gname 2) (t_count_of_3 Γ))
  (t_count_of_4 Γ)
noncomputable def t_count_of (Γ : Gam) : Ev → Wp Out :=
  tthen (tset 1 (tconst (.int 1)))
  (t_count_of_2 Γ)
noncomputable def F_count_of (Γ : Gam) : List D → Wp D := runDef 3 (t_count_of Γ)
noncomputable def t_web_of_3 (Γ : Gam) : Ev → Wp Out :=
  tret (tmk Γ "Web" 2 (F_Web___init__ Γ) (tcons (tvar 0) (tnil)))
noncomputable def t_web_of (Γ : Gam) : Ev → Wp Out :=
  tthen (tite (ttest (tbin fGt (tfn 1 (F_count_of Γ) (tcons (tvar 0) (tnil))) (tconst (.int 1000)))) (tfail1 "TooGreat" (tcons (tconst (.int 1000)) (tnil))) (tnext))
  (t_web_of_3 Γ)
noncomputable def F_web_of (Γ : Gam) : List D → Wp D := runDef 1 (t_web_of Γ)
noncomputable def t_does_last_2 (Γ : Gam) : Ev → Wp Out :=
  tret (tmth Γ "Web" "does_hold" 2 (F_Web_does_hold Γ) (tfn 1 (F_web_of Γ) (tcons (tvar 0) (tnil))) (tcons (tbin fIx (tvar 0) (tconst (.int 1))) (tnil)))
noncomputable def t_does_last (Γ : Gam) : Ev → Wp Out :=
  tthen (tdrop (tfn 1 (F_need_plan Γ) (tcons (tvar 0) (tnil))))
  (t_does_last_2 Γ)
noncomputable def F_does_last (Γ : Gam) : List D → Wp D := gcF (runDef 1 (t_does_last Γ))
noncomputable def t__law_draw_11 (Γ : Gam) : Ev → Wp Out :=
  tret (tbin fMod (tbin fDiv (tbin fMod (tcall fInt (tcons (tbin fAdd (tbin fMul (tvar 7) (tconst (.int 48271))) (tvar 3)) (tnil))) (tconst (.int 2147483647))) (tconst (.int 11))) (tvar 1))
noncomputable def t__law_draw_10 (Γ : Gam) : Ev → Wp Out :=
  tthen (tset 7 (tbin fMod (tcall fInt (tcons (tbin fAdd (tbin fAdd (tbin fMul (tvar 7) (tvar 7)) (tbin fMul (tconst (.int 69621)) (tvar 3))) (tbind (fGetS "seed") (tvar 0))) (tnil))) (tconst (.int 2147483629))))
  (t__law_draw_11 Γ)
noncomputable def t__law_draw_9 (Γ : Gam) : Ev → Wp Out :=
  tthen (tset 7 (tbin fMod (tcall fInt (tcons (tbin fAdd (tbin fMul (tvar 6) (tbin fAdd (tbin fMul (tconst (.int 2)) (tvar 3)) (tconst (.int 3)))) (tvar 5)) (tnil))) (tconst (.int 2147483647))))
  (t__law_draw_10 Γ)
noncomputable def t__law_draw_8 (Γ : Gam) : Ev → Wp Out :=
  tthen (tset 6 (tbin fIx (tvar 4) (tbin fMod (tcall fInt (tcons (tvar 3) (tnil))) (tcall fLen (tcons (tvar 4) (tnil))))))
  (t__law_draw_9 Γ)
noncomputable def t__law_draw_7 (Γ : Gam) : Ev → Wp Out :=
  tthen (tpar 4 5 (tcons (tbind (fGetS "cells") (tvar 0)) (tcons (tbin fAdd (tbind (fGetS "seed") (tvar 0)) (tbin fMul (tbin fMul (tconst (.int 40503)) (tvar 3)) (tvar 3))) (tnil))))
  (t__law_draw_8 Γ)
noncomputable def t__law_draw_6 (Γ : Gam) : Ev → Wp Out :=
  tthen (tputM "spot" (tvar 0) (tbin fAdd (tvar 3) (tconst (.int 1))))
  (t__law_draw_7 Γ)
noncomputable def t__law_draw_5 (Γ : Gam) : Ev → Wp Out :=
  tthen (tset 3 (tbind (fGetS "spot") (tvar 0)))
  (t__law_draw_6 Γ)
noncomputable def t__law_draw_4 (Γ : Gam) : Ev → Wp Out :=
  tret (tvar 2)
noncomputable def t__law_draw_3 (Γ : Gam) : Ev → Wp Out :=
  tthen (tputM "left" (tvar 0) (tbin fDiv (tbind (fGetS "left") (tvar 0)) (tvar 1)))
  (t__law_draw_4 Γ)
noncomputable def t__law_draw (Γ : Gam) : Ev → Wp Out :=
  tthen (tite (ttest (tbin fGt (tbind (fGetS "left") (tvar 0)) (tconst (.int 0)))) (tthen (tset 2 (tbin fMod (tcall fInt (tcons (tbind (fGetS "left") (tvar 0)) (tnil))) (tvar 1)))
  (t__law_draw_3 Γ)) (tnext))
  (t__law_draw_5 Γ)
noncomputable def F__law_draw (Γ : Gam) : List D → Wp D := runDef 8 (t__law_draw Γ)
noncomputable def t__law_is_told_6 (Γ : Gam) : Ev → Wp Out :=
  tret (tandV (tbin fEq (tcall fRepr (tcons (tlst (tcons (tfn 1 (F_does_last Γ) (tcons (tvar 6) (tnil))) (tcons (tfn 1 (F_does_last Γ) (tcons (tvar 6) (tnil))) (tnil)))) (tnil))) (tcall fRepr (tcons (tlst (tcons (tvar 3) (tcons (tvar 3) (tnil)))) (tnil)))) (tbin fEq (tcall fRepr (tcons (tvar 6) (tnil))) (tvar 7)))
noncomputable def t__law_is_told_5 (Γ : Gam) : Ev → Wp Out :=
  tthen (tset 7 (tcall fRepr (tcons (tvar 6) (tnil))))
  (t__law_is_told_6 Γ)
noncomputable def t__law_is_told_4 (Γ : Gam) : Ev → Wp Out :=
  tfrz 5 (tthen (tset 6 (ttup (tcons (tvar 1) (tcons (tcall fTuple (tcons (tvar 5) (tnil))) (tnil)))))
  (t__law_is_told_5 Γ))
noncomputable def t__law_is_told_3 (Γ : Gam) : Ev → Wp Out :=
  tdrop (tmeth fAppend (tvar 5) (tmeth fPop (tvar 4) (tfn 2 (F__law_draw Γ) (tcons (tvar 0) (tcons (tcall fLen (tcons (tvar 4) (tnil))) (tnil))))))
noncomputable def t__law_is_told_2 (Γ : Gam) : Ev → Wp Out :=
  tthen (twhile (ttest (tbin (fEmM true) (tvar 4) (tlst (tnil)))) (t__law_is_told_3 Γ))
  (t__law_is_told_4 Γ)
noncomputable def t__law_is_told (Γ : Gam) : Ev → Wp Out :=
  tthen (tpar 4 5 (tcons (tcall fMList (tcons (tvar 2) (tnil))) (tcons (tmlst (tnil)) (tnil))))
  (t__law_is_told_2 Γ)
noncomputable def F__law_is_told (Γ : Gam) : List D → Wp D := gcF (runDef 8 (t__law_is_told Γ))
noncomputable def t__law_size_4 (Γ : Gam) : Ev → Wp Out :=
  tret (tvar 1)
noncomputable def t__law_size_3 (Γ : Gam) : Ev → Wp Out :=
  tset 1 (tbin fMul (tvar 1) (tvar 2))
noncomputable def t__law_size_2 (Γ : Gam) : Ev → Wp Out :=
  tthen (tforG (tseqG (tvar 0)) (gname 2) (t__law_size_3 Γ))
  (t__law_size_4 Γ)
noncomputable def t__law_size (Γ : Gam) : Ev → Wp Out :=
  tthen (tset 1 (tconst (.int 1)))
  (t__law_size_2 Γ)
noncomputable def F__law_size (Γ : Gam) : List D → Wp D := runDef 3 (t__law_size Γ)
noncomputable def t__law_bulk (Γ : Gam) : Ev → Wp Out :=
  tret (tcall fSum (tcons (tlcG (tseqG (tvar 0)) (gname 1) (fun _ => Wp.ret true) (tbin fDiv (tfn 1 (F__law_size Γ) (tcons (tvar 0) (tnil))) (tvar 1)) [1]) (tnil)))
noncomputable def F__law_bulk (Γ : Gam) : List D → Wp D := runDef 2 (t__law_bulk Γ)
noncomputable def t__law_even_7 (Γ : Gam) : Ev → Wp Out :=
  tret (tif (ttest (tbin fNe (tvar 2) (tlst (tnil)))) (tvar 2) (tlst (tcons (tconst (.int 2)) (tcons (tconst (.int 4)) (tcons (tconst (.int 4)) (tnil))))))
noncomputable def t__law_even_5 (Γ : Gam) : Ev → Wp Out :=
  tite (tand (ttest (tbin fLe (tfn 1 (F__law_size Γ) (tcons (tvar 5) (tnil))) (tconst (.int 100)))) (ttest (tbin fLe (tfn 1 (F__law_bulk Γ) (tcons (tvar 5) (tnil))) (tbin fMul (tvar 1) (tfn 1 (F__law_size Γ) (tcons (tvar 5) (tnil))))))) (tset 2 (tvar 5)) (tnext)
noncomputable def t__law_even_4 (Γ : Gam) : Ev → Wp Out :=
  tthen (tset 5 (tbin fAdd (tvar 2) (tlst (tcons (tvar 3) (tnil)))))
  (t__law_even_5 Γ)
noncomputable def t__law_even_3 (Γ : Gam) : Ev → Wp Out :=
  tthen (tset 3 (tbin fMul (tvar 3) (tbin fIx (tlst (tcons (tconst (.int 1)) (tcons (tconst (.int 1)) (tcons (tconst (.int 2)) (tcons (tconst (.int 3)) (tnil)))))) (tfn 2 (F__law_draw Γ) (tcons (tvar 0) (tcons (tconst (.int 4)) (tnil)))))))
  (t__law_even_4 Γ)
noncomputable def t__law_even_2 (Γ : Gam) : Ev → Wp Out :=
  tthen (tfor (tits fRange1 (tcons (tconst (.int 6)) (tnil))) (gname 4) (t__law_even_3 Γ))
  (t__law_even_7 Γ)
noncomputable def t__law_even (Γ : Gam) : Ev → Wp Out :=
  tthen (tpar 2 3 (tcons (tlst (tnil)) (tcons (tbin fAdd (tconst (.int 1)) (tfn 2 (F__law_draw Γ) (tcons (tvar 0) (tcons (tconst (.int 3)) (tnil))))) (tnil))))
  (t__law_even_2 Γ)
noncomputable def F__law_even (Γ : Gam) : List D → Wp D := runDef 6 (t__law_even Γ)
noncomputable def t__law_light_6 (Γ : Gam) : Ev → Wp Out :=
  tret (tif (ttest (tbin fNe (tvar 1) (tlst (tnil)))) (tvar 1) (tlst (tcons (tconst (.int 2)) (tcons (tconst (.int 3)) (tnil)))))
noncomputable def t__law_light_4 (Γ : Gam) : Ev → Wp Out :=
  tite (tand (ttest (tbin fLe (tfn 1 (F__law_size Γ) (tcons (tvar 3) (tnil))) (tconst (.int 240)))) (ttest (tbin fLe (tbin fMul (tconst (.int 6)) (tfn 1 (F__law_bulk Γ) (tcons (tvar 3) (tnil)))) (tbin fMul (tconst (.int 5)) (tfn 1 (F__law_size Γ) (tcons (tvar 3) (tnil))))))) (tset 1 (tvar 3)) (tnext)
noncomputable def t__law_light_3 (Γ : Gam) : Ev → Wp Out :=
  tthen (tset 3 (tbin fAdd (tvar 1) (tlst (tcons (tbin fAdd (tconst (.int 1)) (tfn 2 (F__law_draw Γ) (tcons (tvar 0) (tcons (tconst (.int 13)) (tnil))))) (tnil)))))
  (t__law_light_4 Γ)
noncomputable def t__law_light_2 (Γ : Gam) : Ev → Wp Out :=
  tthen (tfor (tits fRange1 (tcons (tconst (.int 7)) (tnil))) (gname 2) (t__law_light_3 Γ))
  (t__law_light_6 Γ)
noncomputable def t__law_light (Γ : Gam) : Ev → Wp Out :=
  tthen (tset 1 (tlst (tnil)))
  (t__law_light_2 Γ)
noncomputable def F__law_light (Γ : Gam) : List D → Wp D := runDef 4 (t__law_light Γ)
noncomputable def t__law_heavy_5 (Γ : Gam) : Ev → Wp Out :=
  tfrz 2 (tret (tif (ttest (tbin fGt (tfn 1 (F__law_bulk Γ) (tcons (tvar 2) (tnil))) (tbin fMul (tvar 1) (tfn 1 (F__law_size Γ) (tcons (tvar 2) (tnil)))))) (tvar 2) (tbin fMul (tlst (tcons (tconst (.int 1)) (tnil))) (tbin fAdd (tvar 1) (tconst (.int 1))))))
noncomputable def t__law_heavy_4 (Γ : Gam) : Ev → Wp Out :=
  tdrop (tmeth fAppend (tvar 2) (tif (ttest (tbin fLt (tcall fLen (tcons (tvar 2) (tnil))) (tconst (.int 5)))) (tbin fAdd (tconst (.int 1)) (tfn 2 (F__law_draw Γ) (tcons (tvar 0) (tcons (tcall fMin (tcons (tconst (.int 5)) (tcons (tvar 3) (tnil)))) (tnil))))) (tconst (.int 1))))
noncomputable def t__law_heavy_3 (Γ : Gam) : Ev → Wp Out :=
  tthen (tset 3 (tbin fDiv (tconst (.int 100)) (tfn 1 (F__law_size Γ) (tcons (tvar 2) (tnil)))))
  (t__law_heavy_4 Γ)
noncomputable def t__law_heavy_2 (Γ : Gam) : Ev → Wp Out :=
  tthen (twhile (tand (ttest (tbin fLe (tfn 1 (F__law_bulk Γ) (tcons (tvar 2) (tnil))) (tbin fMul (tvar 1) (tfn 1 (F__law_size Γ) (tcons (tvar 2) (tnil)))))) (ttest (tbin fLt (tcall fLen (tcons (tvar 2) (tnil))) (tconst (.int 8))))) (t__law_heavy_3 Γ))
  (t__law_heavy_5 Γ)
noncomputable def t__law_heavy (Γ : Gam) : Ev → Wp Out :=
  tthen (tset 2 (tbin fMMul (tlst (tcons (tconst (.int 1)) (tnil))) (tbin fSub (tvar 1) (tconst (.int 1)))))
  (t__law_heavy_2 Γ)
noncomputable def F__law_heavy (Γ : Gam) : List D → Wp D := runDef 4 (t__law_heavy Γ)
noncomputable def t_law_15 (Γ : Gam) : Ev → Wp Out :=
  tret (tbin fEq (tlc (tseq (tvar 4)) (gname 6) (ttest (tbin (fIsB true) (tfn 1 (F_does_last Γ) (tcons (ttup (tcons (tconst (.int 1)) (tcons (tvar 6) (tnil)))) (tnil))) (tconst (.bl false)))) (tvar 6) [6]) (tlst (tnil)))
noncomputable def t_law_14 (Γ : Gam) : Ev → Wp Out :=
  tthen (tset 4 (tlst (tcons (ttup (tcons (tconst (.int 2)) (tcons (tconst (.int 3)) (tcons (tconst (.int 5)) (tnil))))) (tcons (ttup (tcons (tconst (.int 1)) (tcons (tconst (.int 9)) (tnil)))) (tcons (ttup (tcons (tconst (.int 3)) (tcons (tconst (.int 3)) (tcons (tconst (.int 3)) (tcons (tconst (.int 9)) (tnil)))))) (tcons (ttup (tcons (tconst (.int 2)) (tcons (tconst (.int 2)) (tcons (tconst (.int 7)) (tnil))))) (tcons (ttup (tcons (tconst (.int 4)) (tcons (tconst (.int 4)) (tcons (tconst (.int 4)) (tcons (tconst (.int 4)) (tcons (tconst (.int 3)) (tnil))))))) (tnil))))))))
  (t_law_15 Γ)
noncomputable def t_law_12 (Γ : Gam) : Ev → Wp Out :=
  tthen (tite (ttest (tbin fNe (tvar 5) (tlst (tcons (tconst (.bl true)) (tcons (tconst (.bl true)) (tcons (tconst (.bl false)) (tcons (tconst (.bl true)) (tnil)))))))) (tret (tconst (.bl false))) (tnext))
  (t_law_14 Γ)
noncomputable def t_law_11 (Γ : Gam) : Ev → Wp Out :=
  tthen (tset 5 (tlst (tcons (tfn 1 (F_does_last Γ) (tcons (ttup (tcons (tconst (.int 2)) (tcons (ttup (tcons (tconst (.int 2)) (tcons (tconst (.int 2)) (tcons (tconst (.int 2)) (tcons (tconst (.int 2)) (tnil)))))) (tnil)))) (tnil))) (tcons (tfn 1 (F_does_last Γ) (tcons (ttup (tcons (tconst (.int 3)) (tcons (tbin fMul (ttup (tcons (tconst (.int 2)) (tnil))) (tconst (.int 6))) (tnil)))) (tnil))) (tcons (tfn 1 (F_does_last Γ) (tcons (ttup (tcons (tconst (.int 2)) (tcons (tbin fMul (ttup (tcons (tconst (.int 2)) (tnil))) (tconst (.int 5))) (tnil)))) (tnil))) (tcons (tfn 1 (F_does_last Γ) (tcons (ttup (tcons (tconst (.int 2)) (tcons (ttup (tcons (tconst (.int 1)) (tcons (tconst (.int 3)) (tcons (tconst (.int 2)) (tnil))))) (tnil)))) (tnil))) (tnil)))))))
  (t_law_12 Γ)
noncomputable def t_law_9 (Γ : Gam) : Ev → Wp Out :=
  tthen (tite (ttest (tbin fNe (tlc (tseq (tvar 4)) (gname 6) (ttest (tbin (fIsB true) (tfn 1 (F_does_last Γ) (tcons (ttup (tcons (tconst (.int 1)) (tcons (tvar 6) (tnil)))) (tnil))) (tconst (.bl true)))) (tvar 6) [6]) (tlst (tnil)))) (tret (tconst (.bl false))) (tnext))
  (t_law_11 Γ)
noncomputable def t_law_8 (Γ : Gam) : Ev → Wp Out :=
  tthen (tset 4 (tlst (tcons (ttup (tcons (tconst (.int 2)) (tcons (tconst (.int 3)) (tnil)))) (tcons (ttup (tcons (tconst (.int 3)) (tcons (tconst (.int 3)) (tcons (tconst (.int 6)) (tnil))))) (tcons (ttup (tcons (tconst (.int 2)) (tcons (tconst (.int 4)) (tcons (tconst (.int 12)) (tnil))))) (tcons (ttup (tcons (tconst (.int 3)) (tcons (tconst (.int 4)) (tcons (tconst (.int 4)) (tnil))))) (tcons (ttup (tcons (tconst (.int 2)) (tcons (tconst (.int 5)) (tcons (tconst (.int 8)) (tnil))))) (tcons (ttup (tcons (tconst (.int 4)) (tcons (tconst (.int 5)) (tcons (tconst (.int 5)) (tcons (tconst (.int 6)) (tnil)))))) (tnil)))))))))
  (t_law_9 Γ)
noncomputable def t_law_6 (Γ : Gam) : Ev → Wp Out :=
  tite (tnot (ttest (tfn 4 (F__law_is_told Γ) (tcons (tvar 2) (tcons (tvar 3) (tcons (tfn 2 (F__law_even Γ) (tcons (tvar 2) (tcons (tvar 3) (tnil)))) (tcons (tconst (.bl true)) (tnil)))))))) (tret (tconst (.bl false))) (tnext)
noncomputable def t_law_4 (Γ : Gam) : Ev → Wp Out :=
  tthen (tite (tor (tnot (ttest (tfn 4 (F__law_is_told Γ) (tcons (tvar 2) (tcons (tconst (.int 1)) (tcons (tfn 1 (F__law_light Γ) (tcons (tvar 2) (tnil))) (tcons (tconst (.bl true)) (tnil)))))))) (tnot (ttest (tfn 4 (F__law_is_told Γ) (tcons (tvar 2) (tcons (tvar 3) (tcons (tfn 2 (F__law_heavy Γ) (tcons (tvar 2) (tcons (tvar 3) (tnil)))) (tcons (tconst (.bl false)) (tnil))))))))) (tret (tconst (.bl false))) (tnext))
  (t_law_6 Γ)
noncomputable def t_law_3 (Γ : Gam) : Ev → Wp Out :=
  tthen (tset 3 (tbin fAdd (tconst (.int 1)) (tfn 2 (F__law_draw Γ) (tcons (tvar 2) (tcons (tconst (.int 3)) (tnil))))))
  (t_law_4 Γ)
noncomputable def t_law_2 (Γ : Gam) : Ev → Wp Out :=
  tthen (tset 2 (tfn 2 (F__law_begun Γ) (tcons (tvar 0) (tcons (tvar 1) (tnil)))))
  (t_law_3 Γ)
noncomputable def t_law (Γ : Gam) : Ev → Wp Out :=
  tthen (tfor (tits fRange1 (tcons (tbin fAdd (tconst (.int 2)) (tcall fMin (tcons (tcall fLen (tcons (tvar 0) (tnil))) (tcons (tconst (.int 3)) (tnil))))) (tnil))) (gname 1) (t_law_2 Γ))
  (t_law_8 Γ)
noncomputable def F_law (Γ : Gam) : List D → Wp D := runDef 7 (t_law Γ)
end K07
local macro_rules | `(tactic| wp_walk using $[$ts],*) => `(tactic| simp -implicitDefEqProofs only [$[$ts:term],*, OE.w_g0, OE.w_gs, OE.w_s0, OE.w_ss, OE.w_some, OE.w_ex, OE.w_lc, OE.w_ln, OE.w_at, OE.w_ta, OE.w_nt, OE.w_nf, OE.w_it, OE.w_if, OE.w_itP, OE.w_ifP, OE.w_ft, OE.w_mc, OE.w_mn, OE.w_rs, OE.w_r0, OE.w_ca, OE.w_na, OE.w_za, OE.w_sb, OE.w_sz, OE.s_then, OE.k_seqN, OE.k_seqR, OE.k_seqB, OE.k_seqC, OE.s_next, OE.s_ret, OE.k_ret, OE.s_set, OE.k_set, OE.s_ite, OE.k_ite, OE.o_rt, OE.o_nx, OE.s_run, OE.s_var, OE.s_const, OE.s_nil, OE.s_cons, OE.k_cons, OE.k_cons2, OE.s_tup, OE.s_lst, OE.k_tup, OE.k_lst, OE.s_bin, OE.k_bin, OE.k_bin2, OE.s_bind, OE.k_ap, OE.s_call, OE.k_apL, OE.s_fn, OE.k_fn, OE.s_test, OE.k_test, OE.s_and, OE.k_and, OE.s_or, OE.k_or, OE.s_not, OE.k_not, OE.s_andV, OE.k_andV, OE.s_orV, OE.k_orV, OE.s_notV, OE.k_notV, OE.s_if, OE.k_if, OE.s_isN, OE.k_isN, OE.s_noN, OE.k_noN, OE.s_chain, OE.k_ch1, OE.k_ch2, OE.k_ch3, OE.s_isi, OE.k_isi, OE.s_part, OE.k_part, OE.s_slice, OE.k_sl1, OE.k_sl2, OE.k_sl3, OE.s_retO, OE.s_slL, OE.s_slT, OE.s_slS, OE.s_seq, OE.k_itmL, OE.k_itmT, OE.k_itmS, OE.s_its, OE.k_its, OE.s_rng1, OE.s_rng2, OE.s_enT, OE.s_enL, OE.s_zipL, OE.s_zipT, OE.s_for, OE.k_for, OE.for_nil, OE.k_go, OE.k_tN, OE.k_tC, OE.k_tB, OE.k_tR, OE.g_name, OE.g_tup, OE.g_cons, OE.k_gs, OE.g_nil, OE.s_asg, OE.k_asg, OE.k_nx, OE.s_par, OE.k_par, OE.s_lc, OE.k_lc, OE.k_lc1, OE.k_lc2, OE.k_some, OE.s_fail, OE.k_fail, OE.s_fail0, OE.s_try, OE.k_unN, OE.k_unR, OE.s_fld, OE.k_fld, OE.f_addI, OE.f_addT, OE.f_addL, OE.f_addS, OE.f_ii, OE.f_i0, OE.f_mulI, OE.f_mulT, OE.f_mulL, OE.f_neg, OE.f_ixL, OE.f_ixT, OE.f_ixS, OE.f_lenL, OE.f_lenT, OE.f_lenS, OE.f_int, OE.f_min, OE.f_max, OE.f_tupL, OE.f_lstT, OE.f_lstL, OE.f_repr, OE.f_cmpS, OE.f_cmpI, OE.f_cmpT, OE.f_cmpL, OE.s_dict, OE.k_dic, OE.f_getM, OE.s_putM, OE.k_put1, OE.k_put2, OE.s_dm, OE.mGet_left, OE.mGet_seed, OE.mGet_cells, OE.mGet_spot, OE.mPut_left, OE.mPut_spot, OE.k_wh, OE.s_star, OE.k_starT, OE.k_starL, OE.k_star2, OE.s_drop, OE.k_drop, OE.s_par3, OE.k_par3, OE.f_lrg1, OE.f_trg1, OE.f_lrg2, OE.f_trg2, OE.f_ixM, OE.f_lenM, OE.f_inT, OE.f_inL, OE.f_inS, OE.s_tryN, OE.c_nil, OE.f_all, OE.f_any, OE.f_sum, OE.s_frz, OE.k_frzS, OE.k_fz, OE.f_frzLs, OE.f_frzT, OE.f_frzI, OE.f_frzN, OE.s_mlst, OE.k_ml, OE.s_meth, OE.k_me, OE.f_app, OE.f_extd, OE.f_sorted, OE.s_lc2, OE.k_lcc, OE.f_isB, OE.s_isi2, OE.k_isi2, OE.s_aug, OE.k_aug, OE.w_int, OE.f_revL, OE.f_revT, OE.s_isx, OE.k_isx, OE.s_seqG, OE.k_itmGL, OE.k_itmGT, OE.k_itmGM, OE.s_forG, OE.k_forG, OE.s_lcG, OE.k_lcG, OE.f_maddL, OE.s_mlc, OE.k_mlc, OE.k_newQ, OE.s_mtx, OE.k_mtx, OE.k_mt2, OE.f_split, OE.f_str, OE.f_mulS, OE.f_lenT1, OE.f_ixT1, OE.k_itmStr, OE.s_dput, OE.k_dp1, OE.k_dp2, OE.s_daug, OE.k_da1, OE.s_mfset, OE.k_mf1, OE.s_mth, OE.k_mth2, OE.s_mth0, OE.s_mk, OE.k_mk, OE.k_mk2, OE.s_keys, OE.s_items, OE.k_keysM, OE.k_itemsM, OE.s_dcG, OE.k_dcG, OE.s_mlcG, OE.k_mlcG, OE.s_mdit, OE.s_gc, OE.k_dc1, OE.k_dc2, OE.k_dc3, OE.f_inDL, OE.f_emM, OE.f_addM, OE.s_tryO, OE.co_nil, OE.so_none, OE.so_some, OE.s_get1, OE.k_ge1M, OE.s_get2, OE.k_gf1M, OE.k_gf2, OE.s_fldX, OE.k_fldX, OE.f_tupT, OE.f_mliL, OE.f_mliT, OE.f_mmulL, OE.startE, Nat.reduceAdd, Nat.reduceLeDiff, Nat.reduceSub])
namespace K07
open OE PySem PL
variable [TN] {Γ : Gam} {n : S} {q : D → S → Prop} {x : Exn → S → Prop}
/-! ### sizes and shares -/
/-- a list that may still change -/
noncomputable def IsLs (d : D) (s : S) (l : List D) : Prop := d = .lst l ∨ ∃ a, d = .mref a ∧ s.mu a = some (.lst l)
theorem itm_ls {d : D} {s : S} {l : List D} (h : IsLs d s l) {qg : LG → S → Prop} (hq : ∀ G : S → Prop, G s → qg (l, G) s) : kItmG qg x d s := by
  rcases h with rfl | ⟨a, rfl, h⟩
  · rw [k_itmGL]; exact hq _ trivial
  · rw [k_itmGM]; exact ⟨l, h, hq _ h⟩
theorem prod_step {p g : Int} {gs : List Int} (hp : 1 ≤ p) (hg : 1 ≤ g) (h2 : 1 ≤ prodI gs) (hb : p * prodI (g :: gs) ≤ 1000000) : p ≤ 1000000 ∧ p * g * prodI gs ≤ 1000000 ∧ 1 ≤ p * g := by
  rw [prodI_cons, ← Int.mul_assoc] at hb
  have h1 : p * 1 ≤ p * g := Int.mul_le_mul_of_nonneg_left hg (by omega)
  have h3 : p * g * 1 ≤ p * g * prodI gs := Int.mul_le_mul_of_nonneg_left h2 (by omega)
  exact ⟨by omega, hb, by omega⟩
theorem sp_sizeM {d : D} {gs : List Int} (hd : IsLs d n (gs.map D.int)) (hg : ∀ z ∈ gs, 1 ≤ z) (hb : prodI gs ≤ 1000000) (hq : q (.int (prodI gs)) n) : F__law_size Γ [d] n q x := by
  wp_walk using F__law_size, t__law_size, t__law_size_2
  refine itm_ls hd fun G hG => ?_
  wp_walk
  refine forG_inv (I := fun ds ρ s => s = n ∧ ∃ (p : Int) (l : List Int) (o : Option D), ds = l.map D.int ∧ ρ = [some d, some (.int p), o] ∧ p * prodI l = prodI gs ∧ (∀ z ∈ l, 1 ≤ z) ∧ 1 ≤ p) ?_ ?_ ?_ _ _ _ ⟨rfl, 1, gs, none, rfl, rfl, by rw [Int.one_mul], hg, by decide⟩
  · rintro ds ρ s ⟨rfl, _⟩; exact hG
  · rintro d' ds ρ s k ⟨rfl, p, l, o, e, rfl, e2, hl, p1⟩ k1 k2
    cases l with
    | nil => cases e
    | cons g l =>
      cases e
      have g1 := hl g List.mem_cons_self
      have hl' : ∀ z ∈ l, 1 ≤ z := fun z hz => hl z (List.mem_cons_of_mem _ hz)
      obtain ⟨b1, b2, b3⟩ := prod_step p1 g1 (prodI_pos hl') (by rw [e2]; exact hb)
      wp_walk using t__law_size_3
      refine ⟨cmul_l (by omega), k1 _ _ ⟨rfl, p * g, l, _, rfl, rfl, ?_, hl', b3⟩⟩
      rw [← e2, prodI_cons, Int.mul_assoc]
  · rintro ρ s ⟨rfl, p, l, o, e, rfl, e2, hl, p1⟩
    cases l with
    | cons g l => cases e
    | nil =>
      wp_walk using t__law_size_4
      have e3 : p = prodI gs := by rw [← e2]; show p = p * 1; omega
      rw [e3]
      exact hq
theorem cdiv {i j : Int} (h1 : 1 ≤ j) (h2 : j ≤ 1000000) : L2.CDivW i j := ⟨by omega, by
  have : j.natAbs < 2 ^ 20 := by omega
  have := lgA (N := 20) (by decide) this
  omega⟩
theorem sp_bulk {d : D} {gs : List Int} (hd : IsLs d n (gs.map D.int)) (hg : ∀ z ∈ gs, 1 ≤ z) (hb : prodI gs ≤ 1000000) (hl : gs.length ≤ 1000) (hq : q (.int (bulkI gs)) n) : F__law_bulk Γ [d] n q x := by
  wp_walk using F__law_bulk, t__law_bulk
  refine itm_ls hd fun G hG => ?_
  wp_walk
  refine ⟨by rw [List.length_map]; omega, lcG_pure (f := fun d => match d with | .int g => some (.int (prodI gs / g)) | _ => none) hG (fun d' hd' k hk => ?_) ?_⟩
  · obtain ⟨g, hg', rfl⟩ := List.mem_map.mp hd'
    have g1 := hg g hg'
    have g2 := Int.le_of_dvd (by have := prodI_pos hg; omega) (prod_dvd hg')
    rw [s_lc1]
    wp_walk using wipeE
    refine sp_sizeM (Γ := Γ) hd hg hb ?_
    wp_walk
    exact ⟨cdiv g1 (by omega), hk⟩
  · have e : (gs.map D.int).filterMap (fun d => match d with | .int g => some (D.int (prodI gs / g)) | _ => none) = (gs.map fun g => prodI gs / g).map D.int := by
      rw [List.filterMap_map]
      have : ((fun d => match d with | D.int g => some (D.int (prodI gs / g)) | _ => none) ∘ D.int) = fun g => some (D.int (prodI gs / g)) := rfl
      rw [this, List.filterMap_eq_map', List.map_map]
      rfl
    rw [e]
    wp_walk
    refine ⟨gs.map fun g => prodI gs / g, ?_, ?_⟩
    · have := ints_map (fun z : Int => z) (gs.map fun g => prodI gs / g)
      rw [List.map_id'] at this
      exact this
    · exact hq
section
variable {n : Nat} {μ : Mu}
theorem isl {l : List D} {s : S} : IsLs (.lst l) s l := .inl rfl
/-! ### light gaps -/
structure LightOk (G : List Int) : Prop where
  g : ∀ z ∈ G, 1 ≤ z ∧ z ≤ 13
  p : prodI G ≤ 240
  b : 6 * bulkI G ≤ 5 * prodI G
  l : G.length ≤ 7
  ne : G ≠ []
theorem sp_light (hn : n + 20 < 2 ^ 40) (hq : ∀ (G : List Int) (n' : Nat), LightOk G → n ≤ n' → n' ≤ n + 7 → q (.lst (G.map D.int)) ⟨n', μ⟩) : F__law_light Γ [.m] ⟨n, μ⟩ q x := by
  wp_walk using F__law_light, t__law_light
  wp_walk using t__law_light_2
  refine ⟨by decide, ?_⟩
  refine for_inv (I := fun ds ρ s => ∃ (G : List Int) (m : Nat), s = ⟨m, μ⟩ ∧ n ≤ m ∧ m + ds.length ≤ n + 7 ∧ G.length + ds.length ≤ 7 ∧ (∀ z ∈ G, 1 ≤ z ∧ z ≤ 13) ∧ prodI G ≤ 240 ∧ 6 * bulkI G ≤ 5 * prodI G ∧ ∃ o2 o3 : Option D, ρ = [some .m, some (.lst (G.map D.int)), o2, o3]) ?_ ?_ _ _ _ ⟨[], n, rfl, by omega, by rw [range_len]; exact Nat.le_refl _, by rw [range_len]; decide, fun _ z => (nomatch z), by decide, by decide, _, _, rfl⟩
  · rintro d ds ρ s k ⟨G, m, rfl, hm1, hm2, hl, hg, hp, hb, o2, o3, rfl⟩ k1 k2
    rw [List.length_cons] at hm2 hl
    wp_walk using t__law_light_3
    refine draw_spec (by decide) (lg9 ⟨by decide, by decide⟩) (by omega) fun j hj0 hj1 n1 h1 h2 => ?_
    wp_walk
    refine ⟨by rw [List.length_map]; omega, ?_⟩
    have e : G.map D.int ++ [D.int (1 + j)] = (G ++ [1 + j]).map D.int := by rw [List.map_append]; rfl
    rw [e]
    have hg' : ∀ z ∈ G ++ [1 + j], 1 ≤ z ∧ z ≤ 13 := fun z hz => by
      rcases List.mem_append.mp hz with y | y
      · exact hg z y
      · rw [List.mem_singleton] at y; omega
    have hg1 : ∀ z ∈ G ++ [1 + j], 1 ≤ z := fun z hz => (hg' z hz).1
    have hP := prodI_pos fun z hz => (hg z hz).1
    have hpb : prodI (G ++ [1 + j]) ≤ 1000000 := by
      rw [prodI_snoc]
      have : prodI G * (1 + j) ≤ 240 * 13 := Int.mul_le_mul hp (by omega) (by omega) (by omega)
      omega
    have hll : (G ++ [1 + j]).length ≤ 1000 := by rw [List.length_append, List.length_singleton]; omega
    wp_walk using t__law_light_4
    refine sp_sizeM (Γ := Γ) isl hg1 hpb ?_
    wp_walk
    have keep : ∀ o3 : Option D, k (.nx [some .m, some (.lst (G.map D.int)), some d, o3]) ⟨n1, μ⟩ := fun o3 => k1 _ _ ⟨G, n1, rfl, by omega, by omega, by omega, hg, hp, hb, _, _, rfl⟩
    by_cases c1 : prodI (G ++ [1 + j]) ≤ 240
    · wp_walk using c1, decide_true
      refine sp_bulk (Γ := Γ) isl hg1 hpb hll ?_
      wp_walk
      refine ⟨cmul_l (by omega), ?_⟩
      refine sp_sizeM (Γ := Γ) isl hg1 hpb ?_
      wp_walk
      refine ⟨cmul_l (by omega), ?_⟩
      by_cases c2 : 6 * bulkI (G ++ [1 + j]) ≤ 5 * prodI (G ++ [1 + j])
      · wp_walk using c2, decide_true
        exact k1 _ _ ⟨G ++ [1 + j], n1, rfl, by omega, by omega, by rw [List.length_append, List.length_singleton]; omega, hg', c1, c2, _, _, rfl⟩
      · wp_walk using c2, decide_false
        exact keep _
    · wp_walk using c1, decide_false
      exact keep _
  · rintro ρ s ⟨G, m, rfl, hm1, hm2, hl, hg, hp, hb, o2, o3, rfl⟩
    rw [List.length_nil] at hm2 hl
    wp_walk using t__law_light_6
    cases G with
    | nil =>
      wp_walk using List.map_nil, List.isEmpty_nil, Bool.true_xor, Bool.not_true
      exact hq [2, 3] m ⟨by decide, by decide, by decide, by decide, by decide⟩ (by omega) (by omega)
    | cons g G =>
      wp_walk using List.map_cons, List.isEmpty_cons, Bool.true_xor, Bool.not_false
      exact hq (g :: G) m ⟨hg, hp, hb, by omega, by simp⟩ (by omega) (by omega)
/-! ### heavy gaps -/
structure HeavyOk (h : Int) (G : List Int) : Prop where
  g : ∀ z ∈ G, 1 ≤ z
  p : prodI G ≤ 100
  b : h * prodI G < bulkI G
  l : G.length ≤ 8
  ne : G ≠ []
theorem ones_prod : ∀ k : Nat, prodI (List.replicate k (1 : Int)) = 1
  | 0 => rfl
  | k + 1 => by rw [List.replicate_succ, prodI_cons, ones_prod k]; rfl
theorem ones_flat (k : Nat) : (List.replicate k [D.int 1]).flatten = (List.replicate k (1 : Int)).map D.int := by
  induction k with
  | zero => rfl
  | succ k ih => rw [List.replicate_succ, List.flatten_cons, ih, List.replicate_succ]; rfl
theorem ones_bulk (k : Nat) : bulkI (List.replicate k (1 : Int)) = (k : Int) := by
  unfold bulkI
  rw [ones_prod, List.map_replicate]
  show (List.replicate k (1 : Int)).sum = _
  induction k with
  | zero => rfl
  | succ k ih => rw [List.replicate_succ, List.sum_cons, ih]; omega
theorem sp_heavy {h : Int} (h1 : 1 ≤ h) (h3 : h ≤ 3) (hn : n + 20 < 2 ^ 40) (hq : ∀ (G : List Int) (n' : Nat), HeavyOk h G → n ≤ n' → n' ≤ n + 9 → q (.lst (G.map D.int)) ⟨n', μ⟩) : F__law_heavy Γ [.m, .int h] ⟨n, μ⟩ q x := by
  wp_walk using F__law_heavy, t__law_heavy
  refine ⟨⟨by omega, by omega⟩, ?_⟩
  intro a ha
  rw [ones_flat]
  wp_walk using t__law_heavy_2
  refine wh_inv (I := fun m ρ s => ∃ (G : List Int) (k : Nat), s = ⟨k, μ.put a (.lst (G.map D.int))⟩ ∧ n ≤ k ∧ k + m ≤ n + 9 ∧ G.length + m = 9 ∧ 1 ≤ m ∧ (∀ z ∈ G, 1 ≤ z) ∧ prodI G ≤ 100 ∧ ∃ o3 : Option D, ρ = [some .m, some (.int h), some (.mref a), o3]) ?_ (9 - (h - 1).toNat) _ _ ⟨_, n, rfl, by omega, by omega, by rw [List.length_replicate]; omega, by omega, fun z hz => by have := List.eq_of_mem_replicate hz; omega, by rw [ones_prod]; decide, _, rfl⟩
  rintro m ρ s kk ⟨G, k, rfl, hk1, hk2, hl, hm1, hg, hp, o3, rfl⟩ k1 k2
  have hP := prodI_pos hg
  have ml : IsLs (.mref a) ⟨k, μ.put a (.lst (G.map D.int))⟩ (G.map D.int) := .inr ⟨a, rfl, Mu.put_same⟩
  have hb6 : prodI G ≤ 1000000 := by omega
  have stop : (¬ (bulkI G ≤ h * prodI G) ∨ 8 ≤ G.length) → t__law_heavy_5 Γ [some .m, some (.int h), some (.mref a), o3] ⟨k, μ.put a (.lst (G.map D.int))⟩ (outQ q) x := fun hst => by
    wp_walk using t__law_heavy_5
    refine f_frzL Mu.put_same ?_
    rw [Mu.del_put ha]
    wp_walk
    refine sp_bulk (Γ := Γ) isl hg hb6 (by omega) ?_
    wp_walk
    refine sp_sizeM (Γ := Γ) isl hg hb6 ?_
    wp_walk
    refine ⟨cmul_l (by omega), ?_⟩
    by_cases c : h * prodI G < bulkI G
    · wp_walk using c, decide_true
      refine hq G k ⟨hg, hp, c, by omega, fun z => ?_⟩ (by omega) (by omega)
      subst z
      have : bulkI [] = 0 := rfl
      rw [this] at c
      have : 0 ≤ h * prodI [] := Int.mul_nonneg (by omega) (by omega)
      omega
    · wp_walk using c, decide_false
      refine ⟨⟨by omega, by omega⟩, ?_⟩
      rw [ones_flat]
      refine hq _ k ⟨fun z hz => by have := List.eq_of_mem_replicate hz; omega, by rw [ones_prod]; decide, by rw [ones_prod, ones_bulk]; omega, by rw [List.length_replicate]; omega, fun z => ?_⟩ (by omega) (by omega)
      have := congrArg List.length z
      rw [List.length_replicate, List.length_nil] at this
      omega
  wp_walk
  refine sp_bulk (Γ := Γ) ml hg hb6 (by omega) ?_
  wp_walk
  refine sp_sizeM (Γ := Γ) ml hg hb6 ?_
  wp_walk
  refine ⟨cmul_l (by omega), ?_⟩
  by_cases c1 : bulkI G ≤ h * prodI G
  · wp_walk using c1, decide_true
    refine ⟨_, Mu.put_same, ?_⟩
    wp_walk using List.length_map
    by_cases c2 : G.length < 8
    · have c2' : ((G.length : Nat) : Int) < 8 := by omega
      wp_walk using c2', decide_true, t__law_heavy_3
      refine sp_sizeM (Γ := Γ) ml hg hb6 ?_
      wp_walk
      refine ⟨cdiv (by omega) (by omega), ?_⟩
      wp_walk using t__law_heavy_4
      refine ⟨⟨_, Mu.put_same⟩, _, Mu.put_same, ?_⟩
      wp_walk using List.length_map
      have app : ∀ (z : Int) (k' : Nat), 1 ≤ z → prodI G * z ≤ 100 → k ≤ k' → k' ≤ k + 1 → ∃ l, (μ.put a (.lst (G.map D.int))) a = some (.lst l) ∧ l.length < 1000000 ∧ kk (.nx [some .m, some (.int h), some (.mref a), some (.int (100 / prodI G))]) ⟨k', (μ.put a (.lst (G.map D.int))).put a (.lst (l ++ [.int z]))⟩ := fun z k' z1 z2 y1 y2 => by
        refine ⟨_, Mu.put_same, by rw [List.length_map]; omega, ?_⟩
        rw [Mu.put_put]
        refine k1 (m - 1) _ _ (by omega) ⟨G ++ [z], k', by rw [List.map_append]; rfl, by omega, by omega, by rw [List.length_append, List.length_singleton]; omega, by omega, fun y hy => ?_, by rw [prodI_snoc]; exact z2, _, rfl⟩
        rcases List.mem_append.mp hy with w | w
        · exact hg y w
        · rw [List.mem_singleton] at w; omega
      by_cases c3 : G.length < 5
      · have c3' : ((G.length : Nat) : Int) < 5 := by omega
        wp_walk using c3', decide_true
        have hroom : 1 ≤ 100 / prodI G := Int.le_ediv_of_mul_le (by omega) (by omega)
        have hroom2 : 100 / prodI G * prodI G ≤ 100 := Int.ediv_mul_le 100 (by omega)
        obtain ⟨M, hM⟩ : ∃ M : Int, M = if 100 / prodI G < 5 then 100 / prodI G else 5 := ⟨_, rfl⟩
        have hM1 : 1 ≤ M ∧ M ≤ 5 ∧ M ≤ 100 / prodI G := by rw [hM]; split <;> omega
        rw [← hM]
        refine draw_spec hM1.1 (lg9 ⟨hM1.1, by omega⟩) (by omega) fun j hj0 hj1 n1 y1 y2 => ?_
        wp_walk
        refine app (1 + j) n1 (by omega) ?_ y1 y2
        have : prodI G * (1 + j) ≤ prodI G * (100 / prodI G) := Int.mul_le_mul_of_nonneg_left (by omega) (by omega)
        rw [Int.mul_comm] at hroom2
        omega
      · have c3' : ¬ ((G.length : Nat) : Int) < 5 := by omega
        wp_walk using c3', decide_false
        exact app 1 k (by omega) (by omega) (by omega) (by omega)
    · have c2' : ¬ ((G.length : Nat) : Int) < 8 := by omega
      wp_walk using c2', decide_false
      exact stop (.inr (by omega))
  · wp_walk using c1, decide_false
    exact stop (.inl c1)
/-! ### even gaps -/
structure EvenOk (h : Int) (G : List Int) : Prop where
  g : ∀ z ∈ G, 1 ≤ z
  s : G.Pairwise (· ≤ ·)
  c : chainB G = true
  p : prodI G ≤ 100
  b : bulkI G ≤ h * prodI G
  l : G.length ≤ 6
  ne : G ≠ []
theorem chain_snoc {w : Int} : ∀ {G : List Int}, chainB G = true → (∀ z ∈ G, z ∣ w) → chainB (G ++ [w]) = true
  | [], _, _ => rfl
  | [a], _, h => by
    show (decide (w % a = 0) && true) = true
    rw [Bool.and_true]
    exact decide_eq_true (Int.emod_eq_zero_of_dvd (h a List.mem_cons_self))
  | a :: b :: G, hc, h => by
    rw [chainB, Bool.and_eq_true] at hc
    have := chain_snoc (G := b :: G) hc.2 fun z hz => h z (List.mem_cons_of_mem _ hz)
    show (decide (b % a = 0) && chainB ((b :: G) ++ [w])) = true
    rw [hc.1, this]
    rfl
theorem sp_even {h : Int} (h1 : 1 ≤ h) (h3 : h ≤ 3) (hn : n + 20 < 2 ^ 40) (hq : ∀ (G : List Int) (n' : Nat), EvenOk h G → n ≤ n' → n' ≤ n + 7 → q (.lst (G.map D.int)) ⟨n', μ⟩) : F__law_even Γ [.m, .int h] ⟨n, μ⟩ q x := by
  wp_walk using F__law_even, t__law_even
  refine draw_spec (by decide) (lg9 ⟨by decide, by decide⟩) (by omega) fun j0 hj0 hj1 n0 y1 y2 => ?_
  wp_walk
  wp_walk using t__law_even_2
  refine ⟨by decide, ?_⟩
  refine for_inv (I := fun ds ρ s => ∃ (G : List Int) (L : Int) (m : Nat), s = ⟨m, μ⟩ ∧ n ≤ m ∧ m + ds.length ≤ n + 7 ∧ G.length + ds.length ≤ 6 ∧ (∀ z ∈ G, 1 ≤ z) ∧ G.Pairwise (· ≤ ·) ∧ chainB G = true ∧ prodI G ≤ 100 ∧ bulkI G ≤ h * prodI G ∧ 1 ≤ L ∧ L * 3 ^ ds.length ≤ 2187 ∧ (∀ z ∈ G, z ∣ L) ∧ ∃ o4 o5 : Option D, ρ = [some .m, some (.int h), some (.lst (G.map D.int)), some (.int L), o4, o5]) ?_ ?_ _ _ _ ⟨[], 1 + j0, n0, rfl, by omega, by rw [range_len]; show n0 + 6 ≤ n + 7; omega, by rw [range_len]; decide, fun _ z => (nomatch z), .nil, rfl, by decide, by show 0 ≤ h * prodI []; exact Int.mul_nonneg (by omega) (by decide), by omega, by rw [range_len]; show (1 + j0) * 729 ≤ 2187; omega, fun _ z => (nomatch z), _, _, rfl⟩
  · rintro d ds ρ s k ⟨G, L, m, rfl, hm1, hm2, hl, hg, hs, hc, hp, hb, hL1, hL2, hd, o4, o5, rfl⟩ k1 k2
    rw [List.length_cons] at hm2 hl hL2
    have hpow : (1 : Int) ≤ 3 ^ ds.length := Int.le_of_lt_add_one (by have := Int.pow_pos (n := 3) (m := ds.length) (by decide); omega)
    have hL3 : L * 3 ^ ds.length * 3 ≤ 2187 := by rw [Int.pow_succ] at hL2; rw [Int.mul_assoc]; exact hL2
    have hLs : L * 1 ≤ L * 3 ^ ds.length := Int.mul_le_mul_of_nonneg_left hpow (by omega)
    wp_walk using t__law_even_3
    refine draw_spec (by decide) (lg9 ⟨by decide, by decide⟩) (by omega) fun j hj0 hj1 n1 y3 y4 => ?_
    wp_walk
    obtain ⟨f, hf, f1, f3⟩ : ∃ f : Int, L2.atI [D.int 1, D.int 1, D.int 2, D.int 3] j = some (.int f) ∧ 1 ≤ f ∧ f ≤ 3 := by
      have : j = 0 ∨ j = 1 ∨ j = 2 ∨ j = 3 := by omega
      rcases this with rfl | rfl | rfl | rfl
      · exact ⟨1, rfl, by decide, by decide⟩
      · exact ⟨1, rfl, by decide, by decide⟩
      · exact ⟨2, rfl, by decide, by decide⟩
      · exact ⟨3, rfl, by decide, by decide⟩
    refine ⟨_, hf, ?_⟩
    wp_walk
    refine ⟨cmul_l (by omega), ?_⟩
    have hLf1 : 1 ≤ L * f := by
      have : L * 1 ≤ L * f := Int.mul_le_mul_of_nonneg_left f1 (by omega)
      omega
    have hLf3 : L * f ≤ L * 3 := Int.mul_le_mul_of_nonneg_left f3 (by omega)
    have hLn : L * f * 3 ^ ds.length ≤ 2187 := by
      have : L * f * 3 ^ ds.length ≤ L * 3 * 3 ^ ds.length := Int.mul_le_mul_of_nonneg_right hLf3 (by omega)
      rw [Int.mul_assoc L 3, Int.mul_comm 3, ← Int.mul_assoc] at this
      omega
    have hdL : ∀ z ∈ G, z ∣ L * f := fun z hz => Int.dvd_trans (hd z hz) (Int.dvd_mul_right L f)
    wp_walk using t__law_even_4
    refine ⟨by rw [List.length_map]; omega, ?_⟩
    have e : G.map D.int ++ [D.int (L * f)] = (G ++ [L * f]).map D.int := by rw [List.map_append]; rfl
    rw [e]
    have hg1 : ∀ z ∈ G ++ [L * f], 1 ≤ z := fun z hz => by
      rcases List.mem_append.mp hz with y | y
      · exact hg z y
      · rw [List.mem_singleton] at y; omega
    have hP := prodI_pos hg
    have hpb : prodI (G ++ [L * f]) ≤ 1000000 := by
      rw [prodI_snoc]
      have : prodI G * (L * f) ≤ 100 * 2187 := Int.mul_le_mul hp (by omega) (by omega) (by omega)
      omega
    have hll : (G ++ [L * f]).length ≤ 1000 := by rw [List.length_append, List.length_singleton]; omega
    wp_walk using t__law_even_5
    refine sp_sizeM (Γ := Γ) isl hg1 hpb ?_
    wp_walk
    have keep : ∀ o5 : Option D, k (.nx [some .m, some (.int h), some (.lst (G.map D.int)), some (.int (L * f)), some d, o5]) ⟨n1, μ⟩ := fun o5 => k1 _ _ ⟨G, L * f, n1, rfl, by omega, by omega, by omega, hg, hs, hc, hp, hb, hLf1, hLn, hdL, _, _, rfl⟩
    by_cases c1 : prodI (G ++ [L * f]) ≤ 100
    · wp_walk using c1, decide_true
      refine sp_bulk (Γ := Γ) isl hg1 hpb hll ?_
      wp_walk
      refine sp_sizeM (Γ := Γ) isl hg1 hpb ?_
      wp_walk
      refine ⟨cmul_l (by omega), ?_⟩
      by_cases c2 : bulkI (G ++ [L * f]) ≤ h * prodI (G ++ [L * f])
      · wp_walk using c2, decide_true
        refine k1 _ _ ⟨G ++ [L * f], L * f, n1, rfl, by omega, by omega, by rw [List.length_append, List.length_singleton]; omega, hg1, ?_, chain_snoc hc hdL, c1, c2, hLf1, hLn, fun z hz => ?_, _, _, rfl⟩
        · rw [List.pairwise_append]
          refine ⟨hs, List.pairwise_singleton .., fun z hz y hy => ?_⟩
          rw [List.mem_singleton] at hy
          have := Int.le_of_dvd (by omega) (hdL z hz)
          omega
        · rcases List.mem_append.mp hz with y | y
          · exact hdL z y
          · rw [List.mem_singleton] at y; rw [y]; exact Int.dvd_refl _
      · wp_walk using c2, decide_false
        exact keep _
    · wp_walk using c1, decide_false
      exact keep _
  · rintro ρ s ⟨G, L, m, rfl, hm1, hm2, hl, hg, hs, hc, hp, hb, hL1, hL2, hd, o4, o5, rfl⟩
    rw [List.length_nil] at hm2 hl
    wp_walk using t__law_even_7
    cases G with
    | nil =>
      wp_walk using List.map_nil, List.isEmpty_nil, Bool.true_xor, Bool.not_true
      exact hq [2, 4, 4] m ⟨by decide, by decide, by decide, by decide, by show (32 : Int) ≤ h * 32; omega, by decide, by decide⟩ (by omega) (by omega)
    | cons g G =>
      wp_walk using List.map_cons, List.isEmpty_cons, Bool.true_xor, Bool.not_false
      exact hq (g :: G) m ⟨hg, hs, hc, hp, hb, by omega, by simp⟩ (by omega) (by omega)
/-! ### all is told -/
theorem erase_perm {α : Type} : ∀ {l : List α} {k : Nat} {d : α}, l[k]? = some d → l.Perm (d :: l.eraseIdx k)
  | [], _, _, h => by simp at h
  | a :: l, 0, d, h => by cases h; exact .refl _
  | a :: l, k + 1, d, h => by
    rw [List.eraseIdx_cons_succ]
    exact ((erase_perm (l := l) (by simpa using h)).cons a).trans (.swap ..)
theorem erase_map {l : List Int} {k : Nat} : (l.map D.int).eraseIdx k = (l.eraseIdx k).map D.int := by
  induction l generalizing k with
  | nil => rfl
  | cons a l ih =>
    cases k with
    | zero => rfl
    | succ k => rw [List.map_cons, List.eraseIdx_cons_succ, List.eraseIdx_cons_succ, List.map_cons, ih]
theorem sp_told {h : Int} {G : List Int} {b : Bool} (h1 : 1 ≤ h) (h3 : h ≤ 3) (hg : ∀ z ∈ G, 1 ≤ z) (hp : prodI G ≤ 1000) (l1 : 1 ≤ G.length) (l8 : G.length ≤ 8) (hb : ∀ gs : List Int, G.Perm gs → holdB h gs = b) (hn : n + 20 < 2 ^ 40)
    (hq : ∀ n', n ≤ n' → n' ≤ n + 8 → q (.bl true) ⟨n', μ⟩) : F__law_is_told Γ [.m, .int h, .lst (G.map D.int), .bl b] ⟨n, μ⟩ q x := by
  wp_walk using F__law_is_told, t__law_is_told
  intro a1 ha1 a2 ha2
  have n12 : a2 ≠ a1 := fun e => by rw [e, Mu.put_same] at ha2; cases ha2
  have ha2' : μ a2 = none := by rw [Mu.put_ne n12] at ha2; exact ha2
  wp_walk using t__law_is_told_2
  refine wh_inv (I := fun m ρ s => ∃ (Lf Rw : List Int) (k : Nat) (μ' : Mu), s = ⟨k, μ'⟩ ∧ Sub μ μ' ∧ μ' a1 = some (.lst (Lf.map D.int)) ∧ μ' a2 = some (.lst (Rw.map D.int)) ∧ n ≤ k ∧ k + m ≤ n + 8 ∧ Lf.length = m ∧ G.Perm (Rw ++ Lf) ∧ ρ = [some .m, some (.int h), some (.lst (G.map D.int)), some (.bl b), some (.mref a1), some (.mref a2), none, none]) ?_ G.length _ _ ⟨G, [], n, _, rfl, ((Sub.refl μ).put ha1).put ha2', by rw [Mu.put_ne n12.symm]; exact Mu.put_same, Mu.put_same, by omega, by omega, rfl, .refl _, rfl⟩
  rintro m ρ s kk ⟨Lf, Rw, k, μ', rfl, hs, hm1, hm2, hk1, hk2, hl, hperm, rfl⟩ k1 k2
  have hlen := hperm.length_eq
  rw [List.length_append] at hlen
  wp_walk
  refine ⟨_, hm1, ?_⟩
  cases Lf with
  | nil =>
    wp_walk using List.map_nil, List.isEmpty_nil, Bool.true_xor, Bool.not_true, t__law_is_told_4
    refine f_frzL hm2 ?_
    rw [List.append_nil] at hperm
    have ok : PlanOk h Rw := ⟨h1, h3, by rw [← hperm.length_eq]; exact l1, by rw [← hperm.length_eq]; exact l8, fun z hz => by
      have hz' := hperm.mem_iff.mpr hz
      have := hg z hz'
      have := Int.le_of_dvd (by have := prodI_pos hg; omega) (prod_dvd hz')
      omega⟩
    have hpr : prodI Rw ≤ 1000 := by rw [← prodI_perm hperm]; exact hp
    have rp : reprOk (planD h Rw) := (ok_plan ok).repr (by decide) (by decide)
    have ob : reprOk (.lst [.bl b, .bl b]) := (ok3 (b := 0) (e := 0) (m := 2) (b' := 2) (e' := 1) (.cons okL (.cons okL .nil)) (by simp) (by decide) (by decide)).repr (by decide) (by decide)
    wp_walk using t__law_is_told_5
    refine ⟨rp, ?_⟩
    wp_walk using t__law_is_told_6
    refine sp_does_last (Γ := Γ) (h := h) (gs := Rw) ok (fun _ => ?_) (fun z => by omega)
    rw [show lastB (scS h.toNat Rw) Rw = b from hb Rw hperm]
    wp_walk
    refine sp_does_last (Γ := Γ) (h := h) (gs := Rw) ok (fun _ => ?_) (fun z => by omega)
    rw [show lastB (scS h.toNat Rw) Rw = b from hb Rw hperm]
    wp_walk
    refine ⟨ob, ob, ?_⟩
    wp_walk using decide_true, Bool.false_xor
    refine ⟨rp, ?_⟩
    refine gc_end (μ := μ) (fun c o e => ?_) (hq k (by omega) (by omega))
    show (μ'.del a2) c = some o
    rw [Mu.del_ne (fun z => by rw [z, ha2'] at e; cases e)]
    exact hs c o e
  | cons g Lf =>
    wp_walk using List.map_cons, List.isEmpty_cons, Bool.true_xor, Bool.not_false, t__law_is_told_3
    refine ⟨⟨_, hm2⟩, ⟨_, hm1⟩, _, hm1, ?_⟩
    rw [List.length_map]
    refine draw_spec (by rw [List.length_cons]; omega) (lg9 ⟨by rw [List.length_cons]; omega, by rw [List.length_cons] at hl ⊢; omega⟩) (by omega) fun j hj0 hj1 n1 y1 y2 => ?_
    have ej : j = ((j.toNat : Nat) : Int) := by omega
    obtain ⟨z, hz⟩ := get_of_len (l := g :: Lf) (i := j.toNat) (by omega)
    rw [ej]
    wp_walk
    refine pop_go hm1 (by rw [List.getElem?_map, hz]; rfl) (by rw [List.length_map, List.length_cons]; rw [List.length_cons] at hl; omega) ?_
    wp_walk
    rw [← List.map_cons, erase_map]
    refine ⟨_, by rw [Mu.put_ne n12]; exact hm2, by rw [List.length_map]; omega, ?_⟩
    have ep := erase_perm hz
    have el := ep.length_eq
    rw [List.length_cons] at hl el
    refine k1 (m - 1) _ _ (by omega) ⟨(g :: Lf).eraseIdx j.toNat, Rw ++ [z], n1, _, rfl, (hs.put ha1).put ha2', by rw [Mu.put_ne n12.symm]; exact Mu.put_same, by rw [List.map_append]; exact Mu.put_same, by omega, by omega, by simp at el; omega, ?_, rfl⟩
    refine hperm.trans ?_
    rw [List.append_assoc]
    exact List.Perm.append_left Rw ep
end
/-! ### by hand -/
noncomputable def handL1 : List (List Int) := [[2, 3], [3, 3, 6], [2, 4, 12], [3, 4, 4], [2, 5, 8], [4, 5, 5, 6]]
noncomputable def handR1 : List (List (List Nat)) := [[[0], [1]], [[0], [1], [2]], [[0], [1], [0], [2]], [[0], [1], [2]], [[0], [1], [0], [2]], [[0], [1], [2], [3]]]
theorem hand_1 : ((handL1.zip handR1).all fun p => planOkB 1 p.1 && decide (prodI p.1 ≤ 1000) && roundB 1 p.1 p.2) = true := by decide +kernel
theorem hand_1g {g : List Int} (hg : g ∈ handL1) : PlanOk 1 g ∧ prodI g ≤ 1000 ∧ holdB 1 g = true := by
  have : ∃ r, (g, r) ∈ handL1.zip handR1 := by
    simp -implicitDefEqProofs only [handL1, List.mem_cons, List.not_mem_nil, or_false] at hg
    rcases hg with rfl | rfl | rfl | rfl | rfl | rfl <;> exact ⟨_, by simp [handL1, handR1]; rfl⟩
  obtain ⟨r, hr⟩ := this
  have := List.all_eq_true.mp hand_1 _ hr
  rw [Bool.and_eq_true, Bool.and_eq_true] at this
  exact ⟨planOk_of this.1.1, of_decide_eq_true this.1.2, Sched.holdB (h := 1) (round_sched this.2)⟩
noncomputable def handL2 : List (List Int) := [[2, 3, 5], [1, 9], [3, 3, 3, 9], [2, 2, 7], [4, 4, 4, 4, 3]]
theorem hand_2 : (handL2.all fun g => planOkB 1 g && decide (prodI g ≤ 1000) && decide (1 * prodI g < bulkI g)) = true := by decide +kernel
theorem heavyB {h : Int} {gs : List Int} (h0 : 0 ≤ h) (hg : ∀ z ∈ gs, 1 ≤ z) (hb : h * prodI gs < bulkI gs) : holdB h gs = false := by
  have := heavy (h := h.toNat) hg (by rw [Int.toNat_of_nonneg h0]; exact hb) gs (first_box hg)
  cases e : holdB h gs with
  | false => rfl
  | true => exact absurd this (lastB_iff.mp e)
theorem hand_2g {g : List Int} (hg : g ∈ handL2) : PlanOk 1 g ∧ prodI g ≤ 1000 ∧ holdB 1 g = false := by
  have := List.all_eq_true.mp hand_2 _ hg
  rw [Bool.and_eq_true, Bool.and_eq_true] at this
  have ok := planOk_of this.1.1
  exact ⟨ok, of_decide_eq_true this.1.2, heavyB (by decide) (fun z hz => (ok.g z hz).1) (of_decide_eq_true this.2)⟩
section
variable {n : Nat} {μ : Mu}
theorem last_go {h : Int} {gs : List Int} {b : Bool} {s : S} (ok : PlanOk h gs) (hp : prodI gs ≤ 1000) (hb : holdB h gs = b) (hq : q (.bl b) s) : F_does_last Γ [planD h gs] s q x := by
  refine sp_does_last (Γ := Γ) ok (fun _ => ?_) (fun z => by omega)
  rw [show lastB (scS h.toNat gs) gs = b from hb]
  exact hq
theorem law_8 {o0 o1 o2 o3 o4 o5 o6 : Option D} (hq : q (.bl true) ⟨n, μ⟩) : t_law_8 Γ [o0, o1, o2, o3, o4, o5, o6] ⟨n, μ⟩ (outQ q) x := by
  wp_walk using t_law_8, t_law_9
  have l1 : [D.tup [.int 2, .int 3], .tup [.int 3, .int 3, .int 6], .tup [.int 2, .int 4, .int 12], .tup [.int 3, .int 4, .int 4], .tup [.int 2, .int 5, .int 8], .tup [.int 4, .int 5, .int 5, .int 6]] = handL1.map dayD := rfl
  rw [l1]
  refine lc_pure (f := fun _ => none) (fun d hd n k hk => ?_) ?_
  · obtain ⟨g, hg, rfl⟩ := List.mem_map.mp hd
    obtain ⟨ok, hp, hb⟩ := hand_1g hg
    rw [s_lc1]
    wp_walk using wipeE
    refine last_go (Γ := Γ) (h := 1) (gs := g) ok hp hb ?_
    wp_walk using decide_true, Bool.true_xor, Bool.not_true
    exact hk
  · rw [show (handL1.map dayD).filterMap (fun _ => (none : Option D)) = [] from by simp]
    wp_walk using List.isEmpty_nil, Bool.true_xor, Bool.not_true, t_law_11
    refine last_go (Γ := Γ) (h := 2) (gs := [2, 2, 2, 2]) (b := true) (planOk_of (by decide +kernel)) (by decide) (Sched.holdB (h := 2) (round_sched (r := [[0, 1], [2, 3]]) (by decide +kernel))) ?_
    wp_walk
    refine ⟨⟨by simp, by decide, by decide⟩, ?_⟩
    refine last_go (Γ := Γ) (h := 3) (gs := [2, 2, 2, 2, 2, 2]) (b := true) (planOk_of (by decide +kernel)) (by decide) (Sched.holdB (h := 3) (round_sched (r := [[0, 1, 2], [3, 4, 5]]) (by decide +kernel))) ?_
    wp_walk
    refine ⟨⟨by simp, by decide, by decide⟩, ?_⟩
    refine last_go (Γ := Γ) (h := 2) (gs := [2, 2, 2, 2, 2]) (b := false) (planOk_of (by decide +kernel)) (by decide) (heavyB (by decide) (by decide) (by decide +kernel)) ?_
    wp_walk
    refine last_go (Γ := Γ) (h := 2) (gs := [1, 3, 2]) (b := true) (planOk_of (by decide +kernel)) (by decide) (Sched.holdB (h := 2) (round_sched (r := [[0, 1], [0, 2]]) (by decide +kernel))) ?_
    wp_walk using t_law_12
    refine f_cmpD (r := true) (by decide +kernel) ?_
    wp_walk using Bool.true_xor, Bool.not_true, t_law_14, t_law_15
    have l2 : [D.tup [.int 2, .int 3, .int 5], .tup [.int 1, .int 9], .tup [.int 3, .int 3, .int 3, .int 9], .tup [.int 2, .int 2, .int 7], .tup [.int 4, .int 4, .int 4, .int 4, .int 3]] = handL2.map dayD := rfl
    rw [l2]
    refine lc_pure (f := fun _ => none) (fun d hd n k hk => ?_) ?_
    · obtain ⟨g, hg, rfl⟩ := List.mem_map.mp hd
      obtain ⟨ok, hp, hb⟩ := hand_2g hg
      rw [s_lc1]
      wp_walk using wipeE
      refine last_go (Γ := Γ) (h := 1) (gs := g) ok hp hb ?_
      wp_walk using decide_true, Bool.true_xor, Bool.not_true
      exact hk
    · rw [show (handL2.map dayD).filterMap (fun _ => (none : Option D)) = [] from by simp]
      wp_walk using List.isEmpty_nil, Bool.false_xor
      exact hq
end
/-! ### the law -/
theorem law_true (Γ : Gam) (ns : List Int) (hn : ns.length ≤ 63) : F_law Γ [.scr ns] ⟨0, fun _ => none⟩ (fun d _ => d = .bl true) fun _ _ => False := by
  wp_walk using F_law, t_law
  obtain ⟨N, hN⟩ : ∃ N : Int, N = 2 + (if (3 : Int) < (ns.length : Nat) then 3 else ((ns.length : Nat) : Int)) := ⟨_, rfl⟩
  have hN2 : 0 ≤ N ∧ N ≤ 5 := by rw [hN]; split <;> omega
  rw [← hN]
  refine ⟨⟨by omega, by omega⟩, ?_⟩
  refine for_inv (I := fun ds ρ s => ∃ m, s = ⟨m, fun _ => none⟩ ∧ m + ds.length * 100 ≤ 500 ∧ (∀ d ∈ ds, ∃ i : Int, d = .int i ∧ 0 ≤ i ∧ i < 9) ∧ ∃ o1 o2 o3 o4 o5 o6 : Option D, ρ = [some (.scr ns), o1, o2, o3, o4, o5, o6]) ?_ ?_ _ _ _ ⟨0, rfl, by rw [range_len]; omega, fun d hd => ?_, _, _, _, _, _, _, rfl⟩
  · rintro d ds ρ s k ⟨m, rfl, hm, hds, o1, o2, o3, o4, o5, o6, rfl⟩ k1 k2
    obtain ⟨i, rfl, hi0, hi1⟩ := hds d List.mem_cons_self
    rw [List.length_cons] at hm
    wp_walk using t_law_2
    refine begun_spec hn hi0 (by omega) ?_
    wp_walk using t_law_3
    refine draw_spec (by decide) (lg9 ⟨by decide, by decide⟩) (by omega) fun j hj0 hj1 n1 h1 h2 => ?_
    wp_walk using t_law_4
    refine sp_light (Γ := Γ) (by omega) fun G n2 hG h3 h4 => ?_
    wp_walk
    refine sp_told (Γ := Γ) (by decide) (by decide) (fun z hz => (hG.g z hz).1) (by have := hG.p; omega) (List.length_pos_iff.mpr hG.ne) (by have := hG.l; omega) (fun gs hp => Sched.holdB (h := 1) (light_sched hG.g hG.p hG.b hG.l hp)) (by omega) fun n3 h5 h6 => ?_
    wp_walk
    refine sp_heavy (Γ := Γ) (h := 1 + j) (by omega) (by omega) (by omega) fun G2 n4 hG2 h7 h8 => ?_
    wp_walk
    refine sp_told (Γ := Γ) (h := 1 + j) (by omega) (by omega) hG2.g (by have := hG2.p; omega) (List.length_pos_iff.mpr hG2.ne) hG2.l (fun gs hp => heavyB (by omega) (fun z hz => hG2.g z (hp.mem_iff.mpr hz)) (by rw [← prodI_perm hp, ← bulkI_perm hp]; exact hG2.b)) (by omega) fun n5 h9 h10 => ?_
    wp_walk using t_law_6
    refine sp_even (Γ := Γ) (h := 1 + j) (by omega) (by omega) (by omega) fun G3 n6 hG3 h11 h12 => ?_
    wp_walk
    refine sp_told (Γ := Γ) (h := 1 + j) (by omega) (by omega) hG3.g (by have := hG3.p; omega) (List.length_pos_iff.mpr hG3.ne) (by have := hG3.l; omega) (fun gs hp => Sched.holdB (even_sched (by omega) (by omega) hG3.g hG3.s hG3.c hG3.p hG3.b hG3.l hp)) (by omega) fun n7 h13 h14 => ?_
    wp_walk
    exact k1 _ _ ⟨n7, rfl, by omega, fun e he => hds e (List.mem_cons_of_mem _ he), _, _, _, _, _, _, rfl⟩
  · rintro ρ s ⟨m, rfl, _, _, o1, o2, o3, o4, o5, o6, rfl⟩
    wp_walk
    exact law_8 rfl
  · obtain ⟨i, rfl, h0, h1⟩ := range_get hd
    exact ⟨i, rfl, h0, by omega⟩
end K07
namespace K07
open PySem PySem.Spec L2 OE
noncomputable def top (i : Nat) : Stmt := PySem.Challenge.pw_oftenenough_k07_whole_shares_that_last.main.body.getD i (.Pass ⟨0, 0, 0, 0⟩)
noncomputable def inner (s : Stmt) (j : Nat) : Stmt := match s with | .ClassDef _ _ _ b _ _ _ _ _ _ _ => b.getD j (.Pass ⟨0, 0, 0, 0⟩) | _ => .Pass ⟨0, 0, 0, 0⟩
/-- what the written part says of the names -/
structure Txt (Γ : Gam) (P : Program) (K : PySem.W.Frag) (mg : Str → Option Value) : Prop where
  b_all : mg "all" = none
  b_bool : mg "bool" = none
  b_enumerate : mg "enumerate" = none
  b_int : mg "int" = none
  b_isinstance : mg "isinstance" = none
  b_len : mg "len" = none
  b_list : mg "list" = none
  b_max : mg "max" = none
  b_min : mg "min" = none
  b_range : mg "range" = none
  b_repr : mg "repr" = none
  b_sorted : mg "sorted" = none
  b_sum : mg "sum" = none
  b_tuple : mg "tuple" = none
  c_MOST_HANDS : ∃ t, mg "MOST_HANDS" = some (.int 3 t)
  c_MOST_THINGS : ∃ t, mg "MOST_THINGS" = some (.int 8 t)
  c_MOST_GAP : ∃ t, mg "MOST_GAP" = some (.int 1000000000000000000000000000000 t)
  c_MOST_STANDINGS : ∃ t, mg "MOST_STANDINGS" = some (.int 1000 t)
  x_BadPlan : ExG Γ P K mg "BadPlan"
  x_TooGreat : ExG Γ P K mg "TooGreat"
  a_Web_own_falls : ∀ C, Γ "Web" = some C → Cls K C ∧ NoAttr K C "own_falls"
  a_Web_own_links : ∀ C, Γ "Web" = some C → Cls K C ∧ NoAttr K C "own_links"
  a_Web_own_plan : ∀ C, Γ "Web" = some C → Cls K C ∧ NoAttr K C "own_plan"
  tru : True
section
variable [TN] {Γ : Gam} {P : Program} {w : World} {K : PySem.W.Frag} {mg : Str → Option Value} {base : Heap}
noncomputable abbrev s__law_begun : Stmt := top 24
theorem S__law_begun : FnScope ["script", "k", "cells", "great", "seed", "cell"] ["script", "k"] (defScope s__law_begun) := ⟨rfl, rfl, rfl, by decide +kernel, rfl, by decide +kernel, by decide +kernel⟩
theorem fn__law_begun {f : Addr} {fd : FuncData} (T : Txt Γ P K mg)  (F : Fun K "_law_begun" "_law_begun" s__law_begun f fd) (hm : mg "_law_begun" = some (.ref f)) (hb : Binds K fd ["script", "k"] []) : Fn Γ P w K mg base "_law_begun" 1 2 (F__law_begun Γ) := by
  refine fn_of F hm hb S__law_begun rfl fun cdv hcd A outer s H E hr hg tk hp => ?_
  have hN := S__law_begun.nd
  have hu := unit64 hr
  have hu1 := unit1 hr
  exact db_cons (ds_set 2 hN (d_add (d_slice (d_var 0 (pv 0)) (do_some (d_var 1 (pv 1))) (do_none)) (d_slice (d_var 0 (pv 0)) (do_none) (do_some (d_var 1 (pv 1))))))
    (db_cons (ds_setLc 3 hN (own := [("cell", 5)]) (blkOk_by (by first | rfl | with_unfolding_all rfl | kernel_rfl)) (di_seq (d_var 2 (pv 2))) (fun _ _ _ _ _ => dg_name 5 hN) (fun _ _ _ _ _ => dts_one (dt_ge (d_var 5 (pv 5)) (d_pow (d_int) (d_int)))) (fun _ _ _ _ _ => d_var 5 (pv 5)) (sw_true rfl rfl rfl (by decide +kernel)))
    (db_cons (ds_set 4 hN (d_add (d_int) (d_var 1 (pv 1))))
    (db_cons (ds_for hp (di_seq (d_var 2 (pv 2))) (dg_name 5 hN) (db_one (ds_set 4 hN (d_mod (d_toInt T.b_int (da_cons (d_add (d_mul (d_var 4 (pv 4)) (d_int)) (d_var 5 (pv 5))) (da_nil))) (d_int)))))
    (db_one (ds_ret (d_dictM (dp_cons (d_if (dt_ne hu (d_var 3 (pv 3)) (d_lst (da_nil))) (d_item (d_var 3 (pv 3)) (d_int)) (d_int)) (dp_cons (d_var 4 (pv 4)) (dp_cons (d_add (d_var 2 (pv 2)) (d_lst (da_cons (d_add (d_mul (d_int) (d_var 1 (pv 1))) (d_int)) (da_nil)))) (dp_cons (d_int) (dp_nil)))))))))))
noncomputable abbrev s_is_whole : Stmt := top 9
theorem S_is_whole : FnScope ["value", "least", "most"] ["value", "least", "most"] (defScope s_is_whole) := ⟨rfl, rfl, rfl, by decide +kernel, rfl, by decide +kernel, by decide +kernel⟩
theorem fn_is_whole {f : Addr} {fd : FuncData} (T : Txt Γ P K mg)  (F : Fun K "is_whole" "is_whole" s_is_whole f fd) (hm : mg "is_whole" = some (.ref f)) (hb : Binds K fd ["value", "least", "most"] []) : Fn Γ P w K mg base "is_whole" 1 3 (F_is_whole Γ) := by
  refine fn_of F hm hb S_is_whole rfl fun cdv hcd A outer s H E hr hg tk hp => ?_
  have hN := S_is_whole.nd
  have hu := unit64 hr
  have hu1 := unit1 hr
  exact db_one (ds_ret (d_and (d_isi (T := "int") (by unfold isiT; simp) T.b_isinstance T.b_int PyProof.Rows.boot_int (d_var 0 (pv 0))) (d_and (d_not (d_isi (T := "bool") (by unfold isiT; simp) T.b_isinstance T.b_bool PyProof.Rows.boot_bool (d_var 0 (pv 0)))) (d_one (d_lele (d_var 1 (pv 1)) (d_var 0 (pv 0)) (d_var 2 (pv 2)))))))
noncomputable abbrev s_need_plan : Stmt := top 10
theorem S_need_plan : FnScope ["thing", "number", "gap"] ["thing"] (defScope s_need_plan) := ⟨rfl, rfl, rfl, by decide +kernel, rfl, by decide +kernel, by decide +kernel⟩
theorem fn_need_plan {f : Addr} {fd : FuncData} (T : Txt Γ P K mg) (f_is_whole : Fn Γ P w K mg base "is_whole" 1 3 (F_is_whole Γ)) (F : Fun K "need_plan" "need_plan" s_need_plan f fd) (hm : mg "need_plan" = some (.ref f)) (hb : Binds K fd ["thing"] []) : Fn Γ P w K mg base "need_plan" 2 1 (F_need_plan Γ) := by
  refine fn_of F hm hb S_need_plan rfl fun cdv hcd A outer s H E hr hg tk hp => ?_
  have hN := S_need_plan.nd
  have hu := unit64 hr
  have hu1 := unit1 hr
  exact db_cons (ds_if ((dw_or (dt_not (dt_val (d_isi (T := "tuple") (by unfold isiT; simp) T.b_isinstance T.b_tuple PyProof.Rows.boot_tuple (d_var 0 (pv 0))))) (dw_or1 (dt_ne hu (d_len T.b_len (da_cons (d_var 0 (pv 0)) (da_nil))) (d_int)))).dt) (db_one (ds_raiseG T.x_BadPlan hr tk (da_cons (d_tup (da_nil)) (da_nil)))) (db_nil))
    (db_cons (ds_if (dt_not (dt_val (d_call f_is_whole (hr.mono (by decide)) hg tk (da_cons (d_item (d_var 0 (pv 0)) (d_int)) (da_cons (d_int) (da_cons (d_cint T.c_MOST_HANDS) (da_nil))))))) (db_one (ds_raiseG T.x_BadPlan hr tk (da_cons (d_tup (da_cons (d_int) (da_nil))) (da_nil)))) (db_nil))
    (db_cons (ds_if ((dw_or (dt_not (dt_val (d_isi (T := "tuple") (by unfold isiT; simp) T.b_isinstance T.b_tuple PyProof.Rows.boot_tuple (d_item (d_var 0 (pv 0)) (d_int))))) (dw_or1 (dt_not (dt_lele (d_int) (d_len T.b_len (da_cons (d_item (d_var 0 (pv 0)) (d_int)) (da_nil))) (d_cint T.c_MOST_THINGS))))).dt) (db_one (ds_raiseG T.x_BadPlan hr tk (da_cons (d_tup (da_cons (d_int) (da_nil))) (da_nil)))) (db_nil))
    (db_cons (ds_for hp (di_enum T.b_enumerate (da_cons (d_item (d_var 0 (pv 0)) (d_int)) (da_nil))) (dg_tup (dgs_cons (dg_name 1 hN) (dgs_cons (dg_name 2 hN) (dgs_nil)))) (db_one (ds_if (dt_not (dt_val (d_call f_is_whole (hr.mono (by decide)) hg tk (da_cons (d_var 2 (pv 2)) (da_cons (d_int) (da_cons (d_cint T.c_MOST_GAP) (da_nil))))))) (db_one (ds_raiseG T.x_BadPlan hr tk (da_cons (d_tup (da_cons (d_int) (da_cons (d_var 1 (pv 1)) (da_nil)))) (da_nil)))) (db_nil))))
    (db_one (ds_ret (d_var 0 (pv 0)))))))
noncomputable abbrev s_Web_does_hold : Stmt := inner (top 20) 2
theorem S_Web_does_hold : FnScope ["self", "standing"] ["self", "standing"] (defScope s_Web_does_hold) := ⟨rfl, rfl, rfl, by decide +kernel, rfl, by decide +kernel, by decide +kernel⟩
theorem fn_Web_does_hold {f C : Addr} {fd : FuncData} (T : Txt Γ P K mg)  (F : Fun K "does_hold" "Web.does_hold" s_Web_does_hold f fd) (hC : Γ "Web" = some C) (hc : Cls K C) (me : Meth K C "does_hold" f) (hb : Binds K fd ["self", "standing"] []) : FnM Γ P w K mg base "Web" "does_hold" 1 2 (F_Web_does_hold Γ) := by
  refine fnM_of F hC hc me hb S_Web_does_hold rfl fun cdv hcd A outer s H E hr hg tk hp => ?_
  have hN := S_Web_does_hold.nd
  have hu := unit64 hr
  have hu1 := unit1 hr
  exact db_one (ds_ret (d_dnin hu1 (d_var 1 (pv 1)) (d_mfld T.a_Web_own_falls (d_var 0 (pv 0)))))
noncomputable abbrev s_all_standings : Stmt := top 19
theorem S_all_standings : FnScope ["plan", "rows", "gap", "row", "left"] ["plan"] (defScope s_all_standings) := ⟨rfl, rfl, rfl, by decide +kernel, rfl, by decide +kernel, by decide +kernel⟩
theorem fn_all_standings {f : Addr} {fd : FuncData} (T : Txt Γ P K mg)  (F : Fun K "all_standings" "all_standings" s_all_standings f fd) (hm : mg "all_standings" = some (.ref f)) (hb : Binds K fd ["plan"] []) : Fn Γ P w K mg base "all_standings" 1 1 (F_all_standings Γ) := by
  refine fn_of F hm hb S_all_standings rfl fun cdv hcd A outer s H E hr hg tk hp => ?_
  have hN := S_all_standings.nd
  have hu := unit64 hr
  have hu1 := unit1 hr
  exact db_cons (ds_set 1 hN (d_lst (da_cons (d_tup (da_nil)) (da_nil))))
    (db_cons (ds_for hp (di_seq (d_item (d_var 0 (pv 0)) (d_int))) (dg_name 2 hN) (db_one (ds_setLc2 1 (own := [("row", 3), ("left", 4)]) [4] hN (blkOk_by (by first | rfl | with_unfolding_all rfl | kernel_rfl)) (di_seq (d_var 1 (pv 1))) (fun _ _ _ _ _ => dg_name 3 hN) (fun _ _ _ _ _ => dts_nil) (fun _ _ _ _ _ => di_range2 T.b_range (da_cons (d_int) (da_cons (d_add (d_var 2 (pv 2)) (d_int)) (da_nil)))) (fun _ _ _ _ _ => dg_name 4 hN) (fun _ _ _ _ _ => dts_nil) (fun _ _ _ _ _ => d_tup (da_star (d_var 3 (pv 3)) (da_cons (d_var 4 (pv 4)) (da_nil)))) (sw_true rfl rfl rfl (by decide +kernel)))))
    (db_one (ds_ret (d_var 1 (pv 1)))))
noncomputable abbrev s_Web_fallen : Stmt := inner (top 20) 1
theorem S_Web_fallen : FnScope ["self", "ahead", "left", "standing", "links", "day", "later", "found", "waiting", "at", "here", "near"] ["self"] (defScope s_Web_fallen) := ⟨rfl, rfl, rfl, by decide +kernel, rfl, by decide +kernel, by decide +kernel⟩
theorem fn_Web_fallen {f C : Addr} {fd : FuncData} (T : Txt Γ P K mg)  (F : Fun K "fallen" "Web.fallen" s_Web_fallen f fd) (hC : Γ "Web" = some C) (hc : Cls K C) (me : Meth K C "fallen" f) (hb : Binds K fd ["self"] []) : FnM Γ P w K mg base "Web" "fallen" 1 1 (F_Web_fallen Γ) := by
  refine fnM_of F hC hc me hb S_Web_fallen rfl fun cdv hcd A outer s H E hr hg tk hp => ?_
  have hN := S_Web_fallen.nd
  have hu := unit64 hr
  have hu1 := unit1 hr
  exact db_cons (ds_asg (d_tup (da_cons (d_dcG (own := [("standing", 3)]) hu1 hN (blkOk_by (by first | rfl | with_unfolding_all rfl | kernel_rfl)) (dig_keys (d_mfld T.a_Web_own_links (d_var 0 (pv 0)))) (fun _ _ _ _ _ => dg_name 3 hN) (fun _ _ _ _ _ => dts_nil) (fun _ _ _ _ _ => d_var 3 (pv 3)) (fun _ _ _ _ _ => d_mlst da_nil)) (da_cons (d_mdit) (da_nil)))) (dg_tup (dgs_cons (dg_name 1 hN) (dgs_cons (dg_name 2 hN) (dgs_nil)))))
    (db_cons (ds_forG hp (dig_items (d_mfld T.a_Web_own_links (d_var 0 (pv 0)))) (dg_tup (dgs_cons (dg_name 3 hN) (dgs_cons (dg_name 4 hN) (dgs_nil)))) (db_cons (ds_dput hu1 (d_var 2 (pv 2)) (d_var 3 (pv 3)) (d_len T.b_len (da_cons (d_var 4 (pv 4)) (da_nil))))
    (db_one (ds_for hp (di_seq (d_var 4 (pv 4))) (dg_tup (dgs_cons (dg_name 5 hN) (dgs_cons (dg_name 6 hN) (dgs_nil)))) (db_one (ds_expr (d_append (d_dget hu1 (d_var 1 (pv 1)) (d_var 6 (pv 6))) (d_var 3 (pv 3)))))))))
    (db_cons (ds_asg (d_tup (da_cons (d_mdit) (da_cons (d_lock (d_mlcG hN (own := [("standing", 3)]) (blkOk_by (by first | rfl | with_unfolding_all rfl | kernel_rfl)) (dig_keys (d_var 2 (pv 2))) (fun _ _ _ _ _ => dg_name 3 hN) (fun _ _ _ _ _ => dts_one (dt_eq (by exact hu) (d_dget (by exact hu1) (d_var 2 (pv 2)) (d_var 3 (pv 3))) (d_int))) (fun _ _ _ _ _ => d_var 3 (pv 3)))) (da_cons (d_int) (da_nil))))) (dg_tup (dgs_cons (dg_name 7 hN) (dgs_cons (dg_name 8 hN) (dgs_cons (dg_name 9 hN) (dgs_nil))))))
    (db_cons (ds_while hp (dt_lt (d_var 9 (pv 9)) (d_len T.b_len (da_cons (d_var 8 (pv 8)) (da_nil)))) (db_cons (ds_set 10 hN (d_item (d_var 8 (pv 8)) (d_var 9 (pv 9))))
    (db_cons (ds_aug 9 ip_add hN (d_int))
    (db_cons (ds_dput hu1 (d_var 7 (pv 7)) (d_var 10 (pv 10)) (d_maxL T.b_max (da_cons (d_add (d_lc hN (own := [("day", 5), ("later", 6)]) (blkOk_by (by first | rfl | with_unfolding_all rfl | kernel_rfl)) (di_seq (d_dget hu1 (d_mfld T.a_Web_own_links (d_var 0 (pv 0))) (d_var 10 (pv 10)))) (fun _ _ _ _ _ => dg_tup (dgs_cons (dg_name 5 hN) (dgs_cons (dg_name 6 hN) (dgs_nil)))) (fun _ _ _ _ _ => dts_nil) (fun _ _ _ _ _ => d_add (d_dget (by exact hu1) (d_var 7 (pv 7)) (d_var 6 (pv 6))) (d_int))) (d_lst (da_cons (d_int) (da_nil)))) (da_nil))))
    (db_one (ds_forG hp (dig_seq (d_dget hu1 (d_var 1 (pv 1)) (d_var 10 (pv 10)))) (dg_name 11 hN) (db_cons (ds_daug in_sub (fun _ _ _ _ z => ⟨_, _, rfl, rfl, z⟩) hu1 (d_var 2 (pv 2)) (d_var 11 (pv 11)) (d_int))
    (db_one (ds_if (dt_eq hu (d_dget hu1 (d_var 2 (pv 2)) (d_var 11 (pv 11))) (d_int)) (db_one (ds_expr (d_append (d_var 8 (pv 8)) (d_var 11 (pv 11))))) (db_nil))))))))))
    (db_one (ds_ret (d_var 7 (pv 7)))))))
noncomputable abbrev s_lots_of : Stmt := top 13
theorem S_lots_of : FnScope ["hands", "many", "found", "layer", "turn", "lot", "number"] ["hands", "many"] (defScope s_lots_of) := ⟨rfl, rfl, rfl, by decide +kernel, rfl, by decide +kernel, by decide +kernel⟩
theorem fn_lots_of {f : Addr} {fd : FuncData} (T : Txt Γ P K mg)  (F : Fun K "lots_of" "lots_of" s_lots_of f fd) (hm : mg "lots_of" = some (.ref f)) (hb : Binds K fd ["hands", "many"] []) : Fn Γ P w K mg base "lots_of" 1 2 (F_lots_of Γ) := by
  refine fn_of F hm hb S_lots_of rfl fun cdv hcd A outer s H E hr hg tk hp => ?_
  have hN := S_lots_of.nd
  have hu := unit64 hr
  have hu1 := unit1 hr
  exact db_cons (ds_par 2 3 hN (da_cons (d_mlst (da_cons (d_tup (da_nil)) (da_nil))) (da_cons (d_lst (da_cons (d_tup (da_nil)) (da_nil))) (da_nil))))
    (db_cons (ds_for hp (di_range1 T.b_range (da_cons (d_var 0 (pv 0)) (da_nil))) (dg_name 4 hN) (db_cons (ds_setLc2 3 (own := [("lot", 5), ("number", 6)]) [6] hN (blkOk_by (by first | rfl | with_unfolding_all rfl | kernel_rfl)) (di_seq (d_var 3 (pv 3))) (fun _ _ _ _ _ => dg_name 5 hN) (fun _ _ _ _ _ => dts_nil) (fun _ _ _ _ _ => di_range2 T.b_range (da_cons (d_if (dt_ne (by exact hu) (d_var 5 (pv 5)) (d_tup (da_nil))) (d_add (d_item (d_var 5 (pv 5)) (d_neg (d_int))) (d_int)) (d_int)) (da_cons (d_var 1 (pv 1)) (da_nil)))) (fun _ _ _ _ _ => dg_name 6 hN) (fun _ _ _ _ _ => dts_nil) (fun _ _ _ _ _ => d_tup (da_star (d_var 5 (pv 5)) (da_cons (d_var 6 (pv 6)) (da_nil)))) (sw_true rfl rfl rfl (by decide +kernel)))
    (db_one (ds_expr (d_extend (d_var 2 (pv 2)) (d_var 3 (pv 3)))))))
    (db_frz 2 (db_one (ds_ret (d_sorted hu T.b_sorted (da_cons (d_var 2 (pv 2)) (da_nil)))))))
noncomputable abbrev s_has_due : Stmt := top 14
theorem S_has_due : FnScope ["standing", "day", "number", "left"] ["standing", "day"] (defScope s_has_due) := ⟨rfl, rfl, rfl, by decide +kernel, rfl, by decide +kernel, by decide +kernel⟩
theorem fn_has_due {f : Addr} {fd : FuncData} (T : Txt Γ P K mg)  (F : Fun K "has_due" "has_due" s_has_due f fd) (hm : mg "has_due" = some (.ref f)) (hb : Binds K fd ["standing", "day"] []) : Fn Γ P w K mg base "has_due" 1 2 (F_has_due Γ) := by
  refine fn_of F hm hb S_has_due rfl fun cdv hcd A outer s H E hr hg tk hp => ?_
  have hN := S_has_due.nd
  have hu := unit64 hr
  have hu1 := unit1 hr
  exact db_one (ds_ret (d_all T.b_all (da_cons (d_lc hN (own := [("number", 2), ("left", 3)]) (blkOk_by (by first | rfl | with_unfolding_all rfl | kernel_rfl)) (di_enum T.b_enumerate (da_cons (d_var 0 (pv 0)) (da_nil))) (fun _ _ _ _ _ => dg_tup (dgs_cons (dg_name 2 hN) (dgs_cons (dg_name 3 hN) (dgs_nil)))) (fun _ _ _ _ _ => dts_nil) (fun _ _ _ _ _ => d_or (d_gt (d_var 3 (pv 3)) (d_int)) (d_one (d_in (d_var 2 (pv 2)) (d_var 1 (pv 1)))))) (da_nil))))
noncomputable abbrev s_due_days : Stmt := top 16
theorem S_due_days : FnScope ["plan", "standing", "day"] ["plan", "standing"] (defScope s_due_days) := ⟨rfl, rfl, rfl, by decide +kernel, rfl, by decide +kernel, by decide +kernel⟩
theorem fn_due_days {f : Addr} {fd : FuncData} (T : Txt Γ P K mg) (f_lots_of : Fn Γ P w K mg base "lots_of" 1 2 (F_lots_of Γ)) (f_has_due : Fn Γ P w K mg base "has_due" 1 2 (F_has_due Γ)) (F : Fun K "due_days" "due_days" s_due_days f fd) (hm : mg "due_days" = some (.ref f)) (hb : Binds K fd ["plan", "standing"] []) : Fn Γ P w K mg base "due_days" 2 2 (F_due_days Γ) := by
  refine fn_of F hm hb S_due_days rfl fun cdv hcd A outer s H E hr hg tk hp => ?_
  have hN := S_due_days.nd
  have hu := unit64 hr
  have hu1 := unit1 hr
  exact db_one (ds_ret (d_lc hN (own := [("day", 2)]) (blkOk_by (by first | rfl | with_unfolding_all rfl | kernel_rfl)) (di_seq (d_call f_lots_of (hr.mono (by decide)) hg tk (da_cons (d_item (d_var 0 (pv 0)) (d_int)) (da_cons (d_len T.b_len (da_cons (d_item (d_var 0 (pv 0)) (d_int)) (da_nil))) (da_nil))))) (fun _ _ _ _ _ => dg_name 2 hN) (fun _ _ _ _ _ => dts_one (dt_val (d_call f_has_due (by exact hr.mono (by decide)) (by exact hg) takes0 (da_cons (d_var 1 (pv 1)) (da_cons (d_var 2 (pv 2)) (da_nil)))))) (fun _ _ _ _ _ => d_var 2 (pv 2))))
noncomputable abbrev s_later_of : Stmt := top 15
theorem S_later_of : FnScope ["plan", "standing", "day", "number", "left"] ["plan", "standing", "day"] (defScope s_later_of) := ⟨rfl, rfl, rfl, by decide +kernel, rfl, by decide +kernel, by decide +kernel⟩
theorem fn_later_of {f : Addr} {fd : FuncData} (T : Txt Γ P K mg)  (F : Fun K "later_of" "later_of" s_later_of f fd) (hm : mg "later_of" = some (.ref f)) (hb : Binds K fd ["plan", "standing", "day"] []) : Fn Γ P w K mg base "later_of" 1 3 (F_later_of Γ) := by
  refine fn_of F hm hb S_later_of rfl fun cdv hcd A outer s H E hr hg tk hp => ?_
  have hN := S_later_of.nd
  have hu := unit64 hr
  have hu1 := unit1 hr
  exact db_one (ds_ret (d_tuple T.b_tuple (da_cons (d_lc hN (own := [("number", 3), ("left", 4)]) (blkOk_by (by first | rfl | with_unfolding_all rfl | kernel_rfl)) (di_enum T.b_enumerate (da_cons (d_var 1 (pv 1)) (da_nil))) (fun _ _ _ _ _ => dg_tup (dgs_cons (dg_name 3 hN) (dgs_cons (dg_name 4 hN) (dgs_nil)))) (fun _ _ _ _ _ => dts_nil) (fun _ _ _ _ _ => d_if (dt_in (d_var 3 (pv 3)) (d_var 2 (pv 2))) (d_item (d_item (d_var 0 (pv 0)) (d_int)) (d_var 3 (pv 3))) (d_sub (d_var 4 (pv 4)) (d_int)))) (da_nil))))
noncomputable abbrev s_Web___init__ : Stmt := inner (top 20) 0
theorem S_Web___init__ : FnScope ["self", "plan", "standing", "days", "day"] ["self", "plan"] (defScope s_Web___init__) := ⟨rfl, rfl, rfl, by decide +kernel, rfl, by decide +kernel, by decide +kernel⟩
theorem fn_Web___init__ {f C : Addr} {fd : FuncData} (T : Txt Γ P K mg) (f_Web_fallen : FnM Γ P w K mg base "Web" "fallen" 1 1 (F_Web_fallen Γ)) (f_all_standings : Fn Γ P w K mg base "all_standings" 1 1 (F_all_standings Γ)) (f_later_of : Fn Γ P w K mg base "later_of" 1 3 (F_later_of Γ)) (f_due_days : Fn Γ P w K mg base "due_days" 2 2 (F_due_days Γ)) (F : Fun K "__init__" "Web.__init__" s_Web___init__ f fd) (hC : Γ "Web" = some C) (hm : mg "Web" = some (.ref C)) (mk : Mk K C f) (hb : Binds K fd ["self", "plan"] []) : FnI Γ P w K mg base "Web" 3 2 (F_Web___init__ Γ) := by
  refine fnI_of F hC hm mk hb S_Web___init__ rfl fun cdv hcd A outer s H E hr hg tk hp => ?_
  have hN := S_Web___init__.nd
  have hu := unit64 hr
  have hu1 := unit1 hr
  exact db_cons (ds_mfset T.a_Web_own_plan (d_var 0 (pv 0)) (d_var 1 (pv 1)))
    (db_cons (ds_mfset T.a_Web_own_links (d_var 0 (pv 0)) (d_mdit))
    (db_cons (ds_for hp (di_seq (d_call f_all_standings (hr.mono (by decide)) hg tk (da_cons (d_var 1 (pv 1)) (da_nil)))) (dg_name 2 hN) (db_cons (ds_set 3 hN (d_call f_due_days (hr.mono (by decide)) hg tk (da_cons (d_var 1 (pv 1)) (da_cons (d_var 2 (pv 2)) (da_nil)))))
    (db_one (ds_dput hu1 (d_mfld T.a_Web_own_links (d_var 0 (pv 0))) (d_var 2 (pv 2)) (d_lc hN (own := [("day", 4)]) (blkOk_by (by first | rfl | with_unfolding_all rfl | kernel_rfl)) (di_seq (d_var 3 (pv 3))) (fun _ _ _ _ _ => dg_name 4 hN) (fun _ _ _ _ _ => dts_nil) (fun _ _ _ _ _ => d_tup (da_cons (d_var 4 (pv 4)) (da_cons (d_call f_later_of (by exact hr.mono (by decide)) (by exact hg) takes0 (da_cons (d_var 1 (pv 1)) (da_cons (d_var 2 (pv 2)) (da_cons (d_var 4 (pv 4)) (da_nil))))) (da_nil)))))))))
    (db_lock (db_one (ds_mfset T.a_Web_own_falls (d_var 0 (pv 0)) (d_meth0 (pl := _) f_Web_fallen (hr.mono (by decide)) hg tk (d_var 0 (pv 0))))))))
noncomputable abbrev s_count_of : Stmt := top 11
theorem S_count_of : FnScope ["plan", "found", "gap"] ["plan"] (defScope s_count_of) := ⟨rfl, rfl, rfl, by decide +kernel, rfl, by decide +kernel, by decide +kernel⟩
theorem fn_count_of {f : Addr} {fd : FuncData} (T : Txt Γ P K mg)  (F : Fun K "count_of" "count_of" s_count_of f fd) (hm : mg "count_of" = some (.ref f)) (hb : Binds K fd ["plan"] []) : Fn Γ P w K mg base "count_of" 1 1 (F_count_of Γ) := by
  refine fn_of F hm hb S_count_of rfl fun cdv hcd A outer s H E hr hg tk hp => ?_
  have hN := S_count_of.nd
  have hu := unit64 hr
  have hu1 := unit1 hr
  exact db_cons (ds_set 1 hN (d_int))
    (db_cons (ds_for hp (di_seq (d_item (d_var 0 (pv 0)) (d_int))) (dg_name 2 hN) (db_one (ds_set 1 hN (d_mul (d_var 1 (pv 1)) (d_var 2 (pv 2))))))
    (db_one (ds_ret (d_var 1 (pv 1)))))
noncomputable abbrev s_web_of : Stmt := top 21
theorem S_web_of : FnScope ["plan"] ["plan"] (defScope s_web_of) := ⟨rfl, rfl, rfl, by decide +kernel, rfl, by decide +kernel, by decide +kernel⟩
theorem fn_web_of {f : Addr} {fd : FuncData} (T : Txt Γ P K mg) (f_Web___init__ : FnI Γ P w K mg base "Web" 3 2 (F_Web___init__ Γ)) (f_count_of : Fn Γ P w K mg base "count_of" 1 1 (F_count_of Γ)) (F : Fun K "web_of" "web_of" s_web_of f fd) (hm : mg "web_of" = some (.ref f)) (hb : Binds K fd ["plan"] []) : Fn Γ P w K mg base "web_of" 5 1 (F_web_of Γ) := by
  refine fn_of F hm hb S_web_of rfl fun cdv hcd A outer s H E hr hg tk hp => ?_
  have hN := S_web_of.nd
  have hu := unit64 hr
  have hu1 := unit1 hr
  exact db_cons (ds_if (dt_gt (d_call f_count_of (hr.mono (by decide)) hg tk (da_cons (d_var 0 (pv 0)) (da_nil))) (d_cint T.c_MOST_STANDINGS)) (db_one (ds_raiseG T.x_TooGreat hr tk (da_cons (d_cint T.c_MOST_STANDINGS) (da_nil)))) (db_nil))
    (db_one (ds_ret (d_mk f_Web___init__ (hr.mono (by decide)) hg tk (da_cons (d_var 0 (pv 0)) (da_nil)))))
noncomputable abbrev s_does_last : Stmt := top 22
theorem S_does_last : FnScope ["plan"] ["plan"] (defScope s_does_last) := ⟨rfl, rfl, rfl, by decide +kernel, rfl, by decide +kernel, by decide +kernel⟩
theorem fn_does_last {f : Addr} {fd : FuncData} (T : Txt Γ P K mg) (f_Web_does_hold : FnM Γ P w K mg base "Web" "does_hold" 1 2 (F_Web_does_hold Γ)) (f_web_of : Fn Γ P w K mg base "web_of" 5 1 (F_web_of Γ)) (f_need_plan : Fn Γ P w K mg base "need_plan" 2 1 (F_need_plan Γ)) (F : Fun K "does_last" "does_last" s_does_last f fd) (hm : mg "does_last" = some (.ref f)) (hb : Binds K fd ["plan"] []) : Fn Γ P w K mg base "does_last" 6 1 (F_does_last Γ) := by
  refine Fn.gc ?_
  refine fn_of F hm hb S_does_last rfl fun cdv hcd A outer s H E hr hg tk hp => ?_
  have hN := S_does_last.nd
  have hu := unit64 hr
  have hu1 := unit1 hr
  exact db_cons (ds_expr (d_call f_need_plan (hr.mono (by decide)) hg tk (da_cons (d_var 0 (pv 0)) (da_nil))))
    (db_one (ds_ret (d_meth (pl := _) f_Web_does_hold (hr.mono (by decide)) hg tk (d_call f_web_of (hr.mono (by decide)) hg tk (da_cons (d_var 0 (pv 0)) (da_nil))) (da_cons (d_item (d_var 0 (pv 0)) (d_int)) (da_nil)))))
noncomputable abbrev s__law_draw : Stmt := top 25
theorem S__law_draw : FnScope ["m", "many", "found", "spot", "cells", "added", "cell", "blend"] ["m", "many"] (defScope s__law_draw) := ⟨rfl, rfl, rfl, by decide +kernel, rfl, by decide +kernel, by decide +kernel⟩
theorem fn__law_draw {f : Addr} {fd : FuncData} (T : Txt Γ P K mg)  (F : Fun K "_law_draw" "_law_draw" s__law_draw f fd) (hm : mg "_law_draw" = some (.ref f)) (hb : Binds K fd ["m", "many"] []) : Fn Γ P w K mg base "_law_draw" 1 2 (F__law_draw Γ) := by
  refine fn_of F hm hb S__law_draw rfl fun cdv hcd A outer s H E hr hg tk hp => ?_
  have hN := S__law_draw.nd
  have hu := unit64 hr
  have hu1 := unit1 hr
  exact db_cons (ds_if (dt_gt (d_getS hu1 (d_var 0 (pv 0))) (d_int)) (db_cons (ds_set 2 hN (d_mod (d_toInt T.b_int (da_cons (d_getS hu1 (d_var 0 (pv 0))) (da_nil))) (d_var 1 (pv 1))))
    (db_cons (ds_putM hu1 (d_var 0 (pv 0)) (d_div (d_getS hu1 (d_var 0 (pv 0))) (d_var 1 (pv 1))))
    (db_one (ds_ret (d_var 2 (pv 2)))))) (db_nil))
    (db_cons (ds_set 3 hN (d_getS hu1 (d_var 0 (pv 0))))
    (db_cons (ds_putM hu1 (d_var 0 (pv 0)) (d_add (d_var 3 (pv 3)) (d_int)))
    (db_cons (ds_par 4 5 hN (da_cons (d_getS hu1 (d_var 0 (pv 0))) (da_cons (d_add (d_getS hu1 (d_var 0 (pv 0))) (d_mul (d_mul (d_int) (d_var 3 (pv 3))) (d_var 3 (pv 3)))) (da_nil))))
    (db_cons (ds_set 6 hN (d_item (d_var 4 (pv 4)) (d_mod (d_toInt T.b_int (da_cons (d_var 3 (pv 3)) (da_nil))) (d_len T.b_len (da_cons (d_var 4 (pv 4)) (da_nil))))))
    (db_cons (ds_set 7 hN (d_mod (d_toInt T.b_int (da_cons (d_add (d_mul (d_var 6 (pv 6)) (d_add (d_mul (d_int) (d_var 3 (pv 3))) (d_int))) (d_var 5 (pv 5))) (da_nil))) (d_int)))
    (db_cons (ds_set 7 hN (d_mod (d_toInt T.b_int (da_cons (d_add (d_add (d_mul (d_var 7 (pv 7)) (d_var 7 (pv 7))) (d_mul (d_int) (d_var 3 (pv 3)))) (d_getS hu1 (d_var 0 (pv 0)))) (da_nil))) (d_int)))
    (db_one (ds_ret (d_mod (d_div (d_mod (d_toInt T.b_int (da_cons (d_add (d_mul (d_var 7 (pv 7)) (d_int)) (d_var 3 (pv 3))) (da_nil))) (d_int)) (d_int)) (d_var 1 (pv 1)))))))))))
noncomputable abbrev s__law_is_told : Stmt := top 32
theorem S__law_is_told : FnScope ["m", "hands", "gaps", "due", "left", "row", "frame", "kept"] ["m", "hands", "gaps", "due"] (defScope s__law_is_told) := ⟨rfl, rfl, rfl, by decide +kernel, rfl, by decide +kernel, by decide +kernel⟩
theorem fn__law_is_told {f : Addr} {fd : FuncData} (T : Txt Γ P K mg) (f_does_last : Fn Γ P w K mg base "does_last" 6 1 (F_does_last Γ)) (f__law_draw : Fn Γ P w K mg base "_law_draw" 1 2 (F__law_draw Γ)) (F : Fun K "_law_is_told" "_law_is_told" s__law_is_told f fd) (hm : mg "_law_is_told" = some (.ref f)) (hb : Binds K fd ["m", "hands", "gaps", "due"] []) : Fn Γ P w K mg base "_law_is_told" 7 4 (F__law_is_told Γ) := by
  refine Fn.gc ?_
  refine fn_of F hm hb S__law_is_told rfl fun cdv hcd A outer s H E hr hg tk hp => ?_
  have hN := S__law_is_told.nd
  have hu := unit64 hr
  have hu1 := unit1 hr
  exact db_cons (ds_par 4 5 hN (da_cons (d_mlist T.b_list (da_cons (d_var 2 (pv 2)) (da_nil))) (da_cons (d_mlst (da_nil)) (da_nil))))
    (db_cons (ds_while hp (dt_emN hu (d_var 4 (pv 4)) (d_lst (da_nil))) (db_one (ds_expr (d_append (d_var 5 (pv 5)) (d_pop (d_var 4 (pv 4)) (d_call f__law_draw (hr.mono (by decide)) hg tk (da_cons (d_var 0 (pv 0)) (da_cons (d_len T.b_len (da_cons (d_var 4 (pv 4)) (da_nil))) (da_nil)))))))))
    (db_frz 5 (db_cons (ds_set 6 hN (d_tup (da_cons (d_var 1 (pv 1)) (da_cons (d_tuple T.b_tuple (da_cons (d_var 5 (pv 5)) (da_nil))) (da_nil)))))
    (db_cons (ds_set 7 hN (d_repr hg hu T.b_repr (da_cons (d_var 6 (pv 6)) (da_nil))))
    (db_one (ds_ret (d_and (d_eq hu (d_repr hg hu T.b_repr (da_cons (d_lst (da_cons (d_call f_does_last (hr.mono (by decide)) hg tk (da_cons (d_var 6 (pv 6)) (da_nil))) (da_cons (d_call f_does_last (hr.mono (by decide)) hg tk (da_cons (d_var 6 (pv 6)) (da_nil))) (da_nil)))) (da_nil))) (d_repr hg hu T.b_repr (da_cons (d_lst (da_cons (d_var 3 (pv 3)) (da_cons (d_var 3 (pv 3)) (da_nil)))) (da_nil)))) (d_one (d_eq hu (d_repr hg hu T.b_repr (da_cons (d_var 6 (pv 6)) (da_nil))) (d_var 7 (pv 7)))))))))))
noncomputable abbrev s__law_size : Stmt := top 27
theorem S__law_size : FnScope ["gaps", "found", "gap"] ["gaps"] (defScope s__law_size) := ⟨rfl, rfl, rfl, by decide +kernel, rfl, by decide +kernel, by decide +kernel⟩
theorem fn__law_size {f : Addr} {fd : FuncData} (T : Txt Γ P K mg)  (F : Fun K "_law_size" "_law_size" s__law_size f fd) (hm : mg "_law_size" = some (.ref f)) (hb : Binds K fd ["gaps"] []) : Fn Γ P w K mg base "_law_size" 1 1 (F__law_size Γ) := by
  refine fn_of F hm hb S__law_size rfl fun cdv hcd A outer s H E hr hg tk hp => ?_
  have hN := S__law_size.nd
  have hu := unit64 hr
  have hu1 := unit1 hr
  exact db_cons (ds_set 1 hN (d_int))
    (db_cons (ds_forG hp (dig_seq (d_var 0 (pv 0))) (dg_name 2 hN) (db_one (ds_set 1 hN (d_mul (d_var 1 (pv 1)) (d_var 2 (pv 2))))))
    (db_one (ds_ret (d_var 1 (pv 1)))))
noncomputable abbrev s__law_bulk : Stmt := top 28
theorem S__law_bulk : FnScope ["gaps", "gap"] ["gaps"] (defScope s__law_bulk) := ⟨rfl, rfl, rfl, by decide +kernel, rfl, by decide +kernel, by decide +kernel⟩
theorem fn__law_bulk {f : Addr} {fd : FuncData} (T : Txt Γ P K mg) (f__law_size : Fn Γ P w K mg base "_law_size" 1 1 (F__law_size Γ)) (F : Fun K "_law_bulk" "_law_bulk" s__law_bulk f fd) (hm : mg "_law_bulk" = some (.ref f)) (hb : Binds K fd ["gaps"] []) : Fn Γ P w K mg base "_law_bulk" 2 1 (F__law_bulk Γ) := by
  refine fn_of F hm hb S__law_bulk rfl fun cdv hcd A outer s H E hr hg tk hp => ?_
  have hN := S__law_bulk.nd
  have hu := unit64 hr
  have hu1 := unit1 hr
  exact db_one (ds_ret (d_sum T.b_sum (da_cons (d_lcG hN (own := [("gap", 1)]) (blkOk_by (by first | rfl | with_unfolding_all rfl | kernel_rfl)) (dig_seq (d_var 0 (pv 0))) (fun _ _ _ _ _ => dg_name 1 hN) (fun _ _ _ _ _ => dts_nil) (fun _ _ _ _ _ => d_div (d_call f__law_size (by exact hr.mono (by decide)) (by exact hg) takes0 (da_cons (d_var 0 (pv 0)) (da_nil))) (d_var 1 (pv 1)))) (da_nil))))
noncomputable abbrev s__law_even : Stmt := top 31
theorem S__law_even : FnScope ["m", "hands", "gaps", "last", "turn", "more"] ["m", "hands"] (defScope s__law_even) := ⟨rfl, rfl, rfl, by decide +kernel, rfl, by decide +kernel, by decide +kernel⟩
theorem fn__law_even {f : Addr} {fd : FuncData} (T : Txt Γ P K mg) (f__law_size : Fn Γ P w K mg base "_law_size" 1 1 (F__law_size Γ)) (f__law_bulk : Fn Γ P w K mg base "_law_bulk" 2 1 (F__law_bulk Γ)) (f__law_draw : Fn Γ P w K mg base "_law_draw" 1 2 (F__law_draw Γ)) (F : Fun K "_law_even" "_law_even" s__law_even f fd) (hm : mg "_law_even" = some (.ref f)) (hb : Binds K fd ["m", "hands"] []) : Fn Γ P w K mg base "_law_even" 3 2 (F__law_even Γ) := by
  refine fn_of F hm hb S__law_even rfl fun cdv hcd A outer s H E hr hg tk hp => ?_
  have hN := S__law_even.nd
  have hu := unit64 hr
  have hu1 := unit1 hr
  exact db_cons (ds_par 2 3 hN (da_cons (d_lst (da_nil)) (da_cons (d_add (d_int) (d_call f__law_draw (hr.mono (by decide)) hg tk (da_cons (d_var 0 (pv 0)) (da_cons (d_int) (da_nil))))) (da_nil))))
    (db_cons (ds_for hp (di_range1 T.b_range (da_cons (d_int) (da_nil))) (dg_name 4 hN) (db_cons (ds_set 3 hN (d_mul (d_var 3 (pv 3)) (d_item (d_lst (da_cons (d_int) (da_cons (d_int) (da_cons (d_int) (da_cons (d_int) (da_nil)))))) (d_call f__law_draw (hr.mono (by decide)) hg tk (da_cons (d_var 0 (pv 0)) (da_cons (d_int) (da_nil)))))))
    (db_cons (ds_set 5 hN (d_add (d_var 2 (pv 2)) (d_lst (da_cons (d_var 3 (pv 3)) (da_nil)))))
    (db_one (ds_if ((dw_and (dt_le (d_call f__law_size (hr.mono (by decide)) hg tk (da_cons (d_var 5 (pv 5)) (da_nil))) (d_int)) (dw_and1 (dt_le (d_call f__law_bulk (hr.mono (by decide)) hg tk (da_cons (d_var 5 (pv 5)) (da_nil))) (d_mul (d_var 1 (pv 1)) (d_call f__law_size (hr.mono (by decide)) hg tk (da_cons (d_var 5 (pv 5)) (da_nil))))))).dt) (db_one (ds_set 2 hN (d_var 5 (pv 5)))) (db_nil))))))
    (db_one (ds_ret (d_if (dt_ne hu (d_var 2 (pv 2)) (d_lst (da_nil))) (d_var 2 (pv 2)) (d_lst (da_cons (d_int) (da_cons (d_int) (da_cons (d_int) (da_nil)))))))))
noncomputable abbrev s__law_light : Stmt := top 29
theorem S__law_light : FnScope ["m", "gaps", "turn", "more"] ["m"] (defScope s__law_light) := ⟨rfl, rfl, rfl, by decide +kernel, rfl, by decide +kernel, by decide +kernel⟩
theorem fn__law_light {f : Addr} {fd : FuncData} (T : Txt Γ P K mg) (f__law_size : Fn Γ P w K mg base "_law_size" 1 1 (F__law_size Γ)) (f__law_bulk : Fn Γ P w K mg base "_law_bulk" 2 1 (F__law_bulk Γ)) (f__law_draw : Fn Γ P w K mg base "_law_draw" 1 2 (F__law_draw Γ)) (F : Fun K "_law_light" "_law_light" s__law_light f fd) (hm : mg "_law_light" = some (.ref f)) (hb : Binds K fd ["m"] []) : Fn Γ P w K mg base "_law_light" 3 1 (F__law_light Γ) := by
  refine fn_of F hm hb S__law_light rfl fun cdv hcd A outer s H E hr hg tk hp => ?_
  have hN := S__law_light.nd
  have hu := unit64 hr
  have hu1 := unit1 hr
  exact db_cons (ds_set 1 hN (d_lst (da_nil)))
    (db_cons (ds_for hp (di_range1 T.b_range (da_cons (d_int) (da_nil))) (dg_name 2 hN) (db_cons (ds_set 3 hN (d_add (d_var 1 (pv 1)) (d_lst (da_cons (d_add (d_int) (d_call f__law_draw (hr.mono (by decide)) hg tk (da_cons (d_var 0 (pv 0)) (da_cons (d_int) (da_nil))))) (da_nil)))))
    (db_one (ds_if ((dw_and (dt_le (d_call f__law_size (hr.mono (by decide)) hg tk (da_cons (d_var 3 (pv 3)) (da_nil))) (d_int)) (dw_and1 (dt_le (d_mul (d_int) (d_call f__law_bulk (hr.mono (by decide)) hg tk (da_cons (d_var 3 (pv 3)) (da_nil)))) (d_mul (d_int) (d_call f__law_size (hr.mono (by decide)) hg tk (da_cons (d_var 3 (pv 3)) (da_nil))))))).dt) (db_one (ds_set 1 hN (d_var 3 (pv 3)))) (db_nil)))))
    (db_one (ds_ret (d_if (dt_ne hu (d_var 1 (pv 1)) (d_lst (da_nil))) (d_var 1 (pv 1)) (d_lst (da_cons (d_int) (da_cons (d_int) (da_nil))))))))
noncomputable abbrev s__law_heavy : Stmt := top 30
theorem S__law_heavy : FnScope ["m", "hands", "gaps", "room"] ["m", "hands"] (defScope s__law_heavy) := ⟨rfl, rfl, rfl, by decide +kernel, rfl, by decide +kernel, by decide +kernel⟩
theorem fn__law_heavy {f : Addr} {fd : FuncData} (T : Txt Γ P K mg) (f__law_bulk : Fn Γ P w K mg base "_law_bulk" 2 1 (F__law_bulk Γ)) (f__law_size : Fn Γ P w K mg base "_law_size" 1 1 (F__law_size Γ)) (f__law_draw : Fn Γ P w K mg base "_law_draw" 1 2 (F__law_draw Γ)) (F : Fun K "_law_heavy" "_law_heavy" s__law_heavy f fd) (hm : mg "_law_heavy" = some (.ref f)) (hb : Binds K fd ["m", "hands"] []) : Fn Γ P w K mg base "_law_heavy" 3 2 (F__law_heavy Γ) := by
  refine fn_of F hm hb S__law_heavy rfl fun cdv hcd A outer s H E hr hg tk hp => ?_
  have hN := S__law_heavy.nd
  have hu := unit64 hr
  have hu1 := unit1 hr
  exact db_cons (ds_set 2 hN (d_mmul (d_lst (da_cons (d_int) (da_nil))) (d_sub (d_var 1 (pv 1)) (d_int))))
    (db_cons (ds_while hp ((dw_and (dt_le (d_call f__law_bulk (hr.mono (by decide)) hg tk (da_cons (d_var 2 (pv 2)) (da_nil))) (d_mul (d_var 1 (pv 1)) (d_call f__law_size (hr.mono (by decide)) hg tk (da_cons (d_var 2 (pv 2)) (da_nil))))) (dw_and1 (dt_lt (d_len T.b_len (da_cons (d_var 2 (pv 2)) (da_nil))) (d_int)))).dt) (db_cons (ds_set 3 hN (d_div (d_int) (d_call f__law_size (hr.mono (by decide)) hg tk (da_cons (d_var 2 (pv 2)) (da_nil)))))
    (db_one (ds_expr (d_append (d_var 2 (pv 2)) (d_if (dt_lt (d_len T.b_len (da_cons (d_var 2 (pv 2)) (da_nil))) (d_int)) (d_add (d_int) (d_call f__law_draw (hr.mono (by decide)) hg tk (da_cons (d_var 0 (pv 0)) (da_cons (d_min T.b_min (da_cons (d_int) (da_cons (d_var 3 (pv 3)) (da_nil)))) (da_nil))))) (d_int)))))))
    (db_frz 2 (db_one (ds_ret (d_if (dt_gt (d_call f__law_bulk (hr.mono (by decide)) hg tk (da_cons (d_var 2 (pv 2)) (da_nil))) (d_mul (d_var 1 (pv 1)) (d_call f__law_size (hr.mono (by decide)) hg tk (da_cons (d_var 2 (pv 2)) (da_nil))))) (d_var 2 (pv 2)) (d_mul (d_lst (da_cons (d_int) (da_nil))) (d_add (d_var 1 (pv 1)) (d_int))))))))
noncomputable abbrev s_law : Stmt := top 33
theorem S_law : FnScope ["script", "k", "m", "hands", "some", "told", "gaps"] ["script"] (defScope s_law) := ⟨rfl, rfl, rfl, by decide +kernel, rfl, by decide +kernel, by decide +kernel⟩
theorem fn_law {f : Addr} {fd : FuncData} (T : Txt Γ P K mg) (f_does_last : Fn Γ P w K mg base "does_last" 6 1 (F_does_last Γ)) (f__law_is_told : Fn Γ P w K mg base "_law_is_told" 7 4 (F__law_is_told Γ)) (f__law_even : Fn Γ P w K mg base "_law_even" 3 2 (F__law_even Γ)) (f__law_light : Fn Γ P w K mg base "_law_light" 3 1 (F__law_light Γ)) (f__law_heavy : Fn Γ P w K mg base "_law_heavy" 3 2 (F__law_heavy Γ)) (f__law_draw : Fn Γ P w K mg base "_law_draw" 1 2 (F__law_draw Γ)) (f__law_begun : Fn Γ P w K mg base "_law_begun" 1 2 (F__law_begun Γ)) (F : Fun K "law" "law" s_law f fd) (hm : mg "law" = some (.ref f)) (hb : Binds K fd ["script"] []) : Fn Γ P w K mg base "law" 8 1 (F_law Γ) := by
  refine fn_of F hm hb S_law rfl fun cdv hcd A outer s H E hr hg tk hp => ?_
  have hN := S_law.nd
  have hu := unit64 hr
  have hu1 := unit1 hr
  exact db_cons (ds_for hp (di_range1 T.b_range (da_cons (d_add (d_int) (d_min T.b_min (da_cons (d_len T.b_len (da_cons (d_var 0 (pv 0)) (da_nil))) (da_cons (d_int) (da_nil))))) (da_nil))) (dg_name 1 hN) (db_cons (ds_set 2 hN (d_call f__law_begun (hr.mono (by decide)) hg tk (da_cons (d_var 0 (pv 0)) (da_cons (d_var 1 (pv 1)) (da_nil)))))
    (db_cons (ds_set 3 hN (d_add (d_int) (d_call f__law_draw (hr.mono (by decide)) hg tk (da_cons (d_var 2 (pv 2)) (da_cons (d_int) (da_nil))))))
    (db_cons (ds_if ((dw_or (dt_not (dt_val (d_call f__law_is_told (hr.mono (by decide)) hg tk (da_cons (d_var 2 (pv 2)) (da_cons (d_int) (da_cons (d_call f__law_light (hr.mono (by decide)) hg tk (da_cons (d_var 2 (pv 2)) (da_nil))) (da_cons (d_bl) (da_nil)))))))) (dw_or1 (dt_not (dt_val (d_call f__law_is_told (hr.mono (by decide)) hg tk (da_cons (d_var 2 (pv 2)) (da_cons (d_var 3 (pv 3)) (da_cons (d_call f__law_heavy (hr.mono (by decide)) hg tk (da_cons (d_var 2 (pv 2)) (da_cons (d_var 3 (pv 3)) (da_nil)))) (da_cons (d_bl) (da_nil)))))))))).dt) (db_one (ds_ret (d_bl))) (db_nil))
    (db_one (ds_if (dt_not (dt_val (d_call f__law_is_told (hr.mono (by decide)) hg tk (da_cons (d_var 2 (pv 2)) (da_cons (d_var 3 (pv 3)) (da_cons (d_call f__law_even (hr.mono (by decide)) hg tk (da_cons (d_var 2 (pv 2)) (da_cons (d_var 3 (pv 3)) (da_nil)))) (da_cons (d_bl) (da_nil)))))))) (db_one (ds_ret (d_bl))) (db_nil)))))))
    (db_cons (ds_set 4 hN (d_lst (da_cons (d_tup (da_cons (d_int) (da_cons (d_int) (da_nil)))) (da_cons (d_tup (da_cons (d_int) (da_cons (d_int) (da_cons (d_int) (da_nil))))) (da_cons (d_tup (da_cons (d_int) (da_cons (d_int) (da_cons (d_int) (da_nil))))) (da_cons (d_tup (da_cons (d_int) (da_cons (d_int) (da_cons (d_int) (da_nil))))) (da_cons (d_tup (da_cons (d_int) (da_cons (d_int) (da_cons (d_int) (da_nil))))) (da_cons (d_tup (da_cons (d_int) (da_cons (d_int) (da_cons (d_int) (da_cons (d_int) (da_nil)))))) (da_nil)))))))))
    (db_cons (ds_if (dt_ne hu (d_lc hN (own := [("gaps", 6)]) (blkOk_by (by first | rfl | with_unfolding_all rfl | kernel_rfl)) (di_seq (d_var 4 (pv 4))) (fun _ _ _ _ _ => dg_name 6 hN) (fun _ _ _ _ _ => dts_one (dt_notB (d_call f_does_last (by exact hr.mono (by decide)) (by exact hg) takes0 (da_cons (d_tup (da_cons (d_int) (da_cons (d_var 6 (pv 6)) (da_nil)))) (da_nil))) (d_bl))) (fun _ _ _ _ _ => d_var 6 (pv 6))) (d_lst (da_nil))) (db_one (ds_ret (d_bl))) (db_nil))
    (db_cons (ds_set 5 hN (d_lst (da_cons (d_call f_does_last (hr.mono (by decide)) hg tk (da_cons (d_tup (da_cons (d_int) (da_cons (d_tup (da_cons (d_int) (da_cons (d_int) (da_cons (d_int) (da_cons (d_int) (da_nil)))))) (da_nil)))) (da_nil))) (da_cons (d_call f_does_last (hr.mono (by decide)) hg tk (da_cons (d_tup (da_cons (d_int) (da_cons (d_mul (d_tup (da_cons (d_int) (da_nil))) (d_int)) (da_nil)))) (da_nil))) (da_cons (d_call f_does_last (hr.mono (by decide)) hg tk (da_cons (d_tup (da_cons (d_int) (da_cons (d_mul (d_tup (da_cons (d_int) (da_nil))) (d_int)) (da_nil)))) (da_nil))) (da_cons (d_call f_does_last (hr.mono (by decide)) hg tk (da_cons (d_tup (da_cons (d_int) (da_cons (d_tup (da_cons (d_int) (da_cons (d_int) (da_cons (d_int) (da_nil))))) (da_nil)))) (da_nil))) (da_nil)))))))
    (db_cons (ds_if (dt_ne hu (d_var 5 (pv 5)) (d_lst (da_cons (d_bl) (da_cons (d_bl) (da_cons (d_bl) (da_cons (d_bl) (da_nil))))))) (db_one (ds_ret (d_bl))) (db_nil))
    (db_cons (ds_set 4 hN (d_lst (da_cons (d_tup (da_cons (d_int) (da_cons (d_int) (da_cons (d_int) (da_nil))))) (da_cons (d_tup (da_cons (d_int) (da_cons (d_int) (da_nil)))) (da_cons (d_tup (da_cons (d_int) (da_cons (d_int) (da_cons (d_int) (da_cons (d_int) (da_nil)))))) (da_cons (d_tup (da_cons (d_int) (da_cons (d_int) (da_cons (d_int) (da_nil))))) (da_cons (d_tup (da_cons (d_int) (da_cons (d_int) (da_cons (d_int) (da_cons (d_int) (da_cons (d_int) (da_nil))))))) (da_nil))))))))
    (db_one (ds_ret (d_eq hu (d_lc hN (own := [("gaps", 6)]) (blkOk_by (by first | rfl | with_unfolding_all rfl | kernel_rfl)) (di_seq (d_var 4 (pv 4))) (fun _ _ _ _ _ => dg_name 6 hN) (fun _ _ _ _ _ => dts_one (dt_notB (d_call f_does_last (by exact hr.mono (by decide)) (by exact hg) takes0 (da_cons (d_tup (da_cons (d_int) (da_cons (d_var 6 (pv 6)) (da_nil)))) (da_nil))) (d_bl))) (fun _ _ _ _ _ => d_var 6 (pv 6))) (d_lst (da_nil))))))))))
end
theorem all_mk {P : Program} {w : World} {K : PySem.W.Frag} {h : Heap} {mg : Str → Option Value} {fa : Addr} (X : K.In h) (G : h.Ns mainGlobals mg) (hfa : mg "law" = some (.ref fa))
    {t_MOST_HANDS : Tok}
    {t_MOST_THINGS : Tok}
    {t_MOST_GAP : Tok}
    {t_MOST_STANDINGS : Tok}
    {C_BadPlan : Addr}
    {C_TooGreat : Addr}
    {i_BadPlan cc_BadPlan : Addr} {oc_BadPlan kV_BadPlan dc_BadPlan pm_BadPlan ct_BadPlan cl_BadPlan ccl_BadPlan : Value} {od_BadPlan an_BadPlan cld_BadPlan cdd_BadPlan : Option Addr} {sl_BadPlan csl_BadPlan ccs_BadPlan : Array (Option Value)} {cda_BadPlan : Addr} {vs_BadPlan : Array Value} {fi_BadPlan : Str} {tf_BadPlan : Tok}
    {i_TooGreat cc_TooGreat : Addr} {oc_TooGreat kV_TooGreat dc_TooGreat pm_TooGreat ct_TooGreat cl_TooGreat ccl_TooGreat : Value} {od_TooGreat an_TooGreat cld_TooGreat cdd_TooGreat : Option Addr} {sl_TooGreat csl_TooGreat ccs_TooGreat : Array (Option Value)} {cda_TooGreat : Addr} {vs_TooGreat : Array Value} {fi_TooGreat : Str} {tf_TooGreat : Tok}
    {C_Web : Addr}
    {a__law_begun : Addr} {oc__law_begun kV__law_begun dc__law_begun pm__law_begun cd__law_begun ct__law_begun : Value} {od__law_begun an__law_begun : Option Addr} {sl__law_begun : Array (Option Value)}
    {a_is_whole : Addr} {oc_is_whole kV_is_whole dc_is_whole pm_is_whole cd_is_whole ct_is_whole : Value} {od_is_whole an_is_whole : Option Addr} {sl_is_whole : Array (Option Value)}
    {a_need_plan : Addr} {oc_need_plan kV_need_plan dc_need_plan pm_need_plan cd_need_plan ct_need_plan : Value} {od_need_plan an_need_plan : Option Addr} {sl_need_plan : Array (Option Value)}
    {a_Web_does_hold : Addr} {oc_Web_does_hold kV_Web_does_hold dc_Web_does_hold pm_Web_does_hold cd_Web_does_hold ct_Web_does_hold : Value} {od_Web_does_hold an_Web_does_hold : Option Addr} {sl_Web_does_hold : Array (Option Value)}
    {a_all_standings : Addr} {oc_all_standings kV_all_standings dc_all_standings pm_all_standings cd_all_standings ct_all_standings : Value} {od_all_standings an_all_standings : Option Addr} {sl_all_standings : Array (Option Value)}
    {a_Web_fallen : Addr} {oc_Web_fallen kV_Web_fallen dc_Web_fallen pm_Web_fallen cd_Web_fallen ct_Web_fallen : Value} {od_Web_fallen an_Web_fallen : Option Addr} {sl_Web_fallen : Array (Option Value)}
    {a_lots_of : Addr} {oc_lots_of kV_lots_of dc_lots_of pm_lots_of cd_lots_of ct_lots_of : Value} {od_lots_of an_lots_of : Option Addr} {sl_lots_of : Array (Option Value)}
    {a_has_due : Addr} {oc_has_due kV_has_due dc_has_due pm_has_due cd_has_due ct_has_due : Value} {od_has_due an_has_due : Option Addr} {sl_has_due : Array (Option Value)}
    {a_due_days : Addr} {oc_due_days kV_due_days dc_due_days pm_due_days cd_due_days ct_due_days : Value} {od_due_days an_due_days : Option Addr} {sl_due_days : Array (Option Value)}
    {a_later_of : Addr} {oc_later_of kV_later_of dc_later_of pm_later_of cd_later_of ct_later_of : Value} {od_later_of an_later_of : Option Addr} {sl_later_of : Array (Option Value)}
    {a_Web___init__ : Addr} {oc_Web___init__ kV_Web___init__ dc_Web___init__ pm_Web___init__ cd_Web___init__ ct_Web___init__ : Value} {od_Web___init__ an_Web___init__ : Option Addr} {sl_Web___init__ : Array (Option Value)}
    {a_count_of : Addr} {oc_count_of kV_count_of dc_count_of pm_count_of cd_count_of ct_count_of : Value} {od_count_of an_count_of : Option Addr} {sl_count_of : Array (Option Value)}
    {a_web_of : Addr} {oc_web_of kV_web_of dc_web_of pm_web_of cd_web_of ct_web_of : Value} {od_web_of an_web_of : Option Addr} {sl_web_of : Array (Option Value)}
    {a_does_last : Addr} {oc_does_last kV_does_last dc_does_last pm_does_last cd_does_last ct_does_last : Value} {od_does_last an_does_last : Option Addr} {sl_does_last : Array (Option Value)}
    {a__law_draw : Addr} {oc__law_draw kV__law_draw dc__law_draw pm__law_draw cd__law_draw ct__law_draw : Value} {od__law_draw an__law_draw : Option Addr} {sl__law_draw : Array (Option Value)}
    {a__law_is_told : Addr} {oc__law_is_told kV__law_is_told dc__law_is_told pm__law_is_told cd__law_is_told ct__law_is_told : Value} {od__law_is_told an__law_is_told : Option Addr} {sl__law_is_told : Array (Option Value)}
    {a__law_size : Addr} {oc__law_size kV__law_size dc__law_size pm__law_size cd__law_size ct__law_size : Value} {od__law_size an__law_size : Option Addr} {sl__law_size : Array (Option Value)}
    {a__law_bulk : Addr} {oc__law_bulk kV__law_bulk dc__law_bulk pm__law_bulk cd__law_bulk ct__law_bulk : Value} {od__law_bulk an__law_bulk : Option Addr} {sl__law_bulk : Array (Option Value)}
    {a__law_even : Addr} {oc__law_even kV__law_even dc__law_even pm__law_even cd__law_even ct__law_even : Value} {od__law_even an__law_even : Option Addr} {sl__law_even : Array (Option Value)}
    {a__law_light : Addr} {oc__law_light kV__law_light dc__law_light pm__law_light cd__law_light ct__law_light : Value} {od__law_light an__law_light : Option Addr} {sl__law_light : Array (Option Value)}
    {a__law_heavy : Addr} {oc__law_heavy kV__law_heavy dc__law_heavy pm__law_heavy cd__law_heavy ct__law_heavy : Value} {od__law_heavy an__law_heavy : Option Addr} {sl__law_heavy : Array (Option Value)}
    {a_law : Addr} {oc_law kV_law dc_law pm_law cd_law ct_law : Value} {od_law an_law : Option Addr} {sl_law : Array (Option Value)}
    (b_all : PySem.W.nsIn K mainGlobals "all" = some none)
    (b_bool : PySem.W.nsIn K mainGlobals "bool" = some none)
    (b_enumerate : PySem.W.nsIn K mainGlobals "enumerate" = some none)
    (b_int : PySem.W.nsIn K mainGlobals "int" = some none)
    (b_isinstance : PySem.W.nsIn K mainGlobals "isinstance" = some none)
    (b_len : PySem.W.nsIn K mainGlobals "len" = some none)
    (b_list : PySem.W.nsIn K mainGlobals "list" = some none)
    (b_max : PySem.W.nsIn K mainGlobals "max" = some none)
    (b_min : PySem.W.nsIn K mainGlobals "min" = some none)
    (b_range : PySem.W.nsIn K mainGlobals "range" = some none)
    (b_repr : PySem.W.nsIn K mainGlobals "repr" = some none)
    (b_sorted : PySem.W.nsIn K mainGlobals "sorted" = some none)
    (b_sum : PySem.W.nsIn K mainGlobals "sum" = some none)
    (b_tuple : PySem.W.nsIn K mainGlobals "tuple" = some none)
    (c_MOST_HANDS : PySem.W.nsIn K mainGlobals "MOST_HANDS" = some (some (.int 3 t_MOST_HANDS)))
    (c_MOST_THINGS : PySem.W.nsIn K mainGlobals "MOST_THINGS" = some (some (.int 8 t_MOST_THINGS)))
    (c_MOST_GAP : PySem.W.nsIn K mainGlobals "MOST_GAP" = some (some (.int 1000000000000000000000000000000 t_MOST_GAP)))
    (c_MOST_STANDINGS : PySem.W.nsIn K mainGlobals "MOST_STANDINGS" = some (some (.int 1000 t_MOST_STANDINGS)))
    (n_BadPlan : PySem.W.nsIn K mainGlobals "BadPlan" = some (some (.ref C_BadPlan)))
    (xe_BadPlan : PySem.W.subIn K (.ref C_BadPlan) (.type "BaseException") = some true)
    (xt_BadPlan : PySem.W.typeIn K (.ref C_BadPlan) = some (.type "type"))
    (n_TooGreat : PySem.W.nsIn K mainGlobals "TooGreat" = some (some (.ref C_TooGreat)))
    (xe_TooGreat : PySem.W.subIn K (.ref C_TooGreat) (.type "BaseException") = some true)
    (xt_TooGreat : PySem.W.typeIn K (.ref C_TooGreat) = some (.type "type"))
    (xc_BadPlan : PySem.W.excInitIn K C_BadPlan [.type "ValueError", .type "Exception", .type "BaseException", .type "object"] "ValueError.__new__" = true)
    (xo_BadPlan : PySem.W.excOver K C_BadPlan [.type "ValueError", .type "Exception", .type "BaseException", .type "object"] = true)
    (xs_BadPlan : PySem.W.findIn K (.ref C_BadPlan) "__setattr__" = some (some (.builtin "object.__setattr__")))
    (xg_BadPlan : PySem.W.findIn K (.ref C_BadPlan) "__getattribute__" = some (some (.builtin "BaseException.__getattribute__")))
    (xh_BadPlan : PySem.W.findIn K (.ref C_BadPlan) "__getattr__" = some none)
    (xi_BadPlan : PySem.W.findIn K (.ref C_BadPlan) "__init__" = some (some (.ref i_BadPlan)))
    (xf_BadPlan : PySem.W.typeIn K (.ref i_BadPlan) = some (.type "function"))
    (xk_BadPlan : PySem.W.keepIn K (.ref C_BadPlan) = true)
    (xb_BadPlan : PySem.W.subIn K (.ref C_BadPlan) (.type "ValueError") = some true)
    (xd_BadPlan : PySem.W.hasDictIn K C_BadPlan = true)
    (xm_BadPlan : PySem.W.mroIn K C_BadPlan (.ref C_BadPlan) = some true)
    (xn_BadPlan : PySem.W.findIn K (.ref C_BadPlan) "place" = some none)
    (xl_BadPlan : K.lookup i_BadPlan = some ⟨oc_BadPlan, od_BadPlan, .func (PySem.W.ksFn "__init__" "BadPlan.__init__" (PySem.OExc.initArgs ([("self", ⟨9, 17, 9, 21⟩), ("place", ⟨9, 23, 9, 28⟩)])) (PySem.OExc.superSt "not a plan" ⟨10, 8, 10, 13⟩ ⟨10, 8, 10, 15⟩ ⟨10, 8, 10, 24⟩ ⟨10, 25, 10, 37⟩ ⟨10, 8, 10, 38⟩ ⟨10, 8, 10, 38⟩ :: [PySem.OExc.fieldSt "place" ⟨11, 8, 11, 12⟩ ⟨11, 8, 11, 18⟩ ⟨11, 21, 11, 26⟩ ⟨11, 8, 11, 26⟩]) (PySem.OExc.scopeF "place") .none kV_BadPlan dc_BadPlan pm_BadPlan an_BadPlan (.ref cda_BadPlan) ct_BadPlan cc_BadPlan), sl_BadPlan⟩)
    (xq_BadPlan : PySem.W.codeIn K (.ref cda_BadPlan) "BadPlan.__init__" = true)
    (xr_BadPlan : K.lookup cda_BadPlan = some ⟨ccl_BadPlan, cdd_BadPlan, .fields vs_BadPlan, ccs_BadPlan⟩)
    (xv_BadPlan : vs_BadPlan[2]? = some (.str fi_BadPlan tf_BadPlan))
    (xw_BadPlan : ((P.main.file : Str) == fi_BadPlan) = true)
    (xu_BadPlan : K.lookup cc_BadPlan = some ⟨cl_BadPlan, cld_BadPlan, .cell (some (.ref C_BadPlan)), csl_BadPlan⟩)
    (xy_BadPlan : PySem.W.ks_superIn K C_BadPlan C_BadPlan "__init__" = some (some (.builtin "ValueError.__init__")))
    (xc_TooGreat : PySem.W.excInitIn K C_TooGreat [.type "OverflowError", .type "ArithmeticError", .type "Exception", .type "BaseException", .type "object"] "OverflowError.__new__" = true)
    (xo_TooGreat : PySem.W.excOver K C_TooGreat [.type "OverflowError", .type "ArithmeticError", .type "Exception", .type "BaseException", .type "object"] = true)
    (xs_TooGreat : PySem.W.findIn K (.ref C_TooGreat) "__setattr__" = some (some (.builtin "object.__setattr__")))
    (xg_TooGreat : PySem.W.findIn K (.ref C_TooGreat) "__getattribute__" = some (some (.builtin "BaseException.__getattribute__")))
    (xh_TooGreat : PySem.W.findIn K (.ref C_TooGreat) "__getattr__" = some none)
    (xi_TooGreat : PySem.W.findIn K (.ref C_TooGreat) "__init__" = some (some (.ref i_TooGreat)))
    (xf_TooGreat : PySem.W.typeIn K (.ref i_TooGreat) = some (.type "function"))
    (xk_TooGreat : PySem.W.keepIn K (.ref C_TooGreat) = true)
    (xb_TooGreat : PySem.W.subIn K (.ref C_TooGreat) (.type "OverflowError") = some true)
    (xd_TooGreat : PySem.W.hasDictIn K C_TooGreat = true)
    (xm_TooGreat : PySem.W.mroIn K C_TooGreat (.ref C_TooGreat) = some true)
    (xn_TooGreat : PySem.W.findIn K (.ref C_TooGreat) "most" = some none)
    (xl_TooGreat : K.lookup i_TooGreat = some ⟨oc_TooGreat, od_TooGreat, .func (PySem.W.ksFn "__init__" "TooGreat.__init__" (PySem.OExc.initArgs ([("self", ⟨14, 17, 14, 21⟩), ("most", ⟨14, 23, 14, 27⟩)])) (PySem.OExc.superSt "too great" ⟨15, 8, 15, 13⟩ ⟨15, 8, 15, 15⟩ ⟨15, 8, 15, 24⟩ ⟨15, 25, 15, 36⟩ ⟨15, 8, 15, 37⟩ ⟨15, 8, 15, 37⟩ :: [PySem.OExc.fieldSt "most" ⟨16, 8, 16, 12⟩ ⟨16, 8, 16, 17⟩ ⟨16, 20, 16, 24⟩ ⟨16, 8, 16, 24⟩]) (PySem.OExc.scopeF "most") .none kV_TooGreat dc_TooGreat pm_TooGreat an_TooGreat (.ref cda_TooGreat) ct_TooGreat cc_TooGreat), sl_TooGreat⟩)
    (xq_TooGreat : PySem.W.codeIn K (.ref cda_TooGreat) "TooGreat.__init__" = true)
    (xr_TooGreat : K.lookup cda_TooGreat = some ⟨ccl_TooGreat, cdd_TooGreat, .fields vs_TooGreat, ccs_TooGreat⟩)
    (xv_TooGreat : vs_TooGreat[2]? = some (.str fi_TooGreat tf_TooGreat))
    (xw_TooGreat : ((P.main.file : Str) == fi_TooGreat) = true)
    (xu_TooGreat : K.lookup cc_TooGreat = some ⟨cl_TooGreat, cld_TooGreat, .cell (some (.ref C_TooGreat)), csl_TooGreat⟩)
    (xy_TooGreat : PySem.W.ks_superIn K C_TooGreat C_TooGreat "__init__" = some (some (.builtin "OverflowError.__init__")))
    (z_opq : PySem.W.nsIn K cStatics "thirdparty.any" = some none)
    (z_sup : PySem.W.nsIn K mainGlobals "super" = some none)
    (z_top : (P.main.scope.names.lookup ("super" : Str)).isSome = false)
    (n_Web : PySem.W.nsIn K mainGlobals "Web" = some (some (.ref C_Web)))
    (p1_Web : PySem.W.plainGet K C_Web Str.empty = true)
    (p2_Web : PySem.W.hasDictIn K C_Web = true)
    (p3_Web : PySem.W.plainOver K C_Web = true)
    (p4_Web : PySem.W.findIn K (.ref C_Web) "__setattr__" = some (some (.builtin "object.__setattr__")))
    (p5_Web : PySem.W.makesIn K C_Web = true)
    (p6_Web : PySem.W.keepIn K (.ref C_Web) = true)
    (na_Web_own_falls : PySem.W.findIn K (.ref C_Web) "own_falls" = some none)
    (na_Web_own_links : PySem.W.findIn K (.ref C_Web) "own_links" = some none)
    (na_Web_own_plan : PySem.W.findIn K (.ref C_Web) "own_plan" = some none)
    (a__law_begun_ : PySem.W.nsIn K mainGlobals "_law_begun" = some (some (.ref a__law_begun)))
    (l__law_begun : K.lookup a__law_begun = some ⟨oc__law_begun, od__law_begun, .func (PySem.W.fnOf "_law_begun" "_law_begun" (defArgs s__law_begun) (defBody s__law_begun) (defScope s__law_begun) .none kV__law_begun dc__law_begun pm__law_begun an__law_begun cd__law_begun ct__law_begun), sl__law_begun⟩)
    (q__law_begun : PySem.W.codeIn K cd__law_begun "_law_begun" = true)
    (k__law_begun : PySem.W.keepIn K (.ref a__law_begun) = true)
    (a_is_whole_ : PySem.W.nsIn K mainGlobals "is_whole" = some (some (.ref a_is_whole)))
    (l_is_whole : K.lookup a_is_whole = some ⟨oc_is_whole, od_is_whole, .func (PySem.W.fnOf "is_whole" "is_whole" (defArgs s_is_whole) (defBody s_is_whole) (defScope s_is_whole) .none kV_is_whole dc_is_whole pm_is_whole an_is_whole cd_is_whole ct_is_whole), sl_is_whole⟩)
    (q_is_whole : PySem.W.codeIn K cd_is_whole "is_whole" = true)
    (k_is_whole : PySem.W.keepIn K (.ref a_is_whole) = true)
    (a_need_plan_ : PySem.W.nsIn K mainGlobals "need_plan" = some (some (.ref a_need_plan)))
    (l_need_plan : K.lookup a_need_plan = some ⟨oc_need_plan, od_need_plan, .func (PySem.W.fnOf "need_plan" "need_plan" (defArgs s_need_plan) (defBody s_need_plan) (defScope s_need_plan) .none kV_need_plan dc_need_plan pm_need_plan an_need_plan cd_need_plan ct_need_plan), sl_need_plan⟩)
    (q_need_plan : PySem.W.codeIn K cd_need_plan "need_plan" = true)
    (k_need_plan : PySem.W.keepIn K (.ref a_need_plan) = true)
    (a_Web_does_hold_ : PySem.W.findIn K (.ref C_Web) "does_hold" = some (some (.ref a_Web_does_hold)))
    (i_Web_does_hold : PySem.W.isFn K (.ref a_Web_does_hold) = true)
    (l_Web_does_hold : K.lookup a_Web_does_hold = some ⟨oc_Web_does_hold, od_Web_does_hold, .func (PySem.W.fnOf "does_hold" "Web.does_hold" (defArgs s_Web_does_hold) (defBody s_Web_does_hold) (defScope s_Web_does_hold) .none kV_Web_does_hold dc_Web_does_hold pm_Web_does_hold an_Web_does_hold cd_Web_does_hold ct_Web_does_hold), sl_Web_does_hold⟩)
    (q_Web_does_hold : PySem.W.codeIn K cd_Web_does_hold "Web.does_hold" = true)
    (k_Web_does_hold : PySem.W.keepIn K (.ref a_Web_does_hold) = true)
    (a_all_standings_ : PySem.W.nsIn K mainGlobals "all_standings" = some (some (.ref a_all_standings)))
    (l_all_standings : K.lookup a_all_standings = some ⟨oc_all_standings, od_all_standings, .func (PySem.W.fnOf "all_standings" "all_standings" (defArgs s_all_standings) (defBody s_all_standings) (defScope s_all_standings) .none kV_all_standings dc_all_standings pm_all_standings an_all_standings cd_all_standings ct_all_standings), sl_all_standings⟩)
    (q_all_standings : PySem.W.codeIn K cd_all_standings "all_standings" = true)
    (k_all_standings : PySem.W.keepIn K (.ref a_all_standings) = true)
    (a_Web_fallen_ : PySem.W.findIn K (.ref C_Web) "fallen" = some (some (.ref a_Web_fallen)))
    (i_Web_fallen : PySem.W.isFn K (.ref a_Web_fallen) = true)
    (l_Web_fallen : K.lookup a_Web_fallen = some ⟨oc_Web_fallen, od_Web_fallen, .func (PySem.W.fnOf "fallen" "Web.fallen" (defArgs s_Web_fallen) (defBody s_Web_fallen) (defScope s_Web_fallen) .none kV_Web_fallen dc_Web_fallen pm_Web_fallen an_Web_fallen cd_Web_fallen ct_Web_fallen), sl_Web_fallen⟩)
    (q_Web_fallen : PySem.W.codeIn K cd_Web_fallen "Web.fallen" = true)
    (k_Web_fallen : PySem.W.keepIn K (.ref a_Web_fallen) = true)
    (a_lots_of_ : PySem.W.nsIn K mainGlobals "lots_of" = some (some (.ref a_lots_of)))
    (l_lots_of : K.lookup a_lots_of = some ⟨oc_lots_of, od_lots_of, .func (PySem.W.fnOf "lots_of" "lots_of" (defArgs s_lots_of) (defBody s_lots_of) (defScope s_lots_of) .none kV_lots_of dc_lots_of pm_lots_of an_lots_of cd_lots_of ct_lots_of), sl_lots_of⟩)
    (q_lots_of : PySem.W.codeIn K cd_lots_of "lots_of" = true)
    (k_lots_of : PySem.W.keepIn K (.ref a_lots_of) = true)
    (a_has_due_ : PySem.W.nsIn K mainGlobals "has_due" = some (some (.ref a_has_due)))
    (l_has_due : K.lookup a_has_due = some ⟨oc_has_due, od_has_due, .func (PySem.W.fnOf "has_due" "has_due" (defArgs s_has_due) (defBody s_has_due) (defScope s_has_due) .none kV_has_due dc_has_due pm_has_due an_has_due cd_has_due ct_has_due), sl_has_due⟩)
    (q_has_due : PySem.W.codeIn K cd_has_due "has_due" = true)
    (k_has_due : PySem.W.keepIn K (.ref a_has_due) = true)
    (a_due_days_ : PySem.W.nsIn K mainGlobals "due_days" = some (some (.ref a_due_days)))
    (l_due_days : K.lookup a_due_days = some ⟨oc_due_days, od_due_days, .func (PySem.W.fnOf "due_days" "due_days" (defArgs s_due_days) (defBody s_due_days) (defScope s_due_days) .none kV_due_days dc_due_days pm_due_days an_due_days cd_due_days ct_due_days), sl_due_days⟩)
    (q_due_days : PySem.W.codeIn K cd_due_days "due_days" = true)
    (k_due_days : PySem.W.keepIn K (.ref a_due_days) = true)
    (a_later_of_ : PySem.W.nsIn K mainGlobals "later_of" = some (some (.ref a_later_of)))
    (l_later_of : K.lookup a_later_of = some ⟨oc_later_of, od_later_of, .func (PySem.W.fnOf "later_of" "later_of" (defArgs s_later_of) (defBody s_later_of) (defScope s_later_of) .none kV_later_of dc_later_of pm_later_of an_later_of cd_later_of ct_later_of), sl_later_of⟩)
    (q_later_of : PySem.W.codeIn K cd_later_of "later_of" = true)
    (k_later_of : PySem.W.keepIn K (.ref a_later_of) = true)
    (a_Web___init___ : PySem.W.findIn K (.ref C_Web) "__init__" = some (some (.ref a_Web___init__)))
    (i_Web___init__ : PySem.W.isFn K (.ref a_Web___init__) = true)
    (l_Web___init__ : K.lookup a_Web___init__ = some ⟨oc_Web___init__, od_Web___init__, .func (PySem.W.fnOf "__init__" "Web.__init__" (defArgs s_Web___init__) (defBody s_Web___init__) (defScope s_Web___init__) .none kV_Web___init__ dc_Web___init__ pm_Web___init__ an_Web___init__ cd_Web___init__ ct_Web___init__), sl_Web___init__⟩)
    (q_Web___init__ : PySem.W.codeIn K cd_Web___init__ "Web.__init__" = true)
    (k_Web___init__ : PySem.W.keepIn K (.ref a_Web___init__) = true)
    (a_count_of_ : PySem.W.nsIn K mainGlobals "count_of" = some (some (.ref a_count_of)))
    (l_count_of : K.lookup a_count_of = some ⟨oc_count_of, od_count_of, .func (PySem.W.fnOf "count_of" "count_of" (defArgs s_count_of) (defBody s_count_of) (defScope s_count_of) .none kV_count_of dc_count_of pm_count_of an_count_of cd_count_of ct_count_of), sl_count_of⟩)
    (q_count_of : PySem.W.codeIn K cd_count_of "count_of" = true)
    (k_count_of : PySem.W.keepIn K (.ref a_count_of) = true)
    (a_web_of_ : PySem.W.nsIn K mainGlobals "web_of" = some (some (.ref a_web_of)))
    (l_web_of : K.lookup a_web_of = some ⟨oc_web_of, od_web_of, .func (PySem.W.fnOf "web_of" "web_of" (defArgs s_web_of) (defBody s_web_of) (defScope s_web_of) .none kV_web_of dc_web_of pm_web_of an_web_of cd_web_of ct_web_of), sl_web_of⟩)
    (q_web_of : PySem.W.codeIn K cd_web_of "web_of" = true)
    (k_web_of : PySem.W.keepIn K (.ref a_web_of) = true)
    (a_does_last_ : PySem.W.nsIn K mainGlobals "does_last" = some (some (.ref a_does_last)))
    (l_does_last : K.lookup a_does_last = some ⟨oc_does_last, od_does_last, .func (PySem.W.fnOf "does_last" "does_last" (defArgs s_does_last) (defBody s_does_last) (defScope s_does_last) .none kV_does_last dc_does_last pm_does_last an_does_last cd_does_last ct_does_last), sl_does_last⟩)
    (q_does_last : PySem.W.codeIn K cd_does_last "does_last" = true)
    (k_does_last : PySem.W.keepIn K (.ref a_does_last) = true)
    (a__law_draw_ : PySem.W.nsIn K mainGlobals "_law_draw" = some (some (.ref a__law_draw)))
    (l__law_draw : K.lookup a__law_draw = some ⟨oc__law_draw, od__law_draw, .func (PySem.W.fnOf "_law_draw" "_law_draw" (defArgs s__law_draw) (defBody s__law_draw) (defScope s__law_draw) .none kV__law_draw dc__law_draw pm__law_draw an__law_draw cd__law_draw ct__law_draw), sl__law_draw⟩)
    (q__law_draw : PySem.W.codeIn K cd__law_draw "_law_draw" = true)
    (k__law_draw : PySem.W.keepIn K (.ref a__law_draw) = true)
    (a__law_is_told_ : PySem.W.nsIn K mainGlobals "_law_is_told" = some (some (.ref a__law_is_told)))
    (l__law_is_told : K.lookup a__law_is_told = some ⟨oc__law_is_told, od__law_is_told, .func (PySem.W.fnOf "_law_is_told" "_law_is_told" (defArgs s__law_is_told) (defBody s__law_is_told) (defScope s__law_is_told) .none kV__law_is_told dc__law_is_told pm__law_is_told an__law_is_told cd__law_is_told ct__law_is_told), sl__law_is_told⟩)
    (q__law_is_told : PySem.W.codeIn K cd__law_is_told "_law_is_told" = true)
    (k__law_is_told : PySem.W.keepIn K (.ref a__law_is_told) = true)
    (a__law_size_ : PySem.W.nsIn K mainGlobals "_law_size" = some (some (.ref a__law_size)))
    (l__law_size : K.lookup a__law_size = some ⟨oc__law_size, od__law_size, .func (PySem.W.fnOf "_law_size" "_law_size" (defArgs s__law_size) (defBody s__law_size) (defScope s__law_size) .none kV__law_size dc__law_size pm__law_size an__law_size cd__law_size ct__law_size), sl__law_size⟩)
    (q__law_size : PySem.W.codeIn K cd__law_size "_law_size" = true)
    (k__law_size : PySem.W.keepIn K (.ref a__law_size) = true)
    (a__law_bulk_ : PySem.W.nsIn K mainGlobals "_law_bulk" = some (some (.ref a__law_bulk)))
    (l__law_bulk : K.lookup a__law_bulk = some ⟨oc__law_bulk, od__law_bulk, .func (PySem.W.fnOf "_law_bulk" "_law_bulk" (defArgs s__law_bulk) (defBody s__law_bulk) (defScope s__law_bulk) .none kV__law_bulk dc__law_bulk pm__law_bulk an__law_bulk cd__law_bulk ct__law_bulk), sl__law_bulk⟩)
    (q__law_bulk : PySem.W.codeIn K cd__law_bulk "_law_bulk" = true)
    (k__law_bulk : PySem.W.keepIn K (.ref a__law_bulk) = true)
    (a__law_even_ : PySem.W.nsIn K mainGlobals "_law_even" = some (some (.ref a__law_even)))
    (l__law_even : K.lookup a__law_even = some ⟨oc__law_even, od__law_even, .func (PySem.W.fnOf "_law_even" "_law_even" (defArgs s__law_even) (defBody s__law_even) (defScope s__law_even) .none kV__law_even dc__law_even pm__law_even an__law_even cd__law_even ct__law_even), sl__law_even⟩)
    (q__law_even : PySem.W.codeIn K cd__law_even "_law_even" = true)
    (k__law_even : PySem.W.keepIn K (.ref a__law_even) = true)
    (a__law_light_ : PySem.W.nsIn K mainGlobals "_law_light" = some (some (.ref a__law_light)))
    (l__law_light : K.lookup a__law_light = some ⟨oc__law_light, od__law_light, .func (PySem.W.fnOf "_law_light" "_law_light" (defArgs s__law_light) (defBody s__law_light) (defScope s__law_light) .none kV__law_light dc__law_light pm__law_light an__law_light cd__law_light ct__law_light), sl__law_light⟩)
    (q__law_light : PySem.W.codeIn K cd__law_light "_law_light" = true)
    (k__law_light : PySem.W.keepIn K (.ref a__law_light) = true)
    (a__law_heavy_ : PySem.W.nsIn K mainGlobals "_law_heavy" = some (some (.ref a__law_heavy)))
    (l__law_heavy : K.lookup a__law_heavy = some ⟨oc__law_heavy, od__law_heavy, .func (PySem.W.fnOf "_law_heavy" "_law_heavy" (defArgs s__law_heavy) (defBody s__law_heavy) (defScope s__law_heavy) .none kV__law_heavy dc__law_heavy pm__law_heavy an__law_heavy cd__law_heavy ct__law_heavy), sl__law_heavy⟩)
    (q__law_heavy : PySem.W.codeIn K cd__law_heavy "_law_heavy" = true)
    (k__law_heavy : PySem.W.keepIn K (.ref a__law_heavy) = true)
    (a_law_ : PySem.W.nsIn K mainGlobals "law" = some (some (.ref a_law)))
    (l_law : K.lookup a_law = some ⟨oc_law, od_law, .func (PySem.W.fnOf "law" "law" (defArgs s_law) (defBody s_law) (defScope s_law) .none kV_law dc_law pm_law an_law cd_law ct_law), sl_law⟩)
    (q_law : PySem.W.codeIn K cd_law "law" = true)
    (k_law : PySem.W.keepIn K (.ref a_law) = true) :
    ∃ (cs : Tabls) (Γ : Gam), (∀ p ∈ cs, h.get? p.2.1 = some { cls := .none, data := .fields #[] }) ∧ (∀ p ∈ cs, K.lookup p.2.1 = none) ∧ (∀ p ∈ cs, PySem.W.CodeHd h p.1 p.2.1) ∧ ∀ base : Heap, K.In base → base.Ns mainGlobals mg → TabsB base mg cs → @Fn (tnOf cs) Γ P w K mg base "law" 8 1 (F_law Γ) := by
  letI tn0 : TN := tnOf []
  obtain ⟨Γ, hΓ⟩ : ∃ Γ : Gam, Γ = fun nm : Str => if nm = "BadPlan" then some C_BadPlan else if nm = "TooGreat" then some C_TooGreat else if nm = "Web" then some C_Web else none := ⟨_, rfl⟩
  have g_BadPlan : Γ "BadPlan" = some C_BadPlan := by rw [hΓ]; rfl
  have g_TooGreat : Γ "TooGreat" = some C_TooGreat := by rw [hΓ]; rfl
  have g_Web : Γ "Web" = some C_Web := by rw [hΓ]; rfl
  have allΓ : ∀ nm C, Γ nm = some C → (nm = "BadPlan" ∧ C = C_BadPlan) ∨ (nm = "TooGreat" ∧ C = C_TooGreat) ∨ (nm = "Web" ∧ C = C_Web) := fun nm C e => by
    rw [hΓ] at e
    dsimp only at e
    split at e
    · rename_i z; cases e; exact .inl ⟨z, rfl⟩
    split at e
    · rename_i z; cases e; exact .inr (.inl ⟨z, rfl⟩)
    split at e
    · rename_i z; cases e; exact .inr (.inr (⟨z, rfl⟩))
    cases e
  have T : Txt Γ P K mg :=
    { b_all := PySem.W.mg_none_of X G b_all
      b_bool := PySem.W.mg_none_of X G b_bool
      b_enumerate := PySem.W.mg_none_of X G b_enumerate
      b_int := PySem.W.mg_none_of X G b_int
      b_isinstance := PySem.W.mg_none_of X G b_isinstance
      b_len := PySem.W.mg_none_of X G b_len
      b_list := PySem.W.mg_none_of X G b_list
      b_max := PySem.W.mg_none_of X G b_max
      b_min := PySem.W.mg_none_of X G b_min
      b_range := PySem.W.mg_none_of X G b_range
      b_repr := PySem.W.mg_none_of X G b_repr
      b_sorted := PySem.W.mg_none_of X G b_sorted
      b_sum := PySem.W.mg_none_of X G b_sum
      b_tuple := PySem.W.mg_none_of X G b_tuple
      c_MOST_HANDS := ⟨_, PySem.W.mg_of X G c_MOST_HANDS⟩
      c_MOST_THINGS := ⟨_, PySem.W.mg_of X G c_MOST_THINGS⟩
      c_MOST_GAP := ⟨_, PySem.W.mg_of X G c_MOST_GAP⟩
      c_MOST_STANDINGS := ⟨_, PySem.W.mg_of X G c_MOST_STANDINGS⟩
      x_BadPlan := ⟨C_BadPlan, g_BadPlan, "ValueError", "ValueError.__new__", "ValueError.__init__", _, i_BadPlan, cc_BadPlan, _, _, { gC := PySem.W.mg_of X G n_BadPlan, FB := PySem.F.excBase_ValueError, SF := PySem.F.store_ValueError, KF := PySem.W.kxs_ValueError, cls := xc_BadPlan, over := xo_BadPlan, sa := xs_BadPlan, ga := xg_BadPlan, gg := xh_BadPlan, iC := xi_BadPlan, tC := xf_BadPlan, kC := xk_BadPlan, exC := xe_BadPlan, subB := xb_BadPlan, tyC := xt_BadPlan, hdC := xd_BadPlan, self := xm_BadPlan, sup := xy_BadPlan, cell := ⟨_, _, _, xu_BadPlan⟩, opq := z_opq, noS := PySem.W.mg_none_of X G z_sup, top := z_top }, ⟨⟨_, _, _, _, _, _, _, _, _, [⟨9, 17, 9, 21⟩, ⟨9, 23, 9, 28⟩], _, _, _, _, _, _, _, _, _, _, _, _, _, rfl, ⟨_, _, _, _, rfl⟩, xl_BadPlan, xq_BadPlan, xr_BadPlan, xv_BadPlan, xw_BadPlan, rfl⟩⟩, xn_BadPlan⟩
      x_TooGreat := ⟨C_TooGreat, g_TooGreat, "OverflowError", "OverflowError.__new__", "OverflowError.__init__", _, i_TooGreat, cc_TooGreat, _, _, { gC := PySem.W.mg_of X G n_TooGreat, FB := PySem.F.excBase_OverflowError, SF := PySem.F.store_OverflowError, KF := PySem.W.kxs_OverflowError, cls := xc_TooGreat, over := xo_TooGreat, sa := xs_TooGreat, ga := xg_TooGreat, gg := xh_TooGreat, iC := xi_TooGreat, tC := xf_TooGreat, kC := xk_TooGreat, exC := xe_TooGreat, subB := xb_TooGreat, tyC := xt_TooGreat, hdC := xd_TooGreat, self := xm_TooGreat, sup := xy_TooGreat, cell := ⟨_, _, _, xu_TooGreat⟩, opq := z_opq, noS := PySem.W.mg_none_of X G z_sup, top := z_top }, ⟨⟨_, _, _, _, _, _, _, _, _, [⟨14, 17, 14, 21⟩, ⟨14, 23, 14, 27⟩], _, _, _, _, _, _, _, _, _, _, _, _, _, rfl, ⟨_, _, _, _, rfl⟩, xl_TooGreat, xq_TooGreat, xr_TooGreat, xv_TooGreat, xw_TooGreat, rfl⟩⟩, xn_TooGreat⟩
      a_Web_own_falls := cls_at g_Web ⟨p1_Web, p2_Web, p3_Web, p4_Web⟩ na_Web_own_falls
      a_Web_own_links := cls_at g_Web ⟨p1_Web, p2_Web, p3_Web, p4_Web⟩ na_Web_own_links
      a_Web_own_plan := cls_at g_Web ⟨p1_Web, p2_Web, p3_Web, p4_Web⟩ na_Web_own_plan
      tru := trivial }
  refine ⟨[], Γ, (fun _ z => (nomatch z)), (fun _ z => (nomatch z)), (fun _ z => (nomatch z)), fun base _ _ tb => ?_⟩
  letI : TN := tnOf []
  have H__law_begun := fun_mk (st := s__law_begun) l__law_begun q__law_begun k__law_begun
  have B__law_begun := H__law_begun.binds (ps := ["script", "k"]) fun _ _ _ _ _ _ us hl => match us, hl with | [_, _], _ => rfl
  have f__law_begun : Fn Γ P w K mg base "_law_begun" 1 2 (F__law_begun Γ) := fn__law_begun T  H__law_begun (PySem.W.mg_of X G a__law_begun_) B__law_begun
  have H_is_whole := fun_mk (st := s_is_whole) l_is_whole q_is_whole k_is_whole
  have B_is_whole := H_is_whole.binds (ps := ["value", "least", "most"]) fun _ _ _ _ _ _ us hl => match us, hl with | [_, _, _], _ => rfl
  have f_is_whole : Fn Γ P w K mg base "is_whole" 1 3 (F_is_whole Γ) := fn_is_whole T  H_is_whole (PySem.W.mg_of X G a_is_whole_) B_is_whole
  have H_need_plan := fun_mk (st := s_need_plan) l_need_plan q_need_plan k_need_plan
  have B_need_plan := H_need_plan.binds (ps := ["thing"]) fun _ _ _ _ _ _ us hl => match us, hl with | [_], _ => rfl
  have f_need_plan : Fn Γ P w K mg base "need_plan" 2 1 (F_need_plan Γ) := fn_need_plan T f_is_whole H_need_plan (PySem.W.mg_of X G a_need_plan_) B_need_plan
  have H_Web_does_hold := fun_mk (st := s_Web_does_hold) l_Web_does_hold q_Web_does_hold k_Web_does_hold
  have B_Web_does_hold := H_Web_does_hold.binds (ps := ["self", "standing"]) fun _ _ _ _ _ _ us hl => match us, hl with | [_, _], _ => rfl
  have f_Web_does_hold : FnM Γ P w K mg base "Web" "does_hold" 1 2 (F_Web_does_hold Γ) := fn_Web_does_hold T  H_Web_does_hold g_Web ⟨p1_Web, p2_Web, p3_Web, p4_Web⟩ ⟨a_Web_does_hold_, i_Web_does_hold, k_Web_does_hold⟩ B_Web_does_hold
  have H_all_standings := fun_mk (st := s_all_standings) l_all_standings q_all_standings k_all_standings
  have B_all_standings := H_all_standings.binds (ps := ["plan"]) fun _ _ _ _ _ _ us hl => match us, hl with | [_], _ => rfl
  have f_all_standings : Fn Γ P w K mg base "all_standings" 1 1 (F_all_standings Γ) := fn_all_standings T  H_all_standings (PySem.W.mg_of X G a_all_standings_) B_all_standings
  have H_Web_fallen := fun_mk (st := s_Web_fallen) l_Web_fallen q_Web_fallen k_Web_fallen
  have B_Web_fallen := H_Web_fallen.binds (ps := ["self"]) fun _ _ _ _ _ _ us hl => match us, hl with | [_], _ => rfl
  have f_Web_fallen : FnM Γ P w K mg base "Web" "fallen" 1 1 (F_Web_fallen Γ) := fn_Web_fallen T  H_Web_fallen g_Web ⟨p1_Web, p2_Web, p3_Web, p4_Web⟩ ⟨a_Web_fallen_, i_Web_fallen, k_Web_fallen⟩ B_Web_fallen
  have H_lots_of := fun_mk (st := s_lots_of) l_lots_of q_lots_of k_lots_of
  have B_lots_of := H_lots_of.binds (ps := ["hands", "many"]) fun _ _ _ _ _ _ us hl => match us, hl with | [_, _], _ => rfl
  have f_lots_of : Fn Γ P w K mg base "lots_of" 1 2 (F_lots_of Γ) := fn_lots_of T  H_lots_of (PySem.W.mg_of X G a_lots_of_) B_lots_of
  have H_has_due := fun_mk (st := s_has_due) l_has_due q_has_due k_has_due
  have B_has_due := H_has_due.binds (ps := ["standing", "day"]) fun _ _ _ _ _ _ us hl => match us, hl with | [_, _], _ => rfl
  have f_has_due : Fn Γ P w K mg base "has_due" 1 2 (F_has_due Γ) := fn_has_due T  H_has_due (PySem.W.mg_of X G a_has_due_) B_has_due
  have H_due_days := fun_mk (st := s_due_days) l_due_days q_due_days k_due_days
  have B_due_days := H_due_days.binds (ps := ["plan", "standing"]) fun _ _ _ _ _ _ us hl => match us, hl with | [_, _], _ => rfl
  have f_due_days : Fn Γ P w K mg base "due_days" 2 2 (F_due_days Γ) := fn_due_days T f_lots_of f_has_due H_due_days (PySem.W.mg_of X G a_due_days_) B_due_days
  have H_later_of := fun_mk (st := s_later_of) l_later_of q_later_of k_later_of
  have B_later_of := H_later_of.binds (ps := ["plan", "standing", "day"]) fun _ _ _ _ _ _ us hl => match us, hl with | [_, _, _], _ => rfl
  have f_later_of : Fn Γ P w K mg base "later_of" 1 3 (F_later_of Γ) := fn_later_of T  H_later_of (PySem.W.mg_of X G a_later_of_) B_later_of
  have H_Web___init__ := fun_mk (st := s_Web___init__) l_Web___init__ q_Web___init__ k_Web___init__
  have B_Web___init__ := H_Web___init__.binds (ps := ["self", "plan"]) fun _ _ _ _ _ _ us hl => match us, hl with | [_, _], _ => rfl
  have f_Web___init__ : FnI Γ P w K mg base "Web" 3 2 (F_Web___init__ Γ) := fn_Web___init__ T f_Web_fallen f_all_standings f_later_of f_due_days H_Web___init__ g_Web (PySem.W.mg_of X G n_Web) ⟨p5_Web, a_Web___init___, i_Web___init__, p6_Web⟩ B_Web___init__
  have H_count_of := fun_mk (st := s_count_of) l_count_of q_count_of k_count_of
  have B_count_of := H_count_of.binds (ps := ["plan"]) fun _ _ _ _ _ _ us hl => match us, hl with | [_], _ => rfl
  have f_count_of : Fn Γ P w K mg base "count_of" 1 1 (F_count_of Γ) := fn_count_of T  H_count_of (PySem.W.mg_of X G a_count_of_) B_count_of
  have H_web_of := fun_mk (st := s_web_of) l_web_of q_web_of k_web_of
  have B_web_of := H_web_of.binds (ps := ["plan"]) fun _ _ _ _ _ _ us hl => match us, hl with | [_], _ => rfl
  have f_web_of : Fn Γ P w K mg base "web_of" 5 1 (F_web_of Γ) := fn_web_of T f_Web___init__ f_count_of H_web_of (PySem.W.mg_of X G a_web_of_) B_web_of
  have H_does_last := fun_mk (st := s_does_last) l_does_last q_does_last k_does_last
  have B_does_last := H_does_last.binds (ps := ["plan"]) fun _ _ _ _ _ _ us hl => match us, hl with | [_], _ => rfl
  have f_does_last : Fn Γ P w K mg base "does_last" 6 1 (F_does_last Γ) := fn_does_last T f_Web_does_hold f_web_of f_need_plan H_does_last (PySem.W.mg_of X G a_does_last_) B_does_last
  have H__law_draw := fun_mk (st := s__law_draw) l__law_draw q__law_draw k__law_draw
  have B__law_draw := H__law_draw.binds (ps := ["m", "many"]) fun _ _ _ _ _ _ us hl => match us, hl with | [_, _], _ => rfl
  have f__law_draw : Fn Γ P w K mg base "_law_draw" 1 2 (F__law_draw Γ) := fn__law_draw T  H__law_draw (PySem.W.mg_of X G a__law_draw_) B__law_draw
  have H__law_is_told := fun_mk (st := s__law_is_told) l__law_is_told q__law_is_told k__law_is_told
  have B__law_is_told := H__law_is_told.binds (ps := ["m", "hands", "gaps", "due"]) fun _ _ _ _ _ _ us hl => match us, hl with | [_, _, _, _], _ => rfl
  have f__law_is_told : Fn Γ P w K mg base "_law_is_told" 7 4 (F__law_is_told Γ) := fn__law_is_told T f_does_last f__law_draw H__law_is_told (PySem.W.mg_of X G a__law_is_told_) B__law_is_told
  have H__law_size := fun_mk (st := s__law_size) l__law_size q__law_size k__law_size
  have B__law_size := H__law_size.binds (ps := ["gaps"]) fun _ _ _ _ _ _ us hl => match us, hl with | [_], _ => rfl
  have f__law_size : Fn Γ P w K mg base "_law_size" 1 1 (F__law_size Γ) := fn__law_size T  H__law_size (PySem.W.mg_of X G a__law_size_) B__law_size
  have H__law_bulk := fun_mk (st := s__law_bulk) l__law_bulk q__law_bulk k__law_bulk
  have B__law_bulk := H__law_bulk.binds (ps := ["gaps"]) fun _ _ _ _ _ _ us hl => match us, hl with | [_], _ => rfl
  have f__law_bulk : Fn Γ P w K mg base "_law_bulk" 2 1 (F__law_bulk Γ) := fn__law_bulk T f__law_size H__law_bulk (PySem.W.mg_of X G a__law_bulk_) B__law_bulk
  have H__law_even := fun_mk (st := s__law_even) l__law_even q__law_even k__law_even
  have B__law_even := H__law_even.binds (ps := ["m", "hands"]) fun _ _ _ _ _ _ us hl => match us, hl with | [_, _], _ => rfl
  have f__law_even : Fn Γ P w K mg base "_law_even" 3 2 (F__law_even Γ) := fn__law_even T f__law_size f__law_bulk f__law_draw H__law_even (PySem.W.mg_of X G a__law_even_) B__law_even
  have H__law_light := fun_mk (st := s__law_light) l__law_light q__law_light k__law_light
  have B__law_light := H__law_light.binds (ps := ["m"]) fun _ _ _ _ _ _ us hl => match us, hl with | [_], _ => rfl
  have f__law_light : Fn Γ P w K mg base "_law_light" 3 1 (F__law_light Γ) := fn__law_light T f__law_size f__law_bulk f__law_draw H__law_light (PySem.W.mg_of X G a__law_light_) B__law_light
  have H__law_heavy := fun_mk (st := s__law_heavy) l__law_heavy q__law_heavy k__law_heavy
  have B__law_heavy := H__law_heavy.binds (ps := ["m", "hands"]) fun _ _ _ _ _ _ us hl => match us, hl with | [_, _], _ => rfl
  have f__law_heavy : Fn Γ P w K mg base "_law_heavy" 3 2 (F__law_heavy Γ) := fn__law_heavy T f__law_bulk f__law_size f__law_draw H__law_heavy (PySem.W.mg_of X G a__law_heavy_) B__law_heavy
  have H_law := fun_mk (st := s_law) l_law q_law k_law
  have B_law := H_law.binds (ps := ["script"]) fun _ _ _ _ _ _ us hl => match us, hl with | [_], _ => rfl
  have f_law : Fn Γ P w K mg base "law" 8 1 (F_law Γ) := fn_law T f_does_last f__law_is_told f__law_even f__law_light f__law_heavy f__law_draw f__law_begun H_law (PySem.W.mg_of X G a_law_) B_law
  exact f_law
end K07
open PySem PySem.W PyProof.Rows
set_option maxHeartbeats 8000000 in
theorem PySem.Challenge.cw_oftenenough_k07_whole_shares_that_last_holds : PySem.Challenge.rw_oftenenough_k07_whole_shares_that_last.Holds := by
  w_on; o_law; k_head; (case hw => w_witness2)
  k_fill
  letI tn0 : OE.TN := OE.tnOf []
  refine OE.walk_g (l := PySem.Challenge.rw_oftenenough_k07_whole_shares_that_last) (n := 63) (k := 8) (G := K07.F_law) rfl (by decide) rfl ⟨rfl, by decide, by decide⟩ (fun w h Y => PySem.W.kIn_of Y) ?F (fun Γ ns hn => K07.law_true Γ ns hn)
  case F =>
    intro w mg fa h Y KX G hmg
    refine' K07.all_mk KX G hmg ?b_all ?b_bool ?b_enumerate ?b_int ?b_isinstance ?b_len ?b_list ?b_max ?b_min ?b_range ?b_repr ?b_sorted ?b_sum ?b_tuple ?c_MOST_HANDS ?c_MOST_THINGS ?c_MOST_GAP ?c_MOST_STANDINGS ?n_BadPlan ?xe_BadPlan ?xt_BadPlan ?n_TooGreat ?xe_TooGreat ?xt_TooGreat ?xc_BadPlan ?xo_BadPlan ?xs_BadPlan ?xg_BadPlan ?xh_BadPlan ?xi_BadPlan ?xf_BadPlan ?xk_BadPlan ?xb_BadPlan ?xd_BadPlan ?xm_BadPlan ?xn_BadPlan ?xl_BadPlan ?xq_BadPlan ?xr_BadPlan ?xv_BadPlan ?xw_BadPlan ?xu_BadPlan ?xy_BadPlan ?xc_TooGreat ?xo_TooGreat ?xs_TooGreat ?xg_TooGreat ?xh_TooGreat ?xi_TooGreat ?xf_TooGreat ?xk_TooGreat ?xb_TooGreat ?xd_TooGreat ?xm_TooGreat ?xn_TooGreat ?xl_TooGreat ?xq_TooGreat ?xr_TooGreat ?xv_TooGreat ?xw_TooGreat ?xu_TooGreat ?xy_TooGreat ?z_opq ?z_sup ?z_top ?n_Web ?p1_Web ?p2_Web ?p3_Web ?p4_Web ?p5_Web ?p6_Web ?na_Web_own_falls ?na_Web_own_links ?na_Web_own_plan ?a__law_begun_ ?l__law_begun ?q__law_begun ?k__law_begun ?a_is_whole_ ?l_is_whole ?q_is_whole ?k_is_whole ?a_need_plan_ ?l_need_plan ?q_need_plan ?k_need_plan ?a_Web_does_hold_ ?i_Web_does_hold ?l_Web_does_hold ?q_Web_does_hold ?k_Web_does_hold ?a_all_standings_ ?l_all_standings ?q_all_standings ?k_all_standings ?a_Web_fallen_ ?i_Web_fallen ?l_Web_fallen ?q_Web_fallen ?k_Web_fallen ?a_lots_of_ ?l_lots_of ?q_lots_of ?k_lots_of ?a_has_due_ ?l_has_due ?q_has_due ?k_has_due ?a_due_days_ ?l_due_days ?q_due_days ?k_due_days ?a_later_of_ ?l_later_of ?q_later_of ?k_later_of ?a_Web___init___ ?i_Web___init__ ?l_Web___init__ ?q_Web___init__ ?k_Web___init__ ?a_count_of_ ?l_count_of ?q_count_of ?k_count_of ?a_web_of_ ?l_web_of ?q_web_of ?k_web_of ?a_does_last_ ?l_does_last ?q_does_last ?k_does_last ?a__law_draw_ ?l__law_draw ?q__law_draw ?k__law_draw ?a__law_is_told_ ?l__law_is_told ?q__law_is_told ?k__law_is_told ?a__law_size_ ?l__law_size ?q__law_size ?k__law_size ?a__law_bulk_ ?l__law_bulk ?q__law_bulk ?k__law_bulk ?a__law_even_ ?l__law_even ?q__law_even ?k__law_even ?a__law_light_ ?l__law_light ?q__law_light ?k__law_light ?a__law_heavy_ ?l__law_heavy ?q__law_heavy ?k__law_heavy ?a_law_ ?l_law ?q_law ?k_law
    (case b_all => first | k_is | kx_is | ks_is | rfl | decide +kernel)
    (case b_bool => first | k_is | kx_is | ks_is | rfl | decide +kernel)
    (case b_enumerate => first | k_is | kx_is | ks_is | rfl | decide +kernel)
    (case b_int => first | k_is | kx_is | ks_is | rfl | decide +kernel)
    (case b_isinstance => first | k_is | kx_is | ks_is | rfl | decide +kernel)
    (case b_len => first | k_is | kx_is | ks_is | rfl | decide +kernel)
    (case b_list => first | k_is | kx_is | ks_is | rfl | decide +kernel)
    (case b_max => first | k_is | kx_is | ks_is | rfl | decide +kernel)
    (case b_min => first | k_is | kx_is | ks_is | rfl | decide +kernel)
    (case b_range => first | k_is | kx_is | ks_is | rfl | decide +kernel)
    (case b_repr => first | k_is | kx_is | ks_is | rfl | decide +kernel)
    (case b_sorted => first | k_is | kx_is | ks_is | rfl | decide +kernel)
    (case b_sum => first | k_is | kx_is | ks_is | rfl | decide +kernel)
    (case b_tuple => first | k_is | kx_is | ks_is | rfl | decide +kernel)
    (case c_MOST_HANDS => first | k_is | kx_is | ks_is | rfl | decide +kernel)
    (case c_MOST_THINGS => first | k_is | kx_is | ks_is | rfl | decide +kernel)
    (case c_MOST_GAP => first | k_is | kx_is | ks_is | rfl | decide +kernel)
    (case c_MOST_STANDINGS => first | k_is | kx_is | ks_is | rfl | decide +kernel)
    (case n_BadPlan => first | k_is | kx_is | ks_is | rfl | decide +kernel)
    (case xe_BadPlan => first | k_is | kx_is | ks_is | rfl | decide +kernel)
    (case xt_BadPlan => first | k_is | kx_is | ks_is | rfl | decide +kernel)
    (case n_TooGreat => first | k_is | kx_is | ks_is | rfl | decide +kernel)
    (case xe_TooGreat => first | k_is | kx_is | ks_is | rfl | decide +kernel)
    (case xt_TooGreat => first | k_is | kx_is | ks_is | rfl | decide +kernel)
    (case xc_BadPlan => first | k_is | kx_is | ks_is | rfl | decide +kernel)
    (case xo_BadPlan => first | k_is | kx_is | ks_is | rfl | decide +kernel)
    (case xs_BadPlan => first | k_is | kx_is | ks_is | rfl | decide +kernel)
    (case xg_BadPlan => first | k_is | kx_is | ks_is | rfl | decide +kernel)
    (case xh_BadPlan => first | k_is | kx_is | ks_is | rfl | decide +kernel)
    (case xi_BadPlan => first | k_is | kx_is | ks_is | rfl | decide +kernel)
    (case xf_BadPlan => first | k_is | kx_is | ks_is | rfl | decide +kernel)
    (case xk_BadPlan => first | k_is | kx_is | ks_is | rfl | decide +kernel)
    (case xb_BadPlan => first | k_is | kx_is | ks_is | rfl | decide +kernel)
    (case xd_BadPlan => first | k_is | kx_is | ks_is | rfl | decide +kernel)
    (case xm_BadPlan => first | k_is | kx_is | ks_is | rfl | decide +kernel)
    (case xn_BadPlan => first | k_is | kx_is | ks_is | rfl | decide +kernel)
    (case xl_BadPlan => first | k_is | kx_is | ks_is | rfl | decide +kernel)
    (case xq_BadPlan => first | k_is | kx_is | ks_is | rfl | decide +kernel)
    (case xr_BadPlan => first | k_is | kx_is | ks_is | rfl | decide +kernel)
    (case xv_BadPlan => first | k_is | kx_is | ks_is | rfl | decide +kernel)
    (case xw_BadPlan => first | k_is | kx_is | ks_is | rfl | decide +kernel)
    (case xu_BadPlan => first | k_is | kx_is | ks_is | rfl | decide +kernel)
    (case xy_BadPlan => first | k_is | kx_is | ks_is | rfl | decide +kernel)
    (case xc_TooGreat => first | k_is | kx_is | ks_is | rfl | decide +kernel)
    (case xo_TooGreat => first | k_is | kx_is | ks_is | rfl | decide +kernel)
    (case xs_TooGreat => first | k_is | kx_is | ks_is | rfl | decide +kernel)
    (case xg_TooGreat => first | k_is | kx_is | ks_is | rfl | decide +kernel)
    (case xh_TooGreat => first | k_is | kx_is | ks_is | rfl | decide +kernel)
    (case xi_TooGreat => first | k_is | kx_is | ks_is | rfl | decide +kernel)
    (case xf_TooGreat => first | k_is | kx_is | ks_is | rfl | decide +kernel)
    (case xk_TooGreat => first | k_is | kx_is | ks_is | rfl | decide +kernel)
    (case xb_TooGreat => first | k_is | kx_is | ks_is | rfl | decide +kernel)
    (case xd_TooGreat => first | k_is | kx_is | ks_is | rfl | decide +kernel)
    (case xm_TooGreat => first | k_is | kx_is | ks_is | rfl | decide +kernel)
    (case xn_TooGreat => first | k_is | kx_is | ks_is | rfl | decide +kernel)
    (case xl_TooGreat => first | k_is | kx_is | ks_is | rfl | decide +kernel)
    (case xq_TooGreat => first | k_is | kx_is | ks_is | rfl | decide +kernel)
    (case xr_TooGreat => first | k_is | kx_is | ks_is | rfl | decide +kernel)
    (case xv_TooGreat => first | k_is | kx_is | ks_is | rfl | decide +kernel)
    (case xw_TooGreat => first | k_is | kx_is | ks_is | rfl | decide +kernel)
    (case xu_TooGreat => first | k_is | kx_is | ks_is | rfl | decide +kernel)
    (case xy_TooGreat => first | k_is | kx_is | ks_is | rfl | decide +kernel)
    (case z_opq => first | k_is | kx_is | ks_is | rfl | decide +kernel)
    (case z_sup => first | k_is | kx_is | ks_is | rfl | decide +kernel)
    (case z_top => first | k_is | kx_is | ks_is | rfl | decide +kernel)
    (case n_Web => first | k_is | kx_is | ks_is | rfl | decide +kernel)
    (case p1_Web => first | k_is | kx_is | ks_is | rfl | decide +kernel)
    (case p2_Web => first | k_is | kx_is | ks_is | rfl | decide +kernel)
    (case p3_Web => first | k_is | kx_is | ks_is | rfl | decide +kernel)
    (case p4_Web => first | k_is | kx_is | ks_is | rfl | decide +kernel)
    (case p5_Web => first | k_is | kx_is | ks_is | rfl | decide +kernel)
    (case p6_Web => first | k_is | kx_is | ks_is | rfl | decide +kernel)
    (case na_Web_own_falls => first | k_is | kx_is | ks_is | rfl | decide +kernel)
    (case na_Web_own_links => first | k_is | kx_is | ks_is | rfl | decide +kernel)
    (case na_Web_own_plan => first | k_is | kx_is | ks_is | rfl | decide +kernel)
    (case a__law_begun_ => first | k_is | kx_is | ks_is | rfl | decide +kernel)
    (case l__law_begun => first | k_is | kx_is | ks_is | rfl | decide +kernel)
    (case q__law_begun => first | k_is | kx_is | ks_is | rfl | decide +kernel)
    (case k__law_begun => first | k_is | kx_is | ks_is | rfl | decide +kernel)
    (case a_is_whole_ => first | k_is | kx_is | ks_is | rfl | decide +kernel)
    (case l_is_whole => first | k_is | kx_is | ks_is | rfl | decide +kernel)
    (case q_is_whole => first | k_is | kx_is | ks_is | rfl | decide +kernel)
    (case k_is_whole => first | k_is | kx_is | ks_is | rfl | decide +kernel)
    (case a_need_plan_ => first | k_is | kx_is | ks_is | rfl | decide +kernel)
    (case l_need_plan => first | k_is | kx_is | ks_is | rfl | decide +kernel)
    (case q_need_plan => first | k_is | kx_is | ks_is | rfl | decide +kernel)
    (case k_need_plan => first | k_is | kx_is | ks_is | rfl | decide +kernel)
    (case a_Web_does_hold_ => first | k_is | kx_is | ks_is | rfl | decide +kernel)
    (case i_Web_does_hold => first | k_is | kx_is | ks_is | rfl | decide +kernel)
    (case l_Web_does_hold => first | k_is | kx_is | ks_is | rfl | decide +kernel)
    (case q_Web_does_hold => first | k_is | kx_is | ks_is | rfl | decide +kernel)
    (case k_Web_does_hold => first | k_is | kx_is | ks_is | rfl | decide +kernel)
    (case a_all_standings_ => first | k_is | kx_is | ks_is | rfl | decide +kernel)
    (case l_all_standings => first | k_is | kx_is | ks_is | rfl | decide +kernel)
    (case q_all_standings => first | k_is | kx_is | ks_is | rfl | decide +kernel)
    (case k_all_standings => first | k_is | kx_is | ks_is | rfl | decide +kernel)
    (case a_Web_fallen_ => first | k_is | kx_is | ks_is | rfl | decide +kernel)
    (case i_Web_fallen => first | k_is | kx_is | ks_is | rfl | decide +kernel)
    (case l_Web_fallen => first | k_is | kx_is | ks_is | rfl | decide +kernel)
    (case q_Web_fallen => first | k_is | kx_is | ks_is | rfl | decide +kernel)
    (case k_Web_fallen => first | k_is | kx_is | ks_is | rfl | decide +kernel)
    (case a_lots_of_ => first | k_is | kx_is | ks_is | rfl | decide +kernel)
    (case l_lots_of => first | k_is | kx_is | ks_is | rfl | decide +kernel)
    (case q_lots_of => first | k_is | kx_is | ks_is | rfl | decide +kernel)
    (case k_lots_of => first | k_is | kx_is | ks_is | rfl | decide +kernel)
    (case a_has_due_ => first | k_is | kx_is | ks_is | rfl | decide +kernel)
    (case l_has_due => first | k_is | kx_is | ks_is | rfl | decide +kernel)
    (case q_has_due => first | k_is | kx_is | ks_is | rfl | decide +kernel)
    (case k_has_due => first | k_is | kx_is | ks_is | rfl | decide +kernel)
    (case a_due_days_ => first | k_is | kx_is | ks_is | rfl | decide +kernel)
    (case l_due_days => first | k_is | kx_is | ks_is | rfl | decide +kernel)
    (case q_due_days => first | k_is | kx_is | ks_is | rfl | decide +kernel)
    (case k_due_days => first | k_is | kx_is | ks_is | rfl | decide +kernel)
    (case a_later_of_ => first | k_is | kx_is | ks_is | rfl | decide +kernel)
    (case l_later_of => first | k_is | kx_is | ks_is | rfl | decide +kernel)
    (case q_later_of => first | k_is | kx_is | ks_is | rfl | decide +kernel)
    (case k_later_of => first | k_is | kx_is | ks_is | rfl | decide +kernel)
    (case a_Web___init___ => first | k_is | kx_is | ks_is | rfl | decide +kernel)
    (case i_Web___init__ => first | k_is | kx_is | ks_is | rfl | decide +kernel)
    (case l_Web___init__ => first | k_is | kx_is | ks_is | rfl | decide +kernel)
    (case q_Web___init__ => first | k_is | kx_is | ks_is | rfl | decide +kernel)
    (case k_Web___init__ => first | k_is | kx_is | ks_is | rfl | decide +kernel)
    (case a_count_of_ => first | k_is | kx_is | ks_is | rfl | decide +kernel)
    (case l_count_of => first | k_is | kx_is | ks_is | rfl | decide +kernel)
    (case q_count_of => first | k_is | kx_is | ks_is | rfl | decide +kernel)
    (case k_count_of => first | k_is | kx_is | ks_is | rfl | decide +kernel)
    (case a_web_of_ => first | k_is | kx_is | ks_is | rfl | decide +kernel)
    (case l_web_of => first | k_is | kx_is | ks_is | rfl | decide +kernel)
    (case q_web_of => first | k_is | kx_is | ks_is | rfl | decide +kernel)
    (case k_web_of => first | k_is | kx_is | ks_is | rfl | decide +kernel)
    (case a_does_last_ => first | k_is | kx_is | ks_is | rfl | decide +kernel)
    (case l_does_last => first | k_is | kx_is | ks_is | rfl | decide +kernel)
    (case q_does_last => first | k_is | kx_is | ks_is | rfl | decide +kernel)
    (case k_does_last => first | k_is | kx_is | ks_is | rfl | decide +kernel)
    (case a__law_draw_ => first | k_is | kx_is | ks_is | rfl | decide +kernel)
    (case l__law_draw => first | k_is | kx_is | ks_is | rfl | decide +kernel)
    (case q__law_draw => first | k_is | kx_is | ks_is | rfl | decide +kernel)
    (case k__law_draw => first | k_is | kx_is | ks_is | rfl | decide +kernel)
    (case a__law_is_told_ => first | k_is | kx_is | ks_is | rfl | decide +kernel)
    (case l__law_is_told => first | k_is | kx_is | ks_is | rfl | decide +kernel)
    (case q__law_is_told => first | k_is | kx_is | ks_is | rfl | decide +kernel)
    (case k__law_is_told => first | k_is | kx_is | ks_is | rfl | decide +kernel)
    (case a__law_size_ => first | k_is | kx_is | ks_is | rfl | decide +kernel)
    (case l__law_size => first | k_is | kx_is | ks_is | rfl | decide +kernel)
    (case q__law_size => first | k_is | kx_is | ks_is | rfl | decide +kernel)
    (case k__law_size => first | k_is | kx_is | ks_is | rfl | decide +kernel)
    (case a__law_bulk_ => first | k_is | kx_is | ks_is | rfl | decide +kernel)
    (case l__law_bulk => first | k_is | kx_is | ks_is | rfl | decide +kernel)
    (case q__law_bulk => first | k_is | kx_is | ks_is | rfl | decide +kernel)
    (case k__law_bulk => first | k_is | kx_is | ks_is | rfl | decide +kernel)
    (case a__law_even_ => first | k_is | kx_is | ks_is | rfl | decide +kernel)
    (case l__law_even => first | k_is | kx_is | ks_is | rfl | decide +kernel)
    (case q__law_even => first | k_is | kx_is | ks_is | rfl | decide +kernel)
    (case k__law_even => first | k_is | kx_is | ks_is | rfl | decide +kernel)
    (case a__law_light_ => first | k_is | kx_is | ks_is | rfl | decide +kernel)
    (case l__law_light => first | k_is | kx_is | ks_is | rfl | decide +kernel)
    (case q__law_light => first | k_is | kx_is | ks_is | rfl | decide +kernel)
    (case k__law_light => first | k_is | kx_is | ks_is | rfl | decide +kernel)
    (case a__law_heavy_ => first | k_is | kx_is | ks_is | rfl | decide +kernel)
    (case l__law_heavy => first | k_is | kx_is | ks_is | rfl | decide +kernel)
    (case q__law_heavy => first | k_is | kx_is | ks_is | rfl | decide +kernel)
    (case k__law_heavy => first | k_is | kx_is | ks_is | rfl | decide +kernel)
    (case a_law_ => first | k_is | kx_is | ks_is | rfl | decide +kernel)
    (case l_law => first | k_is | kx_is | ks_is | rfl | decide +kernel)
    (case q_law => first | k_is | kx_is | ks_is | rfl | decide +kernel)
    (case k_law => first | k_is | kx_is | ks_is | rfl | decide +kernel)
#print axioms PySem.Challenge.cw_oftenenough_k07_whole_shares_that_last_holds
